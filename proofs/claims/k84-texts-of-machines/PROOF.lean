import PyProof.Rows.All
import Wide.All
import OpenK.AllK
import Wide.FinOn
import HandS.ForMost
import HandS.Star
import HandS.IsInst
import HandS.TupAny
import HandS.TupMul
import HandS.Wide
import HandS.Zip
import HandS.Style
import HandS.Flow
import HandS.Deep
import HandS.NoneIn
import HandS.More
import KE.KDictKeyed
import PyProof.ReprRoads
import HandS.Lambda
import HandS.ForExc
import HandS.EndBits
import KE.GoesEnum
import HandS.RevRange
import HandS.TupLen
import HandS.SetKeys
import HandS.FStrTup
import HandS.RaiseMore
import PyProof.ListMulRoad
import PyProof.FactsAll.tuple_2
import PyProof.Rows.IntBool
import PyProof.CallStr
import HandS.Exc
import HandS.ExcOwn
import HandS.ExcIs
import HandS.HeadHook1
import HandS.WordsExc
import HandS.HotCalls
import HandS.EndTab
import HandS.HeadWalk
import HandS.HeadHook4
import HandS.Head2
import HandS.HeadEnd
import HandS.Iter
import HandS.Conv
import KE.SortData
import KE.KSuper
import KE.KExcSuper
import HandS.ExcInit
import HandS.ClsMeth
import HandS.FStr
import KE.KxText
import HandS.ExcField
import KE.KExcIs
import KE.GoesZip
import HandS.Strs
import HandS.SetFor
import HandS.ReCall
import KE.GoesEnumKw
import HandS.Defaults
import KE.KDictZip
import PyProof.ListNew
import KE.KDictExact
import HandS.Text
import HandS.StrMore
import PyProof.ListStr
import KE.IntTextLaws
import PyProof.P3Eq
import PyProof.StrLawsRepr
import PySem.Challenge.RW_codepick_k84_texts_of_machines
set_option Elab.async false
set_option linter.all false
set_option maxRecDepth 100000
set_option maxHeartbeats 4000000
namespace Dy
open PySem PySem.Spec PyProof.Rows L2
abbrev St := L2.St
structure Exn where
  cls : Str
  args : List PyData
inductive Res (α : Type) where
  | ok (a : α)
  | er (x : Exn)
  | no
def Res.bind {α β : Type} : Res α → (α → Res β) → Res β
  | .ok a, f => f a
  | .er x, _ => .er x
  | .no, _ => .no
instance : Monad Res where
  pure := .ok
  bind := Res.bind
def Res.post {α : Type} (P : α → Prop) (E : Exn → Prop) : Res α → Prop
  | .ok a => P a
  | .er x => E x
  | .no => False
@[simp] theorem bind_ok {α β : Type} (a : α) (f : α → Res β) : (Res.ok a >>= f) = f a := rfl
@[simp] theorem bind_er {α β : Type} (x : Exn) (f : α → Res β) : ((Res.er x : Res α) >>= f) = .er x := rfl
@[simp] theorem bind_no {α β : Type} (f : α → Res β) : ((Res.no : Res α) >>= f) = .no := rfl
@[simp] theorem pure_ok {α : Type} (a : α) : (pure a : Res α) = .ok a := rfl
def ofO {α : Type} : Option α → Res α
  | some a => .ok a
  | none => .no
inductive O where
  | fr (d : PyData)
  | ol (ds : List PyData)
  | oo (rs : List (List PyData))
  | od (es : List (PyData × PyData))
  | om (es : List (PyData × List PyData))
/-- a dict of lists as a value -/
def omD (es : List (PyData × List PyData)) : List (PyData × PyData) := es.map fun e => (e.1, PyData.list e.2)
def O.data : O → PyData
  | .fr d => d
  | .ol ds => .list ds
  | .oo rs => .list (rs.map PyData.list)
  | .od es => .dict es
  | .om es => .dict (omD es)
abbrev Env := List (Option O)
def kD : Key → PyData
  | .inl i => .int i
  | .inr x => .str x
mutual
/-- what may be a key of a dict of tuples: None, whole numbers, tuples of such -/
def keyOf : PyData → Option NestedKey
  | .none => some .none
  | .int i => some (.num i)
  | .tuple xs => (keysOf xs).map .tup
  | .bool _ | .str _ | .list _ | .dict _ => none
def keysOf : List PyData → Option (List NestedKey)
  | [] => some []
  | x :: xs => (keyOf x).bind fun k => (keysOf xs).map fun ks => k :: ks
end
/-- the pairs of a dict of tuples: the key, its value, the value there -/
abbrev TP := NestedKey × V × V
abbrev YP := NestedKey × Addr × Value
def PY : TP → YP → Prop := fun p q => p.1 = q.1 ∧ p.2.1 = V.ref q.2.1 ∧ RelV p.2.2 q.2.2
def isDN (h : Heap) (a : Addr) (ys : List YP) : Prop := ∃ o es ep, h.get? a = some o ∧ o.ExactDict ∧ o.data = .dict es ep ∧ (∀ w : World, es.toList = ys.map fun y => ⟨y.1.hash w, .ref y.2.1, y.2.2⟩) ∧ (ys.map (·.1)).Nodup
/-- a dict whose keys are tuples -/
def dN (a : Addr) (ts : List TP) : HO := .ext fun h => (a == sysModules) = false ∧ ts.length ≤ sizeLine ∧ ∃ ys : List YP, Paired PY ts ys ∧ isDN h a ys
/-- a list to be read, its object known in full -/
def LsL (K : PySem.W.Frag) (I : Hp) (a : Addr) (xs : List V) : Prop := Rd I a (.lst xs) ∨ ∃ (its : List Value) (n : Nat), K.lookup a = some { cls := .type "list", data := .seq its.toArray n } ∧ its.length ≤ sizeLine ∧ Vals xs its
theorem LsL.of {K : PySem.W.Frag} {I : Hp} {a : Addr} {xs : List V} (h : I a = some (.lst xs)) : LsL K I a xs := .inl (.inl h)
theorem LsL.sq {K : PySem.W.Frag} {I : Hp} {a : Addr} {xs : List V} (h : LsL K I a xs) : SqL K I a xs := by
  rcases h with h | ⟨its, n, h1, h2, h3⟩
  · exact .inl h
  · exact .inr ⟨_, its.toArray, n, h1, rfl, rfl, rfl, by simpa using h2, by simpa using h3⟩
theorem LsL.obj {X : Cx} {pins : List (Addr × Obj)} {σ : St} {H : Hp} {s : Shared} {a : Addr} {xs : List V} (J : Inv X pins σ H s) (h : LsL X.K H a xs) : xs.length ≤ sizeLine ∧ ∃ (its : List Value) (n : Nat), Vals xs its ∧ xs.length = its.length ∧ s.heap.get? a = some { cls := .type "list", data := .seq its.toArray n } := by
  rcases h with h | ⟨its, n, h1, h2, h3⟩
  · obtain ⟨z, its, n, r, e⟩ := h.ok J.hok
    exact ⟨z, its, n, r, r.length, e⟩
  · exact ⟨by rw [h3.length]; exact h2, its, n, h3, h3.length, J.kIn a _ h1⟩
/-- a tuple's object without a dict of its own -/
def PlT (o : Obj) : Prop := o.cls = .type "tuple" ∧ o.dict = none
/-- a tuple to be read, its object known to have no dict -/
def LsT (K : PySem.W.Frag) (I : Hp) (a : Addr) (xs : List V) : Prop := (∃ o, PlT o ∧ I a = some (.frz o (.tup xs))) ∨ ∃ (o : Obj) (its : Array Value) (n : Nat), K.lookup a = some o ∧ PlT o ∧ o.data = .seq its n ∧ its.size ≤ sizeLine ∧ Vals xs its.toList
theorem LsT.of {K : PySem.W.Frag} {I : Hp} {a : Addr} {o : Obj} {xs : List V} (p : PlT o) (h : I a = some (.frz o (.tup xs))) : LsT K I a xs := .inl ⟨o, p, h⟩
theorem LsT.sq {K : PySem.W.Frag} {I : Hp} {a : Addr} {xs : List V} (h : LsT K I a xs) : SqT K I a xs := by
  rcases h with ⟨o, _, h⟩ | ⟨o, its, n, h1, h2, h3⟩
  · exact .inl (.inr ⟨o, h⟩)
  · exact .inr ⟨o, its, n, h1, h2.1, h3⟩
/-- a new plain tuple -/
def NewT (H : Hp) (xs : List V) (Q : VK) : Prop := ∀ p o, PlT o → H p = none → Q (.ref p) (upd H p (.frz o (.tup xs)))
theorem PlT.mk {its : Array Value} {n : Nat} : PlT { cls := .type "tuple", data := .seq its n } := ⟨rfl, rfl⟩
mutual
inductive Rp (K : PySem.W.Frag) (I : Hp) : V → PyData → Prop
  | non : Rp K I .non .none
  | bl (b : Bool) : Rp K I (.bl b) (.bool b)
  | int (i : Int) : Rp K I (.int i) (.int i)
  | str (x : Str) : Rp K I (.str x) (.str x)
  | lst {a : Addr} {xs : List V} {ds : List PyData} : LsL K I a xs → RpAll K I xs ds → Rp K I (.ref a) (.list ds)
  | tup {a : Addr} {xs : List V} {ds : List PyData} : LsT K I a xs → RpAll K I xs ds → Rp K I (.ref a) (.tuple ds)
  | dic {a : Addr} {kvs : List (Key × V)} {es : List (PyData × PyData)} : Rd I a (.dK kvs) → RpKv K I kvs es → Rp K I (.ref a) (.dict es)
  | dit {a : Addr} {ts : List TP} {es : List (PyData × PyData)} : Rd I a (dN a ts) → RpKt K I ts es → Rp K I (.ref a) (.dict es)
inductive RpAll (K : PySem.W.Frag) (I : Hp) : List V → List PyData → Prop
  | nil : RpAll K I [] []
  | cons {v : V} {vs : List V} {d : PyData} {ds : List PyData} : Rp K I v d → RpAll K I vs ds → RpAll K I (v :: vs) (d :: ds)
inductive RpKv (K : PySem.W.Frag) (I : Hp) : List (Key × V) → List (PyData × PyData) → Prop
  | nil : RpKv K I [] []
  | cons {k : Key} {v : V} {kvs : List (Key × V)} {d : PyData} {es : List (PyData × PyData)} : Rp K I v d → RpKv K I kvs es → RpKv K I ((k, v) :: kvs) ((kD k, d) :: es)
inductive RpKt (K : PySem.W.Frag) (I : Hp) : List TP → List (PyData × PyData) → Prop
  | nil : RpKt K I [] []
  | cons {k : NestedKey} {kv v : V} {ts : List TP} {kd d : PyData} {es : List (PyData × PyData)} : keyOf kd = some k → k.depth ≤ 8 → Rp K I kv kd → Rp K I v d → RpKt K I ts es → RpKt K I ((k, kv, v) :: ts) ((kd, d) :: es)
end
section
variable {K : PySem.W.Frag} {I I' H H' : Hp}
theorem same_rd {a : Addr} {u : HO} (e : Same I I') (h : Rd I a u) : Rd I' a u := by
  rcases h with h | ⟨o, h⟩
  · exact .inl (e _ _ h)
  · exact .inr ⟨o, e _ _ h⟩
theorem same_t {a : Addr} {xs : List V} (e : Same I I') (h : SqT K I a xs) : SqT K I' a xs := by
  rcases h with h | h
  · exact .inl (same_rd e h)
  · exact .inr h
theorem LsT.mono {a : Addr} {xs : List V} (e : Same I I') (h : LsT K I a xs) : LsT K I' a xs := by
  rcases h with ⟨o, p, h⟩ | h
  · exact .inl ⟨o, p, e _ _ h⟩
  · exact .inr h
theorem LsL.mono {a : Addr} {xs : List V} (e : Same I I') (h : LsL K I a xs) : LsL K I' a xs := by
  rcases h with h | h
  · exact .inl (same_rd e h)
  · exact .inr h
mutual
theorem Rp.mono (e : Same I I') : ∀ {v : V} {d : PyData}, Rp K I v d → Rp K I' v d
  | _, _, .non => .non
  | _, _, .bl b => .bl b
  | _, _, .int i => .int i
  | _, _, .str x => .str x
  | _, _, .lst s a => .lst (LsL.mono e s) (RpAll.mono e a)
  | _, _, .tup s a => .tup (s.mono e) (RpAll.mono e a)
  | _, _, .dic s a => .dic (same_rd e s) (RpKv.mono e a)
  | _, _, .dit s a => .dit (same_rd e s) (RpKt.mono e a)
theorem RpAll.mono (e : Same I I') : ∀ {vs : List V} {ds : List PyData}, RpAll K I vs ds → RpAll K I' vs ds
  | _, _, .nil => .nil
  | _, _, .cons h t => .cons (Rp.mono e h) (RpAll.mono e t)
theorem RpKv.mono (e : Same I I') : ∀ {vs : List (Key × V)} {ds : List (PyData × PyData)}, RpKv K I vs ds → RpKv K I' vs ds
  | _, _, .nil => .nil
  | _, _, .cons h t => .cons (Rp.mono e h) (RpKv.mono e t)
theorem RpKt.mono (e : Same I I') : ∀ {vs : List TP} {ds : List (PyData × PyData)}, RpKt K I vs ds → RpKt K I' vs ds
  | _, _, .nil => .nil
  | _, _, .cons h1 h2 h3 h4 t => .cons h1 h2 (Rp.mono e h3) (Rp.mono e h4) (RpKt.mono e t)
end
theorem RpAll.length : ∀ {vs : List V} {ds : List PyData}, RpAll K I vs ds → vs.length = ds.length
  | _, _, .nil => rfl
  | _, _, .cons _ t => by simp [t.length]
theorem RpAll.get : ∀ {vs : List V} {ds : List PyData} {i : Nat} {d : PyData}, RpAll K I vs ds → ds[i]? = some d → ∃ v, vs[i]? = some v ∧ Rp K I v d
  | _, _, _, _, .nil, e => by simp at e
  | _, _, 0, _, .cons h _, e => by simp at e; subst e; exact ⟨_, rfl, h⟩
  | _, _, i + 1, d, .cons _ t, e => by
    obtain ⟨v, h1, h2⟩ := RpAll.get (i := i) (d := d) t (by simpa using e)
    exact ⟨v, by simpa using h1, h2⟩
theorem RpAll.app : ∀ {vs ws : List V} {ds es : List PyData}, RpAll K I vs ds → RpAll K I ws es → RpAll K I (vs ++ ws) (ds ++ es)
  | _, _, _, _, .nil, s => s
  | _, _, _, _, .cons h t, s => .cons h (t.app s)
theorem RpAll.takes : ∀ {vs : List V} {ds : List PyData} (n : Nat), RpAll K I vs ds → RpAll K I (vs.take n) (ds.take n)
  | _, _, 0, _ => .nil
  | _, _, _ + 1, .nil => .nil
  | _, _, n + 1, .cons h t => .cons h (t.takes n)
theorem RpAll.drops : ∀ {vs : List V} {ds : List PyData} (n : Nat), RpAll K I vs ds → RpAll K I (vs.drop n) (ds.drop n)
  | _, _, 0, h => h
  | _, _, _ + 1, .nil => .nil
  | _, _, n + 1, .cons _ t => t.drops n
theorem RpAll.sets : ∀ {vs : List V} {ds : List PyData} {v : V} {d : PyData} (i : Nat), RpAll K I vs ds → Rp K I v d → RpAll K I (vs.set i v) (ds.set i d)
  | _, _, _, _, _, .nil, _ => .nil
  | _, _, _, _, 0, .cons _ t, h => .cons h t
  | _, _, _, _, i + 1, .cons h0 t, h => .cons h0 (t.sets i h)
end
/-- no table of code objects -/
def NT (o : HO) : Prop := ∀ ps, o ≠ .tbl ps
theorem NT.lst {xs : List V} : NT (.lst xs) := fun _ h => by cases h
theorem NT.dK {xs : List (Key × V)} : NT (.dK xs) := fun _ h => by cases h
theorem NT.ext {φ : Heap → Prop} : NT (.ext φ) := fun _ h => by cases h
/-- the fields of a caught exception, told by two numbers -/
def fe (i : Int) : Nat := if 0 ≤ i then 2 * i.toNat else 2 * (-i).toNat + 1
def fldS (p q : Int) : Str := ⟨#[fe p, fe q]⟩
def isFld (x : Str) : Bool := x.cps.size == 2
def FldI (I : Hp) (p : Addr × Str) : Prop := ∃ fs : List (Str × V), I p.1 = some (.xd fs) ∧ ∀ a l : Int, p.2 = fldS a l → fs.lookup ("amount" : Str) = some (V.int a) ∧ fs.lookup ("limit" : Str) = some (V.int l)
def CodI (I H : Hp) (p : Addr × Str) : Prop := ∃ ps : Array Value, H p.1 = some (.tbl ps) ∧ I p.1 = none ∧ TriplesOk ps.toList ∧ ∀ (pos : Pos) (cv : Value), codeAmong pos ps.toList = some cv → ∃ c, cv = .ref c ∧ I c = some (LamX.CodeO c p.2)
/-- the tables: what they tell are frozen code objects (or an exception's fields) -/
def TabI (T : List (Addr × Str)) (I H : Hp) : Prop := ∀ p ∈ T, if isFld p.2 = true then FldI I p else CodI I H p
theorem TabI.cod {T : List (Addr × Str)} {I H : Hp} (t : TabI T I H) {p : Addr × Str} (hp : p ∈ T) (n : isFld p.2 = false) : CodI I H p := by
  have := t p hp
  rw [if_neg (by rw [n]; decide)] at this
  exact this
theorem TabI.tail {T : List (Addr × Str)} {p : Addr × Str} {I H : Hp} (t : TabI (p :: T) I H) : TabI T I H := fun q hq => t q (List.mem_cons_of_mem _ hq)
theorem kt_upd {H : Hp} {a : Addr} {u o : HO} (h : H a = some u) (n : NT u) : ∀ b ps, H b = some (.tbl ps) → upd H a o b = some (.tbl ps) := fun b ps e => by
  rw [upd_ne (fun z => by subst z; rw [h] at e; cases e; exact n _ rfl)]; exact e
theorem kt_new {H : Hp} {a : Addr} {o : HO} (h : H a = none) : ∀ b ps, H b = some (.tbl ps) → upd H a o b = some (.tbl ps) := fun b ps e => by
  rw [upd_ne (fun z => by subst z; rw [h] at e; cases e)]; exact e
theorem TabI.mono {T : List (Addr × Str)} {I H I' H' : Hp} (t : TabI T I H) (e : Same I I') (k : ∀ a ps, H a = some (.tbl ps) → H' a = some (.tbl ps)) (ni : ∀ a ps, H a = some (.tbl ps) → I a = none → I' a = none) : TabI T I' H' := fun p hp => by
  have tp := t p hp
  by_cases hf : isFld p.2 = true
  · rw [if_pos hf] at tp ⊢
    obtain ⟨fs, h1, h2⟩ := tp
    exact ⟨fs, e _ _ h1, h2⟩
  · rw [if_neg hf] at tp ⊢
    obtain ⟨ps, h1, h0, h2, h3⟩ := tp
    refine ⟨ps, k _ _ h1, ni _ _ h1 h0, h2, fun pos cv hc => ?_⟩
    obtain ⟨c, e1, e2⟩ := h3 pos cv hc
    exact ⟨c, e1, e _ _ e2⟩
section
variable {K : PySem.W.Frag} {I I' H H' : Hp}
/-- the rows of an owned list of owned lists -/
inductive Rows (K : PySem.W.Frag) (I H : Hp) : List Addr → List (List PyData) → Prop
  | nil : Rows K I H [] []
  | cons {a : Addr} {as : List Addr} {us : List V} {r : List PyData} {rs : List (List PyData)} : H a = some (.lst us) → RpAll K I us r → Rows K I H as rs → Rows K I H (a :: as) (r :: rs)
/-- the rows of an owned dict of owned lists (its keys are tuples) -/
inductive MRows (K : PySem.W.Frag) (I H : Hp) : List TP → List Addr → List (PyData × List PyData) → Prop
  | nil : MRows K I H [] [] []
  | cons {k : NestedKey} {kv : V} {b : Addr} {us : List V} {kd : PyData} {r : List PyData} {ts : List TP} {bs : List Addr} {es : List (PyData × List PyData)} : keyOf kd = some k → k.depth ≤ 8 → Rp K I kv kd → H b = some (.lst us) → RpAll K I us r → MRows K I H ts bs es → MRows K I H ((k, kv, .ref b) :: ts) (b :: bs) ((kd, r) :: es)
def RepO (K : PySem.W.Frag) (I H : Hp) : O → V → List Addr → Prop
  | .fr d, v, F => F = [] ∧ Rp K I v d
  | .ol ds, v, F => ∃ a vs, v = .ref a ∧ F = [a] ∧ H a = some (.lst vs) ∧ RpAll K I vs ds
  | .oo rs, v, F => ∃ a as, v = .ref a ∧ F = a :: as ∧ (a :: as).Nodup ∧ H a = some (.lst (as.map V.ref)) ∧ Rows K I H as rs
  | .od es, v, F => ∃ a, v = .ref a ∧ F = [a] ∧ ((∃ kvs, H a = some (.dK kvs) ∧ RpKv K I kvs es) ∨ ∃ ts, H a = some (dN a ts) ∧ RpKt K I ts es)
  | .om es, v, F => ∃ a ts bs, v = .ref a ∧ F = a :: bs ∧ (a :: bs).Nodup ∧ H a = some (dN a ts) ∧ MRows K I H ts bs es
theorem MRows.mono {ts : List TP} {bs : List Addr} {es : List (PyData × List PyData)} (e : Same I I') (h : MRows K I H ts bs es) (k : ∀ a ∈ bs, H' a = H a) : MRows K I' H' ts bs es := by
  induction h with
  | nil => exact .nil
  | cons h1 h2 h3 h4 h5 _ ih => exact .cons h1 h2 (h3.mono e) (by rw [k _ (by simp)]; exact h4) (h5.mono e) (ih fun a ha => k a (by simp [ha]))
theorem MRows.domN {ts : List TP} {bs : List Addr} {es : List (PyData × List PyData)} (h : MRows K I H ts bs es) : ∀ a ∈ bs, ∃ o, H a = some o ∧ NT o := by
  induction h with
  | nil => intro a ha; cases ha
  | cons _ _ _ h4 _ _ ih =>
    intro a ha
    rcases List.mem_cons.mp ha with rfl | ha
    · exact ⟨_, h4, NT.lst⟩
    · exact ih a ha
theorem MRows.frz {ts : List TP} {bs : List Addr} {es : List (PyData × List PyData)} (e : Same I I') (h : MRows K I H ts bs es) (k : ∀ a ∈ bs, I' a = H a) : RpKt K I' ts (omD es) := by
  induction h with
  | nil => exact .nil
  | cons h1 h2 h3 h4 h5 _ ih => exact .cons h1 h2 (h3.mono e) (.lst (LsL.of (by rw [k _ (by simp)]; exact h4)) (h5.mono e)) (ih fun a ha => k a (by simp [ha]))
theorem Rows.mono {as : List Addr} {rs : List (List PyData)} (e : Same I I') (h : Rows K I H as rs) (k : ∀ a ∈ as, H' a = H a) : Rows K I' H' as rs := by
  induction h with
  | nil => exact .nil
  | cons h1 h2 _ ih => exact .cons (by rw [k _ (by simp)]; exact h1) (h2.mono e) (ih fun a ha => k a (by simp [ha]))
theorem Rows.domN {as : List Addr} {rs : List (List PyData)} (h : Rows K I H as rs) : ∀ a ∈ as, ∃ o, H a = some o ∧ NT o := by
  induction h with
  | nil => intro a ha; cases ha
  | cons h1 _ _ ih =>
    intro a ha
    rcases List.mem_cons.mp ha with rfl | ha
    · exact ⟨_, h1, NT.lst⟩
    · exact ih a ha
theorem Rows.frz {as : List Addr} {rs : List (List PyData)} (e : Same I I') (h : Rows K I H as rs) (k : ∀ a ∈ as, I' a = H a) : RpAll K I' (as.map V.ref) (rs.map PyData.list) := by
  induction h with
  | nil => exact .nil
  | cons h1 h2 _ ih => exact .cons (.lst (LsL.of (by rw [k _ (by simp)]; exact h1)) (h2.mono e)) (ih fun a ha => k a (by simp [ha]))
theorem RepO.mono {o : O} {v : V} {F : List Addr} (h : RepO K I H o v F) (e : Same I I') (k : ∀ a ∈ F, H' a = H a) : RepO K I' H' o v F := by
  cases o with
  | fr d => exact ⟨h.1, h.2.mono e⟩
  | ol ds =>
    obtain ⟨a, vs, rfl, rfl, h1, h2⟩ := h
    exact ⟨a, vs, rfl, rfl, by rw [k a (by simp)]; exact h1, h2.mono e⟩
  | oo rs =>
    obtain ⟨a, as, rfl, rfl, nd, h1, h2⟩ := h
    exact ⟨a, as, rfl, rfl, nd, by rw [k a (by simp)]; exact h1, h2.mono e fun b hb => k b (by simp [hb])⟩
  | od es =>
    obtain ⟨a, rfl, rfl, h⟩ := h
    refine ⟨a, rfl, rfl, ?_⟩
    rw [k a (by simp)]
    rcases h with ⟨kvs, h1, h2⟩ | ⟨ts, h1, h2⟩
    · exact .inl ⟨kvs, h1, h2.mono e⟩
    · exact .inr ⟨ts, h1, h2.mono e⟩
  | om es =>
    obtain ⟨a, ts, bs, rfl, rfl, nd, h1, h2⟩ := h
    exact ⟨a, ts, bs, rfl, rfl, nd, by rw [k a (by simp)]; exact h1, h2.mono e fun b hb => k b (by simp [hb])⟩
theorem RepO.domN {o : O} {v : V} {F : List Addr} (h : RepO K I H o v F) : ∀ a ∈ F, ∃ u, H a = some u ∧ NT u := by
  cases o with
  | fr d => intro a ha; rw [h.1] at ha; cases ha
  | ol ds =>
    obtain ⟨a, vs, rfl, rfl, h1, h2⟩ := h
    intro b hb
    simp at hb; subst hb
    exact ⟨_, h1, NT.lst⟩
  | oo rs =>
    obtain ⟨a, as, rfl, rfl, nd, h1, h2⟩ := h
    intro b hb
    rcases List.mem_cons.mp hb with rfl | hb
    · exact ⟨_, h1, NT.lst⟩
    · exact h2.domN b hb
  | od es =>
    obtain ⟨a, rfl, rfl, h⟩ := h
    intro b hb
    simp at hb; subst hb
    rcases h with ⟨kvs, h1, h2⟩ | ⟨ts, h1, h2⟩
    · exact ⟨_, h1, NT.dK⟩
    · exact ⟨_, h1, NT.ext⟩
  | om es =>
    obtain ⟨a, ts, bs, rfl, rfl, nd, h1, h2⟩ := h
    intro b hb
    rcases List.mem_cons.mp hb with rfl | hb
    · exact ⟨_, h1, NT.ext⟩
    · exact h2.domN b hb
theorem Rows.dom {as : List Addr} {rs : List (List PyData)} (h : Rows K I H as rs) : ∀ a ∈ as, ∃ o, H a = some o := fun a ha => let ⟨o, e, _⟩ := h.domN a ha; ⟨o, e⟩
theorem RepO.dom {o : O} {v : V} {F : List Addr} (h : RepO K I H o v F) : ∀ a ∈ F, ∃ u, H a = some u := fun a ha => let ⟨o, e, _⟩ := h.domN a ha; ⟨o, e⟩
/-- the heap with F frozen -/
def frz (I H : Hp) (F : List Addr) : Hp := fun a => if a ∈ F then H a else I a
theorem frz_same {F : List Addr} (d : ∀ a ∈ F, I a = none) : Same I (frz I H F) := fun a o e => by
  unfold frz
  rw [if_neg (fun h => by rw [d a h] at e; cases e)]
  exact e
theorem frz_ni {o : O} {v : V} {F : List Addr} {a : Addr} {ps : Array Value} (r : RepO K I H o v F) (h : H a = some (.tbl ps)) (h2 : I a = none) : frz I H F a = none := by
  unfold frz
  rw [if_neg (fun z => ?_)]
  · exact h2
  · obtain ⟨u, e, n⟩ := r.domN a z
    rw [h] at e; cases e; exact n _ rfl
theorem frz_sub {F : List Addr} (s : Same I H) : Same (frz I H F) H := fun a o e => by
  unfold frz at e
  split at e
  · exact e
  · exact s _ _ e
theorem RepO.frz {o : O} {v : V} {F : List Addr} (h : RepO K I H o v F) (d : ∀ a ∈ F, I a = none) : Rp K (frz I H F) v o.data := by
  have e := frz_same (H := H) d
  cases o with
  | fr d => exact h.2.mono e
  | ol ds =>
    obtain ⟨a, vs, rfl, rfl, h1, h2⟩ := h
    exact .lst (LsL.of (by unfold Dy.frz; rw [if_pos (by simp)]; exact h1)) (h2.mono e)
  | oo rs =>
    obtain ⟨a, as, rfl, rfl, nd, h1, h2⟩ := h
    refine .lst (LsL.of (by unfold Dy.frz; rw [if_pos (by simp)]; exact h1)) (h2.frz e fun b hb => ?_)
    unfold Dy.frz; rw [if_pos (by simp [hb])]
  | od es =>
    obtain ⟨a, rfl, rfl, h⟩ := h
    have z : Dy.frz I H [a] a = H a := by unfold Dy.frz; rw [if_pos (by simp)]
    rcases h with ⟨kvs, h1, h2⟩ | ⟨ts, h1, h2⟩
    · exact .dic (.inl (z.trans h1)) (h2.mono e)
    · exact .dit (.inl (z.trans h1)) (h2.mono e)
  | om es =>
    obtain ⟨a, ts, bs, rfl, rfl, nd, h1, h2⟩ := h
    refine .dit (.inl ?_) (h2.frz e fun b hb => ?_)
    · unfold Dy.frz; rw [if_pos (by simp)]; exact h1
    · unfold Dy.frz; rw [if_pos (by simp [hb])]
end
structure Step (I H : Hp) (S : Addr → Prop) (I' H' : Hp) (S' : Addr → Prop) : Prop where
  i1 : Same I I'
  fr : ∀ a o, H a = some o → ¬ S a → NT o → H' a = some o
  th : ∀ a o, H a = some o → ¬ S a → ∃ o', H' a = some o'
  s' : ∀ a, S' a → S a ∨ H a = none
  i' : ∀ a o, I' a = some o → I a = some o ∨ S a ∨ H a = none
section
variable {I H I1 H1 I2 H2 : Hp} {S S1 S2 : Addr → Prop}
theorem Step.of4 (i1 : Same I I1) (fr : ∀ a o, H a = some o → ¬ S a → H1 a = some o) (s' : ∀ a, S1 a → S a ∨ H a = none) (i' : ∀ a o, I1 a = some o → I a = some o ∨ S a ∨ H a = none) : Step I H S I1 H1 S1 :=
  ⟨i1, fun a o h n _ => fr a o h n, fun a o h n => ⟨o, fr a o h n⟩, s', i'⟩
theorem Step.refl : Step I H S I H S := ⟨Same.refl _, fun _ _ h _ _ => h, fun _ o h _ => ⟨o, h⟩, fun _ h => .inl h, fun _ _ h => .inl h⟩
theorem Step.back (a : Step I H S I1 H1 S1) {x : Addr} (h : S1 x ∨ H1 x = none) : S x ∨ H x = none := by
  rcases h with h | h
  · exact a.s' x h
  · cases q : H x with
    | none => exact .inr rfl
    | some o =>
      by_cases hs : S x
      · exact .inl hs
      · by_cases nt : NT o
        · rw [a.fr x o q hs nt] at h; cases h
        · obtain ⟨u, hu⟩ := a.th x o q hs
          rw [hu] at h; cases h
theorem Step.trans (a : Step I H S I1 H1 S1) (b : Step I1 H1 S1 I2 H2 S2) : Step I H S I2 H2 S2 := by
  have ns : ∀ x o, H x = some o → ¬ S x → ¬ S1 x := fun x o h hs h1 => by
    rcases a.s' x h1 with z | z
    · exact hs z
    · rw [h] at z; cases z
  refine ⟨a.i1.trans b.i1, fun x o h hs nt => ?_, fun x o h hs => ?_, fun x h => a.back (b.s' x h), fun x o h => ?_⟩
  · exact b.fr x o (a.fr x o h hs nt) (ns x o h hs) nt
  · obtain ⟨o1, h1⟩ := a.th x o h hs
    exact b.th x o1 h1 (ns x o h hs)
  · rcases b.i' x o h with z | z
    · exact a.i' x o z
    · exact .inr (a.back z)
/-- less is owned behind it -/
theorem Step.less (a : Step I H S I1 H1 S1) (h : ∀ x, S2 x → S1 x) : Step I H S I1 H1 S2 := ⟨a.i1, a.fr, a.th, fun x q => a.s' x (h x q), a.i'⟩
/-- something owned stands aside -/
theorem Step.aside (a : Step I H S I1 H1 S1) (T : Addr → Prop) (ht : ∀ x, T x → ∃ o, H x = some o) (hd : ∀ x, T x → ¬ S x) : Step I H (fun x => S x ∨ T x) I1 H1 (fun x => S1 x ∨ T x) := by
  refine ⟨a.i1, fun x o h hs => a.fr x o h fun z => hs (.inl z), fun x o h hs => a.th x o h fun z => hs (.inl z), fun x h => ?_, fun x o h => ?_⟩
  · rcases h with h | h
    · rcases a.s' x h with z | z
      · exact .inl (.inl z)
      · exact .inr z
    · exact .inl (.inr h)
  · rcases a.i' x o h with z | z | z
    · exact .inl z
    · exact .inr (.inl (.inl z))
    · exact .inr (.inr z)
end
/-- what is owned aside stays as it is -/
theorem Step.keeps {I H I1 H1 : Hp} {S S1 : Addr → Prop} (a : Step I H S I1 H1 S1) {F : List Addr} (hd : ∀ x ∈ F, ∃ o, H x = some o ∧ NT o) (hn : ∀ x ∈ F, ¬ S x) : ∀ x ∈ F, H1 x = H x := fun x hx => by
  obtain ⟨o, h, nt⟩ := hd x hx
  rw [h, a.fr x o h (hn x hx) nt]
/-- the slots that hold what they held at the entry, and that -/
abbrev Pn := List Nat × (Nat → V) × List (Addr × Str)
def Ow (F : Nat → List Addr) : Addr → Prop := fun a => ∃ i, a ∈ F i
structure Sim (K : PySem.W.Frag) (π : Pn) (I H : Hp) (σ : St) (env : Env) (F : Nat → List Addr) : Prop where
  len : env.length = σ.length
  rep : ∀ (i : Nat) (o : O), env[i]? = some (some o) → ∃ v, σ[i]? = some (some v) ∧ RepO K I H o v (F i)
  out : ∀ i : Nat, (∀ o, env[i]? ≠ some (some o)) → F i = []
  dis : ∀ (i j : Nat) (a : Addr), a ∈ F i → a ∈ F j → i = j
  djI : ∀ (i : Nat) (a : Addr), a ∈ F i → I a = none
  sub : Same I H
  pin : ∀ i ∈ π.1, σ[i]? = some (some (π.2.1 i))
  tab : TabI π.2.2 I H
section
variable {K : PySem.W.Frag} {π : Pn} {I H I' H' : Hp} {σ : St} {env : Env} {F : Nat → List Addr}
theorem Sim.domN (s : Sim K π I H σ env F) {i : Nat} {a : Addr} (h : a ∈ F i) : ∃ o, H a = some o ∧ NT o := by
  by_cases q : ∃ o, env[i]? = some (some o)
  · obtain ⟨o, q⟩ := q
    obtain ⟨v, _, r⟩ := s.rep i o q
    exact r.domN a h
  · rw [s.out i fun o e => q ⟨o, e⟩] at h; cases h
theorem Sim.dom (s : Sim K π I H σ env F) {i : Nat} {a : Addr} (h : a ∈ F i) : ∃ o, H a = some o := let ⟨o, e, _⟩ := s.domN h; ⟨o, e⟩
theorem Sim.domO (s : Sim K π I H σ env F) {a : Addr} (h : Ow F a) : ∃ o, H a = some o := let ⟨_, q⟩ := h; s.dom q
theorem Sim.domT (s : Sim K π I H σ env F) {a : Addr} (h : Ow F a) {ps : Array Value} (e : H a = some (.tbl ps)) : False := by
  obtain ⟨_, q⟩ := h
  obtain ⟨o, e1, n⟩ := s.domN q
  rw [e] at e1; cases e1
  exact n _ rfl
theorem Sim.ktO (s : Sim K π I H σ env F) {i : Nat} {a : Addr} {o : HO} (h : a ∈ F i) : ∀ b ps, H b = some (.tbl ps) → upd H a o b = some (.tbl ps) := by
  obtain ⟨u, e, n⟩ := s.domN h
  exact kt_upd e n
/-- a slot is changed -/
def upF (F : Nat → List Addr) (i : Nat) (R : List Addr) : Nat → List Addr := fun j => if j = i then R else F j
theorem upF_same {i : Nat} {R : List Addr} : upF F i R i = R := if_pos rfl
theorem upF_ne {i j : Nat} {R : List Addr} (h : j ≠ i) : upF F i R j = F j := if_neg h
/-- the frame over a greater frozen heap, the other slots' things untouched -/
theorem Sim.put (s : Sim K π I H σ env F) {i : Nat} {x : Option O} {sv : Option V} {R : List Addr} (hi : i < env.length) (e : Same I I') (sub : Same I' H')
    (k : ∀ j, j ≠ i → ∀ a ∈ F j, H' a = H a) (nI : ∀ j, j ≠ i → ∀ a ∈ F j, I' a = none) (nR : ∀ a ∈ R, I' a = none) (dR : ∀ j, j ≠ i → ∀ a ∈ F j, a ∉ R)
    (hx : ∀ o, x = some o → ∃ v, sv = some v ∧ RepO K I' H' o v R) (hn : x = none → R = []) (hp : i ∈ π.1 → sv = some (π.2.1 i)) (kt : ∀ a ps, H a = some (.tbl ps) → H' a = some (.tbl ps) := by exact fun _ _ h => h) (ni : ∀ a ps, H a = some (.tbl ps) → I a = none → I' a = none := by exact fun _ _ _ h => h) : Sim K π I' H' (σ.set i sv) (env.set i x) (upF F i R) := by
  refine ⟨by simp [s.len], fun j o q => ?_, fun j q => ?_, fun j l a h1 h2 => ?_, fun j a h => ?_, sub, fun p hp' => ?_, s.tab.mono e kt ni⟩
  · by_cases hj : j = i
    · subst hj
      rw [List.getElem?_set_self hi] at q
      obtain ⟨v, e1, r⟩ := hx o (Option.some.inj q)
      exact ⟨v, by rw [List.getElem?_set_self (by rw [← s.len]; exact hi), e1], by rw [upF_same]; exact r⟩
    · rw [List.getElem?_set_ne (Ne.symm hj)] at q
      obtain ⟨v, e1, r⟩ := s.rep j o q
      exact ⟨v, by rw [List.getElem?_set_ne (Ne.symm hj)]; exact e1, by rw [upF_ne hj]; exact r.mono e (k j hj)⟩
  · by_cases hj : j = i
    · subst hj
      rw [upF_same]
      cases x with
      | none => exact hn rfl
      | some o => exact absurd (List.getElem?_set_self hi) (q o)
    · rw [upF_ne hj]
      exact s.out j fun o z => q o (by rw [List.getElem?_set_ne (Ne.symm hj)]; exact z)
  · by_cases hj : j = i
    · by_cases hl : l = i
      · rw [hj, hl]
      · subst hj
        rw [upF_same] at h1
        rw [upF_ne hl] at h2
        exact absurd h1 (dR l hl a h2)
    · by_cases hl : l = i
      · subst hl
        rw [upF_same] at h2
        rw [upF_ne hj] at h1
        exact absurd h2 (dR j hj a h1)
      · rw [upF_ne hj] at h1
        rw [upF_ne hl] at h2
        exact s.dis j l a h1 h2
  · by_cases hj : j = i
    · subst hj; rw [upF_same] at h; exact nR a h
    · rw [upF_ne hj] at h; exact nI j hj a h
  · by_cases hj : p = i
    · subst hj
      rw [List.getElem?_set_self (by rw [← s.len]; exact hi), hp hp']
    · rw [List.getElem?_set_ne (Ne.symm hj)]; exact s.pin p hp'
/-- the frame as it is, over another heap -/
theorem Sim.heap (s : Sim K π I H σ env F) (e : Same I I') (sub : Same I' H') (k : ∀ a, Ow F a → H' a = H a) (nI : ∀ a, Ow F a → I' a = none) (kt : ∀ a ps, H a = some (.tbl ps) → H' a = some (.tbl ps) := by exact fun _ _ h => h) (ni : ∀ a ps, H a = some (.tbl ps) → I a = none → I' a = none := by exact fun _ _ _ h => h) : Sim K π I' H' σ env F :=
  ⟨s.len, fun i o q => let ⟨v, e1, r⟩ := s.rep i o q; ⟨v, e1, r.mono e fun a ha => k a ⟨i, ha⟩⟩, s.out, s.dis, fun i a h => nI a ⟨i, h⟩, sub, s.pin, s.tab.mono e kt ni⟩
theorem set_same {α : Type} : ∀ {l : List α} {i : Nat} {x : α}, l[i]? = some x → l.set i x = l
  | [], _, _, h => by simp at h
  | a :: l, 0, x, h => by simp at h; subst h; rfl
  | a :: l, i + 1, x, h => by
    rw [List.set_cons_succ, set_same (by simpa using h)]
end
/-- its value is o at v; R: what o owns -/
def Aft (K : PySem.W.Frag) (π : Pn) (I H : Hp) (F : Nat → List Addr) (σ : St) (env' : Env) (o : O) (v : V) (H' : Hp) : Prop :=
  ∃ I' F' R, RepO K I' H' o v R ∧ Sim K π I' H' σ env' F' ∧ (∀ a ∈ R, I' a = none) ∧ (∀ a, Ow F' a → a ∉ R) ∧ Step I H (Ow F) I' H' (fun a => Ow F' a ∨ a ∈ R)
/-- its value is the data d at v -/
def AftD (K : PySem.W.Frag) (π : Pn) (I H : Hp) (F : Nat → List Addr) (σ : St) (env' : Env) (d : PyData) (v : V) (H' : Hp) : Prop :=
  ∃ I' F', Rp K I' v d ∧ Sim K π I' H' σ env' F' ∧ Step I H (Ow F) I' H' (Ow F')
/-- behind a statement -/
def AftS (K : PySem.W.Frag) (π : Pn) (I H : Hp) (F : Nat → List Addr) (σ' : St) (env' : Env) (H' : Hp) : Prop :=
  ∃ I' F', Sim K π I' H' σ' env' F' ∧ Step I H (Ow F) I' H' (Ow F')
/-- an exception has come -/
def Err (T : List (Addr × Str)) (I H : Hp) (S : Addr → Prop) (H' : Hp) (d : Option Addr) : Prop := ∃ I', Same I' H' ∧ TabI T I' H' ∧ (∀ (dx : Addr) (fs : List (Str × V)), d = some dx → H' dx = some (.xd fs) → I' dx = some (.xd fs)) ∧ Step I H S I' H' (fun _ => False)
section
variable {K : PySem.W.Frag} {π : Pn} {I H I1 H1 H2 : Hp} {σ σ' : St} {env : Env} {F F1 : Nat → List Addr} {o : O} {d : PyData} {v : V}
theorem Aft.frz (h : Aft K π I H F σ env o v H1) : AftD K π I H F σ env o.data v H1 := by
  obtain ⟨I', F', R, r, s, nR, dR, st⟩ := h
  have e : Same I' (Dy.frz I' H1 R) := frz_same nR
  refine ⟨Dy.frz I' H1 R, F', r.frz nR, s.heap e (frz_sub s.sub) (fun _ _ => rfl) (fun a ha => ?_) (fun _ _ h => h) (fun a ps h1 h2 => frz_ni r h1 h2), ⟨st.i1.trans e, st.fr, st.th, fun a ha => st.s' a (.inl ha), fun a u q => ?_⟩⟩
  · unfold Dy.frz; rw [if_neg (dR a ha)]; obtain ⟨i, hi⟩ := ha; exact s.djI i a hi
  · unfold Dy.frz at q
    split at q
    · exact .inr (st.s' a (.inr (by assumption)))
    · exact st.i' a u q
theorem AftD.toS (h : AftD K π I H F σ env d v H1) : AftS K π I H F σ env H1 := let ⟨I', F', _, s, st⟩ := h; ⟨I', F', s, st⟩
theorem AftD.aft (h : AftD K π I H F σ env d v H1) : Aft K π I H F σ env (.fr d) v H1 := by
  obtain ⟨I', F', r, s, st⟩ := h
  exact ⟨I', F', [], ⟨rfl, r⟩, s, fun a ha => (nomatch ha), fun a _ ha => (nomatch ha), st.less fun a ha => Or.elim ha id fun z => (nomatch z)⟩
theorem AftS.trans (st : Step I H (Ow F) I1 H1 (Ow F1)) (h : AftS K π I1 H1 F1 σ env H2) : AftS K π I H F σ env H2 := let ⟨I', F', s, t⟩ := h; ⟨I', F', s, st.trans t⟩
theorem AftD.trans (st : Step I H (Ow F) I1 H1 (Ow F1)) (h : AftD K π I1 H1 F1 σ env d v H2) : AftD K π I H F σ env d v H2 := let ⟨I', F', r, s, t⟩ := h; ⟨I', F', r, s, st.trans t⟩
theorem Aft.trans (st : Step I H (Ow F) I1 H1 (Ow F1)) (h : Aft K π I1 H1 F1 σ env o v H2) : Aft K π I H F σ env o v H2 := let ⟨I', F', R, r, s, a, b, t⟩ := h; ⟨I', F', R, r, s, a, b, st.trans t⟩
theorem Err.trans {T : List (Addr × Str)} {S S1 : Addr → Prop} {d : Option Addr} (st : Step I H S I1 H1 S1) (h : Err T I1 H1 S1 H2 d) : Err T I H S H2 d := by
  obtain ⟨I', s, t, f, k⟩ := h
  exact ⟨I', s, t, f, st.trans k⟩
theorem Err.of {T : List (Addr × Str)} {S S1 : Addr → Prop} (st : Step I H S I1 H1 S1) (s : Same I1 H1) (t : TabI T I1 H1) : Err T I H S H1 none := ⟨I1, s, t, fun _ _ e => (by cases e), st.less fun _ z => z.elim⟩
end
end Dy
namespace Dy
open PySem PySem.Spec PyProof.Rows L2
/-- an exception of the program as HandS tells it: its class's address, its own dict -/
def XR (mg : Str → Option Value) (x : Exn) (c : Value) (d : Option Addr) (_H : Hp) : Prop := ∃ a, mg x.cls = some (.ref a) ∧ c = .ref a ∧ (x.args = [] → d = none) ∧ ∀ p q : Int, x.args = [.int p, .int q] → ∃ (dx : Addr) (fs : List (Str × V)), d = some dx ∧ _H dx = some (.xd fs) ∧ fs.lookup ("amount" : Str) = some (V.int p) ∧ fs.lookup ("limit" : Str) = some (V.int q)
/-- what is carried: the written part, the module's names, the pinned slots, the wish about exceptions -/
structure G where
  K : PySem.W.Frag
  mg : Str → Option Value
  pn : Pn
  E : XK
def G.err (g : G) (I H : Hp) (F : Nat → List Addr) (x : Exn) : Prop := ∀ H' c d, Err g.pn.2.2 I H (Ow F) H' d → XR g.mg x c d H' → g.E c d H'
abbrev EF := Env → Res (O × Env)
abbrev TF := Env → Res (Bool × Env)
inductive Fl where
  | nx | bk | ct
  | rt (o : O)
abbrev SF := Env → Res (Fl × Env)
def tD (g : G) (f : EF) : TE := fun σ H Q => ∃ I env F, Sim g.K g.pn I H σ env F ∧ (f env).post (fun r => ∀ v H', Aft g.K g.pn I H F σ r.2 r.1 v H' → Q v H') (g.err I H F)
def tT (g : G) (f : TF) : TT := fun σ H Q => ∃ I env F, Sim g.K g.pn I H σ env F ∧ (f env).post (fun r => ∀ H', AftS g.K g.pn I H F σ r.2 H' → Q r.1 H') (g.err I H F)
def FlP (g : G) (D : Ends) (I H : Hp) (F : Nat → List Addr) : Fl × Env → Prop
  | (.nx, e) => ∀ σ' H', AftS g.K g.pn I H F σ' e H' → D.nx σ' H'
  | (.bk, e) => ∀ σ' H', AftS g.K g.pn I H F σ' e H' → D.bk σ' H'
  | (.ct, e) => ∀ σ' H', AftS g.K g.pn I H F σ' e H' → D.ct σ' H'
  | (.rt o, e) => ∀ v σ' H', Aft g.K g.pn I H F σ' e o v H' → D.rt v H'
def tS (g : G) (f : SF) : TS := fun D σ H => ∃ I env F, Sim g.K g.pn I H σ env F ∧ (f env).post (FlP g D I H F) (g.err I H F)
inductive AF where
  | v (f : EF)
  | s (i : Nat)
inductive AV where
  | d (x : PyData)
  | s (i : Nat)
def evA : List AF → Env → Res (List AV × Env)
  | [], e => .ok ([], e)
  | .v f :: as, e => f e >>= fun r => evA as r.2 >>= fun q => .ok (.d r.1.data :: q.1, q.2)
  | .s i :: as, e => match e[i]? with
    | some (some _) => evA as e >>= fun q => .ok (.s i :: q.1, q.2)
    | _ => .no
inductive RepAV (K : PySem.W.Frag) (I : Hp) (σ : St) : List AV → List V → Prop
  | nil : RepAV K I σ [] []
  | d {x : PyData} {v : V} {as : List AV} {vs : List V} : Rp K I v x → RepAV K I σ as vs → RepAV K I σ (.d x :: as) (v :: vs)
  | s {i : Nat} {v : V} {as : List AV} {vs : List V} : σ[i]? = some (some v) → RepAV K I σ as vs → RepAV K I σ (.s i :: as) (v :: vs)
def tArg (g : G) : AF → TE
  | .v f => tD g f
  | .s i => tVar i
def tA (g : G) (as : List AF) : TA := fun σ H Q => ∃ I env F, Sim g.K g.pn I H σ env F ∧
  (evA as env).post (fun r => ∀ vs H' I' F', Sim g.K g.pn I' H' σ r.2 F' → Step I H (Ow F) I' H' (Ow F') → RepAV g.K I' σ r.1 vs → Q vs H') (g.err I H F)
section
variable {g : G} {σ : St} {H : Hp}
theorem err_step {I I1 H1 : Hp} {F F1 : Nat → List Addr} {x : Exn} (st : Step I H (Ow F) I1 H1 (Ow F1)) (h : g.err I H F x) : g.err I1 H1 F1 x := fun H' c d e r => h H' c d (Err.trans st e) r
theorem tA_nil {Q : List V → Hp → Prop} (h : tA g [] σ H Q) : Q [] H := by
  obtain ⟨I, env, F, s, p⟩ := h
  exact p [] H I F s Step.refl .nil
theorem tA_cons {a : AF} {as : List AF} {Q : List V → Hp → Prop} (h : tA g (a :: as) σ H Q) : tArg g a σ H fun x H1 => tA g as σ H1 fun xs H2 => Q (x :: xs) H2 := by
  obtain ⟨I, env, F, s, p⟩ := h
  cases a with
  | v f =>
    refine ⟨I, env, F, s, ?_⟩
    unfold evA at p
    cases q : f env with
    | no => rw [q] at p; exact p
    | er x => rw [q] at p; exact p
    | ok r =>
      rw [q] at p
      intro v H1 af
      obtain ⟨I1, F1, rp, s1, st1⟩ := af.frz
      refine ⟨I1, r.2, F1, s1, ?_⟩
      rw [bind_ok] at p
      cases q2 : evA as r.2 with
      | no => rw [q2] at p; exact p
      | er x => rw [q2] at p; exact err_step st1 p
      | ok r2 =>
        rw [q2] at p
        intro vs H2 I2 F2 s2 st2 av
        exact p (v :: vs) H2 I2 F2 s2 (st1.trans st2) (.d (rp.mono st2.i1) av)
  | s i =>
    unfold evA at p
    cases q0 : env[i]? with
    | none => rw [q0] at p; exact p.elim
    | some y =>
      cases y with
      | none => rw [q0] at p; exact p.elim
      | some o =>
        rw [q0] at p
        obtain ⟨v, hv, _⟩ := s.rep i o q0
        refine ⟨v, hv, I, env, F, s, ?_⟩
        cases q2 : evA as env with
        | no => simp only [q2] at p; exact p
        | er x => simp only [q2] at p; exact p
        | ok r2 =>
          simp only [q2] at p
          intro vs H2 I2 F2 s2 st2 av
          exact p (v :: vs) H2 I2 F2 s2 st2 (.s hv av)
end
theorem PE.imp {X : Cx} {e : Expr} {t u : TE} (h : PE X e t) (i : ∀ σ H Q, u σ H Q → t σ H Q) : PE X e u := ⟨fun pins s σ H Q I q => h.run pins s σ H Q I (i σ H Q q)⟩
theorem PT.imp {X : Cx} {e : Expr} {t u : TT} (h : PT X e t) (i : ∀ σ H Q, u σ H Q → t σ H Q) : PT X e u := ⟨fun pins s σ H Q I q => h.run pins s σ H Q I (i σ H Q q)⟩
theorem PW.imp {X : Cx} {e : Expr} {t u : TT} (h : PW X e t) (i : ∀ σ H Q, u σ H Q → t σ H Q) : PW X e u := ⟨fun wh pins s σ H Q I q => h.run wh pins s σ H Q I (i σ H Q q)⟩
theorem PA.imp {X : Cx} {e : List Expr} {t u : TA} (h : PA X e t) (i : ∀ σ H Q, u σ H Q → t σ H Q) : PA X e u := ⟨fun ps pins s σ H Q I q => h.run ps pins s σ H Q I (i σ H Q q)⟩
theorem PS.imp {X : Cx} {e : Stmt} {t u : TS} (h : PS X e t) (i : ∀ D σ H, u D σ H → t D σ H) : PS X e u := ⟨fun pins s σ H D I q => h.run pins s σ H D I (i D σ H q)⟩
theorem PSs.imp {X : Cx} {e : List Stmt} {t u : TS} (h : PSs X e t) (i : ∀ D σ H, u D σ H → t D σ H) : PSs X e u := ⟨fun pins s σ H D I q => h.run pins s σ H D I (i D σ H q)⟩
theorem PI.imp {X : Cx} {tg e : Expr} {t u : TI} (h : PI X tg e t) (i : ∀ σ H Q, u σ H Q → t σ H Q) : PI X tg e u := ⟨fun pins s σ H Q I q => h.run pins s σ H Q I (i σ H Q q)⟩
theorem PG.imp {X : Cx} {e : Expr} {t u : TG} (h : PG X e t) (i : ∀ v σ H Q, u v σ H Q → t v σ H Q) : PG X e u := ⟨fun pins s σ H v w Q I r q => h.run pins s σ H v w Q I r (i v σ H Q q)⟩
def DE (g : G) (X : Cx) (e : Expr) (f : EF) : Prop := PE X e (tD g f)
def DX (g : G) (X : Cx) (e : Expr) (a : AF) : Prop := PE X e (tArg g a)
def DA (g : G) (X : Cx) (es : List Expr) (as : List AF) : Prop := PA X es (tA g as)
def DT (g : G) (X : Cx) (e : Expr) (f : TF) : Prop := PT X e (tT g f)
def DW (g : G) (X : Cx) (e : Expr) (f : TF) : Prop := PW X e (tT g f)
def DS (g : G) (X : Cx) (st : Stmt) (f : SF) : Prop := PS X st (tS g f)
def DSs (g : G) (X : Cx) (st : List Stmt) (f : SF) : Prop := PSs X st (tS g f)
section
variable {g : G} {X : Cx} {e : Expr} {es : List Expr}
theorem dx_v {f : EF} (h : DE g X e f) : DX g X e (.v f) := h
theorem dx_s {x : Str} {pos : Pos} (i : Nat) (h : PE X (.Name x pos) (tVar i)) : DX g X (.Name x pos) (.s i) := h
theorem da_nil : DA g X [] [] := PA.imp pa_nil fun σ H Q h => tA_nil h
theorem da_cons {a : AF} {as : List AF} (h : DX g X e a) (hr : DA g X es as) (hs : starEach (e :: es) X.env = (false, eval e X.env) :: starEach es X.env := by rfl) : DA g X (e :: es) (a :: as) :=
  PA.imp (pa_cons h hr hs) fun σ H Q h => tA_cons h
def fC (d : PyData) : EF := fun env => .ok (.fr d, env)
theorem aftC {I H : Hp} {F : Nat → List Addr} {σ : St} {env : Env} {d : PyData} {v : V} (s : Sim g.K g.pn I H σ env F) (r : Rp g.K I v d) : Aft g.K g.pn I H F σ env (.fr d) v H :=
  AftD.aft ⟨I, F, r, s, Step.refl⟩
theorem de_c {v : V} {d : PyData} (h : PE X e (tC v)) (r : ∀ I, Rp g.K I v d) : DE g X e (fC d) := PE.imp h fun σ H Q q => by
  obtain ⟨I, env, F, s, p⟩ := q
  exact p v H (aftC s (r I))
theorem de_int {i j pos} : DE g X (.Constant (.int i) j pos) (fC (.int i)) := de_c pe_int fun _ => .int i
theorem de_bl {b j pos} : DE g X (.Constant (.bool b) j pos) (fC (.bool b)) := de_c pe_bl fun _ => .bl b
theorem de_non {j pos} : DE g X (.Constant .none j pos) (fC .none) := de_c pe_non fun _ => .non
theorem de_str {x j pos} : DE g X (.Constant (.str x) j pos) (fC (.str x)) := de_c pe_str fun _ => .str x
/-- a module's int -/
theorem de_gint {x : Str} {i : Int} {t : Tok} {pos : Pos} (hg : Gl X x) (hm : X.mg x = some (.int i t)) (hd : (x == ("__debug__" : Str)) = false := by decide) : DE g X (.Name x pos) (fC (.int i)) :=
  de_c (v := .int i) (pe_glob hg hm ⟨t, rfl⟩ hd) fun _ => .int i
theorem de_gstr {x : Str} {i : Str} {t : Tok} {pos : Pos} (hg : Gl X x) (hm : X.mg x = some (.str i t)) (hd : (x == ("__debug__" : Str)) = false := by decide) : DE g X (.Name x pos) (fC (.str i)) :=
  de_c (v := .str i) (pe_glob hg hm ⟨t, rfl⟩ hd) fun _ => .str i
/-- a name, its value frozen -/
def fV (i : Nat) : EF := fun env => match env[i]? with
  | some (some (.fr d)) => .ok (.fr d, env)
  | some (some o) => .ok (.fr o.data, env.set i (some (.fr o.data)))
  | _ => .no
theorem sim_frz {I H : Hp} {F : Nat → List Addr} {σ : St} {env : Env} {i : Nat} {o : O} (s : Sim g.K g.pn I H σ env F) (q : env[i]? = some (some o)) :
    ∃ v I', σ[i]? = some (some v) ∧ Rp g.K I' v o.data ∧ Sim g.K g.pn I' H σ (env.set i (some (.fr o.data))) (upF F i []) ∧ Step I H (Ow F) I' H (Ow (upF F i [])) := by
  obtain ⟨v, e1, r⟩ := s.rep i o q
  have nI : ∀ a ∈ F i, I a = none := fun a ha => s.djI i a ha
  have hi : i < env.length := by
    cases Nat.lt_or_ge i env.length with
    | inl h => exact h
    | inr h => rw [List.getElem?_eq_none h] at q; cases q
  have sm := frz_same (H := H) nI
  have rp := r.frz nI
  refine ⟨v, Dy.frz I H (F i), e1, rp, ?_, ?_⟩
  · have := s.put (i := i) (x := some (.fr o.data)) (sv := some v) (R := []) hi sm (frz_sub s.sub) (fun _ _ _ _ => rfl) (fun j hj a ha => ?_) (fun a ha => nomatch ha) (fun _ _ _ _ h => nomatch h) (fun o' e => ?_) (fun e => by cases e) (fun hp => ?_) (fun _ _ h => h) (fun a ps h1 h2 => frz_ni r h1 h2)
    · rw [set_same e1] at this; exact this
    · unfold Dy.frz; rw [if_neg (fun h => hj (s.dis j i a ha h))]; exact s.djI j a ha
    · cases e; exact ⟨v, rfl, rfl, rp⟩
    · have := s.pin i hp; rw [e1] at this; exact Option.some.inj this
  · refine Step.of4 sm (fun _ _ h _ => h) (fun a ⟨j, ha⟩ => ?_) (fun a u h => ?_)
    · by_cases hj : j = i
      · subst hj; rw [upF_same] at ha; cases ha
      · rw [upF_ne hj] at ha; exact .inl ⟨j, ha⟩
    · unfold Dy.frz at h
      split at h
      · exact .inr (.inl ⟨i, by assumption⟩)
      · exact .inl h
theorem de_v {x : Str} {pos : Pos} (i : Nat) (h : PE X (.Name x pos) (tVar i)) : DE g X (.Name x pos) (fV i) := PE.imp h fun σ H Q q => by
  obtain ⟨I, env, F, s, p⟩ := q
  unfold fV at p
  cases q : env[i]? with
  | none => rw [q] at p; exact p.elim
  | some y =>
    cases y with
    | none => rw [q] at p; exact p.elim
    | some o =>
      have key : (match o with | .fr d => Res.ok (O.fr d, env) | o => .ok (O.fr o.data, env.set i (some (.fr o.data)))) = .ok (O.fr o.data, env.set i (some (.fr o.data))) := by
        cases o with
        | fr d => show Res.ok (O.fr d, env) = Res.ok (O.fr d, env.set i (some (O.fr d))); rw [set_same q]
        | ol _ => rfl
        | oo _ => rfl
        | od _ => rfl
        | om _ => rfl
      rw [q] at p
      have p : (Res.ok (O.fr o.data, env.set i (some (.fr o.data)))).post (fun r => ∀ v H', Aft g.K g.pn I H F σ r.2 r.1 v H' → Q v H') (g.err I H F) := by
        rw [← key]; cases o <;> exact p
      obtain ⟨v, I', e1, rp, s', st⟩ := sim_frz s q
      exact ⟨v, e1, p v H (AftD.aft ⟨I', _, rp, s', st⟩)⟩
/-- a name whose thing goes out of the def -/
def fM (i : Nat) : EF := fun env => match env[i]? with
  | some (some o) => .ok (o, env.set i none)
  | _ => .no
theorem de_m {x : Str} {pos : Pos} (i : Nat) (h : PE X (.Name x pos) (tVar i)) : DE g X (.Name x pos) (fM i) := PE.imp h fun σ H Q q => by
  obtain ⟨I, env, F, s, p⟩ := q
  unfold fM at p
  cases q : env[i]? with
  | none => rw [q] at p; exact p.elim
  | some y =>
    cases y with
    | none => rw [q] at p; exact p.elim
    | some o =>
      rw [q] at p
      obtain ⟨v, e1, r⟩ := s.rep i o q
      have hi : i < env.length := by
        cases Nat.lt_or_ge i env.length with
        | inl h => exact h
        | inr h => rw [List.getElem?_eq_none h] at q; cases q
      refine ⟨v, e1, p v H ⟨I, upF F i [], F i, r, ?_, fun a ha => s.djI i a ha, fun a ⟨j, hj⟩ ha => ?_, ?_⟩⟩
      · have := s.put (i := i) (x := none) (sv := some v) (R := []) hi (Same.refl _) s.sub (fun _ _ _ _ => rfl) (fun j _ a ha => s.djI j a ha) (fun a ha => nomatch ha) (fun _ _ _ _ h => nomatch h) (fun o' e => by cases e) (fun _ => rfl) (fun hp => ?_)
        · rw [set_same e1] at this; exact this
        · have := s.pin i hp; rw [e1] at this; exact Option.some.inj this
      · by_cases h : j = i
        · subst h; rw [upF_same] at hj; cases hj
        · rw [upF_ne h] at hj; exact h (s.dis j i a hj ha)
      · refine Step.of4 (Same.refl _) (fun _ _ h _ => h) (fun a ha => .inl ?_) (fun _ _ h => .inl h)
        rcases ha with ⟨j, hj⟩ | ha
        · by_cases h : j = i
          · subst h; rw [upF_same] at hj; cases hj
          · rw [upF_ne h] at hj; exact ⟨j, hj⟩
        · exact ⟨i, ha⟩
end
/-- an argument that is read: data, or an owned list of data -/
def DiO (K : PySem.W.Frag) (I H : Hp) (a : Addr) (es : List (PyData × PyData)) : Prop := (∃ kvs, H a = some (.dK kvs) ∧ RpKv K I kvs es) ∨ ∃ ts, H a = some (dN a ts) ∧ RpKt K I ts es
def DrO (K : PySem.W.Frag) (I H : Hp) (a : Addr) (es : List (PyData × PyData)) : Prop := (∃ kvs, Rd H a (.dK kvs) ∧ RpKv K I kvs es) ∨ ∃ ts, Rd H a (dN a ts) ∧ RpKt K I ts es
theorem DiO.rd {K : PySem.W.Frag} {I H : Hp} {a : Addr} {es : List (PyData × PyData)} (h : DiO K I H a es) : DrO K I H a es := by
  rcases h with ⟨k, h1, h2⟩ | ⟨k, h1, h2⟩
  · exact .inl ⟨k, .inl h1, h2⟩
  · exact .inr ⟨k, .inl h1, h2⟩
def RpS (K : PySem.W.Frag) (I H : Hp) (v : V) (d : PyData) : Prop := Rp K I v d ∨ (∃ a vs ds, v = .ref a ∧ d = .list ds ∧ H a = some (.lst vs) ∧ RpAll K I vs ds) ∨ ∃ a es, v = .ref a ∧ d = .dict es ∧ DiO K I H a es
inductive RpSs (K : PySem.W.Frag) (I H : Hp) : List V → List PyData → Prop
  | nil : RpSs K I H [] []
  | cons {v : V} {d : PyData} {vs : List V} {ds : List PyData} : RpS K I H v d → RpSs K I H vs ds → RpSs K I H (v :: vs) (d :: ds)
def rsv (env : Env) : AV → Option PyData
  | .d x => some x
  | .s i => match env[i]? with
    | some (some (.fr d)) => some d
    | some (some (.ol ds)) => some (.list ds)
    | some (some (.od es)) => some (.dict es)
    | _ => none
def rsvs (env : Env) : List AV → Option (List PyData)
  | [] => some []
  | a :: as => match rsv env a, rsvs env as with
    | some d, some ds => some (d :: ds)
    | _, _ => none
theorem rsvs_rep {K : PySem.W.Frag} {π : Pn} {I H : Hp} {σ : St} {env : Env} {F : Nat → List Addr} (s : Sim K π I H σ env F) : ∀ {as : List AV} {vs : List V} {ds : List PyData}, RepAV K I σ as vs → rsvs env as = some ds → RpSs K I H vs ds
  | _, _, ds, .nil, h => by cases h; exact .nil
  | _, _, ds, .d (as := as) r t, h => by
    unfold rsvs at h
    cases q : rsvs env as with
    | none => rw [q] at h; cases h
    | some es => rw [q] at h; cases h; exact .cons (.inl r) (rsvs_rep s t q)
  | _, _, ds, .s (i := i) (as := as) r t, h => by
    unfold rsvs at h
    cases q : rsvs env as with
    | none => rw [q] at h; cases q9 : rsv env (.s i) <;> (rw [q9] at h; cases h)
    | some es =>
      rw [q] at h
      cases q2 : rsv env (.s i) with
      | none => rw [q2] at h; cases h
      | some d =>
        rw [q2] at h; cases h
        refine .cons ?_ (rsvs_rep s t q)
        simp only [rsv] at q2
        cases q3 : env[i]? with
        | none => rw [q3] at q2; cases q2
        | some y =>
          cases y with
          | none => rw [q3] at q2; cases q2
          | some o =>
            obtain ⟨w, e1, rp⟩ := s.rep i o q3
            rw [r] at e1; cases e1
            rw [q3] at q2
            cases o with
            | fr x => cases q2; exact .inl rp.2
            | ol xs =>
              cases q2
              obtain ⟨a, us, rfl, _, h1, h2⟩ := rp
              exact .inr (.inl ⟨a, us, xs, rfl, rfl, h1, h2⟩)
            | oo _ => cases q2
            | om _ => cases q2
            | od es =>
              cases q2
              obtain ⟨a, rfl, _, h1⟩ := rp
              exact .inr (.inr ⟨a, es, rfl, rfl, h1⟩)
/-- what a new value adds -/
structure Grow (K : PySem.W.Frag) (I H I' H' : Hp) (o : O) (v : V) (R : List Addr) : Prop where
  rep : RepO K I' H' o v R
  i1 : Same I I'
  h1 : Same H H'
  sub : Same I' H'
  fresh : ∀ a ∈ R, H a = none
  nI : ∀ a ∈ R, I' a = none
  i' : ∀ a o, I' a = some o → I a = some o ∨ H a = none
theorem Grow.val {K : PySem.W.Frag} {I H : Hp} {d : PyData} {v : V} (s : Same I H) (r : Rp K I v d) : Grow K I H I H (.fr d) v [] :=
  ⟨⟨rfl, r⟩, Same.refl _, Same.refl _, s, fun _ h => (nomatch h), fun _ h => (nomatch h), fun _ _ h => .inl h⟩
theorem same_new {H : Hp} {p : Addr} {o : HO} (h : H p = none) : Same H (upd H p o) := fun b x e => by
  rw [upd_ne (ne_of_none e h)]; exact e
theorem none_of_same {I H : Hp} (s : Same I H) {a : Addr} (h : H a = none) : I a = none := by
  cases q : I a with
  | none => rfl
  | some o => rw [s a o q] at h; cases h
/-- a new list of its own -/
theorem Grow.lst {K : PySem.W.Frag} {I H : Hp} {ds : List PyData} {vs : List V} {p : Addr} (s : Same I H) (n : H p = none) (r : RpAll K I vs ds) : Grow K I H I (upd H p (.lst vs)) (.ol ds) (.ref p) [p] :=
  ⟨⟨p, vs, rfl, rfl, upd_same, r⟩, Same.refl _, same_new n, s.trans (same_new n), fun a h => by simp at h; subst h; exact n, fun a h => by simp at h; subst h; exact none_of_same s n, fun _ _ h => .inl h⟩
/-- a new tuple -/
theorem Grow.tup {K : PySem.W.Frag} {I H : Hp} {ds : List PyData} {vs : List V} {p : Addr} {ob : Obj} (s : Same I H) (pl : PlT ob) (n : H p = none) (r : RpAll K I vs ds) : Grow K I H (upd I p (.frz ob (.tup vs))) (upd H p (.frz ob (.tup vs))) (.fr (.tuple ds)) (.ref p) [] := by
  have nI := none_of_same s n
  have e : Same I (upd I p (.frz ob (.tup vs))) := same_new nI
  refine ⟨⟨rfl, .tup (LsT.of pl upd_same) (r.mono e)⟩, e, same_new n, fun b x q => ?_, fun _ h => (nomatch h), fun _ h => (nomatch h), fun a o q => ?_⟩
  · by_cases h : b = p
    · subst h; rw [upd_same] at q ⊢; exact q
    · rw [upd_ne h] at q ⊢; exact s b x q
  · by_cases h : a = p
    · subst h; exact .inr n
    · rw [upd_ne h] at q; exact .inl q
theorem Grow.aft {K : PySem.W.Frag} {π : Pn} {I H I' H' : Hp} {o : O} {v : V} {R : List Addr} {σ : St} {env : Env} {F : Nat → List Addr} (g : Grow K I H I' H' o v R) (s : Sim K π I H σ env F) : Aft K π I H F σ env o v H' := by
  have nF : ∀ a, Ow F a → I' a = none := fun a ⟨i, ha⟩ => by
    cases q : I' a with
    | none => rfl
    | some u =>
      rcases g.i' a u q with z | z
      · rw [s.djI i a ha] at z; cases z
      · obtain ⟨w, hw⟩ := s.dom ha; rw [z] at hw; cases hw
  refine ⟨I', F, R, g.rep, s.heap g.i1 g.sub (fun a ha => ?_) nF (fun a ps h => g.h1 a _ h) (fun a ps h1 h2 => by
    cases q : I' a with
    | none => rfl
    | some u =>
      rcases g.i' a u q with z | z
      · rw [h2] at z; cases z
      · rw [h1] at z; cases z), g.nI, fun a ha hr => ?_, Step.of4 g.i1 (fun a u h _ => g.h1 a u h) (fun a h => ?_) (fun a u h => ?_)⟩
  · obtain ⟨w, hw⟩ := s.domO ha; rw [hw, g.h1 a w hw]
  · obtain ⟨w, hw⟩ := s.domO ha; rw [g.fresh a hr] at hw; cases hw
  · rcases h with h | h
    · exact .inl h
    · exact .inr (g.fresh a h)
  · rcases g.i' a u h with z | z
    · exact .inl z
    · exact .inr (.inr z)
/-- the operation r of HandS does on data what f tells -/
def OpS (K : PySem.W.Frag) (r : List V → Hp → VK → Prop) (f : List PyData → Option O) : Prop :=
  ∀ (vs : List V) (ds : List PyData) (I H : Hp) (Q : VK) (o : O), Same I H → RpSs K I H vs ds → f ds = some o → (∀ v H' I' R, Grow K I H I' H' o v R → Q v H') → r vs H Q
def fOp (f : List PyData → Option O) (as : List AF) : EF := fun env => evA as env >>= fun r => match rsvs r.2 r.1 with
  | none => .no
  | some ds => match f ds with
    | none => .no
    | some o => .ok (o, r.2)
end Dy
namespace Dy
open PySem PySem.Spec PyProof.Rows L2
section
variable {g : G} {X : Cx} {a b c e : Expr} {es : List Expr} {pos : Pos}
theorem op_key {r : List V → Hp → VK → Prop} {f : List PyData → Option O} {as : List AF} {σ : St} {H : Hp} {Q : VK} (ops : OpS g.K r f) (h : tD g (fOp f as) σ H Q) : tA g as σ H fun vs H' => r vs H' Q := by
  obtain ⟨I, env, F, s, p⟩ := h
  refine ⟨I, env, F, s, ?_⟩
  unfold fOp at p
  cases q : evA as env with
  | no => rw [q] at p; exact p
  | er x => rw [q] at p; exact p
  | ok y =>
    rw [q, bind_ok] at p
    cases q2 : rsvs y.2 y.1 with
    | none => rw [q2] at p; exact p.elim
    | some ds =>
      cases q3 : f ds with
      | none => simp only [q2, q3] at p; exact p.elim
      | some o =>
        simp only [q2, q3] at p
        intro vs H' I' F' s' st av
        exact ops vs ds I' H' Q o s'.sub (rsvs_rep s' av q2) q3 fun v H'' I'' R gr => p v H'' (Aft.trans st (gr.aft s'))
def one (r : V → Hp → VK → Prop) : List V → Hp → VK → Prop
  | [x], H, Q => r x H Q
  | _, _, _ => False
def two (r : R2) : List V → Hp → VK → Prop
  | [x, y], H, Q => r x y H Q
  | _, _, _ => False
theorem tA2 {x y : AF} {σ : St} {H : Hp} {R : List V → Hp → Prop} (h : tA g [x, y] σ H R) : tArg g x σ H fun v H1 => tArg g y σ H1 fun u H2 => R [v, u] H2 := by
  have := tA_cons h
  cases x with
  | v f =>
    obtain ⟨I, env, F, s, p⟩ := this
    refine ⟨I, env, F, s, ?_⟩
    cases q : f env with
    | no => rw [q] at p; exact p
    | er x => rw [q] at p; exact p
    | ok r =>
      rw [q] at p
      intro v H1 af
      have p2 := tA_cons (p v H1 af)
      cases y with
      | v f2 =>
        obtain ⟨I2, env2, F2, s2, p3⟩ := p2
        refine ⟨I2, env2, F2, s2, ?_⟩
        cases q2 : f2 env2 with
        | no => rw [q2] at p3; exact p3
        | er x => rw [q2] at p3; exact p3
        | ok r2 => rw [q2] at p3; intro v2 H2 af2; exact tA_nil (p3 v2 H2 af2)
      | s j =>
        obtain ⟨u, hu, p3⟩ := p2
        exact ⟨u, hu, tA_nil p3⟩
  | s i =>
    obtain ⟨v, hv, p⟩ := this
    refine ⟨v, hv, ?_⟩
    have p2 := tA_cons p
    cases y with
    | v f2 =>
      obtain ⟨I2, env2, F2, s2, p3⟩ := p2
      refine ⟨I2, env2, F2, s2, ?_⟩
      cases q2 : f2 env2 with
      | no => rw [q2] at p3; exact p3
      | er x => rw [q2] at p3; exact p3
      | ok r2 => rw [q2] at p3; intro v2 H2 af2; exact tA_nil (p3 v2 H2 af2)
    | s j =>
      obtain ⟨u, hu, p3⟩ := p2
      exact ⟨u, hu, tA_nil p3⟩
theorem tArg_mono {x : AF} {σ : St} {H : Hp} {Q Q' : VK} (h : tArg g x σ H Q) (i : ∀ v H', Q v H' → Q' v H') : tArg g x σ H Q' := by
  cases x with
  | v f =>
    obtain ⟨I, env, F, s, p⟩ := h
    refine ⟨I, env, F, s, ?_⟩
    cases q : f env with
    | no => rw [q] at p; exact p
    | er x => rw [q] at p; exact p
    | ok r => rw [q] at p; exact fun v H' af => i _ _ (p v H' af)
  | s j =>
    obtain ⟨v, hv, q⟩ := h
    exact ⟨v, hv, i _ _ q⟩
theorem tA1 {x : AF} {σ : St} {H : Hp} {R : List V → Hp → Prop} (h : tA g [x] σ H R) : tArg g x σ H fun v H1 => R [v] H1 := tArg_mono (tA_cons h) fun _ _ q => tA_nil q
/-- a built-in function, a built-in type called -/
theorem de_callB {id : String} {x : Str} {p : Pos} {r : List V → Hp → VK → Prop} {f : List PyData → Option O} {as : List AF} (hc : CallR X (.builtin id) r) (ops : OpS g.K r f) (hg : Gl X x) (hm : X.mg x = none) (hv : bootBuiltins x = some (.builtin id)) (ha : DA g X (e :: es) as)
    (hn : x ≠ "__name__" := by decide) (hdb : (x == ("__debug__" : Str)) = false := by decide) (he : starEach (e :: es) X.env = (false, eval e X.env) :: starEach es X.env := by rfl) (hpl : (backTo pos (starEach es X.env)).any (·.1) = false := by rfl) :
    DE g X (.Call (.Name x p) (e :: es) [] pos) (fOp f as) := PE.imp (pe_callB hc hg hm hv ha hn hdb he hpl) fun σ H Q h => op_key ops h
theorem de_callTy {T : String} {x : Str} {p : Pos} {r : List V → Hp → VK → Prop} {f : List PyData → Option O} {as : List AF} (hc : CallR X (.type T) r) (ops : OpS g.K r f) (hg : Gl X x) (hm : X.mg x = none) (hv : bootBuiltins x = some (.type T)) (ha : DA g X (e :: es) as)
    (hn : x ≠ "__name__" := by decide) (hdb : (x == ("__debug__" : Str)) = false := by decide) (he : starEach (e :: es) X.env = (false, eval e X.env) :: starEach es X.env := by rfl) (hpl : (backTo pos (starEach es X.env)).any (·.1) = false := by rfl) :
    DE g X (.Call (.Name x p) (e :: es) [] pos) (fOp f as) := PE.imp (pe_callTy hc hg hm hv ha hn hdb he hpl) fun σ H Q h => op_key ops h
/-- a op b; a cmp b; a[b]; op a -/
theorem de_op {op : Operator} {r : R2} {f : List PyData → Option O} {x y : AF} (ho : OpR X (binaryOp op) r) (ops : OpS g.K (two r) f) (ha : DX g X a x) (hb : DX g X b y) : DE g X (.BinOp a op b pos) (fOp f [x, y]) :=
  PE.imp (pe_op ho ha hb) fun σ H Q h => tA2 (op_key ops h)
theorem de_cmp {op : CmpOp} {r : R2} {f : List PyData → Option O} {x y : AF} (ho : OpR X (compareOp op) r) (ops : OpS g.K (two r) f) (ha : DX g X a x) (hb : DX g X b y) (hm : behindInMarks op b = false) : DE g X (.Compare a [op] [b] pos) (fOp f [x, y]) :=
  PE.imp (pe_cmpR ho ha hb hm) fun σ H Q h => tA2 (op_key ops h)
theorem de_ix {r : R2} {f : List PyData → Option O} {x y : AF} (ho : IxR X r) (ops : OpS g.K (two r) f) (ha : DX g X a x) (hb : DX g X b y) (hs : PlainIx b) : DE g X (.Subscript a b pos) (fOp f [x, y]) :=
  PE.imp (pe_ix ho ha hb hs) fun σ H Q h => tA2 (op_key ops h)
theorem de_un {op : UnaryOp} {r : V → Hp → VK → Prop} {f : List PyData → Option O} {x : AF} (ho : UnR X (unaryOp op) r) (ops : OpS g.K (one r) f) (ha : DX g X a x) : DE g X (.UnaryOp op a pos) (fOp f [x]) :=
  PE.imp (pe_un ho ha) fun σ H Q h => tA1 (op_key ops h)
/-- arguments that are all data -/
def dvs : List AV → Option (List PyData)
  | [] => some []
  | .d x :: as => (dvs as).map (x :: ·)
  | .s _ :: _ => none
theorem dvs_rep {K : PySem.W.Frag} {I : Hp} {σ : St} : ∀ {as : List AV} {vs : List V} {ds : List PyData}, RepAV K I σ as vs → dvs as = some ds → RpAll K I vs ds
  | _, _, _, .nil, h => by cases h; exact .nil
  | _, _, _, .d (as := as) r t, h => by
    unfold dvs at h
    cases q : dvs as with
    | none => rw [q] at h; cases h
    | some es => rw [q] at h; cases h; exact .cons r (dvs_rep t q)
  | _, _, _, .s _ _, h => by cases h
def OpV (K : PySem.W.Frag) (r : List V → Hp → VK → Prop) (f : List PyData → Option O) : Prop :=
  ∀ (vs : List V) (ds : List PyData) (I H : Hp) (Q : VK) (o : O), Same I H → RpAll K I vs ds → f ds = some o → (∀ v H' I' R, Grow K I H I' H' o v R → Q v H') → r vs H Q
def fOv (f : List PyData → Option O) (as : List AF) : EF := fun env => evA as env >>= fun r => match dvs r.1 with
  | none => .no
  | some ds => match f ds with
    | none => .no
    | some o => .ok (o, r.2)
theorem ov_key {r : List V → Hp → VK → Prop} {f : List PyData → Option O} {as : List AF} {σ : St} {H : Hp} {Q : VK} (ops : OpV g.K r f) (h : tD g (fOv f as) σ H Q) : tA g as σ H fun vs H' => r vs H' Q := by
  obtain ⟨I, env, F, s, p⟩ := h
  refine ⟨I, env, F, s, ?_⟩
  unfold fOv at p
  cases q : evA as env with
  | no => rw [q] at p; exact p
  | er x => rw [q] at p; exact p
  | ok y =>
    rw [q, bind_ok] at p
    cases q2 : dvs y.1 with
    | none => rw [q2] at p; exact p.elim
    | some ds =>
      cases q3 : f ds with
      | none => simp only [q2, q3] at p; exact p.elim
      | some o =>
        simp only [q2, q3] at p
        intro vs H' I' F' s' st av
        exact ops vs ds I' H' Q o s'.sub (dvs_rep av q2) q3 fun v H'' I'' R gr => p v H'' (Aft.trans st (gr.aft s'))
/-- displays -/
def pTup (ds : List PyData) : Option O := if ds.length ≤ 100000 then some (.fr (.tuple ds)) else none
def pLst (ds : List PyData) : Option O := if ds.length ≤ 100000 then some (.ol ds) else none
/-- a new tuple is laid, plain -/
theorem ep_newT {X : Cx} {pins : List (Addr × Obj)} {σ : St} {H : Hp} {s : Shared} {xs : List V} {its : List Value} {Q : VK} (I : Inv X pins σ H s) (hz : xs.length ≤ sizeLine) (r : Vals xs its) (q : NewT H xs Q) :
    EP X pins σ Q (.ref s.heap.objs.size) { s with heap := s.heap.push { cls := .type "tuple", data := .seq its.toArray } } := by
  refine ⟨.ref s.heap.objs.size, upd H s.heap.objs.size (.frz { cls := .type "tuple", data := .seq its.toArray } (.tup xs)), I.laid (t' := s.toks) (fun b ob q => Heap.get?_push_of_some _ q) (Nat.le_refl _) ?_, rfl, q _ _ PlT.mk (I.hok.fresh (Nat.le_refl _))⟩
  exact ⟨Heap.get?_push_size _ rfl, hz, _, r, IsTup.new _ _⟩
/-- a tuple of written items, plain -/
def tTupP (t : TA) : TE := fun σ H Q => t σ H fun xs H1 => xs.length ≤ sizeLine ∧ NewT H1 xs Q
theorem pe_tupP {X : Cx} {es : List Expr} {t : TA} {pos : Pos} {x1} (h : PA X es t) : PE X (.Tuple es x1 pos) (tTupP t) := by
  refine ⟨fun pins s σ H Q I hq => ?_⟩
  refine wpAny_Tuple_spliced (thn (h.run pos pins s σ H _ I hq) fun us s1 ⟨xs, H1, I1, r, z, q⟩ => ⟨by rw [← r.length]; exact z, ?_⟩)
  have hf : H1 s1.heap.objs.size = none := I1.hok.fresh (Nat.le_refl _)
  refine ⟨.ref s1.heap.objs.size, upd H1 s1.heap.objs.size (.frz { cls := .type "tuple", data := .seq us.toArray } (.tup xs)), I1.laid (t' := s1.toks) (fun b u e => Heap.get?_push_of_some _ e) (Nat.le_refl _) ?_, rfl, q _ _ PlT.mk hf⟩
  exact ⟨Heap.get?_push_size _ rfl, z, us, r, ⟨_, Heap.get?_push_size _ rfl, rfl, _, rfl⟩⟩
theorem ov_tup {K : PySem.W.Frag} : OpV K (fun xs H1 Q => xs.length ≤ sizeLine ∧ NewT H1 xs Q) pTup := fun vs ds I H Q o s r e k => by
  unfold pTup at e
  by_cases hz : ds.length ≤ 100000
  · rw [if_pos hz] at e; cases e
    exact ⟨by rw [r.length]; exact Nat.le_trans hz (by decide), fun p _ pl np => k _ _ _ _ (Grow.tup s pl np r)⟩
  · rw [if_neg hz] at e; cases e
theorem ov_lst {K : PySem.W.Frag} : OpV K (fun xs H1 Q => xs.length ≤ sizeLine ∧ ∀ p, H1 p = none → Q (.ref p) (upd H1 p (.lst xs))) pLst := fun vs ds I H Q o s r e k => by
  unfold pLst at e
  by_cases hz : ds.length ≤ 100000
  · rw [if_pos hz] at e; cases e
    exact ⟨by rw [r.length]; exact Nat.le_trans hz (by decide), fun p np => k _ _ _ _ (Grow.lst s np r)⟩
  · rw [if_neg hz] at e; cases e
theorem de_tup {x1} {as : List AF} (h : DA g X es as) : DE g X (.Tuple es x1 pos) (fOv pTup as) := PE.imp (pe_tupP h) fun σ H Q q => ov_key ov_tup q
theorem de_lst {as : List AF} (h : DA g X es as) : DE g X (.List es pos) (fOv pLst as) := PE.imp (pe_lst h) fun σ H Q q => ov_key ov_lst q
/-- (a, *b) -/
def seqOf : PyData → Option (List PyData)
  | .list xs => some xs
  | .tuple xs => some xs
  | _ => none
def on1 (f : PyData → Option O) : List PyData → Option O
  | [a] => f a
  | _ => none
def on2 (f : PyData → PyData → Option O) : List PyData → Option O
  | [a, b] => f a b
  | _ => none
theorem ops1 {K : PySem.W.Frag} {r : V → Hp → VK → Prop} {f : PyData → Option O} (h : ∀ (v : V) (d : PyData) (I H : Hp) (Q : VK) (o : O), Same I H → RpS K I H v d → f d = some o → (∀ v H' I' R, Grow K I H I' H' o v R → Q v H') → r v H Q) : OpS K (one r) (on1 f) := by
  intro vs ds I H Q o s q e k
  match vs, ds, q with
  | _, _, .nil => simp [on1] at e
  | _, _, .cons q1 .nil => exact h _ _ I H Q o s q1 e k
  | _, _, .cons _ (.cons _ _) => simp [on1] at e
theorem ops2 {K : PySem.W.Frag} {r : R2} {f : PyData → PyData → Option O} (h : ∀ (v u : V) (d e : PyData) (I H : Hp) (Q : VK) (o : O), Same I H → RpS K I H v d → RpS K I H u e → f d e = some o → (∀ v H' I' R, Grow K I H I' H' o v R → Q v H') → r v u H Q) : OpS K (two r) (on2 f) := by
  intro vs ds I H Q o s q e k
  match vs, ds, q with
  | _, _, .nil => simp [on2] at e
  | _, _, .cons _ .nil => simp [on2] at e
  | _, _, .cons q1 (.cons q2 .nil) => exact h _ _ _ _ I H Q o s q1 q2 e k
  | _, _, .cons _ (.cons _ (.cons _ _)) => simp [on2] at e
def isL : PyData → Bool
  | .list _ => true
  | .dict _ => true
  | _ => false
def pStar (d x : PyData) : Option O := if isL d then none else match seqOf x with
  | some xs => if xs.length < 100000 then some (.fr (.tuple (d :: xs))) else none
  | none => none
theorem rps_rp {K : PySem.W.Frag} {I H : Hp} {v : V} {d : PyData} (h : RpS K I H v d) (n : isL d = false) : Rp K I v d := by
  rcases h with h | ⟨a, vs, ds, rfl, rfl, h1, h2⟩ | ⟨a, es, rfl, rfl, h1⟩
  · exact h
  · cases n
  · cases n
theorem rps_seq {K : PySem.W.Frag} {I H : Hp} {v : V} {d : PyData} {xs : List PyData} (s : Same I H) (h : RpS K I H v d) (e : seqOf d = some xs) : ∃ p vs, v = .ref p ∧ (SqT K H p vs ∨ SqL K H p vs) ∧ RpAll K I vs xs := by
  rcases h with h | ⟨a, vs, ds, rfl, rfl, h1, h2⟩ | ⟨a, es, rfl, rfl, h1⟩
  · cases h with
    | lst h1 h2 => cases e; exact ⟨_, _, rfl, .inr (h1.mono s).sq, h2⟩
    | tup h1 h2 => cases e; exact ⟨_, _, rfl, .inl (same_t s h1.sq), h2⟩
    | non => cases e
    | bl => cases e
    | int => cases e
    | str => cases e
    | dic => cases e
    | dit => cases e
  · cases e; exact ⟨_, _, rfl, .inr (SqL.of h1), h2⟩
  · cases e
end
end Dy
namespace Dy
open PySem PySem.Spec PyProof.Rows L2
theorem post_bind {α β : Type} {r : Res α} {k : α → Res β} {P : β → Prop} {E : Exn → Prop} : (r >>= k).post P E ↔ r.post (fun a => (k a).post P E) E := by
  cases r <;> exact Iff.rfl
theorem post_mono {α : Type} {r : Res α} {P P' : α → Prop} {E E' : Exn → Prop} (h : r.post P E) (hp : ∀ a, P a → P' a) (he : ∀ x, E x → E' x) : r.post P' E' := by
  cases r with
  | ok a => exact hp a h
  | er x => exact he x h
  | no => exact h
section
variable {g : G} {X : Cx} {a b c e : Expr} {es : List Expr} {pos : Pos} {σ : St} {H I : Hp} {env : Env} {F : Nat → List Addr}
theorem tD_seq {f : EF} {β : Type} {k : O × Env → Res β} {P : β → Prop} {Q : VK} (s : Sim g.K g.pn I H σ env F) (p : (f env >>= k).post P (g.err I H F))
    (h : ∀ r v H1, Aft g.K g.pn I H F σ r.2 r.1 v H1 → (k r).post P (g.err I H F) → Q v H1) : tD g f σ H Q :=
  ⟨I, env, F, s, post_mono (post_bind.mp p) (fun r q v H1 af => h r v H1 af q) fun _ z => z⟩
theorem tT_seq {f : TF} {β : Type} {k : Bool × Env → Res β} {P : β → Prop} {Q : Bool → Hp → Prop} (s : Sim g.K g.pn I H σ env F) (p : (f env >>= k).post P (g.err I H F))
    (h : ∀ r H1, AftS g.K g.pn I H F σ r.2 H1 → (k r).post P (g.err I H F) → Q r.1 H1) : tT g f σ H Q :=
  ⟨I, env, F, s, post_mono (post_bind.mp p) (fun r q H1 af => h r H1 af q) fun _ z => z⟩
def fB (f : EF) : TF := fun env => f env >>= fun r => match r.1 with
  | .fr (.bool b) => .ok (b, r.2)
  | _ => .no
theorem tB_key {f : EF} {Q : Bool → Hp → Prop} (h : tT g (fB f) σ H Q) : tD g f σ H fun x H1 => ∃ k, x = .bl k ∧ Q k H1 := by
  obtain ⟨I, env, F, s, p⟩ := h
  refine tD_seq s p fun r v H1 af q => ?_
  obtain ⟨o, e⟩ := r
  cases o with
  | ol _ => exact q.elim
  | oo _ => exact q.elim
  | od _ => exact q.elim
  | om _ => exact q.elim
  | fr d =>
    cases d with
    | bool b =>
      obtain ⟨I', F', rp, s', st⟩ := af.frz
      cases rp
      exact ⟨b, rfl, q H1 ⟨I', F', s', st⟩⟩
    | _ => exact q.elim
theorem dt_val {f : EF} (h : DE g X e f) (he : ∀ whole, isTrue e X.env whole = (do let v ← whole; standAt e.pos; holding [v] (truthy v)) := by intro _; rfl) : DT g X e (fB f) :=
  PT.imp (pt_val h he) fun σ H Q q => tB_key q
theorem dt_cmp {op : CmpOp} {r : R2} {f : List PyData → Option O} {x y : AF} (ho : OpR X (compareOp op) r) (ops : OpS g.K (two r) f) (ha : DX g X a x) (hb : DX g X b y) (hm : behindInMarks op b = false) : DT g X (.Compare a [op] [b] pos) (fB (fOp f [x, y])) :=
  PT.imp (pt_cmpR ho ha hb hm) fun σ H Q h => tA2 (op_key ops (tB_key h))
def fNot (t : TF) : TF := fun env => t env >>= fun r => .ok (!r.1, r.2)
theorem dt_not {t : TF} (h : DT g X a t) : DT g X (.UnaryOp .Not a pos) (fNot t) := PT.imp (pt_not h) fun σ H Q q => by
  obtain ⟨I, env, F, s, p⟩ := q
  exact tT_seq s p fun r H1 af q => q H1 af
def fAndT (t u : TF) : TF := fun env => t env >>= fun r => if r.1 = true then u r.2 else .ok (false, r.2)
def fOrT (t u : TF) : TF := fun env => t env >>= fun r => if r.1 = true then .ok (true, r.2) else u r.2
theorem AftS.go {P : Prop} {H1 : Hp} {env' : Env} (af : AftS g.K g.pn I H F σ env' H1) (h : ∀ I1 F1, Sim g.K g.pn I1 H1 σ env' F1 → Step I H (Ow F) I1 H1 (Ow F1) → P) : P := let ⟨I1, F1, s, st⟩ := af; h I1 F1 s st
theorem dw_and1 {t : TF} (h : DT g X a t) : DW g X (.BoolOp .And [a] pos) t := pw_and1 h
theorem dw_or1 {t : TF} (h : DT g X a t) : DW g X (.BoolOp .Or [a] pos) t := pw_or1 h
theorem tT_again {u : TF} {Q : Bool → Hp → Prop} {H1 : Hp} {env' : Env} (af : AftS g.K g.pn I H F σ env' H1) (p : (u env').post (fun r => ∀ H', AftS g.K g.pn I H F σ r.2 H' → Q r.1 H') (g.err I H F)) : tT g u σ H1 Q :=
  af.go fun I1 F1 s1 st => ⟨I1, env', F1, s1, post_mono p (fun r q H' af' => q H' (AftS.trans st af')) fun x z => err_step st z⟩
theorem tD_again {f : EF} {Q : VK} {H1 : Hp} {env' : Env} (af : AftS g.K g.pn I H F σ env' H1) (p : (f env').post (fun r => ∀ v H', Aft g.K g.pn I H F σ r.2 r.1 v H' → Q v H') (g.err I H F)) : tD g f σ H1 Q :=
  af.go fun I1 F1 s1 st => ⟨I1, env', F1, s1, post_mono p (fun r q v H' af' => q v H' (Aft.trans st af')) fun x z => err_step st z⟩
theorem dw_and {t u : TF} (ha : DT g X a t) (hb : DW g X (.BoolOp .And (b :: es) pos) u) : DW g X (.BoolOp .And (a :: b :: es) pos) (fAndT t u) := PW.imp (pw_and ha hb) fun σ H Q h => by
  obtain ⟨I, env, F, s, p⟩ := h
  refine tT_seq s p fun r H1 af q => ?_
  by_cases hr : r.1 = true
  · rw [if_pos hr] at q ⊢; exact tT_again af q
  · rw [if_neg hr] at q ⊢; exact q H1 af
theorem dw_or {t u : TF} (ha : DT g X a t) (hb : DW g X (.BoolOp .Or (b :: es) pos) u) : DW g X (.BoolOp .Or (a :: b :: es) pos) (fOrT t u) := PW.imp (pw_or ha hb) fun σ H Q h => by
  obtain ⟨I, env, F, s, p⟩ := h
  refine tT_seq s p fun r H1 af q => ?_
  by_cases hr : r.1 = true
  · rw [if_pos hr] at q ⊢; exact q H1 af
  · rw [if_neg hr] at q ⊢; exact tT_again af q
theorem dw_t {t : TF} (h : DW g X e t) : DT g X e t := PW.pt h
def fAnd (f k : EF) : EF := fun env => fB f env >>= fun r => if r.1 = true then k r.2 else .ok (.fr (.bool false), r.2)
def fOr (f k : EF) : EF := fun env => fB f env >>= fun r => if r.1 = true then .ok (.fr (.bool true), r.2) else k r.2
theorem de_one {op} {f : EF} (h : DE g X a f) : DE g X (.BoolOp op [a] pos) f := pe_one h
theorem tB_seq {f : EF} {β : Type} {k : Bool × Env → Res β} {P : β → Prop} {Q : VK} (s : Sim g.K g.pn I H σ env F) (p : (fB f env >>= k).post P (g.err I H F))
    (h : ∀ r H1, AftS g.K g.pn I H F σ r.2 H1 → (k r).post P (g.err I H F) → Q (.bl r.1) H1) : tD g f σ H Q := by
  refine tD_seq (k := fun r => (match r.1 with | .fr (.bool b) => Res.ok (b, r.2) | _ => .no) >>= k) s (by
    unfold fB at p
    rw [post_bind] at p ⊢
    rw [post_bind] at p
    exact post_mono p (fun r q => post_bind.mpr q) fun _ z => z) fun r v H1 af q => ?_
  obtain ⟨o, e⟩ := r
  cases o with
  | ol _ => exact q.elim
  | oo _ => exact q.elim
  | od _ => exact q.elim
  | om _ => exact q.elim
  | fr d =>
    cases d with
    | bool b =>
      obtain ⟨I', F', rp, s', st⟩ := af.frz
      cases rp
      exact h (b, e) H1 ⟨I', F', s', st⟩ q
    | _ => exact q.elim
theorem rbl {K : PySem.W.Frag} {I : Hp} {b : Bool} : Rp K I (.bl b) (.bool b) := .bl b
theorem AftS.val {H1 : Hp} {env' : Env} {d : PyData} {v : V} (af : AftS g.K g.pn I H F σ env' H1) (r : ∀ I, Rp g.K I v d) : Aft g.K g.pn I H F σ env' (.fr d) v H1 :=
  af.go fun I1 F1 s1 st => AftD.aft ⟨I1, F1, r I1, s1, st⟩
theorem de_and {f k : EF} (ha : DE g X a f) (hb : DE g X (.BoolOp .And (b :: es) pos) k) : DE g X (.BoolOp .And (a :: b :: es) pos) (fAnd f k) := PE.imp (pe_and ha hb) fun σ H Q h => by
  obtain ⟨I, env, F, s, p⟩ := h
  refine tB_seq s p fun r H1 af q => ⟨r.1, rfl, ?_⟩
  by_cases hr : r.1 = true
  · rw [if_pos hr] at q ⊢; exact tD_again af q
  · rw [if_neg hr] at q ⊢; exact q _ H1 (af.val fun _ => rbl)
def fNotV (f : EF) : EF := fun env => fB f env >>= fun r => .ok (.fr (.bool (!r.1)), r.2)
theorem de_not {f : EF} (ha : DE g X a f) : DE g X (.UnaryOp .Not a pos) (fNotV f) := PE.imp (pe_not ha) fun σ H Q h => by
  obtain ⟨I, env, F, s, p⟩ := h
  exact tB_seq s p fun r H1 af q => ⟨r.1, rfl, q _ H1 (af.val fun _ => rbl)⟩
def fIf (t : TF) (f k : EF) : EF := fun env => t env >>= fun r => if r.1 = true then f r.2 else k r.2
theorem de_if {t : TF} {f k : EF} (hc : DT g X c t) (ha : DE g X a f) (hb : DE g X b k) : DE g X (.IfExp c a b pos) (fIf t f k) := PE.imp (pe_ifExp hc ha hb) fun σ H Q h => by
  obtain ⟨I, env, F, s, p⟩ := h
  refine tT_seq s p fun r H1 af q => ?_
  by_cases hr : r.1 = true
  · rw [if_pos hr] at q ⊢; exact tD_again af q
  · rw [if_neg hr] at q ⊢; exact tD_again af q
/-- a < b < c of ints -/
def ints2 : Option (List PyData) → Option (Int × Int)
  | some [.int i, .int j] => some (i, j)
  | _ => none
def ints1 : Option (List PyData) → Option Int
  | some [.int i] => some i
  | _ => none
theorem ints2_inv {x : Option (List PyData)} {i j : Int} (h : ints2 x = some (i, j)) : x = some [.int i, .int j] := by
  unfold ints2 at h
  split at h
  · cases h; rfl
  · cases h
theorem ints1_inv {x : Option (List PyData)} {i : Int} (h : ints1 x = some i) : x = some [.int i] := by
  unfold ints1 at h
  split at h
  · cases h; rfl
  · cases h
def fChI (c1 c2 : Int → Int → Bool) (x y z : AF) : EF := fun env => evA [x, y] env >>= fun r => match ints2 (rsvs r.2 r.1) with
  | some ij => if c1 ij.1 ij.2 = true then evA [z] r.2 >>= fun q => match ints1 (rsvs q.2 q.1) with
      | some k => .ok (.fr (.bool (c2 ij.2 k)), q.2)
      | none => .no
    else .ok (.fr (.bool false), r.2)
  | none => .no
theorem rpss_int {K : PySem.W.Frag} {I H : Hp} {v : V} {i : Int} (h : RpS K I H v (.int i)) : v = .int i := by
  rcases h with h | ⟨_, _, _, _, e, _⟩ | ⟨_, _, _, e, _⟩
  · cases h; rfl
  · cases e
  · cases e
theorem ch_key {c1 c2 : Int → Int → Bool} {x y z : AF} {Q : VK} (h : tD g (fChI c1 c2 x y z) σ H Q) : tArg g x σ H fun v H1 => tArg g y σ H1 fun u H2 => rI0 (fun i j => .bl (c1 i j)) v u H2 fun w H3 => ∃ k, w = .bl k ∧
    (if k = true then tArg g z σ H3 fun w' H4 => rI0 (fun i j => .bl (c2 i j)) u w' H4 Q else Q (.bl false) H3) := by
  obtain ⟨I, env, F, s, p⟩ := h
  have key : tA g [x, y] σ H (fun vs H2 => ∃ v u, vs = [v, u] ∧ rI0 (fun i j => .bl (c1 i j)) v u H2 fun w H3 => ∃ k, w = .bl k ∧ (if k = true then tArg g z σ H3 fun w' H4 => rI0 (fun i j => .bl (c2 i j)) u w' H4 Q else Q (.bl false) H3)) := by
    refine ⟨I, env, F, s, post_mono (post_bind.mp p) (fun r q vs H' I' F' s' st av => ?_) fun _ z => z⟩
    cases q2 : ints2 (rsvs r.2 r.1) with
    | none => simp only [q2] at q; exact q.elim
    | some ij =>
      obtain ⟨i, j⟩ := ij
      simp only [q2] at q
      have rr := rsvs_rep s' av (ints2_inv q2)
      match vs, rr with
      | _, .cons r1 (.cons r2 .nil) =>
        cases rpss_int r1
        cases rpss_int r2
        refine ⟨_, _, rfl, i, j, rfl, rfl, c1 i j, rfl, ?_⟩
        by_cases hc : c1 i j = true
        · rw [if_pos hc] at q ⊢
          refine tArg_mono (tA1 (R := fun vs H4 => ∃ w', vs = [w'] ∧ rI0 (fun i j => .bl (c2 i j)) (V.int j) w' H4 Q) ⟨I', r.2, F', s', post_mono (post_bind.mp q) (fun r3 q3 vs3 H3 I3 F3 s3 st3 av3 => ?_) fun x zz => err_step st zz⟩) fun w' H4 ⟨_, e4, q4⟩ => by cases e4; exact q4
          cases q5 : ints1 (rsvs r3.2 r3.1) with
          | none => simp only [q5] at q3; exact q3.elim
          | some k =>
            simp only [q5] at q3
            have rr3 := rsvs_rep s3 av3 (ints1_inv q5)
            match vs3, rr3 with
            | _, .cons r1 .nil =>
              cases rpss_int r1
              exact ⟨_, rfl, j, k, rfl, rfl, q3 _ H3 (AftS.val ⟨I3, F3, s3, st.trans st3⟩ fun _ => rbl)⟩
        · rw [if_neg hc] at q ⊢
          exact q _ H' (AftS.val ⟨I', F', s', st⟩ fun _ => rbl)
  refine tArg_mono (tA2 key) fun v H1 q => tArg_mono q fun u H2 q => ?_
  obtain ⟨v', u', e, q⟩ := q
  cases e
  exact q
theorem de_chI {op op' : CmpOp} {c1 c2 : Int → Int → Bool} {x y z : AF} (ho : OpR X (compareOp op) (rI0 fun i j => .bl (c1 i j))) (ho' : OpR X (compareOp op') (rI0 fun i j => .bl (c2 i j))) (h : ∀ {ta tb tc : TE}, PE X a ta → PE X b tb → PE X c tc → PE X e (tChain (rI0 fun i j => .bl (c1 i j)) (rI0 fun i j => .bl (c2 i j)) ta tb tc))
    (ha : DX g X a x) (hb : DX g X b y) (hc : DX g X c z) : DE g X e (fChI c1 c2 x y z) := PE.imp (h ha hb hc) fun σ H Q q => ch_key q
theorem dt_chI {c1 c2 : Int → Int → Bool} {x y z : AF} (h : ∀ {ta tb tc : TE}, PE X a ta → PE X b tb → PE X c tc → PT X e (tTest (tChain (rI0 fun i j => .bl (c1 i j)) (rI0 fun i j => .bl (c2 i j)) ta tb tc)))
    (ha : DX g X a x) (hb : DX g X b y) (hc : DX g X c z) : DT g X e (fB (fChI c1 c2 x y z)) := PT.imp (h ha hb hc) fun σ H Q q => ch_key (tB_key q)
variable {st : Stmt} {rest : List Stmt} {D : Ends}
theorem FlP_step {I1 H1 : Hp} {F1 : Nat → List Addr} {r : Fl × Env} (st : Step I H (Ow F) I1 H1 (Ow F1)) (h : FlP g D I H F r) : FlP g D I1 H1 F1 r := by
  obtain ⟨fl, e⟩ := r
  cases fl with
  | nx => exact fun σ' H' af => h σ' H' (AftS.trans st af)
  | bk => exact fun σ' H' af => h σ' H' (AftS.trans st af)
  | ct => exact fun σ' H' af => h σ' H' (AftS.trans st af)
  | rt o => exact fun v σ' H' af => h v σ' H' (Aft.trans st af)
def fSeq (s t : SF) : SF := fun env => s env >>= fun r => match r.1 with
  | .nx => t r.2
  | _ => .ok r
def fSkip : SF := fun env => .ok (.nx, env)
def fNo : SF := fun _ => .no
theorem dss_nil : DSs g X [] fSkip := PSs.imp pss_nil fun D σ H h => by
  obtain ⟨I, env, F, s, p⟩ := h
  exact p σ H ⟨I, F, s, Step.refl⟩
theorem dss_one {f : SF} (h : DS g X st f) : DSs g X [st] f := pss_one h
theorem tS_again {f : SF} {σ' : St} {H1 : Hp} {env' : Env} (af : AftS g.K g.pn I H F σ' env' H1) (p : (f env').post (FlP g D I H F) (g.err I H F)) : tS g f D σ' H1 := by
  obtain ⟨I1, F1, s, st⟩ := af
  exact ⟨I1, env', F1, s, post_mono p (fun r q => FlP_step st q) fun x z => err_step st z⟩
theorem dss_cons {f k : SF} (h1 : DS g X st f) (h2 : DSs g X rest k) : DSs g X (st :: rest) (fSeq f k) := PSs.imp (pss_cons h1 h2) fun D σ H h => by
  obtain ⟨I, env, F, s, p⟩ := h
  refine ⟨I, env, F, s, post_mono (post_bind.mp p) (fun r q => ?_) fun _ z => z⟩
  obtain ⟨fl, e⟩ := r
  cases fl with
  | nx => exact fun σ' H' af => tS_again af q
  | bk => exact q
  | ct => exact q
  | rt o => exact q
def fRet (f : EF) : SF := fun env => f env >>= fun r => .ok (.rt r.1, r.2)
theorem ds_ret {f : EF} (h : DE g X e f) : DS g X (.Return (some e) pos) (fRet f) := PS.imp (ps_ret h) fun D σ H h => by
  obtain ⟨I, env, F, s, p⟩ := h
  exact tD_seq s p fun r v H1 af q => q v σ H1 af
def fEx (f : EF) : SF := fun env => f env >>= fun r => .ok (.nx, r.2)
theorem ds_expr {f : EF} (h : DE g X e f) (hs : swapsWith e none pos.line X.env = pure false := by rfl) : DS g X (.Expr e pos) (fEx f) := PS.imp (ps_expr h hs) fun D σ H h => by
  obtain ⟨I, env, F, s, p⟩ := h
  exact tD_seq s p fun r v H1 af q => q σ H1 af.frz.toS
def fIfS (t : TF) (f k : SF) : SF := fun env => t env >>= fun r => if r.1 = true then f r.2 else k r.2
theorem ds_if {t : TF} {f k : SF} {s1 s2 : List Stmt} (hc : DT g X c t) (ha : DSs g X s1 f) (hb : DSs g X s2 k) : DS g X (.If c s1 s2 pos) (fIfS t f k) := PS.imp (ps_if hc ha hb) fun D σ H h => by
  obtain ⟨I, env, F, s, p⟩ := h
  refine tT_seq s p fun r H1 af q => ?_
  by_cases hr : r.1 = true
  · rw [if_pos hr] at q ⊢; exact tS_again af q
  · rw [if_neg hr] at q ⊢; exact tS_again af q
theorem ow_up {i : Nat} {R : List Addr} {x : Addr} (h : Ow (upF F i R) x) : Ow F x ∨ x ∈ R := by
  obtain ⟨j, hj⟩ := h
  by_cases e : j = i
  · subst e; rw [upF_same] at hj; exact .inr hj
  · rw [upF_ne e] at hj; exact .inl ⟨j, hj⟩
/-- what an expression gave is stored in slot i -/
theorem Aft.store {i : Nat} {o : O} {v : V} {H1 : Hp} {env' : Env} (hi : i < env'.length) (hp : i ∉ g.pn.1) (af : Aft g.K g.pn I H F σ env' o v H1) : AftS g.K g.pn I H F (σ.set i (some v)) (env'.set i (some o)) H1 := by
  obtain ⟨I', F', R, r, s, nR, dR, st⟩ := af
  refine ⟨I', upF F' i R, s.put hi (Same.refl _) s.sub (fun _ _ _ _ => rfl) (fun j _ a ha => s.djI j a ha) nR (fun j _ a ha => dR a ⟨j, ha⟩) (fun o' e => ?_) (fun e => by cases e) (fun h => absurd h hp), st.less fun a ha => ow_up ha⟩
  cases e; exact ⟨v, rfl, r⟩
def fSet (i : Nat) (f : EF) : SF := fun env => f env >>= fun r => if i < r.2.length then .ok (.nx, r.2.set i (some r.1)) else .no
theorem set_key {i : Nat} {f : EF} (hp : i ∉ g.pn.1) (h : tS g (fSet i f) D σ H) : tAsg (tD g f) (gName i) D σ H := by
  obtain ⟨I, env, F, s, p⟩ := h
  refine tD_seq s p fun r v H1 af q => ?_
  by_cases hi : i < r.2.length
  · rw [if_pos hi] at q; exact q _ _ (af.store hi hp)
  · rw [if_neg hi] at q; exact q.elim
theorem ds_set {i : Nat} {x : Str} {f : EF} {pos' : Pos} (hN : X.N.Nodup) (hi : X.N[i]? = some x) (hx : Loc X.env.scope x) (hp : i ∉ g.pn.1) (he : DE g X e f) (hs : swapsWith e (some (.Name x pos')) pos.line X.env = pure false := by rfl)
    (hf : X.fn x = true ∨ X.env.scope.names.lookup x = some .local := by first | exact .inl rfl | exact .inr rfl | assumption) : DS g X (.Assign [.Name x pos'] e pos) (fSet i f) := PS.imp (ps_set hN hi hx he hs hf) fun D σ H h => set_key hp h
inductive T1 where
  | n (i : Nat)
  | t (is : List Nat)
def T1.slots : T1 → List Nat
  | .n i => [i]
  | .t is => is
inductive Tg where
  | nm (i : Nat)
  | tu (is : List Nat)
  | tl (is : List Nat)
  | tw (ts : List T1)
def gNames : List Nat → TGs
  | [] => gNil
  | i :: is => gCons (gName i) (gNames is)
def gW (K : PySem.W.Frag) : List T1 → TGs
  | [] => gNil
  | .n i :: ts => gCons (gName i) (gW K ts)
  | .t is :: ts => gCons (gTup K is.length (gNames is)) (gW K ts)
def rdT (K : PySem.W.Frag) : Tg → TG
  | .nm i => gName i
  | .tu is => gTup K is.length (gNames is)
  | .tl is => gUnl K is.length (gNames is)
  | .tw ts => gTup K ts.length (gW K ts)
def Tg.slots : Tg → List Nat
  | .nm i => [i]
  | .tu is => is
  | .tl is => is
  | .tw ts => ts.flatMap T1.slots
def setAll : List Nat → List PyData → Env → Option Env
  | [], [], e => some e
  | i :: is, d :: ds, e => if i < e.length then setAll is ds (e.set i (some (.fr d))) else none
  | _, _, _ => none
def setW : List T1 → List PyData → Env → Option Env
  | [], [], e => some e
  | .n i :: ts, d :: ds, e => if i < e.length then setW ts ds (e.set i (some (.fr d))) else none
  | .t is :: ts, .tuple xs :: ds, e => match setAll is xs e with
    | some e' => setW ts ds e'
    | none => none
  | _, _, _ => none
def asT : Tg → PyData → Env → Res Env
  | .nm i, d, e => ofO (setAll [i] [d] e)
  | .tu is, .tuple ds, e => ofO (setAll is ds e)
  | .tl is, .list ds, e => ofO (setAll is ds e)
  | .tw ts, .tuple ds, e => ofO (setW ts ds e)
  | _, _, _ => .no
/-- σ' is σ but for some slots -/
def Only' (is : List Nat) (σ σ' : St) : Prop := σ'.length = σ.length ∧ ∀ i, i ∉ is → σ'[i]? = σ[i]?
theorem names_key : ∀ (is : List Nat) {vs : List V} {ds : List PyData} {σ : St} {env env' : Env} {F : Nat → List Addr} {I H : Hp} {Q : St → Hp → Prop}, (∀ i ∈ is, i ∉ g.pn.1) → Sim g.K g.pn I H σ env F → RpAll g.K I vs ds → setAll is ds env = some env' →
    (∀ σ' F', Only' is σ σ' → Sim g.K g.pn I H σ' env' F' → (∀ a, Ow F' a → Ow F a) → Q σ' H) → gNames is vs σ H Q
  | [], _, _, σ, env, env', F, I, H, Q, _, s, .nil, e, k => by cases e; exact ⟨rfl, k σ F ⟨rfl, fun _ _ => rfl⟩ s fun _ z => z⟩
  | [], _, _, _, _, _, _, _, _, _, _, _, .cons _ _, e, _ => by cases e
  | _ :: _, _, _, _, _, _, _, _, _, _, _, _, .nil, e, _ => by cases e
  | i :: is, _, _, σ, env, env', F, I, H, Q, hp, s, .cons (v := v) (d := d) r t, e, k => by
    unfold setAll at e
    by_cases hi : i < env.length
    · rw [if_pos hi] at e
      refine ⟨v, _, rfl, ?_⟩
      have s1 : Sim g.K g.pn I H (σ.set i (some v)) (env.set i (some (.fr d))) (upF F i []) := s.put hi (Same.refl _) s.sub (fun _ _ _ _ => rfl) (fun j _ a ha => s.djI j a ha) (fun _ h => nomatch h) (fun _ _ _ _ h => nomatch h) (fun o e => by cases e; exact ⟨v, rfl, rfl, r⟩) (fun e => by cases e) (fun h => absurd h (hp i (by simp)))
      refine names_key is (fun j hj => hp j (by simp [hj])) s1 t e fun σ' F' ho s' hF => k σ' F' ⟨by rw [ho.1, List.length_set], fun j hj => ?_⟩ s' fun a ha => ?_
      · simp only [List.mem_cons, not_or] at hj
        rw [ho.2 j hj.2, List.getElem?_set_ne (Ne.symm hj.1)]
      · rcases ow_up (hF a ha) with z | z
        · exact z
        · cases z
    · rw [if_neg hi] at e; cases e
theorem setAll_len : ∀ (is : List Nat) (ds : List PyData) (a b : Env), setAll is ds a = some b → ds.length = is.length := by
  intro is
  induction is with
  | nil => intro ds a b h; cases ds <;> simp [setAll] at h ⊢
  | cons i is ih =>
    intro ds a b h
    cases ds with
    | nil => simp [setAll] at h
    | cons d ds =>
      unfold setAll at h
      split at h
      · simp [ih _ _ _ h]
      · cases h
theorem setW_len : ∀ (ts : List T1) (ds : List PyData) (a b : Env), setW ts ds a = some b → ds.length = ts.length
  | [], [], _, _, _ => rfl
  | [], _ :: _, _, _, h => by simp [setW] at h
  | .n i :: ts, [], _, _, h => by simp [setW] at h
  | .t is :: ts, [], _, _, h => by simp [setW] at h
  | .n i :: ts, d :: ds, a, b, h => by
    unfold setW at h
    split at h
    · simp [setW_len ts ds _ _ h]
    · cases h
  | .t is :: ts, d :: ds, a, b, h => by
    cases d with
    | tuple xs =>
      simp only [setW] at h
      split at h
      · simp [setW_len ts ds _ _ h]
      · cases h
    | _ => simp [setW] at h
theorem w_key : ∀ (ts : List T1) {vs : List V} {ds : List PyData} {σ : St} {env env' : Env} {F : Nat → List Addr} {I H : Hp} {Q : St → Hp → Prop}, (∀ i ∈ ts.flatMap T1.slots, i ∉ g.pn.1) → Sim g.K g.pn I H σ env F → RpAll g.K I vs ds → setW ts ds env = some env' →
    (∀ σ' F', Only' (ts.flatMap T1.slots) σ σ' → Sim g.K g.pn I H σ' env' F' → (∀ a, Ow F' a → Ow F a) → Q σ' H) → gW g.K ts vs σ H Q
  | [], _, _, σ, env, env', F, I, H, Q, _, s, .nil, e, k => by cases e; exact ⟨rfl, k σ F ⟨rfl, fun _ _ => rfl⟩ s fun _ z => z⟩
  | [], _, _, _, _, _, _, _, _, _, _, _, .cons _ _, e, _ => by cases e
  | .n _ :: _, _, _, _, _, _, _, _, _, _, _, _, .nil, e, _ => by cases e
  | .t _ :: _, _, _, _, _, _, _, _, _, _, _, _, .nil, e, _ => by cases e
  | .n i :: ts, _, _, σ, env, env', F, I, H, Q, hp, s, .cons (v := v) (d := d) r t, e, k => by
    unfold setW at e
    by_cases hi : i < env.length
    · rw [if_pos hi] at e
      refine ⟨v, _, rfl, ?_⟩
      have s1 : Sim g.K g.pn I H (σ.set i (some v)) (env.set i (some (.fr d))) (upF F i []) := s.put hi (Same.refl _) s.sub (fun _ _ _ _ => rfl) (fun j _ a ha => s.djI j a ha) (fun _ h => nomatch h) (fun _ _ _ _ h => nomatch h) (fun o e => by cases e; exact ⟨v, rfl, rfl, r⟩) (fun e => by cases e) (fun h => absurd h (hp i (by simp [T1.slots])))
      refine w_key ts (fun j hj => hp j (by rw [List.flatMap_cons]; exact List.mem_append_right _ hj)) s1 t e fun σ' F' ho s' hF => k σ' F' ⟨by rw [ho.1, List.length_set], fun j hj => ?_⟩ s' fun a ha => ?_
      · rw [List.flatMap_cons] at hj
        have h1 : j ≠ i := fun z => hj (List.mem_append_left _ (by simp [T1.slots, z]))
        rw [ho.2 j fun z => hj (List.mem_append_right _ z), List.getElem?_set_ne (Ne.symm h1)]
      · rcases ow_up (hF a ha) with z | z
        · exact z
        · cases z
    · rw [if_neg hi] at e; cases e
  | .t is :: ts, _, _, σ, env, env', F, I, H, Q, hp, s, .cons (v := v) (d := d) r t, e, k => by
    cases d with
    | tuple xs =>
      simp only [setW] at e
      cases q : setAll is xs env with
      | none => rw [q] at e; cases e
      | some e1 =>
        rw [q] at e
        cases r with
        | tup h1 h2 =>
          refine ⟨_, _, rfl, _, _, rfl, same_t s.sub h1.sq, by rw [h2.length]; exact setAll_len _ _ _ _ q, names_key is (fun j hj => hp j (by rw [List.flatMap_cons]; exact List.mem_append_left _ hj)) s h2 q fun σ1 F1 ho1 s1 hF1 => ?_⟩
          refine w_key ts (fun j hj => hp j (by rw [List.flatMap_cons]; exact List.mem_append_right _ hj)) s1 t e fun σ' F' ho s' hF => k σ' F' ⟨by rw [ho.1, ho1.1], fun j hj => ?_⟩ s' fun a ha => hF1 a (hF a ha)
          rw [List.flatMap_cons] at hj
          rw [ho.2 j fun z => hj (List.mem_append_right _ z), ho1.2 j fun z => hj (List.mem_append_left _ z)]
    | _ => simp [setW] at e
theorem tg_key {t : Tg} {v : V} {d : PyData} {env' : Env} {Q : St → Hp → Prop} (hp : ∀ i ∈ t.slots, i ∉ g.pn.1) (s : Sim g.K g.pn I H σ env F) (r : Rp g.K I v d) (e : asT t d env = .ok env')
    (k : ∀ σ' F', Only' t.slots σ σ' → Sim g.K g.pn I H σ' env' F' → (∀ a, Ow F' a → Ow F a) → Q σ' H) : rdT g.K t v σ H Q := by
  have ofs : ∀ {x : Option Env}, ofO x = .ok env' → x = some env' := fun {x} h => by cases x <;> cases h; rfl
  cases t with
  | nm i =>
    have := names_key [i] hp s (.cons r .nil) (ofs e) k
    obtain ⟨v', r', e1, q⟩ := this
    cases e1
    exact q.2
  | tu is =>
    cases r with
    | tup h1 h2 =>
      have e := ofs e
      have hl : ∀ (is : List Nat) (ds : List PyData) (a b : Env), setAll is ds a = some b → ds.length = is.length := by
        intro is
        induction is with
        | nil => intro ds a b h; cases ds <;> simp [setAll] at h ⊢
        | cons i is ih =>
          intro ds a b h
          cases ds with
          | nil => simp [setAll] at h
          | cons d ds =>
            unfold setAll at h
            split at h
            · simp [ih _ _ _ h]
            · cases h
      exact ⟨_, _, rfl, same_t s.sub h1.sq, by rw [h2.length]; exact hl _ _ _ _ e, names_key is hp s h2 e k⟩
    | _ => cases e
  | tl is =>
    cases r with
    | lst h1 h2 =>
      have e := ofs e
      have hl : ∀ (is : List Nat) (ds : List PyData) (a b : Env), setAll is ds a = some b → ds.length = is.length := by
        intro is
        induction is with
        | nil => intro ds a b h; cases ds <;> simp [setAll] at h ⊢
        | cons i is ih =>
          intro ds a b h
          cases ds with
          | nil => simp [setAll] at h
          | cons d ds =>
            unfold setAll at h
            split at h
            · simp [ih _ _ _ h]
            · cases h
      exact ⟨_, _, rfl, (h1.mono s.sub).sq, by rw [h2.length]; exact hl _ _ _ _ e, names_key is hp s h2 e k⟩
    | _ => cases e
  | tw ts =>
    cases r with
    | tup h1 h2 =>
      have e := ofs e
      exact ⟨_, _, rfl, same_t s.sub h1.sq, by rw [h2.length]; exact setW_len _ _ _ _ e, w_key ts hp s h2 e k⟩
    | _ => cases e
/-- a, b = e -/
def fAsT (t : Tg) (f : EF) : SF := fun env => f env >>= fun r => asT t r.1.data r.2 >>= fun e => .ok (.nx, e)
theorem ds_asT {t : Tg} {f : EF} {tg : Expr} (hp : ∀ i ∈ t.slots, i ∉ g.pn.1) (he : DE g X e f) (hg : PG X tg (rdT g.K t)) (hs : swapsWithSole [tg] e pos.line X.env = pure false := by rfl) (hw : swappedStores [tg] e X.env = pure none := by rfl)
    (h1 : (assignEach [tg] X.env).map (·.2) = [assign tg X.env] := by rfl) : DS g X (.Assign [tg] e pos) (fAsT t f) := PS.imp (ps_asg he hg hs hw h1) fun D σ H h => by
  obtain ⟨I, env, F, s, p⟩ := h
  refine tD_seq s p fun r v H1 af q => ?_
  obtain ⟨I', F', rp, s', st⟩ := af.frz
  cases q2 : asT t r.1.data r.2 with
  | no => rw [q2] at q; exact q.elim
  | er x => exfalso; revert q2; unfold asT ofO; split <;> (try split) <;> exact fun h => by cases h
  | ok e' =>
    rw [q2] at q
    exact tg_key hp s' rp q2 fun σ' F'' _ s'' hF => q σ' H1 ⟨I', F'', s'', st.less hF⟩
def ItOk (K : PySem.W.Frag) (I0 : Hp) (J : It) (ds : List PyData) : Prop := ∀ (I H : Hp) (i : Nat), Same I0 I → Same I H →
  (∀ d, ds[i]? = some d → J.go i H ∧ ∀ x H', J.yld i H x H' → ∃ I', Grow K I H I' H' (.fr d) x []) ∧ (ds.length = i → J.stop i H)
abbrev IF := Env → Res (List PyData × Env)
def tI (g : G) (f : IF) : TI := fun σ H R => ∃ I env F, Sim g.K g.pn I H σ env F ∧ (f env).post (fun r => ∀ J H' I' F', Sim g.K g.pn I' H' σ r.2 F' → Step I H (Ow F) I' H' (Ow F') → ItOk g.K I' J r.1 → R J H') (g.err I H F)
def DI (g : G) (X : Cx) (tg iter : Expr) (f : IF) : Prop := PI X tg iter (tI g f)
def fFor (t : Tg) (body : SF) : List PyData → SF
  | [], env => .ok (.nx, env)
  | d :: ds, env => asT t d env >>= fun e => body e >>= fun r => match r.1 with
    | .nx => fFor t body ds r.2
    | .ct => fFor t body ds r.2
    | .bk => .ok (.nx, r.2)
    | .rt o => .ok (.rt o, r.2)
def fForS (f : IF) (t : Tg) (body : SF) : SF := fun env => f env >>= fun r => fFor t body r.1 r.2
theorem asT_er {t : Tg} {d : PyData} {x : Exn} : asT t d env ≠ .er x := by
  unfold asT ofO
  split <;> (try split) <;> exact fun h => by cases h
theorem for_key {J : It} {ds : List PyData} {t : Tg} {body : SF} (hp : ∀ i ∈ t.slots, i ∉ g.pn.1) (s : Sim g.K g.pn I H σ env F) (ok : ItOk g.K I J ds) (p : (fFor t body ds env).post (FlP g D I H F) (g.err I H F)) :
    ∃ W : Nat → Nat → St → Hp → Prop, (∃ m, W 0 m σ H) ∧ ∀ i m σ H, W i m σ H →
      (J.stop i H ∧ D.nx σ H) ∨ (J.go i H ∧ ∃ N : St → Hp → Prop, (∀ σ' H', N σ' H' → ∃ m', m' < m ∧ W (i + 1) m' σ' H') ∧ ∀ x H', J.yld i H x H' → rdT g.K t x σ H' fun σ2 H2 => tS g body { D with nx := N, ct := N, bk := D.nx } σ2 H2) := by
  let L : List PyData → St → Hp → Prop := fun ds' σ H => ∃ I1 env F, Sim g.K g.pn I1 H σ env F ∧ Same I I1 ∧ (fFor t body ds' env).post (FlP g D I1 H F) (g.err I1 H F)
  refine ⟨fun i m σ H => m = ds.length - i ∧ i ≤ ds.length ∧ L (ds.drop i) σ H, ⟨ds.length, by simp, Nat.zero_le _, I, env, F, s, Same.refl _, p⟩, ?_⟩
  rintro i m σ H ⟨rfl, hi, I1, env, F, s, sm, p⟩
  by_cases hlt : i < ds.length
  · have hd : ds[i]? = some ds[i] := List.getElem?_eq_getElem hlt
    have dr : ds.drop i = ds[i] :: ds.drop (i + 1) := List.drop_eq_getElem_cons hlt
    rw [dr] at p
    have ok1 := (ok I1 H i sm s.sub).1 _ hd
    refine .inr ⟨ok1.1, L (ds.drop (i + 1)), fun σ' H' n => ⟨ds.length - (i + 1), by omega, rfl, hlt, n⟩, fun x H' y => ?_⟩
    obtain ⟨I2, gr⟩ := ok1.2 x H' y
    have p2 := post_bind.mp p
    cases q2 : asT t ds[i] env with
    | no => rw [q2] at p2; exact p2.elim
    | er x => exact absurd q2 asT_er
    | ok e' =>
      rw [q2] at p2
      obtain ⟨I3, F3, rp, s3, st3⟩ := (gr.aft s).frz
      refine tg_key hp s3 rp q2 fun σ' F'' _ s'' hF => ?_
      have st4 := st3.less hF
      refine ⟨I3, e', F'', s'', post_mono (post_bind.mp p2) (fun r q => ?_) fun x z => err_step st4 z⟩
      obtain ⟨fl, e⟩ := r
      have nxt : (fFor t body (ds.drop (i + 1)) e).post (FlP g D I1 H F) (g.err I1 H F) → ∀ σ5 H5, AftS g.K g.pn I3 H' F'' σ5 e H5 → L (ds.drop (i + 1)) σ5 H5 := fun q σ5 H5 af => by
        obtain ⟨I5, F5, s5, st5⟩ := af
        have st6 := st4.trans st5
        exact ⟨I5, e, F5, s5, sm.trans st6.i1, post_mono q (fun r z => FlP_step st6 z) fun x z => err_step st6 z⟩
      cases fl with
      | nx => exact fun σ5 H5 af => nxt q σ5 H5 af
      | ct => exact fun σ5 H5 af => nxt q σ5 H5 af
      | bk => exact fun σ5 H5 af => q σ5 H5 (AftS.trans st4 af)
      | rt o => exact fun v σ5 H5 af => q v σ5 H5 (Aft.trans st4 af)
  · have e : i = ds.length := by omega
    subst e
    rw [List.drop_length] at p
    exact .inl ⟨(ok I1 H _ sm s.sub).2 rfl, p σ H ⟨I1, F, s, Step.refl⟩⟩
theorem ds_for {f : IF} {t : Tg} {body : SF} {tg iter : Expr} {sb : List Stmt} (hp : ∀ i ∈ t.slots, i ∉ g.pn.1) (hps : PassesOwn (model X.prog X.w) X.A X.env X.xe) (hc : X.calm = true) (hi : DI g X tg iter f) (hg : PG X tg (rdT g.K t)) (hb : DSs g X sb body)
    (hs : ∀ x, foldedSetIterable iter X.env x = pure x := by intro _; rfl) : DS g X (.For tg iter sb [] pos) (fForS f t body) := PS.imp (ps_for hps hc hi hg hb hs) fun D σ H h => by
  obtain ⟨I, env, F, s, p⟩ := h
  refine ⟨I, env, F, s, post_mono (post_bind.mp p) (fun r q J H' I' F' s' st ok => ?_) fun _ z => z⟩
  exact for_key hp s' ok (post_mono q (fun r z => FlP_step st z) fun x z => err_step st z)
/-- while -/
def fWhile (t : TF) (body : SF) : Nat → SF
  | 0, _ => .no
  | n + 1, env => t env >>= fun b => if b.1 = true then body b.2 >>= fun r => match r.1 with
      | .nx => fWhile t body n r.2
      | .ct => fWhile t body n r.2
      | .bk => .ok (.nx, r.2)
      | .rt o => .ok (.rt o, r.2)
    else .ok (.nx, b.2)
theorem ds_while {t : TF} {body : SF} {sb : List Stmt} (n : Nat) (hps : PassesOwn (model X.prog X.w) X.A X.env X.xe) (hc : DT g X c t) (hb : DSs g X sb body) : DS g X (.While c sb [] pos) (fWhile t body n) := PS.imp (ps_while hps hc hb) fun D σ H h => by
  obtain ⟨I, env, F, s, p⟩ := h
  let L : Nat → St → Hp → Prop := fun m σ H => ∃ I1 env F, Sim g.K g.pn I1 H σ env F ∧ (fWhile t body m env).post (FlP g D I1 H F) (g.err I1 H F)
  refine ⟨L, ⟨n, I, env, F, s, p⟩, ?_⟩
  rintro m σ H ⟨I1, env, F, s, p⟩
  cases m with
  | zero => exact p.elim
  | succ m =>
    refine tT_seq s p fun b H1 af q => ?_
    by_cases hb : b.1 = true
    · rw [if_pos hb] at q ⊢
      refine ⟨L m, fun σ' H' n => ⟨m, by omega, n⟩, ?_⟩
      obtain ⟨I2, F2, s2, st2⟩ := af
      refine ⟨I2, b.2, F2, s2, post_mono (post_bind.mp q) (fun r q => ?_) fun x z => err_step st2 z⟩
      obtain ⟨fl, e⟩ := r
      have nxt : (fWhile t body m e).post (FlP g D I1 H F) (g.err I1 H F) → ∀ σ5 H5, AftS g.K g.pn I2 H1 F2 σ5 e H5 → L m σ5 H5 := fun q σ5 H5 af => by
        obtain ⟨I5, F5, s5, st5⟩ := af
        have st6 := st2.trans st5
        exact ⟨I5, e, F5, s5, post_mono q (fun r z => FlP_step st6 z) fun x z => err_step st6 z⟩
      cases fl with
      | nx => exact fun σ5 H5 af => nxt q σ5 H5 af
      | ct => exact fun σ5 H5 af => nxt q σ5 H5 af
      | bk => exact fun σ5 H5 af => q σ5 H5 (AftS.trans st2 af)
      | rt o => exact fun v σ5 H5 af => q v σ5 H5 (Aft.trans st2 af)
    · rw [if_neg hb] at q ⊢
      exact q σ H1 af
end
end Dy
namespace Dy
open PySem PySem.Spec PyProof.Rows L2
def wipeE (env : Env) : List Nat → Env
  | [] => env
  | v :: vs => (wipeE env vs).set v none
theorem wipe_get {α : Type} (w : List (Option α) → List Nat → List (Option α)) (h0 : ∀ l, w l [] = l) (h1 : ∀ l v vs, w l (v :: vs) = (w l vs).set v none) (l : List (Option α)) : ∀ (vs : List Nat) (i : Nat), (w l vs)[i]? = if i ∈ vs then (if i < l.length then some none else none) else l[i]? := by
  have hl : ∀ vs, (w l vs).length = l.length := by
    intro vs
    induction vs with
    | nil => rw [h0]
    | cons v vs ih => rw [h1, List.length_set, ih]
  intro vs
  induction vs with
  | nil => intro i; rw [h0, if_neg (by simp)]
  | cons v vs ih =>
    intro i
    rw [h1]
    by_cases hv : v = i
    · subst hv
      rw [if_pos (by simp)]
      by_cases hi : v < l.length
      · rw [if_pos hi, List.getElem?_set_self (by rw [hl]; exact hi)]
      · rw [if_neg hi, List.getElem?_eq_none (by rw [List.length_set, hl]; omega)]
    · rw [List.getElem?_set_ne hv, ih i]
      by_cases hi : i ∈ vs
      · rw [if_pos hi, if_pos (List.mem_cons_of_mem _ hi)]
      · rw [if_neg hi, if_neg (by simp only [List.mem_cons, not_or]; exact ⟨fun e => hv e.symm, hi⟩)]
theorem wipe_at (σ : St) (vs : List Nat) (i : Nat) : (wipe σ vs)[i]? = if i ∈ vs then (if i < σ.length then some none else none) else σ[i]? := wipe_get wipe (fun _ => rfl) (fun _ _ _ => rfl) σ vs i
theorem wipeE_at (e : Env) (vs : List Nat) (i : Nat) : (wipeE e vs)[i]? = if i ∈ vs then (if i < e.length then some none else none) else e[i]? := wipe_get wipeE (fun _ => rfl) (fun _ _ _ => rfl) e vs i
theorem wipeE_length (e : Env) : ∀ vs : List Nat, (wipeE e vs).length = e.length
  | [] => rfl
  | v :: vs => by unfold wipeE; rw [List.length_set, wipeE_length e vs]
theorem wipe_only {vs is : List Nat} {σ σ2 : St} (hs : ∀ i ∈ is, i ∈ vs) (h : Only' is (wipe σ vs) σ2) : wipe σ2 vs = wipe σ vs := by
  have hl : σ2.length = σ.length := by rw [h.1, wipe_length]
  refine List.ext_getElem? fun i => ?_
  rw [wipe_at, wipe_at, hl]
  by_cases hi : i ∈ vs
  · rw [if_pos hi, if_pos hi]
  · rw [if_neg hi, if_neg hi, h.2 i fun z => hi (hs i z), wipe_at, if_neg hi]
def clF (F : Nat → List Addr) (vs : List Nat) : Nat → List Addr := fun i => if i ∈ vs then [] else F i
theorem clF_ow {F : Nat → List Addr} {vs : List Nat} {a : Addr} (h : Ow (clF F vs) a) : Ow F a := by
  obtain ⟨i, hi⟩ := h
  unfold clF at hi
  split at hi
  · cases hi
  · exact ⟨i, hi⟩
section
variable {K : PySem.W.Frag} {π : Pn} {I H I' H' : Hp} {σ : St} {env e : Env} {F F' : Nat → List Addr}
theorem Sim.wipe (s : Sim K π I H σ env F) {vs : List Nat} (hp : ∀ i ∈ vs, i ∉ π.1) : Sim K π I H (L2.wipe σ vs) (wipeE env vs) (clF F vs) := by
  refine ⟨by rw [wipeE_length, wipe_length, s.len], fun i o q => ?_, fun i q => ?_, fun i j a h1 h2 => ?_, fun i a h => ?_, s.sub, fun i hi => ?_, s.tab⟩
  · rw [wipeE_at] at q
    by_cases h : i ∈ vs
    · rw [if_pos h] at q; split at q <;> cases q
    · rw [if_neg h] at q
      obtain ⟨v, e1, r⟩ := s.rep i o q
      exact ⟨v, by rw [wipe_at, if_neg h]; exact e1, by unfold clF; rw [if_neg h]; exact r⟩
  · unfold clF
    by_cases h : i ∈ vs
    · rw [if_pos h]
    · rw [if_neg h]; exact s.out i fun o z => q o (by rw [wipeE_at, if_neg h]; exact z)
  · unfold clF at h1 h2
    split at h1
    · cases h1
    · split at h2
      · cases h2
      · exact s.dis i j a h1 h2
  · unfold clF at h
    split at h
    · cases h
    · exact s.djI i a h
  · rw [wipe_at, if_neg fun z => hp i z hi]; exact s.pin i hi
/-- behind the block: its own slots as they were, where they held data -/
def frO : Option (Option O) → Option O
  | some (some (.fr d)) => some (.fr d)
  | _ => none
def unw (env e : Env) : List Nat → Env
  | [] => e
  | v :: vs => (unw env e vs).set v (frO env[v]?)
theorem unw_length (env e : Env) : ∀ vs : List Nat, (unw env e vs).length = e.length
  | [] => rfl
  | v :: vs => by unfold unw; rw [List.length_set, unw_length env e vs]
theorem unw_at (env e : Env) : ∀ (vs : List Nat) (i : Nat), (unw env e vs)[i]? = if i ∈ vs then (if i < e.length then some (frO env[i]?) else none) else e[i]?
  | [], i => by rw [if_neg (by simp)]; rfl
  | v :: vs, i => by
    unfold unw
    by_cases hv : v = i
    · subst hv
      rw [if_pos (by simp)]
      by_cases hi : v < e.length
      · rw [if_pos hi, List.getElem?_set_self (by rw [unw_length]; exact hi)]
      · rw [if_neg hi, List.getElem?_eq_none (by rw [List.length_set, unw_length]; omega)]
    · rw [List.getElem?_set_ne hv, unw_at env e vs i]
      by_cases hi : i ∈ vs
      · rw [if_pos hi, if_pos (List.mem_cons_of_mem _ hi)]
      · rw [if_neg hi, if_neg (by simp only [List.mem_cons, not_or]; exact ⟨fun e => hv e.symm, hi⟩)]
theorem Sim.unwipe (s0 : Sim K π I H σ env F) (sm : Same I I') {vs : List Nat} (hp : ∀ i ∈ vs, i ∉ π.1) (s : Sim K π I' H' (L2.wipe σ vs) e F') : Sim K π I' H' σ (unw env e vs) (clF F' vs) := by
  have hl : e.length = σ.length := by rw [s.len, wipe_length]
  refine ⟨by rw [unw_length, hl], fun i o q => ?_, fun i q => ?_, fun i j a h1 h2 => ?_, fun i a h => ?_, s.sub, fun i hi => s0.pin i hi, s.tab⟩
  · rw [unw_at] at q
    by_cases h : i ∈ vs
    · rw [if_pos h] at q
      by_cases hi : i < e.length
      · rw [if_pos hi] at q
        have q := Option.some.inj q
        unfold frO at q
        cases q3 : env[i]? with
        | none => rw [q3] at q; cases q
        | some y =>
          cases y with
          | none => rw [q3] at q; cases q
          | some o' =>
            rw [q3] at q
            cases o' with
            | fr d =>
              cases q
              obtain ⟨v, e1, r⟩ := s0.rep i _ q3
              exact ⟨v, e1, by unfold clF; rw [if_pos h]; exact ⟨rfl, r.2.mono sm⟩⟩
            | ol _ => cases q
            | oo _ => cases q
            | od _ => cases q
            | om _ => cases q
      · rw [if_neg hi] at q; cases q
    · rw [if_neg h] at q
      obtain ⟨v, e1, r⟩ := s.rep i o q
      rw [wipe_at, if_neg h] at e1
      exact ⟨v, e1, by unfold clF; rw [if_neg h]; exact r⟩
  · unfold clF
    by_cases h : i ∈ vs
    · rw [if_pos h]
    · rw [if_neg h]; exact s.out i fun o z => q o (by rw [unw_at, if_neg h]; exact z)
  · unfold clF at h1 h2
    split at h1
    · cases h1
    · split at h2
      · cases h2
      · exact s.dis i j a h1 h2
  · unfold clF at h
    split at h
    · cases h
    · exact s.djI i a h
end
theorem Step.one {I H I1 H1 : Hp} {S S1 : Addr → Prop} (a : Step I H S I1 H1 S1) {D : Addr} {o : HO} (h : H D = some o) (n : ¬ S D) (i : I D = none) (nt : NT o := by exact NT.lst) : H1 D = some o ∧ ¬ S1 D ∧ I1 D = none := by
  refine ⟨a.fr D o h n nt, fun z => ?_, ?_⟩
  · rcases a.s' D z with y | y
    · exact n y
    · rw [h] at y; cases y
  · cases q : I1 D with
    | none => rfl
    | some u =>
      rcases a.i' D u q with y | y | y
      · rw [i] at y; cases y
      · exact (n y).elim
      · rw [h] at y; cases y
def nE {α : Type} : Res α → Res α
  | .er _ => .no
  | x => x
theorem nE_post {α : Type} {r : Res α} {P : α → Prop} {E E' : Exn → Prop} (h : (nE r).post P E) : r.post P E' := by
  cases r with
  | ok a => exact h
  | er x => exact h.elim
  | no => exact h
def lcL (vs : List Nat) (t : Tg) (test : TF) (elt : EF) : List PyData → Env → List PyData → Res (List PyData × Env)
  | [], e, acc => .ok (acc, e)
  | d :: ds, e, acc => asT t d e >>= fun e1 => nE (test e1) >>= fun b => if b.1 = true then nE (elt b.2) >>= fun r => if acc.length < 100000 then lcL vs t test elt ds (wipeE r.2 vs) (acc ++ [r.1.data]) else .no
    else lcL vs t test elt ds (wipeE b.2 vs) acc
def fLc (fi : IF) (vs : List Nat) (t : Tg) (test : TF) (elt : EF) : EF := fun env => fi env >>= fun r => lcL vs t test elt r.1 (wipeE r.2 vs) [] >>= fun q => .ok (.ol q.1, unw r.2 q.2 vs)
def fYes : TF := fun env => .ok (true, env)
def G.nox (g : G) : G := { g with E := fun _ _ _ => False }
section
variable {g : G} {X : Cx} {a b c e : Expr} {es : List Expr} {pos : Pos} {σ : St} {H I : Hp} {env : Env} {F : Nat → List Addr}
theorem lcL_er {vs : List Nat} {t : Tg} {test : TF} {elt : EF} : ∀ {ds : List PyData} {e : Env} {acc : List PyData} {x : Exn}, lcL vs t test elt ds e acc ≠ .er x
  | [], _, _, _ => fun h => by cases h
  | d :: ds, e, acc, x => fun h => by
    unfold lcL at h
    cases q : asT t d e with
    | no => rw [q] at h; cases h
    | er y => exact asT_er q
    | ok e1 =>
      rw [q, bind_ok] at h
      cases q2 : test e1 with
      | no => rw [q2] at h; cases h
      | er y => rw [q2] at h; cases h
      | ok b =>
        rw [q2] at h
        have h : (if b.1 = true then nE (elt b.2) >>= fun r => if acc.length < 100000 then lcL vs t test elt ds (wipeE r.2 vs) (acc ++ [r.1.data]) else .no else lcL vs t test elt ds (wipeE b.2 vs) acc) = .er x := h
        by_cases hb : b.1 = true
        · rw [if_pos hb] at h
          cases q3 : elt b.2 with
          | no => rw [q3] at h; cases h
          | er y => rw [q3] at h; cases h
          | ok r =>
            rw [q3] at h
            have h : (if acc.length < 100000 then lcL vs t test elt ds (wipeE r.2 vs) (acc ++ [r.1.data]) else .no) = .er x := h
            split at h
            · exact lcL_er h
            · cases h
        · rw [if_neg hb] at h; exact lcL_er h
theorem lc_key {fi : IF} {vs : List Nat} {t : Tg} {test : TF} {elt : EF} {Q : VK} (hp : ∀ i ∈ vs, i ∉ g.pn.1) (hv : ∀ i ∈ t.slots, i ∈ vs) (h : tD g (fLc fi vs t test elt) σ H Q) : tLc (tI g fi) (rdT g.K t) (tT g.nox test) (tD g.nox elt) vs σ H Q := by
  obtain ⟨I, env, F, s, p⟩ := h
  refine ⟨I, env, F, s, post_mono (post_bind.mp p) (fun r q J H1 I1 F1 s1 st1 ok D nD => ?_) fun _ z => z⟩
  have nI : I1 D = none := none_of_same s1.sub nD
  have nF : ∀ {F2 : Nat → List Addr}, F2 = F1 → ¬ Ow F2 D := fun e z => by subst e; obtain ⟨o, ho⟩ := s1.domO z; rw [nD] at ho; cases ho
  let PP : List PyData × Env → Prop := fun q => ∀ v H', Aft g.K g.pn I H F σ (unw r.2 q.2 vs) (.ol q.1) v H' → Q v H'
  let L : List PyData → Hp → Prop := fun ds H2 => ∃ I2 e F2 acc us, Sim g.K g.pn I2 H2 (wipe σ vs) e F2 ∧ H2 D = some (.lst us) ∧ RpAll g.K I2 us acc ∧ I2 D = none ∧ ¬ Ow F2 D ∧ Step I1 H1 (Ow F1) I2 H2 (fun a => Ow F2 a ∨ a = D) ∧
    (lcL vs t test elt ds e acc).post PP (fun _ => False)
  have q0 : (lcL vs t test elt r.1 (wipeE r.2 vs) []).post PP (fun _ => False) := by
    have q := post_bind.mp q
    cases z : lcL vs t test elt r.1 (wipeE r.2 vs) [] with
    | no => rw [z] at q; exact q
    | er x => exact absurd z lcL_er
    | ok y => rw [z] at q; exact q
  refine ⟨fun i m H2 => m = r.1.length - i ∧ i ≤ r.1.length ∧ L (r.1.drop i) H2, ⟨r.1.length, by simp, Nat.zero_le _, I1, wipeE r.2 vs, clF F1 vs, [], [], ?_, upd_same, .nil, nI, fun z => nF rfl (clF_ow z), ?_, q0⟩, ?_⟩
  · refine (s1.wipe hp).heap (Same.refl _) (s1.sub.trans (same_new nD)) (fun a ha => ?_) (fun a ⟨i, hi⟩ => (s1.wipe hp).djI i a hi) (kt_new nD)
    rw [upd_ne]; intro z; subst z; exact nF rfl (clF_ow ha)
  · refine Step.of4 (Same.refl _) (fun a o h _ => same_new nD a o h) (fun a h => ?_) (fun a o h => .inl h)
    rcases h with h | h
    · exact .inl (clF_ow h)
    · subst h; exact .inr nD
  · rintro i m H2 ⟨rfl, hi, I2, e, F2, acc, us, s2, hD, ra, iD, oD, st2, p2⟩
    have sm : Same I1 I2 := st2.i1
    by_cases hlt : i < r.1.length
    · have hd : r.1[i]? = some r.1[i] := List.getElem?_eq_getElem hlt
      have dr : r.1.drop i = r.1[i] :: r.1.drop (i + 1) := List.drop_eq_getElem_cons hlt
      rw [dr] at p2
      have ok1 := (ok I2 H2 i sm s2.sub).1 _ hd
      refine .inr ⟨ok1.1, L (r.1.drop (i + 1)), fun H' n => ⟨r.1.length - (i + 1), by omega, rfl, hlt, n⟩, fun x H3 y => ?_⟩
      obtain ⟨I3, gr⟩ := ok1.2 x H3 y
      obtain ⟨I4, F4, rp, s4, st4⟩ := (gr.aft s2).frz
      have p3 := post_bind.mp p2
      cases q2 : asT t r.1[i] e with
      | no => rw [q2] at p3; exact p3.elim
      | er x => exact absurd q2 asT_er
      | ok e1 =>
        rw [q2] at p3
        refine tg_key (fun j hj => hp j (hv j hj)) s4 rp q2 fun σ2 F5 ho s5 hF => ?_
        have wσ := wipe_only hv ho
        refine ⟨wσ, ?_⟩
        have st5 := st4.less hF
        obtain ⟨d1, d2, d3⟩ := st5.one hD oD iD
        have TD : ∀ x, x = D → ∃ o, H2 x = some o := fun x e => by subst e; exact ⟨_, hD⟩
        have TN : ∀ x, x = D → ¬ Ow F2 x := fun x e => by subst e; exact oD
        refine ⟨I4, e1, F5, s5, post_mono (nE_post (post_bind.mp p3)) (fun b pb H6 af => ?_) fun _ z => z⟩
        obtain ⟨I6, F6, s6, st6⟩ := af
        have st56 := st5.trans st6
        obtain ⟨b1, b2, b3⟩ := st56.one hD oD iD
        by_cases hb : b.1 = true
        · rw [if_pos hb] at pb ⊢
          refine ⟨I6, b.2, F6, s6, post_mono (nE_post (post_bind.mp pb)) (fun r7 p7 v7 H7 af7 => ?_) fun _ z => z⟩
          obtain ⟨I8, F8, rp8, s8, st8⟩ := af7.frz
          have st58 := st56.trans st8
          obtain ⟨c1, c2, c3⟩ := st58.one hD oD iD
          by_cases hz : acc.length < 100000
          · rw [if_pos hz] at p7
            refine ⟨us, c1, by rw [ra.length]; exact Nat.lt_of_lt_of_le hz (by decide), I8, wipeE r7.2 vs, clF F8 vs, acc ++ [r7.1.data], us ++ [v7], ?_, upd_same, (ra.mono st58.i1).app (.cons rp8 .nil), c3, fun z => c2 (clF_ow z), ?_, p7⟩
            · rw [← wσ]
              refine (s8.wipe hp).heap (Same.refl _) (fun a o h => ?_) (fun a ha => ?_) (fun a ⟨j, hj⟩ => (s8.wipe hp).djI j a hj) (kt_upd c1 NT.lst)
              · rw [upd_ne (fun z => by subst z; rw [c3] at h; cases h)]; exact s8.sub a o h
              · rw [upd_ne]; intro z; subst z; exact c2 (clF_ow ha)
            · refine st2.trans ((st58.aside (fun x => x = D) TD TN).trans (Step.of4 (Same.refl _) (fun a o h n => ?_) (fun a h => ?_) (fun a o h => .inl h)))
              · rw [upd_ne fun z => n (.inr z)]; exact h
              · rcases h with h | h
                · exact .inl (.inl (clF_ow h))
                · exact .inl (.inr h)
          · rw [if_neg hz] at p7; exact p7.elim
        · rw [if_neg hb] at pb ⊢
          refine ⟨I6, wipeE b.2 vs, clF F6 vs, acc, us, ?_, b1, ra.mono st56.i1, b3, fun z => b2 (clF_ow z), ?_, pb⟩
          · rw [← wσ]; exact s6.wipe hp
          · refine st2.trans ((st56.aside (fun x => x = D) TD TN).less fun a h => ?_)
            rcases h with h | h
            · exact .inl (clF_ow h)
            · exact .inr h
    · have e0 : i = r.1.length := by omega
      subst e0
      rw [List.drop_length] at p2
      refine .inl ⟨(ok I2 H2 _ sm s2.sub).2 rfl, p2 _ _ ⟨I2, clF F2 vs, [D], ⟨D, us, rfl, rfl, hD, ra⟩, s1.unwipe sm hp s2, fun a ha => ?_, fun a ha hr => ?_, ?_⟩⟩
      · simp at ha; subst ha; exact iD
      · simp at hr; subst hr; exact oD (clF_ow ha)
      · refine st1.trans (st2.less fun a h => ?_)
        rcases h with h | h
        · exact .inl (clF_ow h)
        · simp at h; exact .inr h
theorem pts_yes : PTs X [] (tT g fYes) := ⟨fun pins s σ H Q I h => pts_nil.run pins s σ H Q I (by
  obtain ⟨I, env, F, s, p⟩ := h
  exact p H ⟨I, F, s, Step.refl⟩)⟩
theorem de_lc {elt tg iter : Expr} {ifs : List Expr} {scope : Scope} {own : List (Str × Nat)} {fi : IF} {t : Tg} {test : TF} {fe : EF} (hp : ∀ i ∈ own.map (·.2), i ∉ g.pn.1) (hv : ∀ i ∈ t.slots, i ∈ own.map (·.2)) (hc : X.calm = true) (hN : X.N.Nodup) (hi : DI g X tg iter fi) (ok : BlkOk X.N X.env.scope scope own)
    (hg : ∀ (s : Shared) (H : Hp) (C : Addr) (cl : List (Str × Addr)) (fp : List Addr), PG (X.blk s H scope (compEnvC scope cl C X.env) fp) tg (rdT g.K t)) (ht : ∀ (s : Shared) (H : Hp) (C : Addr) (cl : List (Str × Addr)) (fp : List Addr), PTs (X.blk s H scope (compEnvC scope cl C X.env) fp) ifs (tT g.nox test))
    (he : ∀ (s : Shared) (H : Hp) (C : Addr) (cl : List (Str × Addr)) (fp : List Addr), DE g.nox (X.blk s H scope (compEnvC scope cl C X.env) fp) elt fe) (hs : ∀ x, foldedSetIterable iter X.env x = pure x := by intro _; rfl) :
    DE g X (.ListComp elt [⟨tg, iter, ifs, 0⟩] scope pos) (fLc fi (own.map (·.2)) t test fe) := PE.imp (pe_lc hc hN hi ok hg ht he hs) fun σ H Q h => lc_key hp hv h
/-- y = [..] -/
theorem ds_setLc {i : Nat} {y : Str} {py : Pos} {elt tg iter : Expr} {ifs : List Expr} {scope : Scope} {own : List (Str × Nat)} {spos : Pos} {fi : IF} {t : Tg} {test : TF} {fe : EF} (hpi : i ∉ g.pn.1) (hp : ∀ i ∈ own.map (·.2), i ∉ g.pn.1) (hv : ∀ i ∈ t.slots, i ∈ own.map (·.2)) (hc : X.calm = true) (hN : X.N.Nodup) (hy : X.N[i]? = some y) (hyl : X.env.scope.names.lookup y = some .local)
    (hsw : swapsWith (.ListComp elt [⟨tg, iter, ifs, 0⟩] scope pos) (some (.Name y py)) spos.line X.env = pure true) (hi : DI g X tg iter fi) (ok : BlkOk X.N X.env.scope scope own)
    (hg : ∀ (s : Shared) (H : Hp) (C : Addr) (cl : List (Str × Addr)) (fp : List Addr), PG (X.blk s H scope (compEnvC scope cl C X.env) fp) tg (rdT g.K t)) (ht : ∀ (s : Shared) (H : Hp) (C : Addr) (cl : List (Str × Addr)) (fp : List Addr), PTs (X.blk s H scope (compEnvC scope cl C X.env) fp) ifs (tT g.nox test))
    (he : ∀ (s : Shared) (H : Hp) (C : Addr) (cl : List (Str × Addr)) (fp : List Addr), DE g.nox (X.blk s H scope (compEnvC scope cl C X.env) fp) elt fe) (hs : ∀ x, foldedSetIterable iter X.env x = pure x := by intro _; rfl) :
    DS g X (.Assign [.Name y py] (.ListComp elt [⟨tg, iter, ifs, 0⟩] scope pos) spos) (fSet i (fLc fi (own.map (·.2)) t test fe)) := PS.imp (ps_setLc hc hN hy hyl hsw hi ok hg ht he hs) fun D σ H h => by
  have := set_key hpi h
  exact lc_key hp hv this
end
end Dy
namespace Dy
open PySem PySem.Spec PyProof.Rows L2
structure FnG (P : Program) (w : World) (K : PySem.W.Frag) (mg : Str → Option Value) (base : Heap) (k : Nat) (f : Addr) (fd : FuncData) (ps : List Str) (sp : Sp) : Prop where
  len : ∀ vs H Q E, sp vs H Q E → vs.length = ps.length
  run : ∀ (A : Around) (outer : List PySem.Env) (s : Shared) (H : Hp) (args : Args) (us : List Value) (vs : List V) (Q : VK) (E : XK), A.guards = some [] → Room k A → L2.Env0 P w K mg base A outer s H → BindsTo s fd args (ps.zip us) → Vals vs us →
    sp vs H Q E → codeAny (model P w) A (.call (.ref f) args) (CR (L2.CX P w) outer P w H s Q E) s
end Dy
namespace Dy
open PySem PySem.Spec PyProof.Rows L2
theorem FnG.mono {P : Program} {w : World} {K : PySem.W.Frag} {mg : Str → Option Value} {base : Heap} {j k : Nat} {f : Addr} {fd : FuncData} {ps : List Str} {sp : Sp} (F : FnG P w K mg base j f fd ps sp) (h : j ≤ k) : FnG P w K mg base k f fd ps sp :=
  ⟨F.len, fun A outer s H args us vs Q E hg hr => F.run A outer s H args us vs Q E hg (hr.mono h)⟩
theorem FnG.imp {P : Program} {w : World} {K : PySem.W.Frag} {mg : Str → Option Value} {base : Heap} {k : Nat} {f : Addr} {fd : FuncData} {ps : List Str} {sp sp' : Sp} (F : FnG P w K mg base k f fd ps sp) (h : ∀ vs H Q E, sp' vs H Q E → sp vs H Q E) : FnG P w K mg base k f fd ps sp' :=
  ⟨fun vs H Q E q => F.len vs H Q E (h _ _ _ _ q), fun A outer s H args us vs Q E hg hr he hb hv hs => F.run A outer s H args us vs Q E hg hr he hb hv (h _ _ _ _ hs)⟩
/-- by its body -/
theorem fnG_ofc {P : Program} {w : World} {K : PySem.W.Frag} {mg : Str → Option Value} {base : Heap} {k : Nat} {x qual : Str} {st : Stmt} {f : Addr} {fd : FuncData} {N ps : List Str} {sp : Sp} (F : Fun K x qual st f fd) (S : FnScope N ps (defScope st))
    (len : ∀ vs H Q E, sp vs H Q E → vs.length = ps.length)
    (body : ∀ (cdv : Value) (hcv : fd.code = cdv) (A : Around) (outer : List PySem.Env) (s : Shared) (H : Hp) (vs : List V) (Q : VK) (E : XK), (A.deeper (envOfC qual (defScope st) s.heap.objs.size f cdv)).guards = some [] → Room k (A.deeper (envOfC qual (defScope st) s.heap.objs.size f cdv)) → sp vs H Q E →
      ∃ t, PSs (cxOf (L2.CX P w) P w K mg base N qual (defScope st) f cdv A outer s H E) (defBody st) t ∧ t { nx := fun _ H' => Q .non H', rt := Q } (L2.start N vs) H) : FnG P w K mg base (k + 1) f fd ps sp := by
  obtain ⟨oc, od, kV, doc, pm, an, cdv, ct, osl, rfl, lk, hcd⟩ := F.ex
  refine ⟨len, ?_⟩
  intro A outer s H args us vs Q E hg hr e0 hb r hsp
  have KX : K.In s.heap := e0.mod.kin.keeps (fun b o e => (e0.bs b o e).1)
  have lim : s.heap.NoLimit := e0.mod.nolimit.keeps (fun b o e => (e0.bs b o e).1)
  have hk : ∀ y ∈ ps.zip us, (defScope st).names.lookup y.1 = some .local ∨ ((defScope st).names.lookup y.1 = some .cell ∧ ((cellsFrom (s.heap.objs.size + 1) (defScope st).names []).lookup y.1).isSome = true) := by
    intro y hy
    rcases S.par y.1 (List.of_mem_zip hy).1 with q | q
    · exact Or.inl q
    · exact Or.inr ⟨q, PySem.W.cellsFrom_some _ _ _ (Or.inl q)⟩
  refine codeAny_call_function hr.depth (KX f _ lk) rfl S.co S.gen rfl (PySem.W.codeRec_of KX hcd) (hb _ _ _ _ ?_)
  refine wpAny_newFunctionEnv_cells S.kind hk (fun env he s1 hc => ?_)
  subst he
  refine ⟨lim.keeps hc.toInCall.keep, codeAny_func ?_⟩
  obtain ⟨t, ht, hq⟩ := body cdv rfl A outer s H vs Q E hg (hr.deeper _) hsp
  have J : Inv (cxOf (L2.CX P w) P w K mg base N qual (defScope st) f cdv A outer s H E) [] (L2.start N vs) H s1 := inv_start S hr.hd e0 (len vs H Q E hsp) r hc
  refine wpAny_mono (ht.run [] s1 (L2.start N vs) H _ J hq) (fun fl s' hs => ?_) (fun e s' hs => hs)
  cases fl with
  | ret u =>
    obtain ⟨v, σ', H', J', rv, q⟩ := hs
    exact ⟨v, H', J'.os, J'.bare, J'.base, J'.hok, rv, q⟩
  | next =>
    obtain ⟨σ', H', J', q⟩ := hs
    exact ⟨.non, H', J'.os, J'.bare, J'.base, J'.hok, rfl, q⟩
  | brk =>
    obtain ⟨_, _, _, q⟩ := hs
    exact q.elim
  | cont =>
    obtain ⟨_, _, _, q⟩ := hs
    exact q.elim
section
variable {X : Cx} {k : Nat} {f : Addr} {fd : FuncData} {ps : List Str} {sp : Sp} {E : XK} {x : Str} {p pos : Pos} {e : Expr} {es : List Expr} {t : TA}
theorem runG {pins : List (Addr × Obj)} {σ : St} {H : Hp} {s : Shared} {Q : VK} {us : List Value} {vs : List V} (F : FnG X.prog X.w X.K X.mg X.base k f fd ps sp) (hg : X.A.guards = some []) (hr : Room k X.A) (hb : Binds X.K fd ps []) (hx : Passes (L2.CX X.prog X.w) X E)
    (J : Inv X pins σ H s) (r : Vals vs us) (h : sp vs H Q E) : wpAny (model X.prog X.w) X.A (call (.ref f) us) (EP X pins σ Q) X.xe s := by
  have hl : (us ++ []).length = ps.length := by rw [List.append_nil, ← r.length]; exact F.len _ _ _ _ h
  have hb' := hb s us J.kIn hl
  rw [List.append_nil] at hb'
  refine wpAny_call (codeAny_mono (F.run X.A X.stack s H ⟨us, []⟩ us vs Q E hg hr J.env0 hb' r h) (fun y s' hq => ?_))
  cases y with
  | error u => exact hx pins σ H s u s' J hq
  | ok fl =>
    cases fl with
    | ret u => exact J.after hq
    | next => exact hq.elim
    | brk => exact hq.elim
    | cont => exact hq.elim
theorem peG (F : FnG X.prog X.w X.K X.mg X.base k f fd ps sp) (hgd : X.A.guards = some []) (hr : Room k X.A) (hg : Gl X x) (hm : X.mg x = some (.ref f)) (hk : PySem.W.keepIn X.K (.ref f) = true) (hb : Binds X.K fd ps []) (hx : Passes (L2.CX X.prog X.w) X E)
    (ha : PA X (e :: es) t) (hdb : (x == ("__debug__" : Str)) = false := by decide) (he : starEach (e :: es) X.env = (false, eval e X.env) :: starEach es X.env := by rfl) (hpl : (backTo pos (starEach es X.env)).any (·.1) = false := by rfl) :
    PE X (.Call (.Name x p) (e :: es) [] pos) (fun σ H Q => t σ H fun vs H1 => sp vs H1 Q E) := by
  refine ⟨fun pins s σ H Q J h => wpAny_Call_Name_kw (ld_glob J hg hm ?_ hdb)⟩
  refine PySem.W.callWith_K (h₀ := X.base) J.ok.mod.kin hk (thn (ha.run pos pins s σ H _ J h) ?_) he hpl
  rintro us s1 ⟨vs, H1, J1, r, q⟩
  exact ⟨J1.kIn, runG F hgd hr hb hx J1 r q⟩
end
abbrev Fn := List O → Res (O × List O)
def p0 (T : List (Addr × Str)) : Pn := ([], fun _ => .non, T)
def spD (K : PySem.W.Frag) (mg : Str → Option Value) (T : List (Addr × Str)) (m : Fn) : Sp := fun vs H Q E => ∃ I os F, Sim K (p0 T) I H (vs.map some) (os.map some) F ∧
  (m os).post (fun r => ∀ v H', Aft K (p0 T) I H F (vs.map some) (r.2.map some) r.1 v H' → Q v H') (fun x => ∀ H' c d, Err T I H (Ow F) H' d → XR mg x c d H' → E c d H')
def isFr : O → Bool
  | .fr _ => true
  | _ => false
def okA (rp : List Nat) : Nat → List O → Bool
  | _, [] => true
  | k, o :: os => (rp.contains k || isFr o) && okA rp (k + 1) os
def bkA (rp : List Nat) (e : Env) : Nat → List O → Option (List O)
  | _, [] => some []
  | k, o :: os => match (if rp.contains k then (e[k]?).join else some o), bkA rp e (k + 1) os with
    | some o', some os' => some (o' :: os')
    | _, _ => none
def fnM (n N : Nat) (rp : List Nat) (body : SF) : Fn := fun os => if os.length = n ∧ okA rp 0 os = true then
    body (os.map some ++ List.replicate (N - n) none) >>= fun r => match bkA rp r.2 0 os with
      | none => .no
      | some os' => match r.1 with
        | .rt o => .ok (o, os')
        | .nx => .ok (.fr .none, os')
        | _ => .no
  else .no
theorem okA_at {rp : List Nat} : ∀ {os : List O} {k i : Nat} {o : O}, okA rp k os = true → os[i]? = some o → k + i ∉ rp → isFr o = true
  | [], _, _, _, _, h, _ => by simp at h
  | o :: os, k, 0, _, h, e, n => by
    simp at e; subst e
    unfold okA at h
    simp only [Bool.and_eq_true, Bool.or_eq_true, List.contains_iff_mem] at h
    rcases h.1 with z | z
    · exact absurd z n
    · exact z
  | o :: os, k, i + 1, _, h, e, n => by
    unfold okA at h
    simp only [Bool.and_eq_true] at h
    exact okA_at (k := k + 1) (i := i) h.2 (by simpa using e) (by rwa [Nat.add_right_comm k 1 i, Nat.add_assoc])
theorem bkA_at {rp : List Nat} {e : Env} : ∀ {os os' : List O} {k i : Nat} {o' : O}, bkA rp e k os = some os' → os'[i]? = some o' → (k + i ∈ rp ∧ e[k + i]? = some (some o')) ∨ (k + i ∉ rp ∧ os[i]? = some o')
  | [], _, _, _, _, h, e1 => by cases h; simp at e1
  | o :: os, os', k, i, o', h, e1 => by
    unfold bkA at h
    cases q1 : (if rp.contains k then (e[k]?).join else some o) with
    | none => rw [q1] at h; cases h
    | some y =>
      cases q2 : bkA rp e (k + 1) os with
      | none => rw [q1, q2] at h; cases h
      | some ys =>
        rw [q1, q2] at h; cases h
        cases i with
        | zero =>
          simp at e1; subst e1
          by_cases hk : k ∈ rp
          · left
            refine ⟨hk, ?_⟩
            rw [if_pos (by simpa using hk)] at q1
            rw [Nat.add_zero]
            cases z : e[k]? with
            | none => rw [z] at q1; cases q1
            | some w => rw [z] at q1; cases w <;> cases q1; rfl
          · right
            refine ⟨hk, ?_⟩
            rw [if_neg (by simpa using hk)] at q1
            simpa using q1
        | succ i =>
          rcases bkA_at q2 (i := i) (o' := o') (by simpa using e1) with ⟨a, b⟩ | ⟨a, b⟩
          · exact .inl ⟨by rwa [Nat.add_right_comm k 1 i, Nat.add_assoc] at a, by rwa [Nat.add_right_comm k 1 i, Nat.add_assoc] at b⟩
          · exact .inr ⟨by rwa [Nat.add_right_comm k 1 i, Nat.add_assoc] at a, by simpa using b⟩
theorem bkA_len {rp : List Nat} {e : Env} : ∀ {os os' : List O} {k : Nat}, bkA rp e k os = some os' → os'.length = os.length
  | [], _, _, h => by cases h; rfl
  | o :: os, os', k, h => by
    unfold bkA at h
    cases q1 : (if rp.contains k then (e[k]?).join else some o) with
    | none => rw [q1] at h; cases h
    | some y =>
      cases q2 : bkA rp e (k + 1) os with
      | none => rw [q1, q2] at h; cases h
      | some ys => rw [q1, q2] at h; cases h; simp [bkA_len q2]
theorem getm {α : Type} {l : List α} {i : Nat} {x : α} (h : (l.map some)[i]? = some (some x)) : l[i]? = some x := by
  rw [List.getElem?_map] at h
  cases q : l[i]? with
  | none => rw [q] at h; cases h
  | some y => rw [q] at h; cases h; rfl
theorem putm {α : Type} {l : List α} {i : Nat} {x : α} (h : l[i]? = some x) : (l.map some)[i]? = some (some x) := by rw [List.getElem?_map, h]; rfl
/-- back in the caller: the arguments behind the body -/
theorem back_args {T : List (Addr × Str)} {K : PySem.W.Frag} {I H : Hp} {F : Nat → List Addr} {vs : List V} {os os' : List O} {rp : List Nat} {π : Pn} {σ' : St} {e : Env} {o : O} {v : V} {H' : Hp} (s0 : Sim K (p0 T) I H (vs.map some) (os.map some) F) (hπ : π.1 = rp) (hT : π.2.2 = T) (hv : ∀ i ∈ rp, vs[i]? = some (π.2.1 i))
    (hok : okA rp 0 os = true) (hb : bkA rp e 0 os = some os') (af : Aft K π I H F σ' e o v H') : Aft K (p0 T) I H F (vs.map some) (os'.map some) o v H' := by
  obtain ⟨I', F', R, r, s, nR, dR, st⟩ := af
  have hl : os'.length = vs.length := by
    have h1 := bkA_len hb
    have h2 := s0.len
    simp only [List.length_map] at h2
    omega
  let F2 : Nat → List Addr := fun i => if i ∈ rp then F' i else []
  have ow : ∀ a, Ow F2 a → Ow F' a := fun a ⟨i, hi⟩ => by
    by_cases h : i ∈ rp
    · exact ⟨i, by simpa [F2, h] using hi⟩
    · simp [F2, h] at hi
  refine ⟨I', F2, R, r, ⟨by simp [hl], fun i y q => ?_, fun i q => ?_, fun i j a h1 h2 => ?_, fun i a h => ?_, s.sub, (fun i hi => by cases hi), (by rw [← hT] at *; exact s.tab)⟩, nR, fun a ha => dR a (ow a ha), st.less fun a h => h.elim (fun z => .inl (ow a z)) .inr⟩
  · have q := getm q
    rcases bkA_at hb q with ⟨h1, h2⟩ | ⟨h1, h2⟩
    · rw [Nat.zero_add] at h1 h2
      obtain ⟨u, e1, rr⟩ := s.rep i y h2
      have e2 := s.pin i (by rw [hπ]; exact h1)
      rw [e1] at e2; cases e2
      exact ⟨_, putm (hv i h1), by simpa [F2, h1] using rr⟩
    · rw [Nat.zero_add] at h1
      have fr := okA_at hok h2 (by rw [Nat.zero_add]; exact h1)
      cases y with
      | fr d =>
        obtain ⟨u, e1, rr⟩ := s0.rep i _ (putm h2)
        exact ⟨u, e1, by simp [F2, h1, RepO]; exact rr.2.mono st.i1⟩
      | ol _ => cases fr
      | oo _ => cases fr
      | od _ => cases fr
      | om _ => cases fr
  · by_cases h : i ∈ rp
    · have h1 := hv i h
      have hi : i < os'.length := by
        rw [hl]
        cases Nat.lt_or_ge i vs.length with
        | inl z => exact z
        | inr z => rw [List.getElem?_eq_none z] at h1; cases h1
      exact absurd (putm (List.getElem?_eq_getElem hi)) (q _)
    · simp [F2, h]
  · by_cases h : i ∈ rp
    · by_cases h' : j ∈ rp
      · exact s.dis i j a (by simpa [F2, h] using h1) (by simpa [F2, h'] using h2)
      · simp [F2, h'] at h2
    · simp [F2, h] at h1
  · by_cases h' : i ∈ rp
    · exact s.djI i a (by simpa [F2, h'] using h)
    · simp [F2, h'] at h
theorem sim_start {T : List (Addr × Str)} {K : PySem.W.Frag} {I H : Hp} {F : Nat → List Addr} {vs : List V} {os : List O} {N : List Str} {rp : List Nat} {n : Nat} (s0 : Sim K (p0 T) I H (vs.map some) (os.map some) F) (hv : vs.length = n) (hrp : ∀ i ∈ rp, i < n) :
    Sim K (rp, (fun i => vs.getD i .non), T) I H (L2.start N vs) (os.map some ++ List.replicate (N.length - n) none) F := by
  have hl := s0.len
  simp only [List.length_map] at hl
  have low : ∀ i, i < vs.length → (L2.start N vs)[i]? = (vs.map some)[i]? := fun i h => by unfold L2.start; rw [List.getElem?_append_left (by simpa using h)]
  have env : ∀ i o, (os.map some ++ List.replicate (N.length - n) none)[i]? = some (some o) → (os.map some)[i]? = some (some o) := fun i o q => by
    by_cases h : i < os.length
    · rwa [List.getElem?_append_left (by simpa using h)] at q
    · rw [List.getElem?_append_right (by simpa using h), List.getElem?_replicate] at q
      split at q <;> cases q
  refine ⟨by unfold L2.start; simp [hl, hv], fun i o q => ?_, fun i q => s0.out i fun o z => q o ?_, s0.dis, s0.djI, s0.sub, fun i hi => ?_, s0.tab⟩
  · have q := env i o q
    obtain ⟨v, e1, r⟩ := s0.rep i o q
    refine ⟨v, ?_, r⟩
    rw [low i (by
      cases Nat.lt_or_ge i vs.length with
      | inl z => exact z
      | inr z => rw [List.getElem?_eq_none (by simpa using z)] at e1; cases e1)]
    exact e1
  · rw [List.getElem?_append_left (by
      cases Nat.lt_or_ge i os.length with
      | inl h => simpa using h
      | inr h => rw [List.getElem?_eq_none (by simpa using h)] at z; cases z)]
    exact z
  · have h := hrp i hi
    rw [low i (by omega), List.getElem?_map]
    show Option.map some vs[i]? = some (some (vs.getD i .non))
    rw [List.getD_eq_getElem?_getD, List.getElem?_eq_getElem (by omega)]
    rfl
/-- THE RULE for a def -/
theorem fnDc {T : List (Addr × Str)} {P : Program} {w : World} {K : PySem.W.Frag} {mg : Str → Option Value} {base : Heap} {k : Nat} {x qual : Str} {st : Stmt} {f : Addr} {fd : FuncData} {N ps : List Str} {n nN : Nat} {rp : List Nat} {m : SF} (F : Fun K x qual st f fd) (S : FnScope N ps (defScope st)) (hn : ps.length = n) (hN : N.length = nN) (hrp : ∀ i ∈ rp, i < n)
    (body : ∀ (cdv : Value) (hcv : fd.code = cdv) (A : Around) (outer : List PySem.Env) (s : Shared) (H : Hp) (pv : Nat → V) (E : XK), (A.deeper (envOfC qual (defScope st) s.heap.objs.size f cdv)).guards = some [] → Room k (A.deeper (envOfC qual (defScope st) s.heap.objs.size f cdv)) →
      DSs ⟨K, mg, (rp, pv, T), E⟩ (cxOf (L2.CX P w) P w K mg base N qual (defScope st) f cdv A outer s H E) (defBody st) m) : FnG P w K mg base (k + 1) f fd ps (spD K mg T (fnM n nN rp m)) := by
  have ln : ∀ {vs : List V} {H : Hp} {Q : VK} {E : XK}, spD K mg T (fnM n nN rp m) vs H Q E → ∃ I os F, Sim K (p0 T) I H (vs.map some) (os.map some) F ∧ os.length = n ∧ okA rp 0 os = true ∧ vs.length = n ∧
      (m (os.map some ++ List.replicate (nN - n) none) >>= fun r => match bkA rp r.2 0 os with
      | none => .no
      | some os' => match r.1 with
        | .rt o => .ok (o, os')
        | .nx => .ok (.fr .none, os')
        | _ => .no).post (fun r => ∀ v H', Aft K (p0 T) I H F (vs.map some) (r.2.map some) r.1 v H' → Q v H') (fun x => ∀ H' c d, Err T I H (Ow F) H' d → XR mg x c d H' → E c d H') := by
    rintro vs H Q E ⟨I, os, F, s, p⟩
    unfold fnM at p
    by_cases h : os.length = n ∧ okA rp 0 os = true
    · rw [if_pos h] at p
      have hl := s.len
      simp only [List.length_map] at hl
      exact ⟨I, os, F, s, h.1, h.2, by omega, p⟩
    · rw [if_neg h] at p; exact p.elim
  refine fnG_ofc F S (fun vs H Q E h => ?_) fun cdv hcv A outer s H vs Q E hg hr h => ?_
  · obtain ⟨_, _, _, _, _, _, h, _⟩ := ln h
    rw [hn, h]
  · obtain ⟨I, os, F, sim, h1, h2, h3, p⟩ := ln h
    refine ⟨_, body cdv hcv A outer s H (fun i => vs.getD i .non) E hg hr, I, _, F, sim_start (N := N) sim h3 hrp, ?_⟩
    rw [hN]
    refine post_mono (post_bind.mp p) (fun r q => ?_) fun x z => z
    obtain ⟨fl, e⟩ := r
    have hv : ∀ i ∈ rp, vs[i]? = some (vs.getD i .non) := fun i hi => by
      have := hrp i hi
      rw [List.getD_eq_getElem?_getD, List.getElem?_eq_getElem (by omega)]; rfl
    cases qb : bkA rp e 0 os with
    | none => simp only [qb] at q; exact q.elim
    | some os' =>
      simp only [qb] at q
      cases fl with
      | rt o => exact fun v σ' H' af => q v H' (back_args sim rfl rfl hv h2 qb af)
      | nx => exact fun σ' H' ⟨I', F', s', st'⟩ => q .non H' (back_args sim rfl rfl hv h2 qb (AftD.aft ⟨I', F', .non, s', st'⟩))
      | bk => exact q.elim
      | ct => exact q.elim
theorem fnD {T : List (Addr × Str)} {P : Program} {w : World} {K : PySem.W.Frag} {mg : Str → Option Value} {base : Heap} {k : Nat} {x qual : Str} {st : Stmt} {f : Addr} {fd : FuncData} {N ps : List Str} {n nN : Nat} {rp : List Nat} {m : SF} (F : Fun K x qual st f fd) (S : FnScope N ps (defScope st)) (hn : ps.length = n) (hN : N.length = nN) (hrp : ∀ i ∈ rp, i < n)
    (body : ∀ (cdv : Value) (A : Around) (outer : List PySem.Env) (s : Shared) (H : Hp) (pv : Nat → V) (E : XK), (A.deeper (envOfC qual (defScope st) s.heap.objs.size f cdv)).guards = some [] → Room k (A.deeper (envOfC qual (defScope st) s.heap.objs.size f cdv)) →
      DSs ⟨K, mg, (rp, pv, T), E⟩ (cxOf (L2.CX P w) P w K mg base N qual (defScope st) f cdv A outer s H E) (defBody st) m) : FnG P w K mg base (k + 1) f fd ps (spD K mg T (fnM n nN rp m)) :=
  fnDc F S hn hN hrp fun cdv _ => body cdv
def sl : List AV → Nat → Option Nat
  | [], _ => none
  | .s j :: as, i => if j = i then some 0 else (sl as i).map (· + 1)
  | .d _ :: as, i => (sl as i).map (· + 1)
def ndS : List AV → Bool
  | [] => true
  | .d _ :: as => ndS as
  | .s i :: as => (sl as i).isNone && ndS as
def rsO (env : Env) : List AV → Option (List O)
  | [] => some []
  | .d x :: as => (rsO env as).map (.fr x :: ·)
  | .s i :: as => match (env[i]?).join, rsO env as with
    | some o, some os => some (o :: os)
    | _, _ => none
def putB : List AV → List O → Env → Env
  | .d _ :: as, _ :: os, e => putB as os e
  | .s i :: as, o :: os, e => putB as os (e.set i (some o))
  | _, _, e => e
def fCall (m : Fn) (as : List AF) : EF := fun env => evA as env >>= fun r => match rsO r.2 r.1 with
  | none => .no
  | some os => if ndS r.1 = true then m os >>= fun q => .ok (q.1, putB r.1 q.2 r.2) else .no
theorem sl_some : ∀ {as : List AV} {i k : Nat}, sl as i = some k → as[k]? = some (.s i)
  | [], _, _, h => by cases h
  | .s j :: as, i, k, h => by
    unfold sl at h
    by_cases e : j = i
    · rw [if_pos e] at h; cases h; subst e; rfl
    · rw [if_neg e] at h
      cases q : sl as i with
      | none => rw [q] at h; cases h
      | some k' => rw [q] at h; cases h; simpa using sl_some q
  | .d _ :: as, i, k, h => by
    unfold sl at h
    cases q : sl as i with
    | none => rw [q] at h; cases h
    | some k' => rw [q] at h; cases h; simpa using sl_some q
theorem sl_of : ∀ {as : List AV} {i k : Nat}, ndS as = true → as[k]? = some (.s i) → sl as i = some k
  | [], _, _, _, h => by simp at h
  | .s j :: as, i, 0, n, h => by
    simp at h; subst h
    unfold sl; rw [if_pos rfl]
  | .s j :: as, i, k + 1, n, h => by
    unfold ndS at n
    simp only [Bool.and_eq_true] at n
    have q := sl_of (k := k) n.2 (by simpa using h)
    have hj : j ≠ i := fun e => by subst e; rw [q] at n; exact absurd n.1 (by simp)
    unfold sl; rw [if_neg hj, q]; rfl
  | .d _ :: as, i, 0, n, h => by simp at h
  | .d _ :: as, i, k + 1, n, h => by
    have q : sl as i = some k := sl_of (as := as) (k := k) n (by simpa using h)
    unfold sl; rw [q]; rfl
theorem putB_len : ∀ {as : List AV} {os : List O} {e : Env}, (putB as os e).length = e.length
  | [], _, _ => rfl
  | .d _ :: _, [], _ => rfl
  | .s _ :: _, [], _ => rfl
  | .d _ :: as, _ :: os, e => by unfold putB; exact putB_len
  | .s i :: as, o :: os, e => by unfold putB; rw [putB_len, List.length_set]
theorem putB_at : ∀ {as : List AV} {os : List O} {e : Env} {i : Nat}, ndS as = true → os.length = as.length → (∀ j, (sl as j).isSome = true → j < e.length) → (putB as os e)[i]? = match sl as i with
    | some k => (os[k]?).map some
    | none => e[i]?
  | [], _, _, _, _, _, _ => rfl
  | .d _ :: as, [], _, _, _, h, _ => by cases h
  | .s _ :: as, [], _, _, _, h, _ => by cases h
  | .d _ :: as, o :: os, e, i, n, h, b => by
    unfold putB sl
    rw [putB_at (as := as) (i := i) n (by simpa using h) fun j hj => b j (by unfold sl; cases q : sl as j <;> simp [q] at hj ⊢)]
    cases sl as i <;> rfl
  | .s j :: as, o :: os, e, i, n, h, b => by
    unfold ndS at n
    simp only [Bool.and_eq_true] at n
    unfold putB sl
    rw [putB_at (i := i) n.2 (by simpa using h) fun j' hj => by
      rw [List.length_set]
      refine b j' ?_
      unfold sl
      split
      · rfl
      · cases q : sl as j' <;> simp [q] at hj ⊢]
    by_cases e1 : j = i
    · subst e1
      rw [if_pos rfl]
      cases q : sl as j with
      | some k => rw [q] at n; exact absurd n.1 (by simp)
      | none =>
        show (e.set j (some o))[j]? = _
        rw [List.getElem?_set_self (b j (by unfold sl; rw [if_pos rfl]; rfl))]; rfl
    · rw [if_neg e1]
      cases q : sl as i with
      | none =>
        show (e.set j (some o))[i]? = _
        rw [List.getElem?_set_ne e1]; rfl
      | some k => rfl
theorem rsO_len {env : Env} : ∀ {as : List AV} {os : List O}, rsO env as = some os → os.length = as.length
  | [], _, h => by cases h; rfl
  | .d x :: as, os, h => by
    unfold rsO at h
    cases q : rsO env as with
    | none => rw [q] at h; cases h
    | some y => rw [q] at h; cases h; simp [rsO_len q]
  | .s i :: as, os, h => by
    unfold rsO at h
    cases q1 : (env[i]?).join with
    | none => rw [q1] at h; cases h
    | some o =>
      cases q : rsO env as with
      | none => rw [q1, q] at h; cases h
      | some y => rw [q1, q] at h; cases h; simp [rsO_len q]
theorem rsO_at {env : Env} : ∀ {as : List AV} {os : List O} {k : Nat} {o : O}, rsO env as = some os → os[k]? = some o → (∃ x, as[k]? = some (.d x) ∧ o = .fr x) ∨ (∃ i, as[k]? = some (.s i) ∧ env[i]? = some (some o))
  | [], _, _, _, h, e => by cases h; simp at e
  | .d x :: as, os, k, o, h, e => by
    unfold rsO at h
    cases q : rsO env as with
    | none => rw [q] at h; cases h
    | some y =>
      rw [q] at h; cases h
      cases k with
      | zero => simp at e; subst e; exact .inl ⟨x, rfl, rfl⟩
      | succ k => rcases rsO_at (k := k) q (by simpa using e) with ⟨x, a, b⟩ | ⟨i, a, b⟩
                  · exact .inl ⟨x, by simpa using a, b⟩
                  · exact .inr ⟨i, by simpa using a, b⟩
  | .s i :: as, os, k, o, h, e => by
    unfold rsO at h
    cases q1 : (env[i]?).join with
    | none => rw [q1] at h; cases h
    | some o1 =>
      cases q : rsO env as with
      | none => rw [q1, q] at h; cases h
      | some y =>
        rw [q1, q] at h; cases h
        cases k with
        | zero =>
          simp at e; subst e
          refine .inr ⟨i, rfl, ?_⟩
          cases z : env[i]? with
          | none => rw [z] at q1; cases q1
          | some w => rw [z] at q1; cases w <;> cases q1; rfl
        | succ k => rcases rsO_at (k := k) q (by simpa using e) with ⟨x, a, b⟩ | ⟨i, a, b⟩
                    · exact .inl ⟨x, by simpa using a, b⟩
                    · exact .inr ⟨i, by simpa using a, b⟩
theorem av_len {K : PySem.W.Frag} {I : Hp} {σ : St} : ∀ {as : List AV} {vs : List V}, RepAV K I σ as vs → vs.length = as.length
  | _, _, .nil => rfl
  | _, _, .d _ t => by simp [av_len t]
  | _, _, .s _ t => by simp [av_len t]
theorem av_at {K : PySem.W.Frag} {I : Hp} {σ : St} : ∀ {as : List AV} {vs : List V} {k : Nat} {a : AV}, RepAV K I σ as vs → as[k]? = some a → ∃ v, vs[k]? = some v ∧ (match a with | .d x => Rp K I v x | .s i => σ[i]? = some (some v))
  | _, _, _, _, .nil, h => by simp at h
  | _, _, 0, _, .d r t, h => by simp at h; subst h; exact ⟨_, rfl, r⟩
  | _, _, 0, _, .s r t, h => by simp at h; subst h; exact ⟨_, rfl, r⟩
  | _, _, k + 1, a, .d r t, h => by obtain ⟨v, h1, h2⟩ := av_at (k := k) t (by simpa using h); exact ⟨v, by simpa using h1, h2⟩
  | _, _, k + 1, a, .s r t, h => by obtain ⟨v, h1, h2⟩ := av_at (k := k) t (by simpa using h); exact ⟨v, by simpa using h1, h2⟩
section
variable {g : G} {σ : St} {I H : Hp} {env : Env} {F : Nat → List Addr}
/-- the caller's frame lends some of its slots -/
def lend (as : List AV) (F : Nat → List Addr) : Nat → List Addr := fun k => match as[k]? with
  | some (.s i) => F i
  | _ => []
theorem sim_lend {K : PySem.W.Frag} {π : Pn} {as : List AV} {vs : List V} {os : List O} (s : Sim K π I H σ env F) (nd : ndS as = true) (av : RepAV K I σ as vs) (ro : rsO env as = some os) : Sim K (p0 π.2.2) I H (vs.map some) (os.map some) (lend as F) := by
  refine ⟨by simp [rsO_len ro, av_len av], fun k o q => ?_, fun k q => ?_, fun k l a h1 h2 => ?_, fun k a h => ?_, s.sub, (fun i hi => by cases hi), s.tab⟩
  · rcases rsO_at ro (getm q) with ⟨x, h1, rfl⟩ | ⟨i, h1, h2⟩
    · obtain ⟨v, e1, r⟩ := av_at av h1
      exact ⟨v, putm e1, by unfold lend; rw [h1]; exact ⟨rfl, r⟩⟩
    · obtain ⟨v, e1, r⟩ := av_at av h1
      obtain ⟨v', e2, r'⟩ := s.rep i o h2
      have r : σ[i]? = some (some v) := r
      rw [r] at e2; cases e2
      exact ⟨v, putm e1, by unfold lend; rw [h1]; exact r'⟩
  · unfold lend
    cases z : as[k]? with
    | none => rfl
    | some y =>
      cases y with
      | d x => rfl
      | s i =>
        have hk : k < os.length := by
          rw [rsO_len ro]
          cases Nat.lt_or_ge k as.length with
          | inl h => exact h
          | inr h => rw [List.getElem?_eq_none h] at z; cases z
        exact absurd (putm (List.getElem?_eq_getElem hk)) (q _)
  · unfold lend at h1 h2
    cases z1 : as[k]? with
    | none => rw [z1] at h1; cases h1
    | some y1 =>
      cases z2 : as[l]? with
      | none => rw [z2] at h2; cases h2
      | some y2 =>
        rw [z1] at h1; rw [z2] at h2
        cases y1 with
        | d _ => cases h1
        | s i =>
          cases y2 with
          | d _ => cases h2
          | s j =>
            have e := s.dis i j a h1 h2
            subst e
            have e1 := sl_of nd z1
            rw [sl_of nd z2] at e1
            exact (Option.some.inj e1).symm
  · unfold lend at h
    cases z1 : as[k]? with
    | none => rw [z1] at h; cases h
    | some y =>
      rw [z1] at h
      cases y with
      | d _ => cases h
      | s i => exact s.djI i a h
theorem lend_ow {as : List AV} {a : Addr} (h : Ow (lend as F) a) : ∃ (k i : Nat), as[k]? = some (AV.s i) ∧ a ∈ F i := by
  obtain ⟨k, hk⟩ := h
  unfold lend at hk
  cases z : as[k]? with
  | none => rw [z] at hk; cases hk
  | some y =>
    rw [z] at hk
    cases y with
    | d _ => cases hk
    | s i => exact ⟨k, i, z, hk⟩
theorem back_call {K : PySem.W.Frag} {π : Pn} {as : List AV} {vs : List V} {os os' : List O} {o : O} {v : V} {H' : Hp} (s : Sim K π I H σ env F) (nd : ndS as = true) (av : RepAV K I σ as vs) (ro : rsO env as = some os)
    (af : Aft K (p0 π.2.2) I H (lend as F) (vs.map some) (os'.map some) o v H') : Aft K π I H F σ (putB as os' env) o v H' := by
  obtain ⟨I', FA, R, r, sA, nR, dR, st⟩ := af
  have hlo : os'.length = as.length := by
    have := sA.len
    simp only [List.length_map] at this
    rw [this, av_len av]
  have hin : ∀ j, (sl as j).isSome = true → j < env.length := fun j hj => by
    cases q : sl as j with
    | none => rw [q] at hj; cases hj
    | some k =>
      obtain ⟨w, _, e1⟩ := av_at av (sl_some q)
      have e1 : σ[j]? = some (some w) := e1
      rw [s.len]
      cases Nat.lt_or_ge j σ.length with
      | inl h => exact h
      | inr h => rw [List.getElem?_eq_none h] at e1; cases e1
  let F2 : Nat → List Addr := fun i => match sl as i with
    | some k => FA k
    | none => F i
  have notL : ∀ i, sl as i = none → ∀ a ∈ F i, ¬ Ow (lend as F) a := fun i hn a ha h => by
    obtain ⟨k, j, e1, e2⟩ := lend_ow h
    have e := s.dis i j a ha e2
    subst e
    rw [sl_of nd e1] at hn; cases hn
  have F2s : ∀ {i k}, sl as i = some k → F2 i = FA k := fun {i k} h => by show (match sl as i with | some k => FA k | none => F i) = _; rw [h]
  have F2n : ∀ {i}, sl as i = none → F2 i = F i := fun {i} h => by show (match sl as i with | some k => FA k | none => F i) = _; rw [h]
  have keepH : ∀ i, sl as i = none → ∀ a ∈ F i, H' a = H a := fun i hn a ha => by
    obtain ⟨u, hu, nu⟩ := s.domN ha
    rw [hu, st.fr a u hu (notL i hn a ha) nu]
  have nA : ∀ i, sl as i = none → ∀ a ∈ F i, ∀ k, a ∉ FA k := fun i hn a ha k hk => by
    obtain ⟨u, hu⟩ := s.dom ha
    rcases st.s' a (.inl ⟨k, hk⟩) with z | z
    · exact notL i hn a ha z
    · rw [hu] at z; cases z
  have ow : ∀ a, Ow F2 a → Ow FA a ∨ ∃ i, sl as i = none ∧ a ∈ F i := fun a ⟨i, hi⟩ => by
    cases q : sl as i with
    | some k => rw [F2s q] at hi; exact .inl ⟨k, hi⟩
    | none => rw [F2n q] at hi; exact .inr ⟨i, q, hi⟩
  refine ⟨I', F2, R, r, ⟨by rw [putB_len, s.len], fun i y q => ?_, fun i q => ?_, fun i j a h1 h2 => ?_, fun i a h => ?_, sA.sub, s.pin, sA.tab⟩, nR, fun a ha hr => ?_, ⟨st.i1, fun a u h n nt => ?_, fun a u h n => ?_, fun a h => ?_, fun a u h => ?_⟩⟩
  · rw [putB_at nd hlo hin] at q
    cases z : sl as i with
    | none =>
      rw [z] at q
      obtain ⟨w, e1, rr⟩ := s.rep i y q
      exact ⟨w, e1, by rw [F2n z]; exact rr.mono st.i1 (keepH i z)⟩
    | some k =>
      rw [z] at q
      have q : (os'[k]?).map some = some (some y) := q
      cases z2 : os'[k]? with
      | none => rw [z2] at q; cases q
      | some y' =>
        rw [z2] at q; cases q
        obtain ⟨w, e1, rr⟩ := sA.rep k y (putm z2)
        obtain ⟨w', e2, e3⟩ := av_at av (sl_some z)
        have e3 : σ[i]? = some (some w') := e3
        have := getm e1
        rw [e2] at this; cases this
        exact ⟨_, e3, by rw [F2s z]; exact rr⟩
  · cases z : sl as i with
    | none =>
      rw [F2n z]
      exact s.out i fun o hz => q o (by rw [putB_at nd hlo hin, z]; exact hz)
    | some k =>
      rw [F2s z]
      refine sA.out k fun o hz => q o ?_
      rw [putB_at nd hlo hin, z]
      show (os'[k]?).map some = some (some o)
      rw [getm hz]; rfl
  · cases z1 : sl as i with
    | none =>
      rw [F2n z1] at h1
      cases z2 : sl as j with
      | none => rw [F2n z2] at h2; exact s.dis i j a h1 h2
      | some l => rw [F2s z2] at h2; exact absurd h2 (nA i z1 a h1 l)
    | some k =>
      rw [F2s z1] at h1
      cases z2 : sl as j with
      | none => rw [F2n z2] at h2; exact absurd h1 (nA j z2 a h2 k)
      | some l =>
        rw [F2s z2] at h2
        have e := sA.dis k l a h1 h2
        subst e
        have := sl_some z1
        rw [sl_some z2] at this
        cases this; rfl
  · cases z1 : sl as i with
    | none =>
      rw [F2n z1] at h
      cases q : I' a with
      | none => rfl
      | some u =>
        rcases st.i' a u q with y | y | y
        · rw [s.djI i a h] at y; cases y
        · exact (notL i z1 a h y).elim
        · obtain ⟨w, hw⟩ := s.dom h; rw [y] at hw; cases hw
    | some k => rw [F2s z1] at h; exact sA.djI k a h
  · rcases ow a ha with z | ⟨i, hn, hi⟩
    · exact dR a z hr
    · obtain ⟨u, hu⟩ := s.dom hi
      rcases st.s' a (.inr hr) with z | z
      · exact notL i hn a hi z
      · rw [hu] at z; cases z
  · refine st.fr a u h (fun z => n ?_) nt
    obtain ⟨k, i, _, hi⟩ := lend_ow z
    exact ⟨i, hi⟩
  · refine st.th a u h fun z => n ?_
    obtain ⟨k, i, _, hi⟩ := lend_ow z
    exact ⟨i, hi⟩
  · have lo : ∀ a, Ow (lend as F) a → Ow F a := fun a z => by obtain ⟨k, i, _, hi⟩ := lend_ow z; exact ⟨i, hi⟩
    rcases h with h | h
    · rcases ow a h with z | ⟨i, _, hi⟩
      · rcases st.s' a (.inl z) with y | y
        · exact .inl (lo a y)
        · exact .inr y
      · exact .inl ⟨i, hi⟩
    · rcases st.s' a (.inr h) with y | y
      · exact .inl (lo a y)
      · exact .inr y
  · rcases st.i' a u h with z | z | z
    · exact .inl z
    · obtain ⟨k, i, _, hi⟩ := lend_ow z
      exact .inr (.inl ⟨i, hi⟩)
    · exact .inr (.inr z)
theorem call_key {m : Fn} {as : List AF} {Q : VK} (h : tD g (fCall m as) σ H Q) : tA g as σ H fun vs H1 => spD g.K g.mg g.pn.2.2 m vs H1 Q g.E := by
  obtain ⟨I, env, F, s, p⟩ := h
  refine ⟨I, env, F, s, post_mono (post_bind.mp p) (fun r q vs H' I' F' s' st av => ?_) fun _ z => z⟩
  cases qo : rsO r.2 r.1 with
  | none => simp only [qo] at q; exact q.elim
  | some os =>
    simp only [qo] at q
    by_cases nd : ndS r.1 = true
    · rw [if_pos nd] at q
      refine ⟨I', os, lend r.1 F', sim_lend s' nd av qo, post_mono (post_bind.mp q) (fun y z v H'' af => ?_) fun x z H'' c d er xr => ?_⟩
      · exact z v H'' (Aft.trans st (back_call s' nd av qo af))
      · refine z H'' c d (Err.trans st ?_) xr
        obtain ⟨I2, e1, e2, ef, k⟩ := er
        have lo : ∀ a, Ow (lend r.1 F') a → Ow F' a := fun a z => by obtain ⟨_, i, _, hi⟩ := lend_ow z; exact ⟨i, hi⟩
        refine ⟨I2, e1, e2, ef, k.i1, fun a u hu n => k.fr a u hu fun z => n (lo a z), fun a u hu n => k.th a u hu fun z => n (lo a z), fun a z => z.elim, fun a u z => ?_⟩
        rcases k.i' a u z with y | y | y
        · exact .inl y
        · exact .inr (.inl (lo a y))
        · exact .inr (.inr y)
    · rw [if_neg nd] at q; exact q.elim
end
section
variable {g : G} {X : Cx} {k : Nat} {f : Addr} {fd : FuncData} {ps : List Str} {m : Fn} {x : Str} {p pos : Pos} {e : Expr} {es : List Expr} {as : List AF}
theorem de_call (F : FnG X.prog X.w X.K X.mg X.base k f fd ps (spD g.K g.mg g.pn.2.2 m)) (hgd : X.A.guards = some []) (hr : Room k X.A) (hg : Gl X x) (hm : X.mg x = some (.ref f)) (hk : PySem.W.keepIn X.K (.ref f) = true) (hb : Binds X.K fd ps []) (hx : Passes (L2.CX X.prog X.w) X g.E)
    (ha : DA g X (e :: es) as) (hdb : (x == ("__debug__" : Str)) = false := by decide) (he : starEach (e :: es) X.env = (false, eval e X.env) :: starEach es X.env := by rfl) (hpl : (backTo pos (starEach es X.env)).any (·.1) = false := by rfl) :
    DE g X (.Call (.Name x p) (e :: es) [] pos) (fCall m as) := PE.imp (peG F hgd hr hg hm hk hb hx ha hdb he hpl) fun σ H Q h => call_key h
end
end Dy
namespace Dy
open PySem PySem.Spec PyProof.Rows L2
/-- the script's ints as data -/
theorem rp_ints {K : PySem.W.Frag} {I : Hp} : ∀ ns : List Int, RpAll K I (ns.map V.int) (ns.map PyData.int)
  | [] => .nil
  | n :: ns => .cons (.int n) (rp_ints ns)
end Dy
namespace Dy
open PySem PySem.Spec PyProof.Rows L2
open AutoSeq1 (wpAny_loadPart')
theorem meets_enum1 {v : Value} {o : Obj} {Hh : Heap → Prop} (B : Begins v o Hh) :
    Meets (Builtin.«enumerate.__new__» ⟨[.type "enumerate", v], []⟩) (fun _ R s => Hh s.heap ∧ R (.ok (.ret (.ref (s.heap.push o).objs.size))) { s with heap := (s.heap.push o).push { cls := .type "enumerate", data := .fields #[.none, .bool false, .ref s.heap.objs.size, rawInt 0, .none, .none] } }) :=
  .of_wp fun prog w A R s h => by
    obtain ⟨hp, gg, dd, tk, os⟩ := s
    obtain ⟨h1, h⟩ := h
    have hsub := sub_enumerate
    have q1 : ∀ {A' : Around} {E : Value → Shared → Prop} {Q : Value → Shared → Prop}, Q (.ref hp.objs.size) ⟨hp.push o, gg, dd, tk, os⟩ → wpAny (model prog w) A' (pyIter v) Q E ⟨hp, gg, dd, tk, os⟩ := by
      intro A' E Q q
      exact B.iter prog w _ _ ⟨hp, gg, dd, tk, os⟩ _ h1 q
    wp_walk using q1
    refine wpAny_stack_any fun stk => wpAny_pure ?_
    split
    · rename_i c _ _ _ _ _
      cases (c == Value.type "enumerate") <;> (wp_walk using q1; exact ⟨_, rfl, h⟩)
    · wp_walk using q1
      exact ⟨_, rfl, h⟩
theorem call_enum1 {prog : Program} {w : World} {A : Around} {E : Value → Shared → Prop} {s : Shared} {v : Value} {o : Obj} {Hh : Heap → Prop} {Q : Value → Shared → Prop} (B : Begins v o Hh) (h1 : Hh s.heap)
    (h : ∀ h', IsEnum h' (s.heap.objs.size + 1) s.heap.objs.size 0 .none → h'.get? s.heap.objs.size = some o → (∀ b o, s.heap.get? b = some o → h'.get? b = some o) → Q (.ref (s.heap.objs.size + 1)) { s with heap := h' }) :
    wpAny (model prog w) A (call (.type "enumerate") [v]) Q E s := by
  refine callType_new F.called_enumerate (by decide) (F.typeCall_enumerate_1 _) (F.newCall_enumerate_1 _) (fun obj => F.args_object_init_2 obj _) F.entry_enumerate_new (meets_enum1 B) ⟨h1, ?_⟩
  have hz : (s.heap.push o).objs.size = s.heap.objs.size + 1 := Heap.size_push ..
  let en : Obj := { cls := .type "enumerate", data := .fields #[.none, .bool false, .ref s.heap.objs.size, rawInt 0, .none, .none] }
  have he : IsEnum ((s.heap.push o).push en) (s.heap.objs.size + 1) s.heap.objs.size 0 .none := by
    have q := Heap.get?_push_size (s.heap.push o) (o := en) rfl
    rw [hz] at q
    exact q
  show _ ∧ _
  rw [hz]
  exact ⟨⟨_, he, rfl⟩, h _ he (Heap.get?_push_of_some _ (Heap.get?_push_size _ B.free)) fun b u x => Heap.get?_push_of_some _ (Heap.get?_push_of_some _ x)⟩
def SqX (t : Bool) (K : PySem.W.Frag) (H : Hp) (a : Addr) (xs : List V) : Prop := if t = true then SqT K H a xs else SqL K H a xs
def IsX (t : Bool) (h : Heap) (a : Addr) (items : Array Value) : Prop := if t = true then h.IsTuple a items else h.IsList a items
def ItX (t : Bool) (h : Heap) (it a : Addr) (i : Nat) : Prop := if t = true then h.IsTupleIter it a i else h.IsListIter it a i
def itO (t : Bool) (a : Addr) : Obj := if t = true then { cls := .type "tuple_iterator", data := .fields #[.ref a, .int 0 0] } else { cls := .type "list_iterator", data := .fields #[.ref a, .int 0 0] }
theorem begX (t : Bool) (a : Addr) (items : Array Value) : Begins (.ref a) (itO t a) fun h => IsX t h a items := by
  cases t
  · exact begins_list a items
  · exact begins_tuple a items
theorem itX_new {t : Bool} {h : Heap} {it a : Addr} (e : h.get? it = some (itO t a)) : ItX t h it a 0 := by
  cases t
  · exact ⟨_, e, rfl, rfl⟩
  · exact ⟨_, e, rfl, rfl⟩
theorem drX {prog : Program} {w : World} {A : Around} (hh : A.handled = none) (t : Bool) (it a : Addr) (hne : a ≠ it) (items : Array Value) : Draws prog w A it [it, a] items.size (fun i v => items[i]? = some v) (fun i h => ItX t h it a i ∧ IsX t h a items) := by
  cases t
  · exact Draws.list hh it a hne items
  · exact Draws.tuple hh it a hne items
theorem itX_obj {t : Bool} {h : Heap} {it a : Addr} {i : Nat} (x : ItX t h it a i) : ∃ o, h.get? it = some o ∧ ∀ v, o.data ≠ .cell v := by
  cases t
  · obtain ⟨o, e, _, d⟩ := x
    exact ⟨o, e, fun v z => by rw [d] at z; cases z⟩
  · obtain ⟨o, e, _, d⟩ := x
    exact ⟨o, e, fun v z => by rw [d] at z; cases z⟩
theorem itX_at {t : Bool} {h h' : Heap} {it a : Addr} {i : Nat} (x : ItX t h it a i) (k : ∀ o, h.get? it = some o → h'.get? it = some o) : ItX t h' it a i := by
  cases t
  · obtain ⟨o, e, r⟩ := x
    exact ⟨o, k o e, r⟩
  · obtain ⟨o, e, r⟩ := x
    exact ⟨o, k o e, r⟩
section
variable {X : Cx} {pins : List (Addr × Obj)} {σ : St} {H : Hp} {s : Shared} {a : Addr} {xs ys : List V} {t : Bool}
theorem invX (J : Inv X pins σ H s) (h : SqX t X.K H a xs) : ∃ its : List Value, Vals xs its ∧ IsX t s.heap a its.toArray ∧ a < s.heap.objs.size := by
  cases t
  · obtain ⟨its, r, p, _⟩ := J.list h
    exact ⟨its, r, p.isList, by obtain ⟨_, _, e, _⟩ := p; exact Heap.lt_size e⟩
  · obtain ⟨its, r, p, _⟩ := J.tuple h
    exact ⟨its, r, p, by obtain ⟨_, e, _⟩ := p; exact Heap.lt_size e⟩
theorem invX_inj (J : Inv X pins σ H s) (h : SqX t X.K H a xs) (h' : SqX t X.K H a ys) : xs = ys := by
  cases t
  · exact J.list_inj h h'
  · exact J.tuple_inj h h'
end
/-- enumerate -/
def ItEn (t : Bool) (K : PySem.W.Frag) (a : Addr) : It :=
  ⟨fun i H => ∃ (xs : List V) (x : V), SqX t K H a xs ∧ xs[i]? = some x, fun i H v H' => ∃ T ob x, v = .ref T ∧ PlT ob ∧ H T = none ∧ H' = upd H T (.frz ob (.tup [.int (i : Nat), x])) ∧ ∀ xs, SqX t K H a xs → xs[i]? = some x, fun i H => ∃ xs : List V, SqX t K H a xs ∧ xs.length = i⟩
theorem turn_en {P : Program} {w : World} {K : PySem.W.Frag} {elts : List Expr} {kk : Nat} {tpos : Pos} (t : Bool) (a e it : Addr) (hai : a ≠ it) (hae : a ≠ e) :
    Turn P w K (.Tuple elts kk tpos) (ItEn t K a) [e, it] e (fun i h => (∃ old, IsEnum h e it ((i : Nat) : Int) old) ∧ ItX t h it a i ∧ e ≠ it) where
  mem := by simp
  obj := by
    rintro i h ⟨⟨old, he⟩, hx, _⟩ b hb
    simp only [List.mem_cons, List.not_mem_nil, or_false] at hb
    rcases hb with rfl | rfl
    · exact ⟨_, he, fun v q => nomatch q⟩
    · exact itX_obj hx
  keep := by
    rintro i h h' ⟨⟨old, he⟩, hx, hne⟩ k
    exact ⟨⟨old, k e (by simp) _ he⟩, itX_at hx fun o q => k it (by simp) o q, hne⟩
  item := by
    intro X hP hw hK hc i pins s σ H E J hf stt hg
    subst hP hw hK
    obtain ⟨⟨old, he⟩, hit, hne⟩ := stt
    obtain ⟨xs, x, hq, hx⟩ := hg
    obtain ⟨its, rv, p, _⟩ := invX J hq
    obtain ⟨u, hu, ru⟩ := rv.get hx
    have hel : e < s.heap.objs.size := Heap.lt_size he
    have hil : it < s.heap.objs.size := by obtain ⟨_, q, _⟩ := itX_obj hit; exact Heap.lt_size q
    have hi : i < its.toArray.size := by
      rw [List.size_toArray]
      cases Nat.lt_or_ge i its.length with
      | inl z => exact z
      | inr z => rw [List.getElem?_eq_none z] at hu; cases hu
    refine wpAny_pyNext_enum_itemD (drX (A := X.A.in1) (J.ok.hd hc) t it a hai its.toArray) he ⟨hit, p⟩ hi hne (by simp only [List.mem_cons, List.not_mem_nil, or_false, not_or]; exact ⟨hne, Ne.symm hae⟩) fun y h' tk hy ho hst hT hsz hk => ?_
    have ey : y = u := by
      have hy : its.toArray[i]? = some y := hy
      have : its[i]? = some y := by simpa using hy
      rw [hu] at this; exact (Option.some.inj this).symm
    subst ey
    refine ⟨_, rfl, wpAny_letOwnedTupleGo_enum (s := { s with heap := h', toks := tk + 1 }) ho fun h'' he' sb => ?_⟩
    have hT2 : h''.get? s.heap.objs.size = some { cls := .type "tuple", data := .seq #[.int i tk, y] } := (sb.2 _ (Nat.ne_of_gt hel)).trans hT
    have nw : ObjOk X.prog X.w (upd H s.heap.objs.size (.frz { cls := .type "tuple", data := .seq #[.int i tk, y] } (.tup [.int (i : Nat), x]))) h'' s.heap.objs.size (.frz { cls := .type "tuple", data := .seq #[.int i tk, y] } (.tup [.int (i : Nat), x])) :=
      ⟨hT2, by show 2 ≤ sizeLine; decide, [.int i tk, y], .cons ⟨_, rfl⟩ (.cons ru .nil), ⟨_, hT2, rfl, _, rfl⟩⟩
    have J1 : Inv X pins σ (upd H s.heap.objs.size (.frz { cls := .type "tuple", data := .seq #[.int i tk, y] } (.tup [.int (i : Nat), x]))) { s with heap := h'', toks := tk + 1 } := by
      refine J.turnedNew (ch := [e, it]) (fun b ob hb q => ?_) hf (Nat.le_refl _) nw
      simp only [List.mem_cons, List.not_mem_nil, or_false, not_or] at hb
      exact (sb.2 b hb.1).trans (hk b ob hb.1 hb.2 q)
    refine ⟨.ref s.heap.objs.size, _, J1, rfl, ⟨_, _, x, rfl, PlT.mk, J.hok.fresh (Nat.le_refl _), rfl, fun ys hy => by rw [invX_inj J hy hq]; exact hx⟩, ⟨⟨y, ?_⟩, itX_at hst.1 fun o q => (sb.2 it (Ne.symm hne)).trans q, hne⟩, fun b hb => ?_⟩
    · have e1 : ((i + 1 : Nat) : Int) = (i : Int) + 1 := by omega
      rw [e1]
      exact he'
    · simp only [List.mem_cons, List.not_mem_nil, or_false] at hb
      have hb' : b < s.heap.objs.size := by rcases hb with rfl | rfl <;> assumption
      rw [upd_ne (Nat.ne_of_lt hb')]
      exact (hf b (by simpa using hb)).1
  done := by
    intro X hP hw hK hc i pins s σ H E J hf stt hg
    subst hP hw hK
    obtain ⟨⟨old, he⟩, hit, hne⟩ := stt
    obtain ⟨xs, hq, hx⟩ := hg
    obtain ⟨its, rv, p, _⟩ := invX J hq
    obtain ⟨f0, f1, f2, f3, f4, f5⟩ := hf it (by simp)
    have hn : its.toArray.size = i := by rw [List.size_toArray, ← rv.length]; exact hx
    have D := drX (prog := X.prog) (w := X.w) (A := X.A.in1) (J.ok.hd hc) t it a hai its.toArray
    rw [hn] at D
    exact wpAny_pyNext_enum_endD D he ⟨hit, p⟩ fun h' eb => ⟨rfl, J.turned (t' := s.toks) (fun b o hb q => eb b o hb q) f0 f1 f3 f4 f5⟩
  self := by
    rintro A i s Q E ⟨⟨_, he⟩, _⟩ h
    exact wpAny_pyIter_enum he h
def iEn (K : PySem.W.Frag) (ta : TA) : TI := fun σ H R => ta σ H fun vs H1 => ∃ a t xs, vs = [.ref a] ∧ SqX t K H1 a xs ∧ R (ItEn t K a) H1
theorem pi_en {X : Cx} {e : Expr} {ta : TA} {p pos tpos : Pos} {elts : List Expr} {kk : Nat} (hg : Gl X "enumerate") (hm : X.mg "enumerate" = none) (ha : PA X [e] ta) (hs : starEach [e] X.env = [(false, eval e X.env)] := by rfl) :
    PI X (.Tuple elts kk tpos) (.Call (.Name "enumerate" p) [e] [] pos) (iEn X.K ta) := by
  refine ⟨fun pins s σ H R J h => ?_⟩
  refine Call_ (ld_blt J hg hm boot_enumerate (PyProof.Rows.callWith_type1 (thn (ha.run pos pins s σ H _ J h) ?_) hs rfl))
  rintro us s1 ⟨vs, H1, J1, r1, a, t, xs, rfl, hq, q⟩
  cases r1 with
  | cons r rr =>
    cases rr
    cases r
    obtain ⟨its, rv, p', hlt⟩ := invX J1 hq
    refine call_enum1 (begX t a its.toArray) p' fun h' he hit hk => wpAny_pyIter_enum he ?_
    have J2 : Inv X pins σ H1 { s1 with heap := h' } := J1.kept (t' := s1.toks) hk
    refine ⟨s1.heap.objs.size + 1, [s1.heap.objs.size + 1, s1.heap.objs.size], _, _, H1, rfl, J2, turn_en t a (s1.heap.objs.size + 1) s1.heap.objs.size (Nat.ne_of_lt hlt) (Nat.ne_of_lt (Nat.lt_succ_of_lt hlt)), ⟨⟨.none, he⟩, itX_new hit, Nat.succ_ne_self _⟩, fun b hb => ?_, q⟩
    have hle : s1.heap.objs.size ≤ b := by
      simp only [List.mem_cons, List.not_mem_nil, or_false] at hb
      rcases hb with z | z
      · rw [z]; exact Nat.le_succ _
      · rw [z]; exact Nat.le_refl _
    exact J1.fpOk hle (J1.hok.fresh hle)
end Dy
namespace Dy
open PySem PySem.Spec PyProof.Rows L2
def kindK : PyData → Option Bool
  | .int _ => some false
  | .str _ => some false
  | .tuple xs => match keysOf xs with
    | some ks => if NestedKey.depthAll ks ≤ 7 then some true else none
    | none => none
  | _ => none
def okK (es : List (PyData × PyData)) (k : PyData) : Bool := match kindK k with
  | none => false
  | some b => match es with
    | [] => true
    | e :: _ => decide (kindK e.1 = some b)
def dAt (es : List (PyData × PyData)) (k : PyData) : Option PyData := (es.find? fun e => PyData.eqv e.1 k).map (·.2)
def dPut (es : List (PyData × PyData)) (k v : PyData) : List (PyData × PyData) := if (dAt es k).isSome = true then es.map fun e => if PyData.eqv e.1 k = true then (e.1, v) else e else es ++ [(k, v)]
mutual
theorem key_eqv : ∀ {a b : PyData} {n m : NestedKey}, keyOf a = some n → keyOf b = some m → PyData.eqv a b = NestedKey.beq n m
  | .none, b, n, m, ha, hb => by
    simp only [keyOf, Option.some.injEq] at ha; subst ha
    cases b <;> simp only [keyOf, Option.some.injEq, Option.map_eq_some_iff, reduceCtorEq] at hb
    · subst hb; rfl
    · subst hb; rfl
    · obtain ⟨ks, _, rfl⟩ := hb; rfl
  | .int i, b, n, m, ha, hb => by
    simp only [keyOf, Option.some.injEq] at ha; subst ha
    cases b <;> simp only [keyOf, Option.some.injEq, Option.map_eq_some_iff, reduceCtorEq] at hb
    · subst hb; rfl
    · subst hb
      simp only [PyData.eqv, NestedKey.beq]
      by_cases h : i = ‹Int› <;> simp [h]
    · obtain ⟨ks, _, rfl⟩ := hb; rfl
  | .tuple xs, b, n, m, ha, hb => by
    simp only [keyOf, Option.map_eq_some_iff] at ha
    obtain ⟨ks, h1, rfl⟩ := ha
    cases b with
    | none => simp only [keyOf, Option.some.injEq] at hb; subst hb; rfl
    | int i => simp only [keyOf, Option.some.injEq] at hb; subst hb; rfl
    | tuple ys =>
      simp only [keyOf, Option.map_eq_some_iff] at hb
      obtain ⟨ls, h2, rfl⟩ := hb
      simp only [PyData.eqv, NestedKey.beq]
      exact keys_eqv h1 h2
    | bool _ => simp [keyOf] at hb
    | str _ => simp [keyOf] at hb
    | list _ => simp [keyOf] at hb
    | dict _ => simp [keyOf] at hb
  | .bool _, _, _, _, ha, _ => by simp [keyOf] at ha
  | .str _, _, _, _, ha, _ => by simp [keyOf] at ha
  | .list _, _, _, _, ha, _ => by simp [keyOf] at ha
  | .dict _, _, _, _, ha, _ => by simp [keyOf] at ha
theorem keys_eqv : ∀ {a b : List PyData} {n m : List NestedKey}, keysOf a = some n → keysOf b = some m → PyData.eqvAll a b = NestedKey.beqAll n m
  | [], b, n, m, ha, hb => by
    simp only [keysOf, Option.some.injEq] at ha; subst ha
    cases b with
    | nil => simp only [keysOf, Option.some.injEq] at hb; subst hb; rfl
    | cons y ys =>
      simp only [keysOf, Option.bind_eq_some_iff, Option.map_eq_some_iff] at hb
      obtain ⟨k, _, ks, _, rfl⟩ := hb; rfl
  | x :: xs, b, n, m, ha, hb => by
    simp only [keysOf, Option.bind_eq_some_iff, Option.map_eq_some_iff] at ha
    obtain ⟨k, h1, ks, h2, rfl⟩ := ha
    cases b with
    | nil => simp only [keysOf, Option.some.injEq] at hb; subst hb; rfl
    | cons y ys =>
      simp only [keysOf, Option.bind_eq_some_iff, Option.map_eq_some_iff] at hb
      obtain ⟨l, h3, ls, h4, rfl⟩ := hb
      simp only [PyData.eqvAll, NestedKey.beqAll]
      rw [key_eqv h1 h3, keys_eqv h2 h4]
end
theorem key_dec {a b : PyData} {n m : NestedKey} (ha : keyOf a = some n) (hb : keyOf b = some m) : PyData.eqv a b = decide (n = m) := by rw [NestedKey.decide_eq]; exact key_eqv ha hb
theorem kD_dec (a b : Key) : PyData.eqv (kD a) (kD b) = decide (a = b) := by
  cases a <;> cases b <;> simp [kD, PyData.eqv]
  · rename_i x y; by_cases h : x = y <;> simp [h]
  · rename_i x y; by_cases h : x = y <;> simp [h]
theorem kind_t {k : PyData} (h : kindK k = some true) : ∃ n, keyOf k = some n ∧ n.depth ≤ 8 ∧ ∃ xs, k = .tuple xs := by
  cases k <;> simp only [kindK, reduceCtorEq, Option.some.injEq] at h
  rename_i xs
  split at h
  · rename_i ks q
    split at h
    · rename_i hz
      exact ⟨.tup ks, by simp [keyOf, q], by simp only [NestedKey.depth]; omega, _, rfl⟩
    · cases h
  · cases h
theorem kind_of {k : PyData} {n : NestedKey} (h1 : keyOf k = some n) (h2 : n.depth ≤ 8) {xs : List PyData} (h3 : k = .tuple xs) : kindK k = some true := by
  subst h3
  simp only [keyOf, Option.map_eq_some_iff] at h1
  obtain ⟨ks, h1, rfl⟩ := h1
  simp only [NestedKey.depth] at h2
  simp only [kindK, h1]
  rw [if_pos (by omega)]
theorem kind_f {k : PyData} (h : kindK k = some false) : ∃ y : Key, k = kD y := by
  cases k <;> simp only [kindK, reduceCtorEq, Option.some.injEq] at h
  · exact ⟨.inl _, rfl⟩
  · exact ⟨.inr _, rfl⟩
  · split at h
    · split at h <;> cases h
    · cases h
theorem kind_kD (y : Key) : kindK (kD y) = some false := by cases y <;> rfl
inductive VN (K : PySem.W.Frag) (I : Hp) : List (PyData × PyData) → List YP → Prop
  | nil : VN K I [] []
  | cons {kd d : PyData} {k : NestedKey} {b : Addr} {v : V} {u : Value} {es : List (PyData × PyData)} {ys : List YP} : keyOf kd = some k → k.depth ≤ 8 → Rp K I (.ref b) kd → Rp K I v d → RelV v u → VN K I es ys → VN K I ((kd, d) :: es) ((k, b, u) :: ys)
inductive VKs (K : PySem.W.Frag) (I : Hp) : List (PyData × PyData) → List (Key × Value) → Prop
  | nil : VKs K I [] []
  | cons {k : Key} {d : PyData} {v : V} {u : Value} {es : List (PyData × PyData)} {vs : List (Key × Value)} : Rp K I v d → RelV v u → VKs K I es vs → VKs K I ((kD k, d) :: es) ((k, u) :: vs)
section
variable {K : PySem.W.Frag} {I : Hp}
theorem VN.of : ∀ {ts : List TP} {es : List (PyData × PyData)} {ys : List YP}, RpKt K I ts es → Paired PY ts ys → VN K I es ys
  | _, _, _, .nil, .nil => .nil
  | _, _, _, .cons (kd := kd) h1 h2 h3 h4 t, .cons (b := y) p q => by
    obtain ⟨k, b, u⟩ := y
    obtain ⟨e1, e2, e3⟩ := p
    dsimp only at e1 e2 e3
    subst e1 e2
    exact .cons h1 h2 h3 h4 e3 (VN.of t q)
theorem VN.length : ∀ {es : List (PyData × PyData)} {ys : List YP}, VN K I es ys → es.length = ys.length
  | _, _, .nil => rfl
  | _, _, .cons _ _ _ _ _ t => by simp [t.length]
theorem VKs.of : ∀ {kvs : List (Key × V)} {es : List (PyData × PyData)} {vs : List (Key × Value)}, RpKv K I kvs es → KV kvs vs → VKs K I es vs
  | _, _, _, .nil, .nil => .nil
  | _, _, _, .cons h t, .cons (b := y) p q => by
    obtain ⟨k, u⟩ := y
    obtain ⟨e1, e2⟩ := p
    dsimp only at e1 e2
    subst e1
    exact .cons h e2 (VKs.of t q)
theorem VKs.length : ∀ {es : List (PyData × PyData)} {ys : List (Key × Value)}, VKs K I es ys → es.length = ys.length
  | _, _, .nil => rfl
  | _, _, .cons _ _ t => by simp [t.length]
theorem VN.at {kd : PyData} {n : NestedKey} (hk : keyOf kd = some n) : ∀ {es : List (PyData × PyData)} {ys : List YP}, VN K I es ys → (atKey ys n = none ∧ dAt es kd = none) ∨ ∃ b u v d, atKey ys n = some (b, u) ∧ dAt es kd = some d ∧ Rp K I v d ∧ RelV v u
  | _, _, .nil => .inl ⟨rfl, rfl⟩
  | _, _, .cons (kd := kd') (k := k') (b := b') h1 h2 h3 h4 h5 t => by
    have e := key_dec h1 hk
    by_cases c : k' = n
    · subst c
      right
      refine ⟨b', _, _, _, ?_, ?_, h4, h5⟩
      · unfold atKey; rw [List.find?_cons_of_pos (by simp)]; rfl
      · unfold dAt; rw [List.find?_cons_of_pos (by simp [e])]; rfl
    · rcases VN.at hk t with ⟨a1, a2⟩ | ⟨b, u, v, d, a1, a2, a3⟩
      · left
        refine ⟨?_, ?_⟩
        · simpa [atKey, List.find?_cons, c] using a1
        · simpa [dAt, List.find?_cons, e, c] using a2
      · right
        refine ⟨b, u, v, d, ?_, ?_, a3⟩
        · simpa [atKey, List.find?_cons, c] using a1
        · simpa [dAt, List.find?_cons, e, c] using a2
theorem VKs.at (k : Key) : ∀ {es : List (PyData × PyData)} {ys : List (Key × Value)}, VKs K I es ys → (valueAt ys k = none ∧ dAt es (kD k) = none) ∨ ∃ u v d, valueAt ys k = some u ∧ dAt es (kD k) = some d ∧ Rp K I v d ∧ RelV v u
  | _, _, .nil => .inl ⟨rfl, rfl⟩
  | _, _, .cons (k := k') h4 h5 t => by
    have e := kD_dec k' k
    by_cases c : k' = k
    · subst c
      right
      refine ⟨_, _, _, ?_, ?_, h4, h5⟩
      · unfold valueAt; rw [List.find?_cons_of_pos (by simp)]; rfl
      · unfold dAt; rw [List.find?_cons_of_pos (by simp [e])]; rfl
    · rcases VKs.at k t with ⟨a1, a2⟩ | ⟨u, v, d, a1, a2, a3⟩
      · left
        refine ⟨?_, ?_⟩
        · simpa [valueAt, List.find?_cons, c] using a1
        · simpa [dAt, List.find?_cons, e, c] using a2
      · right
        refine ⟨u, v, d, ?_, ?_, a3⟩
        · simpa [valueAt, List.find?_cons, c] using a1
        · simpa [dAt, List.find?_cons, e, c] using a2
theorem VN.app : ∀ {es fs : List (PyData × PyData)} {ys zs : List YP}, VN K I es ys → VN K I fs zs → VN K I (es ++ fs) (ys ++ zs)
  | _, _, _, _, .nil, s => s
  | _, _, _, _, .cons h1 h2 h3 h4 h5 t, s => .cons h1 h2 h3 h4 h5 (t.app s)
theorem VKs.app : ∀ {es fs : List (PyData × PyData)} {ys zs : List (Key × Value)}, VKs K I es ys → VKs K I fs zs → VKs K I (es ++ fs) (ys ++ zs)
  | _, _, _, _, .nil, s => s
  | _, _, _, _, .cons h4 h5 t, s => .cons h4 h5 (t.app s)
theorem VN.upd {kd d : PyData} {n : NestedKey} {v : V} {u : Value} (hk : keyOf kd = some n) (rv : Rp K I v d) (ru : RelV v u) : ∀ {es : List (PyData × PyData)} {ys : List YP}, VN K I es ys →
    VN K I (es.map fun e => if PyData.eqv e.1 kd = true then (e.1, d) else e) (ys.map (putAt n u))
  | _, _, .nil => .nil
  | _, _, .cons (kd := kd') (k := k') h1 h2 h3 h4 h5 t => by
    have e := key_dec h1 hk
    have ih := VN.upd hk rv ru t
    simp only [List.map_cons]
    by_cases c : k' = n
    · simp only [e, c, decide_true, if_true, putAt]; exact .cons (c ▸ h1) (c ▸ h2) h3 rv ru ih
    · simp only [e, c, decide_false, Bool.false_eq_true, if_false, putAt]; exact .cons h1 h2 h3 h4 h5 ih
theorem VKs.upd {k : Key} {d : PyData} {v : V} {u : Value} (rv : Rp K I v d) (ru : RelV v u) : ∀ {es : List (PyData × PyData)} {ys : List (Key × Value)}, VKs K I es ys →
    VKs K I (es.map fun e => if PyData.eqv e.1 (kD k) = true then (e.1, d) else e) (ys.map fun kv => if kv.1 = k then (kv.1, u) else kv)
  | _, _, .nil => .nil
  | _, _, .cons (k := k') h4 h5 t => by
    have e := kD_dec k' k
    have ih := VKs.upd (k := k) rv ru t
    simp only [List.map_cons]
    by_cases c : k' = k
    · subst c; rw [if_pos (by rw [e]; simp), if_pos rfl]; exact .cons rv ru ih
    · rw [if_neg (by rw [e]; simp [c]), if_neg c]; exact .cons h4 h5 ih
theorem VN.put {kd d : PyData} {n : NestedKey} {b : Addr} {v : V} {u : Value} {es : List (PyData × PyData)} {ys : List YP} (hk : keyOf kd = some n) (h8 : n.depth ≤ 8) (rb : Rp K I (.ref b) kd) (rv : Rp K I v d) (ru : RelV v u) (h : VN K I es ys) :
    VN K I (dPut es kd d) (storedH ys n b u) := by
  unfold dPut storedH
  rcases h.at hk with ⟨a1, a2⟩ | ⟨b', u', v', d', a1, a2, _⟩
  · rw [a1, a2]; exact h.app (.cons hk h8 rb rv ru .nil)
  · rw [a1, a2]; exact h.upd hk rv ru
theorem VKs.put {k : Key} {d : PyData} {v : V} {u : Value} {es : List (PyData × PyData)} {ys : List (Key × Value)} (rv : Rp K I v d) (ru : RelV v u) (h : VKs K I es ys) : VKs K I (dPut es (kD k) d) (stored ys k u) := by
  have ea : (ys.any fun kv => decide (kv.1 = k)) = (valueAt ys k).isSome := by
    clear h
    induction ys with
    | nil => rfl
    | cons x xs ih => by_cases c : x.1 = k <;> simp [valueAt, List.find?_cons, c] <;> simpa [valueAt] using ih
  unfold dPut stored
  rw [ea]
  rcases h.at k with ⟨a1, a2⟩ | ⟨u', v', d', a1, a2, _⟩
  · rw [a1, a2]; exact h.app (.cons rv ru .nil)
  · rw [a1, a2]; exact h.upd rv ru
theorem VN.key : ∀ {es : List (PyData × PyData)} {ys : List YP}, VN K I es ys → ∀ y ∈ ys, ∃ kd, keyOf kd = some y.1 ∧ y.1.depth ≤ 8 ∧ Rp K I (.ref y.2.1) kd
  | _, _, .nil, y, hy => nomatch hy
  | _, _, .cons h1 h2 h3 _ _ t, y, hy => by
    rcases List.mem_cons.mp hy with rfl | hy
    · exact ⟨_, h1, h2, h3⟩
    · exact t.key y hy
end
section
variable {X : Cx} {pins : List (Addr × Obj)} {σ : St} {I H : Hp} {s : Shared} {a : Addr} {es : List (PyData × PyData)} {k : PyData}
mutual
theorem key_is (J : Inv X pins σ H s) (sm : Same I H) : ∀ {d : PyData} {v : V} {n : NestedKey} {u : Value}, Rp X.K I v d → keyOf d = some n → RelV v u → NestedIs s.heap n u
  | .none, v, n, u, r, h, ru => by cases r; simp only [keyOf, Option.some.injEq] at h; subst h; cases (show u = Value.none from ru); exact .none
  | .int i, v, n, u, r, h, ru => by cases r; simp only [keyOf, Option.some.injEq] at h; subst h; obtain ⟨t, rfl⟩ := ru; exact .int _ _
  | .tuple xs, v, n, u, r, h, ru => by
    simp only [keyOf, Option.map_eq_some_iff] at h
    obtain ⟨ks, h1, rfl⟩ := h
    cases r with
    | @tup a vs _ hs ha =>
      cases (show u = Value.ref a from ru)
      obtain ⟨its, rv, ⟨o, h2, h3, m, h4⟩, _⟩ := J.tuple (same_t sm hs.sq)
      exact .tup h2 h3 h4 (by simpa using keys_are J sm ha h1 rv)
  | .bool _, _, _, _, _, h, _ => by simp [keyOf] at h
  | .str _, _, _, _, _, h, _ => by simp [keyOf] at h
  | .list _, _, _, _, _, h, _ => by simp [keyOf] at h
  | .dict _, _, _, _, _, h, _ => by simp [keyOf] at h
theorem keys_are (J : Inv X pins σ H s) (sm : Same I H) : ∀ {ds : List PyData} {vs : List V} {ns : List NestedKey} {us : List Value}, RpAll X.K I vs ds → keysOf ds = some ns → Vals vs us → NestedAll s.heap ns us
  | [], vs, ns, us, r, h, rv => by
    cases r; cases rv
    simp only [keysOf, Option.some.injEq] at h; subst h; exact .nil
  | d :: ds, vs, ns, us, r, h, rv => by
    simp only [keysOf, Option.bind_eq_some_iff, Option.map_eq_some_iff] at h
    obtain ⟨k, h1, ks, h2, rfl⟩ := h
    cases r with
    | cons r1 r2 =>
      cases rv with
      | cons v1 v2 => exact .cons (key_is J sm r1 h1 v1) (keys_are J sm r2 h2 v2)
end
theorem rp_tup_ref {K : PySem.W.Frag} {v : V} {xs : List PyData} (h : Rp K I v (.tuple xs)) : ∃ b, v = .ref b := by cases h; exact ⟨_, rfl⟩
theorem rpkt_kind {K : PySem.W.Frag} {ts : List TP} {ys : List YP} (h : RpKt K I ts es) (p : Paired PY ts ys) : ∀ e ∈ es, kindK e.1 = some true := by
  induction es generalizing ts ys with
  | nil => intro e he; cases he
  | cons x es ih =>
    cases h with
    | cons h1 h2 h3 h4 t =>
      cases p with
      | @cons _ y _ _ p q =>
        intro e he
        rcases List.mem_cons.mp he with he | he
        · subst he
          obtain ⟨_, e2, _⟩ := p
          dsimp only at e2 ⊢
          subst e2
          cases h3 with
          | tup a b => exact kind_of h1 h2 rfl
          | lst a b => simp [keyOf] at h1
          | dic a b => simp [keyOf] at h1
          | dit a b => simp [keyOf] at h1
        · exact ih t q e he
theorem rd_obj {P : Program} {w : World} {H : Hp} {h : Heap} {a : Addr} {u : HO} (ok : HOk P w H h) (e : Rd H a u) : ObjOk P w H h a u := by
  rcases e with e | ⟨o, e⟩
  · exact ok a _ e
  · exact (show h.get? a = some o ∧ ObjOk P w H h a u from ok a _ e).2
theorem viewT {ts : List TP} (J : Inv X pins σ H s) (sm : Same I H) (h1 : Rd H a (dN a ts)) (h2 : RpKt X.K I ts es) :
    ∃ ys, VN X.K I es ys ∧ s.heap.DictOfH (nestedKind X.prog X.w) a ys ∧ es.length ≤ sizeLine ∧ (a == sysModules) = false := by
  obtain ⟨⟨hd, z, ys, py, o, es', ep, e1, e2, e3, e4, e5⟩, _⟩ := (rd_obj J.hok h1)
  have vn := VN.of h2 py
  refine ⟨ys, vn, ⟨o, es', ep, e1, e2, e3, e4 X.w, fun y hy => ?_, e5⟩, by rw [vn.length, ← Paired.length py]; exact z, hd⟩
  obtain ⟨kd, q1, q2, q3⟩ := vn.key y hy
  exact ⟨key_is J sm q3 q1 rfl, q2⟩
/-- a dict with tuples for keys, or empty -/
theorem viewN (J : Inv X pins σ H s) (sm : Same I H) (h : DrO X.K I H a es) (ok : okK es k = true) (hk : kindK k = some true) :
    ∃ ys, VN X.K I es ys ∧ s.heap.DictOfH (nestedKind X.prog X.w) a ys ∧ es.length ≤ sizeLine ∧ (a == sysModules) = false := by
  rcases h with ⟨kvs, h1, h2⟩ | ⟨ts, h1, h2⟩
  · have : es = [] := by
      cases h2 with
      | nil => rfl
      | cons r t => unfold okK at ok; rw [hk] at ok; simp only [decide_eq_true_eq] at ok; rw [kind_kD] at ok; cases ok
    subst this
    cases h2
    obtain ⟨z, hd, vs, rel, o, es', ep, e1, e2, e3, e4, e5, e6⟩ := dk_rd J.hok h1
    cases rel
    have e4' : es'.toList = [] := by
      have := e5
      cases q : es'.toList with
      | nil => rfl
      | cons x r => rw [q] at this; cases this
    exact ⟨[], .nil, ⟨o, es', ep, e1, e2, e3, e4', (fun x hx => by cases hx), List.nodup_nil⟩, Nat.zero_le _, hd⟩
  · exact viewT J sm h1 h2
theorem viewK {y : Key} (J : Inv X pins σ H s) (h : DrO X.K I H a es) (ok : okK es (kD y) = true) :
    ∃ vs, VKs X.K I es vs ∧ s.heap.DictOf (mixKind X.prog X.w) a vs ∧ es.length ≤ sizeLine ∧ (a == sysModules) = false := by
  rcases h with ⟨kvs, h1, h2⟩ | ⟨ts, h1, h2⟩
  · obtain ⟨z, hd, vs, rel, dd⟩ := dk_rd J.hok h1
    have vk := VKs.of h2 rel
    exact ⟨vs, vk, dd, by rw [vk.length, ← rel.length]; exact z, hd⟩
  · obtain ⟨⟨hd, z, ys, py, o, es', ep, e1, e2, e3, e4, e5⟩, _⟩ := (rd_obj J.hok h1)
    have : es = [] := by
      cases es with
      | nil => rfl
      | cons x r =>
        have := rpkt_kind h2 py x (by simp)
        unfold okK at ok; rw [kind_kD] at ok; simp only [decide_eq_true_eq] at ok
        rw [this] at ok; cases ok
    subst this
    cases h2; cases py
    have e4' : es' = #[] := by simpa using e4 X.w
    subst e4'
    exact ⟨[], .nil, ⟨o, #[], ep, e1, e2, e3, (fun e he => by simp at he), .nil, List.nodup_nil⟩, Nat.zero_le _, hd⟩
end
section
variable {P : Program} {w : World} {K : PySem.W.Frag} {I H : Hp} {h : Heap} {a : Addr} {es : List (PyData × PyData)}
end
/-- d[k] -/
def rDG (K : PySem.W.Frag) : R2 := fun x y H Q => ∃ a I es k d, x = .ref a ∧ Same I H ∧ DrO K I H a es ∧ Rp K I y k ∧ okK es k = true ∧ dAt es k = some d ∧ ∀ v, Rp K I v d → Q v H
/-- len(d) -/
def rDL (K : PySem.W.Frag) : List V → Hp → VK → Prop := fun xs H Q => ∃ a I es, xs = [.ref a] ∧ Same I H ∧ DrO K I H a es ∧ Q (.int ((es.length : Nat) : Int)) H
section
variable {X : Cx} {pins : List (Addr × Obj)} {σ : St} {I H : Hp} {s : Shared} {a : Addr} {es : List (PyData × PyData)} {k d : PyData} {y : V} {u : Value} {A : Around} {E : Value → Shared → Prop}
theorem kD_rel {k : Key} (r : Rp X.K I y (kD k)) : y = kV k := by
  cases k with
  | inl i => cases r; rfl
  | inr x => cases r; rfl
theorem okK_kind (h : okK es k = true) : kindK k = some true ∨ kindK k = some false := by
  unfold okK at h
  cases q : kindK k with
  | none => rw [q] at h; cases h
  | some b => cases b
              · exact .inr rfl
              · exact .inl rfl
theorem room8 {A : Around} (hu : A.units + 10 < cLine) : (nestedKind X.prog X.w).room A.in1 := by
  show A.in1.units + 8 < cLine
  have : A.in1.units = A.units + 1 := rfl
  omega
theorem di_typeIs (J : Inv X pins σ H s) (h : DrO X.K I H a es) : s.TypeIs (.ref a) "dict" ∧ (∀ b, Value.ref a = .ref b → ∃ ob, s.heap.get? b = some ob ∧ ob.dict = none) ∧ (a == sysModules) = false := by
  rcases h with ⟨kvs, h1, h2⟩ | ⟨ts, h1, h2⟩
  · exact isD_at J (.inl ⟨kvs, h1⟩)
  · obtain ⟨⟨hd, z, ys, py, o, es', ep, e1, e2, e3, e4, e5⟩, _⟩ := (rd_obj J.hok h1)
    exact ⟨⟨o, e1, e2.1⟩, fun b q => by cases q; exact ⟨o, e1, e2.2.1⟩, hd⟩
theorem dd_get {Q : Value → Shared → Prop} (hu : A.units + 10 < cLine) (J : Inv X pins σ H s) (sm : Same I H) (h : DrO X.K I H a es) (ry : Rp X.K I y k) (ru : RelV y u) (ok : okK es k = true) (hd : dAt es k = some d)
    (q : ∀ v w' s', Inv X pins σ H s' → Rp X.K I v d → RelV v w' → Q w' s') : wpAny (model X.prog X.w) A (getItem (.ref a) u) Q E s := by
  rcases okK_kind ok with hk | hk
  · obtain ⟨n, h1, h2, xs, rfl⟩ := kind_t hk
    obtain ⟨b, rfl⟩ := rp_tup_ref ry
    cases (show u = Value.ref b from ru)
    obtain ⟨ys, vn, dd, z, hs⟩ := viewN J sm h ok hk
    rcases vn.at h1 with ⟨_, e⟩ | ⟨b', u', v', d', e1, e2, e3, e4⟩
    · rw [e] at hd; cases hd
    · rw [e2] at hd; cases hd
      exact wpAny_getItem_heap (room8 hu) ⟨key_is J sm ry h1 rfl, h2⟩ dd e1 (q v' u' _ (J.tok _) e3 e4)
  · obtain ⟨k, rfl⟩ := kind_f hk
    obtain ⟨vs, vk, dd, z, hs⟩ := viewK J h ok
    have ey := kD_rel ry
    subst ey
    rcases vk.at k with ⟨_, e⟩ | ⟨u', v', d', e1, e2, e3, e4⟩
    · rw [e] at hd; cases hd
    · rw [e2] at hd; cases hd
      exact wpAny_getItem_of (kV_is ru) dd.mapOf e1 (q v' u' _ (J.tok _) e3 e4)
theorem ix_dict (hu : X.A.units + 10 < cLine) : IxR X (rDG X.K) := by
  intro value slice pins s σ H x y v u Q J rx ry h hs
  obtain ⟨a, I, es, k, d, rfl, sm, hd, rk, ok, e, q⟩ := h
  cases (show v = Value.ref a from rx)
  have hT := (di_typeIs J hd).1
  unfold subscriptTail
  refine wpAny_bind ?_
  rw [getitemInPython_of_ne hT.not_modules]
  refine wpAny_bind (wpAny_specialOf hT PySem.F.slot_dict_getitem.lookup ?_)
  have fin : wpAny (model X.prog X.w) X.A (subscripted slice false (.ref a) u) (fun r s₃ => wpAny (model X.prog X.w) X.A (letTemporaryGo value (.ref a) r >>= fun _ => pure r) (EP X pins σ Q) X.xe s₃) X.xe s := by
    rw [hs]
    exact wpAny_operating (dd_get hu J sm hd rk ry ok e fun v' w' s' J' r1 r2 => wpAny_bind (wpAny_letTemporaryGo (wpAny_pure ⟨v', H, J', r2, q v' r1⟩)))
  first
    | exact wpAny_pure (wpAny_bind fin)
    | exact wpAny_bind (wpAny_pure (wpAny_bind fin))
    | exact wpAny_bind fin
theorem rpkv_len {K : PySem.W.Frag} : ∀ {kvs : List (Key × V)} {es : List (PyData × PyData)}, RpKv K I kvs es → kvs.length = es.length
  | _, _, .nil => rfl
  | _, _, .cons _ t => by simp [rpkv_len t]
theorem call_lenDD : CallR X (.builtin "len") (rDL X.K) := by
  intro pins s σ H xs us Q J r h
  obtain ⟨a, I, es, rfl, sm, hd, q⟩ := h
  obtain ⟨u, rfl, rx⟩ := vals1 r
  cases (show u = Value.ref a from rx)
  rcases hd with ⟨kvs, h1, h2⟩ | ⟨ts, h1, h2⟩
  · refine d_len J h1 fun t s' J' => ?_
    rw [rpkv_len h2]
    exact ⟨.int _, H, J', ⟨t, rfl⟩, q⟩
  · obtain ⟨ys, vn, dd, z, hd⟩ := viewT J sm h1 h2
    refine call_len_dictH hd dd (by rw [← vn.length]; rw [sizeLine_eq] at z; omega) ?_
    rw [← vn.length]
    exact ⟨.int _, H, J.tok _, ⟨_, rfl⟩, q⟩
end
end Dy
namespace Dy
open PySem PySem.Spec PyProof.Rows L2
section
variable {K : PySem.W.Frag} {I H : Hp} {v u : V} {d e : PyData}
mutual
theorem Rp.dp (s : Same I H) : ∀ {v : V} {d : PyData}, Rp K I v d → d.canLay0 = true → Dp K H v d
  | _, _, .non, _ => .non
  | _, _, .bl b, _ => .bl b
  | _, _, .int i, _ => .int i
  | _, _, .str x, _ => .str x
  | _, _, .lst h a, c => .lst (h.mono s).sq (RpAll.dp s a (by simpa [PyData.canLay0] using c))
  | _, _, .tup h a, c => .tup (same_t s h.sq) (RpAll.dp s a (by simpa [PyData.canLay0] using c))
  | _, _, .dic h a, c => by simp [PyData.canLay0] at c
  | _, _, .dit h a, c => by simp [PyData.canLay0] at c
theorem RpAll.dp (s : Same I H) : ∀ {vs : List V} {ds : List PyData}, RpAll K I vs ds → PyData.canLayAll0 ds = true → DpAll K H vs ds
  | _, _, .nil, _ => .nil
  | _, _, .cons h t, c => by
    simp only [PyData.canLayAll0, Bool.and_eq_true] at c
    exact .cons (Rp.dp s h c.1) (RpAll.dp s t c.2)
end
theorem RpS.dp (s : Same I H) (h : RpS K I H v d) (c : d.canLay0 = true) : Dp K H v d := by
  rcases h with h | ⟨a, vs, ds, rfl, rfl, h1, h2⟩ | ⟨a, es, rfl, rfl, h1⟩
  · exact h.dp s c
  · exact .lst (SqL.of h1) (h2.dp s (by simpa [PyData.canLay0] using c))
  · simp [PyData.canLay0] at c
theorem RpS.int {i : Int} (h : RpS K I H v (.int i)) : v = .int i := rpss_int h
theorem RpS.str {x : Str} (h : RpS K I H v (.str x)) : v = .str x := by
  rcases h with h | ⟨_, _, _, _, e, _⟩ | ⟨_, _, _, e, _⟩
  · cases h; rfl
  · cases e
  · cases e
theorem RpS.bl {x : Bool} (h : RpS K I H v (.bool x)) : v = .bl x := by
  rcases h with h | ⟨_, _, _, _, e, _⟩ | ⟨_, _, _, e, _⟩
  · cases h; rfl
  · cases e
  · cases e
theorem RpS.non (h : RpS K I H v .none) : v = .non := by
  rcases h with h | ⟨_, _, _, _, e, _⟩ | ⟨_, _, _, e, _⟩
  · cases h; rfl
  · cases e
  · cases e
theorem RpS.lst {ds : List PyData} (s : Same I H) (h : RpS K I H v (.list ds)) : ∃ a vs, v = .ref a ∧ LsL K H a vs ∧ RpAll K I vs ds := by
  rcases h with h | ⟨a, vs, ds, rfl, e, h1, h2⟩ | ⟨_, _, _, e, _⟩
  · cases h with
    | lst h1 h2 => exact ⟨_, _, rfl, h1.mono s, h2⟩
  · cases e; exact ⟨a, vs, rfl, .of h1, h2⟩
  · cases e
theorem RpS.tup {ds : List PyData} (s : Same I H) (h : RpS K I H v (.tuple ds)) : ∃ a vs, v = .ref a ∧ SqT K H a vs ∧ RpAll K I vs ds := by
  rcases h with h | ⟨_, _, _, _, e, _⟩ | ⟨_, _, _, e, _⟩
  · cases h with
    | tup h1 h2 => exact ⟨_, _, rfl, same_t s h1.sq, h2⟩
  · cases e
  · cases e
theorem RpAll.ints : ∀ {vs : List V} {ns : List Int}, RpAll K I vs (ns.map PyData.int) → vs = ns.map V.int
  | _, [], h => by cases h; rfl
  | _, n :: ns, h => by
    cases h with
    | cons h t => cases h; rw [RpAll.ints t]; rfl
theorem RpAll.bools : ∀ {vs : List V} {ns : List Bool}, RpAll K I vs (ns.map PyData.bool) → vs = ns.map V.bl
  | _, [], h => by cases h; rfl
  | _, n :: ns, h => by
    cases h with
    | cons h t => cases h; rw [RpAll.bools t]; rfl
/-- all ints, all truths -/
def intsOf : List PyData → Option (List Int)
  | [] => some []
  | .int i :: ds => (intsOf ds).map (i :: ·)
  | _ => none
def boolsOf : List PyData → Option (List Bool)
  | [] => some []
  | .bool i :: ds => (boolsOf ds).map (i :: ·)
  | _ => none
theorem intsOf_inv : ∀ {ds : List PyData} {ns : List Int}, intsOf ds = some ns → ds = ns.map PyData.int
  | [], _, h => by cases h; rfl
  | .int i :: ds, ns, h => by
    unfold intsOf at h
    cases q : intsOf ds with
    | none => rw [q] at h; cases h
    | some ms => rw [q] at h; cases h; rw [intsOf_inv q]; rfl
  | .none :: _, _, h => by cases h
  | .bool _ :: _, _, h => by cases h
  | .str _ :: _, _, h => by cases h
  | .list _ :: _, _, h => by cases h
  | .tuple _ :: _, _, h => by cases h
  | .dict _ :: _, _, h => by cases h
theorem boolsOf_inv : ∀ {ds : List PyData} {ns : List Bool}, boolsOf ds = some ns → ds = ns.map PyData.bool
  | [], _, h => by cases h; rfl
  | .bool i :: ds, ns, h => by
    unfold boolsOf at h
    cases q : boolsOf ds with
    | none => rw [q] at h; cases h
    | some ms => rw [q] at h; cases h; rw [boolsOf_inv q]; rfl
  | .none :: _, _, h => by cases h
  | .int _ :: _, _, h => by cases h
  | .str _ :: _, _, h => by cases h
  | .list _ :: _, _, h => by cases h
  | .tuple _ :: _, _, h => by cases h
  | .dict _ :: _, _, h => by cases h
theorem boolsOf_map (ns : List Bool) : boolsOf (ns.map PyData.bool) = some ns := by
  induction ns with
  | nil => rfl
  | cons n ns ih => rw [List.map_cons, boolsOf, ih]; rfl
end
theorem OpR.or {X : Cx} {f : Value → Value → Sem Value} {r r' : R2} (h : OpR X f r) (h' : OpR X f r') : OpR X f (fun x y H Q => r x y H Q ∨ r' x y H Q) := by
  intro pins s σ H x y v u Q J rx ry q
  rcases q with q | q
  · exact h pins s σ H x y v u Q J rx ry q
  · exact h' pins s σ H x y v u Q J rx ry q
section
variable {X : Cx} {K : PySem.W.Frag}
def rCatL (K : PySem.W.Frag) : R2 := fun x y H Q => ∃ l b xs zs, x = .ref l ∧ y = .ref b ∧ LsL K H l xs ∧ LsL K H b zs ∧ xs.length + zs.length ≤ sizeLine ∧ ∀ p, H p = none → Q (.ref p) (upd H p (.lst (xs ++ zs)))
theorem op_catL : OpR X (binaryOp .Add) (rCatL X.K) := by
  rintro pins s σ H x y v u Q J rx ry ⟨l, b, xs, zs, rfl, rfl, hl, hb, hz, q⟩
  cases rx
  cases ry
  obtain ⟨z, its, n, r, e0, e⟩ := hl.obj J
  obtain ⟨z2, its2, n2, r2, e20, e2⟩ := hb.obj J
  refine PySem.P.add_list e e2 ?_ (by rw [List.size_toArray, List.size_toArray, ← e0, ← e20]; exact hz)
  rw [show its.toArray ++ its2.toArray = (its ++ its2).toArray by simp]
  exact ⟨.ref _, _, J.lnew (t' := s.toks) (r.append r2) (by rw [List.length_append]; exact hz), rfl, q _ J.fresh⟩
/-- t + u, what is new is plain -/
def rCatP (K : PySem.W.Frag) : R2 := fun x y H Q => ∃ a b xs ys, x = .ref a ∧ y = .ref b ∧ SqT K H a xs ∧ SqT K H b ys ∧ xs.length + ys.length ≤ sizeLine ∧
  (xs = [] → Q (.ref b) H) ∧ (xs ≠ [] → ys = [] → Q (.ref a) H) ∧ (xs ≠ [] → ys ≠ [] → NewT H (xs ++ ys) Q)
theorem op_catP : OpR X (binaryOp .Add) (rCatP X.K) := by
  intro pins s σ H x y v u Q I rx ry h
  obtain ⟨a, b, xs, ys, rfl, rfl, ha, hb, hz, q0, q1, q2⟩ := h
  by_cases hx : xs = []
  · exact op_catA pins s σ H _ _ v u Q I rx ry ⟨a, b, xs, ys, rfl, rfl, ha, hb, hz, q0, q1, fun h => absurd hx h⟩
  · cases rx
    cases ry
    obtain ⟨its, r1, p1, _⟩ := I.tuple ha
    obtain ⟨its2, r2, p2, _⟩ := I.tuple hb
    refine HT.cat_tup p1 p2 (fun z => hx (r1.nil_iff.mp z)) (fun z => ⟨.ref a, H, I, rfl, q1 hx (r2.nil_iff.mp z)⟩) (fun z => ?_) (by rw [← r1.length, ← r2.length]; exact hz)
    exact ep_newT I (by rw [List.length_append]; exact hz) (r1.append r2) (q2 hx (fun w => z (r2.nil_iff.mpr w)))
def rAddS' : R2 := fun x y H Q => ∃ i j, x = .str i ∧ y = .str j ∧ i.length + j.length ≤ sizeLine ∧ Q (.str (i ++ j)) H
/-- + -/
def rAdd (K : PySem.W.Frag) : R2 := fun x y H Q => (rI0 (fun i j => .int (i + j)) x y H Q ∨ rCatL K x y H Q) ∨ (rCatP K x y H Q ∨ rAddS' x y H Q)
theorem op_addA : OpR X (binaryOp .Add) (rAdd X.K) := (op_add.or op_catL).or (op_catP.or op_add_str)
def pAdd : PyData → PyData → Option O
  | .int i, .int j => some (.fr (.int (i + j)))
  | .list xs, .list ys => if xs.length + ys.length ≤ 1000000 then some (.ol (xs ++ ys)) else none
  | .tuple xs, .tuple ys => if xs.length + ys.length ≤ 1000000 then some (.fr (.tuple (xs ++ ys))) else none
  | .str x, .str y => if x.length + y.length ≤ 1000000 then some (.fr (.str (x ++ y))) else none
  | _, _ => none
theorem six {n : Nat} (h : n ≤ 1000000) : n ≤ sizeLine := Nat.le_trans h (by decide)
theorem os_add : OpS K (two (rAdd K)) (on2 pAdd) := ops2 fun v u d e I H Q o s r1 r2 q k => by
  unfold pAdd at q
  split at q
  · cases q
    rw [r1.int, r2.int]
    exact .inl (.inl ⟨_, _, rfl, rfl, k _ _ _ _ (Grow.val s (.int _))⟩)
  · split at q
    · rename_i hz
      cases q
      obtain ⟨a, vs, rfl, h1, h2⟩ := r1.lst s
      obtain ⟨b, ws, rfl, h3, h4⟩ := r2.lst s
      exact .inl (.inr ⟨a, b, vs, ws, rfl, rfl, h1, h3, by rw [h2.length, h4.length]; exact six hz, fun p np => k _ _ _ _ (Grow.lst s np (h2.app h4))⟩)
    · cases q
  · split at q
    · rename_i hz
      cases q
      obtain ⟨a, vs, rfl, h1, h2⟩ := r1.tup s
      obtain ⟨b, ws, rfl, h3, h4⟩ := r2.tup s
      refine .inr (.inl ⟨a, b, vs, ws, rfl, rfl, h1, h3, by rw [h2.length, h4.length]; exact six hz, fun e => ?_, fun _ e => ?_, fun _ _ p _ pl np => k _ _ _ _ (Grow.tup s pl np (h2.app h4))⟩)
      · subst e
        cases h2
        exact k _ _ _ _ (Grow.val s (rps_rp r2 rfl))
      · subst e
        cases h4
        rw [List.append_nil] at k
        exact k _ _ _ _ (Grow.val s (rps_rp r1 rfl))
    · cases q
  · split at q
    · rename_i hz
      cases q
      rw [r1.str, r2.str]
      exact .inr (.inr ⟨_, _, rfl, rfl, six hz, k _ _ _ _ (Grow.val s (.str _))⟩)
    · cases q
  · cases q
def pSub : PyData → PyData → Option O
  | .int i, .int j => some (.fr (.int (i - j)))
  | _, _ => none
theorem os_sub : OpS K (two (rI0 fun i j => .int (i - j))) (on2 pSub) := ops2 fun v u d e I H Q o s r1 r2 q k => by
  unfold pSub at q
  split at q
  · cases q
    rw [r1.int, r2.int]
    exact ⟨_, _, rfl, rfl, k _ _ _ _ (Grow.val s (.int _))⟩
  · cases q
/-- * -/
def smI (i : Int) : Bool := decide (-(2 ^ 64) < i ∧ i < 2 ^ 64)
def muOk (i j : Int) : Bool := smI j || (smI i || decide (i.natAbs.log2 + j.natAbs.log2 < 1000000))
theorem muOk_ok {i j : Int} (h : muOk i j = true) : IntMulOk i j := by
  unfold muOk smI at h
  simp only [Bool.or_eq_true, decide_eq_true_eq] at h
  rcases h with h | h | h
  · exact CMul.ok (.inr h)
  · exact CMul.ok (.inl h)
  · exact CMulW.ok h
theorem op_mulM : OpR X (binaryOp .Mult) (rI (fun i j => muOk i j = true) fun i j => .int (i * j)) := opI fun _ _ _ _ _ _ _ hc q => mul_int q (muOk_ok hc)
def rRepL (K : PySem.W.Frag) : R2 := fun x y H Q => ∃ l k xs, x = .ref l ∧ y = .int k ∧ LsL K H l xs ∧ -(2 ^ 63) ≤ k ∧ k < 2 ^ 63 ∧ xs.length * k.toNat ≤ sizeLine ∧ ∀ p, H p = none → Q (.ref p) (upd H p (.lst (List.replicate k.toNat xs).flatten))
def pMul : PyData → PyData → Option O
  | .int i, .int j => if muOk i j = true then some (.fr (.int (i * j))) else none
  | .list xs, .int k => if k ≤ 100000 ∧ -100000 ≤ k ∧ xs.length * k.toNat ≤ 1000000 then some (.ol (List.replicate k.toNat xs).flatten) else none
  | .tuple xs, .int k => if xs.length ≤ 1000 ∧ 2 ≤ k ∧ k ≤ 1000 ∧ xs ≠ [] then some (.fr (.tuple (List.replicate k.toNat xs).flatten)) else none
  | _, _ => none
theorem RpAll.rep {I : Hp} {vs : List V} {ds : List PyData} (h : RpAll K I vs ds) : ∀ n : Nat, RpAll K I (List.replicate n vs).flatten (List.replicate n ds).flatten
  | 0 => .nil
  | n + 1 => by
    rw [List.replicate_succ, List.replicate_succ, List.flatten_cons, List.flatten_cons]
    exact h.app (h.rep n)
/-- // and % -/
def pDiv : PyData → PyData → Option O
  | .int i, .int j => if 0 < j ∧ j < 1073741824 then some (.fr (.int (i / j))) else none
  | _, _ => none
def pMod : PyData → PyData → Option O
  | .int i, .int j => if 0 < j then some (.fr (.int (i % j))) else none
  | _, _ => none
theorem os_mod : OpS K (two (rI (fun _ j => 0 < j) fun i j => .int (i % j))) (on2 pMod) := ops2 fun v u d e I H Q o s r1 r2 q k => by
  unfold pMod at q
  split at q
  · split at q
    · rename_i hc
      cases q
      rw [r1.int, r2.int]
      exact ⟨_, _, rfl, rfl, hc, k _ _ _ _ (Grow.val s (.int _))⟩
    · cases q
  · cases q
def pPow : PyData → PyData → Option O
  | .int i, .int j => if 0 ≤ j ∧ j ≤ 1000000 ∧ i.natAbs < 2 ^ 64 then some (.fr (.int (i ^ j.toNat))) else none
  | _, _ => none
theorem os_pow : OpS K (two (rI CPow fun i j => .int (i ^ j.toNat))) (on2 pPow) := ops2 fun v u d e I H Q o s r1 r2 q k => by
  unfold pPow at q
  split at q
  · split at q
    · rename_i hc
      cases q
      rw [r1.int, r2.int]
      exact ⟨_, _, rfl, rfl, hc, k _ _ _ _ (Grow.val s (.int _))⟩
    · cases q
  · cases q
def pNeg : PyData → Option O
  | .int i => some (.fr (.int (-i)))
  | _ => none
theorem os_neg : OpS K (one (rU fun i => .int (-i))) (on1 pNeg) := ops1 fun v d I H Q o s r1 q k => by
  unfold pNeg at q
  split at q
  · cases q
    rw [r1.int]
    exact ⟨_, rfl, k _ _ _ _ (Grow.val s (.int _))⟩
  · cases q
def cmI (c : Int → Int → Bool) : PyData → PyData → Option O
  | .int i, .int j => some (.fr (.bool (c i j)))
  | _, _ => none
theorem os_cmI {c : Int → Int → Bool} : OpS K (two (rI0 fun i j => .bl (c i j))) (on2 (cmI c)) := ops2 fun v u d e I H Q o s r1 r2 q k => by
  unfold cmI at q
  split at q
  · cases q
    rw [r1.int, r2.int]
    exact ⟨_, _, rfl, rfl, k _ _ _ _ (Grow.val s rbl)⟩
  · cases q
def shp (d : PyData) : Bool := SeqAt.shaped d
def pEq (d e : PyData) : Option O := match d, e with
  | .str a, .str b => some (.fr (.bool (decide (a = b))))
  | d, e => if shp d = true ∧ shp e = true then some (.fr (.bool (PyData.eqv d e))) else none
def pNe (d e : PyData) : Option O := match d, e with
  | .str a, .str b => some (.fr (.bool (!decide (a = b))))
  | d, e => if shp d = true ∧ shp e = true then some (.fr (.bool (!PyData.eqv d e))) else none
def rEqA (K : PySem.W.Frag) : R2 := fun x y H Q => rEqD K x y H Q ∨ rEq x y H Q
def rNeA (K : PySem.W.Frag) : R2 := fun x y H Q => rNeD K x y H Q ∨ rNe x y H Q
theorem op_eqA (hu : X.A.units + 64 < cLine) : OpR X (compareOp .Eq) (rEqA X.K) := (op_eqD hu).or op_eq
theorem op_neA (hu : X.A.units + 64 < cLine) : OpR X (compareOp .NotEq) (rNeA X.K) := (op_neD hu).or op_ne
theorem dec_str {a b : Str} : decide (V.str a = V.str b) = decide (a = b) := by
  by_cases h : a = b
  · subst h; simp
  · rw [decide_eq_false h, decide_eq_false fun z => h (V.str.inj z)]
theorem os_eq : OpS K (two (rEqA K)) (on2 pEq) := ops2 fun v u d e I H Q o s r1 r2 q k => by
  unfold pEq at q
  split at q
  · cases q
    rw [r1.str, r2.str]
    exact .inr ⟨rfl, by rw [dec_str]; exact k _ _ _ _ (Grow.val s rbl)⟩
  · split at q
    · rename_i hc
      cases q
      exact .inl ⟨_, _, r1.dp s (SeqAt.canLay_of_shaped hc.1), r2.dp s (SeqAt.canLay_of_shaped hc.2), hc.1, hc.2, k _ _ _ _ (Grow.val s rbl)⟩
    · cases q
theorem os_ne : OpS K (two (rNeA K)) (on2 pNe) := ops2 fun v u d e I H Q o s r1 r2 q k => by
  unfold pNe at q
  split at q
  · cases q
    rw [r1.str, r2.str]
    exact .inr ⟨rfl, by rw [dec_str]; exact k _ _ _ _ (Grow.val s rbl)⟩
  · split at q
    · rename_i hc
      cases q
      exact .inl ⟨_, _, r1.dp s (SeqAt.canLay_of_shaped hc.1), r2.dp s (SeqAt.canLay_of_shaped hc.2), hc.1, hc.2, k _ _ _ _ (Grow.val s rbl)⟩
    · cases q
def isN : PyData → Bool
  | .none => true
  | _ => false
def pIs (d e : PyData) : Option O := if isN e = true then some (.fr (.bool (isN d))) else none
def pIsn (d e : PyData) : Option O := if isN e = true then some (.fr (.bool (!isN d))) else none
theorem isN_rep {I H : Hp} {v : V} {d : PyData} (h : RpS K I H v d) : decide (v = .non) = isN d := by
  rcases h with h | ⟨_, _, _, rfl, rfl, _⟩ | ⟨_, _, rfl, rfl, _⟩
  · cases h <;> rfl
  · rfl
  · rfl
theorem os_is : OpS K (two fun x y H Q => y = .non ∧ Q (.bl (decide (x = .non))) H) (on2 pIs) := ops2 fun v u d e I H Q o s r1 r2 q k => by
  unfold pIs at q
  split at q
  · rename_i hc
    cases q
    have e1 := isN_rep r2
    rw [hc] at e1
    rw [isN_rep r1]
    exact ⟨of_decide_eq_true e1, k _ _ _ _ (Grow.val s rbl)⟩
  · cases q
def pIx : PyData → PyData → Option O
  | .list xs, .int i => (atI xs i).map .fr
  | .tuple xs, .int i => (atI xs i).map .fr
  | .str z, .int i => if z.length ≤ 1000000 then (atI z.cps.toList i).map fun c => .fr (.str ⟨#[c]⟩) else none
  | .dict es, k => if okK es k = true then (dAt es k).map .fr else none
  | _, _ => none
theorem okK_isL {es : List (PyData × PyData)} {k : PyData} (h : okK es k = true) : isL k = false := by
  cases k <;> first | rfl | (unfold okK kindK at h; cases h)
theorem rps_dict {I H : Hp} {v : V} {es : List (PyData × PyData)} (s : Same I H) (h : RpS K I H v (.dict es)) : ∃ a, v = .ref a ∧ DrO K I H a es := by
  rcases h with h | ⟨_, _, _, _, e, _⟩ | ⟨a, es', rfl, e, h⟩
  · cases h with
    | dic h1 h2 => exact ⟨_, rfl, .inl ⟨_, same_rd s h1, h2⟩⟩
    | dit h1 h2 => exact ⟨_, rfl, .inr ⟨_, same_rd s h1, h2⟩⟩
  · cases e
  · cases e; exact ⟨a, rfl, h.rd⟩
def rIxD (K : PySem.W.Frag) : R2 := fun x y H Q => rIx K x y H Q ∨ rDG K x y H Q
theorem ixD {X : Cx} (hu : X.A.units + 65 < cLine) : IxR X (rIxD X.K) := ix_seq.or (ix_dict (by omega))
theorem atI_rep {I : Hp} {vs : List V} {ds : List PyData} {i : Int} {d : PyData} (r : RpAll K I vs ds) (h : atI ds i = some d) : ∃ v, atI vs i = some v ∧ Rp K I v d := by
  unfold atI at h ⊢
  rw [r.length]
  cases q : ixN ds.length i with
  | none => rw [q] at h; cases h
  | some j =>
    rw [q] at h
    exact r.get h
theorem os_ix : OpS K (two (rIxD K)) (on2 pIx) := ops2 fun v u d e I H Q o s r1 r2 q k => by
  unfold pIx at q
  split at q
  · rename_i xs i
    cases z : atI xs i with
    | none => rw [z] at q; cases q
    | some x =>
      rw [z] at q; cases q
      obtain ⟨a, vs, rfl, h1, h2⟩ := r1.lst s
      obtain ⟨y, h3, h4⟩ := atI_rep h2 z
      rw [r2.int]
      exact .inl (.inl ⟨a, vs, i, y, rfl, rfl, h1.sq, h3, k _ _ _ _ (Grow.val s h4)⟩)
  · rename_i xs i
    cases z : atI xs i with
    | none => rw [z] at q; cases q
    | some x =>
      rw [z] at q; cases q
      obtain ⟨a, vs, rfl, h1, h2⟩ := r1.tup s
      obtain ⟨y, h3, h4⟩ := atI_rep h2 z
      rw [r2.int]
      exact .inl (.inr (.inl ⟨a, vs, i, y, rfl, rfl, h1, h3, k _ _ _ _ (Grow.val s h4)⟩))
  · rename_i z i
    split at q
    · rename_i hz
      cases y : atI z.cps.toList i with
      | none => rw [y] at q; cases q
      | some c =>
        rw [y] at q; cases q
        rw [r1.str, r2.int]
        exact .inl (.inr (.inr ⟨z, i, c, rfl, rfl, six hz, y, k _ _ _ _ (Grow.val s (.str _))⟩))
    · cases q
  · rename_i es
    split at q
    · rename_i hc
      cases z : dAt es e with
      | none => rw [z] at q; cases q
      | some x =>
        rw [z] at q; cases q
        obtain ⟨a, rfl, h1⟩ := rps_dict s r1
        exact .inr ⟨a, I, es, e, x, rfl, s, h1, rps_rp r2 (okK_isL hc), hc, z, fun v r => k _ _ _ _ (Grow.val s r)⟩
    · cases q
  · cases q
def cutD {α : Type} (xs : List α) (lo hi : Option Int) : List α := (xs.drop (HT.sIx xs.length 0 lo)).take (HT.sIx xs.length xs.length hi - HT.sIx xs.length 0 lo)
theorem cut_rep {I : Hp} {vs : List V} {ds : List PyData} (r : RpAll K I vs ds) (lo hi : Option Int) : RpAll K I (cutV vs lo hi) (cutD ds lo hi) := by
  unfold cutV cutD
  rw [r.length]
  exact (r.drops _).takes _
def pSl (d : PyData) (lo hi : Option Int) : Option O := match d with
  | .list xs => some (.ol (cutD xs lo hi))
  | .tuple xs => some (.fr (.tuple (cutD xs lo hi)))
  | .str z => if z.length ≤ 1000000 then some (.fr (.str (cutS z lo hi))) else none
  | _ => none
/-- t[lo:hi], what is new is plain -/
def rSlP (K : PySem.W.Frag) : V → Option Int → Option Int → Hp → VK → Prop := fun x lo hi H Q => ∃ a xs, x = .ref a ∧ SqT K H a xs ∧
  (HT.sIx xs.length 0 lo = 0 ∧ HT.sIx xs.length xs.length hi = xs.length → Q (.ref a) H) ∧ (¬ (HT.sIx xs.length 0 lo = 0 ∧ HT.sIx xs.length xs.length hi = xs.length) → NewT H (cutV xs lo hi) Q)
def rSlX' (K : PySem.W.Frag) : V → Option Int → Option Int → Hp → VK → Prop := fun x lo hi H Q => (rSlL K x lo hi H Q ∨ rSlP K x lo hi H Q) ∨ rSlS x lo hi H Q
theorem sl_tupP : SlR X (rSlP X.K) := by
  intro pins s σ H x v vl vu lo hi sl Q I rx hs pl pu h
  obtain ⟨a, xs, rfl, hx, q1, q2⟩ := h
  by_cases hw : HT.sIx xs.length 0 lo = 0 ∧ HT.sIx xs.length xs.length hi = xs.length
  · exact sl_tupA pins s σ H _ v vl vu lo hi sl Q I rx hs pl pu ⟨a, xs, rfl, hx, q1, fun h => absurd hw h⟩
  · cases rx
    obtain ⟨its, r, ht, hz⟩ := I.tuple hx
    have hlen : its.toArray.size = xs.length := by rw [List.size_toArray]; exact r.length.symm
    refine ⟨"tuple", _, PyProof.Rows.slot_tuple_getitem.lookup, ht.typeIs, ?_⟩
    refine HT.getItem_tuple_cut ht hs pl pu (by rw [hlen]; exact hw) ?_ (by rw [hlen]; exact hz)
    rw [hlen]
    exact ep_newT I (Nat.le_trans (cutV_length xs lo hi) hz) ((r.drop (HT.sIx xs.length 0 lo)).take (HT.sIx xs.length xs.length hi - HT.sIx xs.length 0 lo)) (q2 hw)
theorem sl_any : SlR X (rSlX' X.K) := (sl_list.or sl_tupP).or sl_str
theorem os_sl {v : V} {d : PyData} {lo hi : Option Int} {I H : Hp} {Q : VK} {o : O} (s : Same I H) (r1 : RpS K I H v d) (q : pSl d lo hi = some o) (k : ∀ v H' I' R, Grow K I H I' H' o v R → Q v H') : rSlX' K v lo hi H Q := by
  unfold pSl at q
  split at q
  · cases q
    obtain ⟨a, vs, rfl, h1, h2⟩ := r1.lst s
    exact .inl (.inl ⟨a, vs, rfl, h1.sq, fun p np => k _ _ _ _ (Grow.lst s np (cut_rep h2 lo hi))⟩)
  · cases q
    obtain ⟨a, vs, rfl, h1, h2⟩ := r1.tup s
    refine .inl (.inr ⟨a, vs, rfl, h1, fun e => ?_, fun _ p _ pl np => k _ _ _ _ (Grow.tup s pl np (cut_rep h2 lo hi))⟩)
    rename_i xs
    have ec : cutD xs lo hi = xs := by
      unfold cutD
      rw [← h2.length, e.1, e.2, List.drop_zero, Nat.sub_zero, h2.length, List.take_length]
    rw [ec] at k
    exact k _ _ _ _ (Grow.val s (rps_rp r1 rfl))
  · split at q
    · rename_i hz
      cases q
      rw [r1.str]
      exact .inr ⟨_, rfl, six hz, k _ _ _ _ (Grow.val s (.str _))⟩
    · cases q
  · cases q
end
section
variable {g : G} {X : Cx} {a b c e : Expr} {pos p2 : Pos} {σ : St} {H : Hp}
def pSl2l : PyData → PyData → Option O
  | d, .int i => pSl d (some i) none
  | _, _ => none
def pSl2h : PyData → PyData → Option O
  | d, .int i => pSl d none (some i)
  | _, _ => none
theorem de_slLo {x y : AF} (ha : DX g X a x) (hb : DX g X b y) (hK : X.K = g.K := by rfl) : DE g X (.Subscript a (.Slice (some b) none none p2) pos) (fOp (on2 pSl2l) [x, y]) :=
  PE.imp (pe_slice sl_any ha (po_some hb) po_none) fun σ H Q h => by
    refine tArg_mono (tA2 (op_key (r := two fun v u H1 Q => ∃ i, u = V.int i ∧ rSlX' X.K v (some i) none H1 Q) ?_ h)) fun v H1 q => tArg_mono q fun u H2 q => q
    refine ops2 fun v u d e I H Q o s r1 r2 q k => ?_
    unfold pSl2l at q
    split at q
    · rw [r2.int, hK]
      exact ⟨_, rfl, os_sl s r1 q k⟩
    · cases q
theorem de_slHi {x y : AF} (ha : DX g X a x) (hb : DX g X b y) (hK : X.K = g.K := by rfl) : DE g X (.Subscript a (.Slice none (some b) none p2) pos) (fOp (on2 pSl2h) [x, y]) :=
  PE.imp (pe_slice sl_any ha po_none (po_some hb)) fun σ H Q h => by
    refine tArg_mono (tA2 (op_key (r := two fun v u H1 Q => ∃ i, u = V.int i ∧ rSlX' X.K v none (some i) H1 Q) ?_ h)) fun v H1 q => tArg_mono q fun u H2 q => q
    refine ops2 fun v u d e I H Q o s r1 r2 q k => ?_
    unfold pSl2h at q
    split at q
    · rw [r2.int, hK]
      exact ⟨_, rfl, os_sl s r1 q k⟩
    · cases q
end
end Dy
namespace Dy
open PySem PySem.Spec PyProof.Rows L2
section
variable {X : Cx} {K : PySem.W.Frag}
theorem op_repL : OpR X (binaryOp .Mult) (rRepL X.K) := by
  rintro pins s σ H x y v u Q J rx ry ⟨l, k, xs, rfl, rfl, hL, h1, h2, hz, q⟩
  cases rx
  obtain ⟨t, rfl⟩ := ry
  obtain ⟨z, its, n, r, hl, e⟩ := hL.obj J
  have a1 : its.toArray.size * k.toNat ≤ sizeLine := by
    rw [List.size_toArray, ← hl]
    exact hz
  have a2 : ¬ its.toArray.size * k.toNat > (2 ^ 63 - 1) / 8 := Nat.not_lt.mpr (Nat.le_trans a1 (by decide))
  have a3 : ¬ (!Builtin.List.listFitsIndex k) = true := by rw [fitsIndex_both h1 h2]; decide
  have a4 : ¬ Builtin.List.listTooLong (its.toArray.size * k.toNat) = true := by rw [notLongL a1]; decide
  have a5 : List.foldl (fun x1 x2 => x1 ++ x2) #[] (List.replicate (if its.toArray.isEmpty = true then 0 else k.toNat) its.toArray) = (List.replicate k.toNat its).flatten.toArray := by
    rw [size_rep]
    cases its with
    | nil => simp
    | cons b c => rfl
  refine wpAny_binaryOp_repeat_ref (T := "list") (U := "int") (by decide) ⟨_, e, rfl⟩ (fun s' => typeIs_int s' k t) noFill_list_mul F.fills_int_mul F.slot_int_rmul repeat_list F.slot_int_index.lookup ?_
  refine call_meets F.slot_int_rmul (typeIs_int s k t) F.entry_int_rmul (F.args_int_rmul_2 _ _) (int___rmul___int_list k t l its.toArray n) ⟨e, rfl, ⟨_, e, rfl⟩, ?_⟩
  refine call_meets F.slot_list_mul ⟨_, e, rfl⟩ F.entry_list_mul (F.args_list_mul_2 _ _) (AutoListH.list___mul___list_int_3 l its.toArray n k t a3 a2 a4) ⟨e, ?_⟩
  rw [a5]
  exact ⟨.ref _, _, J.lnew (t' := s.toks) (r.rep k.toNat) (by rw [PyProof.Rows.lm_len_rep_flat, Nat.mul_comm]; exact hz), rfl, q _ J.fresh⟩
/-- t * k, what is new is plain -/
def rRepP (K : PySem.W.Frag) : R2 := fun x y H Q => ∃ l k xs, x = .ref l ∧ y = .int k ∧ SqT K H l xs ∧ xs ≠ [] ∧ 2 ≤ k ∧ k.toNat * xs.length ≤ 1000000 ∧ NewT H (List.replicate k.toNat xs).flatten Q
theorem op_repP {X : Cx} : OpR X (binaryOp .Mult) (rRepP X.K) := by
  intro pins s σ H x y v u Q I rx ry h
  obtain ⟨l, k, xs, rfl, rfl, hT, hne, h1, hz, q⟩ := h
  cases rx
  obtain ⟨t, rfl⟩ := ry
  obtain ⟨its, r, ⟨⟨cls, dd, data, sl⟩, ho, hc, n, hd⟩, hs⟩ := I.tuple hT
  simp only at hc hd
  subst hc hd
  have hle : its.length = xs.length := r.length.symm
  have hn : its ≠ [] := fun e => hne (List.eq_nil_of_length_eq_zero (by rw [← hle, e]; rfl))
  have hi : its.toArray.isEmpty = false := by
    cases its with
    | nil => exact absurd rfl hn
    | cons a b => rfl
  have hsz0 : its.toArray.size = xs.length := by rw [List.size_toArray, hle]
  have hx1 : 1 ≤ xs.length := by
    cases xs with
    | nil => exact absurd rfl hne
    | cons a b => exact Nat.succ_le_succ (Nat.zero_le _)
  have hk1 : k.toNat ≤ 1000000 := Nat.le_trans (by have := Nat.mul_le_mul_left k.toNat hx1; rwa [Nat.mul_one] at this) hz
  have hm : ((its.toArray.size : Nat) : Int) * k ≤ 1000000 := by
    rw [hsz0]
    have e : k = (k.toNat : Int) := by omega
    rw [e, ← Int.natCast_mul, Nat.mul_comm]
    omega
  have flenX : k.toNat * xs.length ≤ sizeLine := six hz
  have flen : (List.replicate k.toNat its).flatten.length ≤ sizeLine := by
    rw [PyProof.Rows.lm_len_rep_flat, hle]; exact flenX
  have c0 : (decide (k < -(2 ^ 63)) || decide (k ≥ 2 ^ 63)) = false := by
    rw [decide_eq_false (by omega), decide_eq_false (by omega)] <;> rfl
  have c1 : (its.toArray.isEmpty || k == 1) = false := by
    rw [hi, Bool.false_or]; exact beq_eq_false_iff_ne.mpr (by omega)
  have c2 : (decide (k ≤ 0) || its.toArray.isEmpty) = false := by
    rw [hi, Bool.or_false]; exact decide_eq_false (by omega)
  have c4 : Builtin.Tuple.tupleTooMany (((its.toArray.size : Nat) : Int) * k) = false := by
    unfold Builtin.Tuple.tupleTooMany
    rw [sizeLine_eq]
    exact decide_eq_false (by omega)
  have mw := tuple_mulW l its.toArray n dd sl k t c0 c1 c2 (by omega) c4 (by rw [size_rep, List.size_toArray]; exact flen)
  refine wpAny_binaryOp_repeat_ref (T := "tuple") (U := "int") (by decide) ⟨_, ho, rfl⟩ (fun s' => typeIs_int s' k t) noFill_tuple_mul F.fills_int_mul F.slot_int_rmul repeat_tuple F.slot_int_index.lookup
    (call_meets F.slot_int_rmul (typeIs_int s k t) F.entry_int_rmul (F.args_int_rmul_2 _ _) (int_rmul_tuple k t l its.toArray n dd sl) ⟨ho, rfl, ⟨_, ho, rfl⟩, call_meets F.slot_tuple_mul ⟨_, ho, rfl⟩ F.entry_tuple_mul (F.args_tuple_mul_2 _ _) mw ⟨ho, ?_⟩⟩)
  rw [size_rep]
  exact ep_newT I (by rw [PyProof.Rows.lm_len_rep_flat]; exact flenX) (r.rep k.toNat) q
def rMulA (K : PySem.W.Frag) : R2 := fun x y H Q => (rI (fun i j => muOk i j = true) (fun i j => .int (i * j)) x y H Q ∨ rRepL K x y H Q) ∨ rRepP K x y H Q
theorem op_mulA : OpR X (binaryOp .Mult) (rMulA X.K) := (op_mulM.or op_repL).or op_repP
theorem os_mul : OpS K (two (rMulA K)) (on2 pMul) := ops2 fun v u d e I H Q o s r1 r2 q k => by
  unfold pMul at q
  split at q
  · split at q
    · rename_i hc
      cases q
      rw [r1.int, r2.int]
      exact .inl (.inl ⟨_, _, rfl, rfl, hc, k _ _ _ _ (Grow.val s (.int _))⟩)
    · cases q
  · split at q
    · rename_i hc
      cases q
      obtain ⟨a, vs, rfl, h1, h2⟩ := r1.lst s
      rw [r2.int]
      exact .inl (.inr ⟨a, _, vs, rfl, rfl, h1, by omega, by omega, by rw [h2.length]; exact six hc.2.2, fun p np => k _ _ _ _ (Grow.lst s np (h2.rep _))⟩)
    · cases q
  · split at q
    · rename_i hc
      cases q
      obtain ⟨a, vs, rfl, h1, h2⟩ := r1.tup s
      rw [r2.int]
      refine .inr ⟨a, _, vs, rfl, rfl, h1, fun z => ?_, hc.2.1, by rw [h2.length]; exact Nat.le_trans (Nat.mul_le_mul (show _ ≤ 1000 by omega) hc.1) (by decide), fun p _ pl np => k _ _ _ _ (Grow.tup s pl np (h2.rep _))⟩
      subst z
      cases h2
      exact hc.2.2.2 rfl
    · cases q
  · cases q
theorem ops1c {r : List V → Hp → VK → Prop} {f : PyData → Option O} (h : ∀ (v : V) (d : PyData) (I H : Hp) (Q : VK) (o : O), Same I H → RpS K I H v d → f d = some o → (∀ v H' I' R, Grow K I H I' H' o v R → Q v H') → r [v] H Q) : OpS K r (on1 f) := by
  intro vs ds I H Q o s q e k
  match vs, ds, q with
  | _, _, .nil => simp [on1] at e
  | _, _, .cons q1 .nil => exact h _ _ I H Q o s q1 e k
  | _, _, .cons _ (.cons _ _) => simp [on1] at e
def pLen : PyData → Option O
  | .list xs => some (.fr (.int xs.length))
  | .tuple xs => some (.fr (.int xs.length))
  | .str x => if x.length ≤ 1000000 then some (.fr (.int x.length)) else none
  | .dict es => some (.fr (.int es.length))
  | _ => none
def rLenD (K : PySem.W.Frag) : List V → Hp → VK → Prop := fun xs H Q => (∃ x n, xs = [x] ∧ LenV K x H n ∧ Q (.int n) H) ∨ rDL K xs H Q
theorem call_lenA {X : Cx} : CallR X (.builtin "len") (rLenD X.K) := by
  intro pins s σ H xs us Q I r h
  rcases h with h | h
  · exact call_len pins s σ H xs us Q I r h
  · exact call_lenDD pins s σ H xs us Q I r h
theorem os_len : OpS K (rLenD K) (on1 pLen) := ops1c fun v d I H Q o s r1 q k => by
  unfold pLen at q
  split at q
  · cases q
    obtain ⟨a, vs, rfl, h1, h2⟩ := r1.lst s
    rw [← h2.length] at k
    exact .inl ⟨_, _, rfl, .inl ⟨vs, h1.sq, rfl⟩, k _ _ _ _ (Grow.val s (.int _))⟩
  · cases q
    obtain ⟨a, vs, rfl, h1, h2⟩ := r1.tup s
    rw [← h2.length] at k
    exact .inl ⟨_, _, rfl, .inr ⟨vs, h1, rfl⟩, k _ _ _ _ (Grow.val s (.int _))⟩
  · split at q
    · rename_i hz
      cases q
      rw [r1.str]
      exact .inl ⟨_, _, rfl, ⟨six hz, rfl⟩, k _ _ _ _ (Grow.val s (.int _))⟩
    · cases q
  · cases q
    obtain ⟨a, rfl, h1⟩ := rps_dict s r1
    exact .inr ⟨a, I, _, rfl, s, h1, k _ _ _ _ (Grow.val s (.int _))⟩
  · cases q
def pAll : PyData → Option O
  | .list xs => (boolsOf xs).map fun ns => .fr (.bool (ns.all id))
  | _ => none
theorem os_all : OpS K (rAll K) (on1 pAll) := ops1c fun v d I H Q o s r1 q k => by
  unfold pAll at q
  split at q
  · rename_i xs
    cases z : boolsOf xs with
    | none => rw [z] at q; cases q
    | some ns =>
      rw [z] at q; cases q
      obtain ⟨a, vs, rfl, h1, h2⟩ := r1.lst s
      rw [boolsOf_inv z] at h2
      rw [h2.bools] at h1
      exact ⟨a, ns, rfl, h1.sq, k _ _ _ _ (Grow.val s rbl)⟩
  · cases q
/-- the greatest, the least of some ints -/
def maxL : List Int → Int
  | [] => 0
  | [a] => a
  | a :: b :: r => max a (maxL (b :: r))
def minL : List Int → Int
  | [] => 0
  | [a] => a
  | a :: b :: r => min a (minL (b :: r))
theorem maxL_ge : ∀ {ns : List Int} {y : Int}, y ∈ ns → y ≤ maxL ns
  | [a], y, h => by simp at h; subst h; exact Int.le_refl _
  | a :: b :: r, y, h => by
    unfold maxL
    rcases List.mem_cons.mp h with e | h
    · subst e; omega
    · have := maxL_ge h; omega
theorem maxL_mem : ∀ {ns : List Int}, ns ≠ [] → maxL ns ∈ ns
  | [], h => absurd rfl h
  | [a], _ => by simp [maxL]
  | a :: b :: r, _ => by
    have ih := maxL_mem (ns := b :: r) (by simp)
    unfold maxL
    by_cases h : a ≤ maxL (b :: r)
    · rw [Int.max_eq_right h]; exact List.mem_cons_of_mem _ ih
    · rw [Int.max_eq_left (by omega)]; exact List.mem_cons_self
theorem minL_le : ∀ {ns : List Int} {y : Int}, y ∈ ns → minL ns ≤ y
  | [a], y, h => by simp at h; subst h; exact Int.le_refl _
  | a :: b :: r, y, h => by
    unfold minL
    rcases List.mem_cons.mp h with e | h
    · subst e; omega
    · have := minL_le h; omega
theorem minL_mem : ∀ {ns : List Int}, ns ≠ [] → minL ns ∈ ns
  | [], h => absurd rfl h
  | [a], _ => by simp [minL]
  | a :: b :: r, _ => by
    have ih := minL_mem (ns := b :: r) (by simp)
    unfold minL
    by_cases h : a ≤ minL (b :: r)
    · rw [Int.min_eq_left h]; exact List.mem_cons_self
    · rw [Int.min_eq_right (by omega)]; exact List.mem_cons_of_mem _ ih
def rMax' (K : PySem.W.Frag) : List V → Hp → VK → Prop := fun xs H Q => (∃ i j, xs = [.int i, .int j] ∧ Q (.int (if j > i then j else i)) H) ∨ rMax K xs H Q
def rMin' (K : PySem.W.Frag) : List V → Hp → VK → Prop := fun xs H Q => (∃ i j, xs = [.int i, .int j] ∧ Q (.int (if j < i then j else i)) H) ∨ rMin K xs H Q
theorem cl_max (hc : X.calm = true) : CallR X (.builtin "max") (rMax' X.K) := (call_max2 hc).or (cr_max hc)
theorem cl_min (hc : X.calm = true) : CallR X (.builtin "min") (rMin' X.K) := (call_min2 hc).or (cr_min hc)
def pMax : List PyData → Option O
  | [.int i, .int j] => some (.fr (.int (max i j)))
  | [.list xs] => match intsOf xs with
    | some (n :: ns) => some (.fr (.int (maxL (n :: ns))))
    | _ => none
  | _ => none
def pMin : List PyData → Option O
  | [.int i, .int j] => some (.fr (.int (min i j)))
  | [.list xs] => match intsOf xs with
    | some (n :: ns) => some (.fr (.int (minL (n :: ns))))
    | _ => none
  | _ => none
theorem os_max : OpS K (rMax' K) pMax := fun vs ds I H Q o s r q k => by
  unfold pMax at q
  split at q
  · rename_i i j
    cases q
    match vs, r with
    | _, .cons r1 (.cons r2 .nil) =>
      rw [r1.int, r2.int]
      refine .inl ⟨i, j, rfl, ?_⟩
      have e : (if j > i then j else i) = max i j := by split <;> omega
      rw [e]
      exact k _ _ _ _ (Grow.val s (.int _))
  · rename_i xs
    match vs, r with
    | _, .cons r1 .nil =>
      split at q
      · rename_i n ns z
        cases q
        obtain ⟨a, vs, rfl, h1, h2⟩ := r1.lst s
        rw [intsOf_inv z] at h2
        rw [h2.ints] at h1
        refine .inr ⟨a, n :: ns, rfl, h1.sq, by simp, fun m hm hb => ?_⟩
        have e : m = maxL (n :: ns) := Int.le_antisymm (maxL_ge hm) (hb _ (maxL_mem (by simp)))
        rw [e]
        exact k _ _ _ _ (Grow.val s (.int _))
      · cases q
  · cases q
theorem os_min : OpS K (rMin' K) pMin := fun vs ds I H Q o s r q k => by
  unfold pMin at q
  split at q
  · rename_i i j
    cases q
    match vs, r with
    | _, .cons r1 (.cons r2 .nil) =>
      rw [r1.int, r2.int]
      refine .inl ⟨i, j, rfl, ?_⟩
      have e : (if j < i then j else i) = min i j := by split <;> omega
      rw [e]
      exact k _ _ _ _ (Grow.val s (.int _))
  · rename_i xs
    match vs, r with
    | _, .cons r1 .nil =>
      split at q
      · rename_i n ns z
        cases q
        obtain ⟨a, vs, rfl, h1, h2⟩ := r1.lst s
        rw [intsOf_inv z] at h2
        rw [h2.ints] at h1
        refine .inr ⟨a, n :: ns, rfl, h1.sq, by simp, fun m hm hb => ?_⟩
        have e : m = minL (n :: ns) := Int.le_antisymm (hb _ (minL_mem (by simp))) (minL_le hm)
        rw [e]
        exact k _ _ _ _ (Grow.val s (.int _))
      · cases q
  · cases q
def pList (d : PyData) : Option O := (seqOf d).map .ol
theorem os_list : OpS K (fun xs H Q => ∃ p ys, xs = [.ref p] ∧ (SqL K H p ys ∨ SqT K H p ys) ∧ ∀ l, H l = none → Q (.ref l) (upd H l (.lst ys))) (on1 pList) := ops1c fun v d I H Q o s r1 q k => by
  unfold pList at q
  cases z : seqOf d with
  | none => rw [z] at q; cases q
  | some xs =>
    rw [z] at q; cases q
    obtain ⟨p, vs, rfl, h1, h2⟩ := rps_seq s r1 z
    exact ⟨p, vs, rfl, h1.symm, fun l nl => k _ _ _ _ (Grow.lst s nl h2)⟩
def pTuple (d : PyData) : Option O := (seqOf d).map fun xs => .fr (.tuple xs)
/-- tuple(x), what is new is plain -/
theorem call_tupleP : CallR X (.type "tuple") (fun xs H Q => ∃ p ys, xs = [.ref p] ∧ ((SqL X.K H p ys ∧ NewT H ys Q) ∨ (SqT X.K H p ys ∧ Q (.ref p) H))) := by
  intro pins s σ H xs us Q I r h
  obtain ⟨p, ys, rfl, h⟩ := h
  obtain ⟨u, rfl, rx⟩ := vals1 r
  cases rx
  rcases h with ⟨hq, q⟩ | ⟨hq, q⟩
  · obtain ⟨its, r', pl, hz⟩ := I.list hq
    have hlen := r'.length
    refine call_tuple_list pl.isList (fun h' kp => ?_) (by simp only [List.size_toArray] <;> omega)
    have I1 : Inv X pins σ H { s with heap := h' } := I.kept (t' := s.toks) kp
    have I2 : Inv X pins σ (upd H h'.objs.size (.frz { cls := .type "tuple", data := .seq its.toArray } (.tup ys))) { s with heap := h'.push { cls := .type "tuple", data := .seq its.toArray } } :=
      I1.laid (t' := s.toks) (fun b o e => Heap.get?_push_of_some _ e) (Nat.le_refl _) (show ObjOk X.prog X.w _ _ _ (.frz _ (.tup ys)) from ⟨Heap.get?_push_size _ rfl, hz, its, r', IsTup.new _ _⟩)
    exact ⟨.ref h'.objs.size, _, I2, rfl, q _ _ PlT.mk (I1.hok.fresh (Nat.le_refl _))⟩
  · obtain ⟨its, r', pl, hz⟩ := I.tuple hq
    exact call_tuple_same pl ⟨.ref p, H, I, rfl, q⟩
theorem os_tuple : OpS K (fun xs H Q => ∃ p ys, xs = [.ref p] ∧ ((SqL K H p ys ∧ NewT H ys Q) ∨ (SqT K H p ys ∧ Q (.ref p) H))) (on1 pTuple) := ops1c fun v d I H Q o s r1 q k => by
  unfold pTuple at q
  cases d with
  | list xs =>
    cases q
    obtain ⟨p, vs, rfl, h1, h2⟩ := r1.lst s
    exact ⟨p, vs, rfl, .inl ⟨h1.sq, fun l _ pl nl => k _ _ _ _ (Grow.tup s pl nl h2)⟩⟩
  | tuple xs =>
    cases q
    obtain ⟨p, vs, rfl, h1, h2⟩ := r1.tup s
    exact ⟨p, vs, rfl, .inr ⟨h1, k _ _ _ _ (Grow.val s (rps_rp r1 rfl))⟩⟩
  | _ => cases q
def pInt : PyData → Option O
  | .int i => some (.fr (.int i))
  | .bool b => some (.fr (.int (if b then 1 else 0)))
  | _ => none
theorem os_int : OpS K (fun xs H Q => (∃ i, xs = [.int i] ∧ Q (.int i) H) ∨ ∃ k, xs = [.bl k] ∧ Q (.int (if k then 1 else 0)) H) (on1 pInt) := ops1c fun v d I H Q o s r1 q k => by
  unfold pInt at q
  split at q
  · cases q
    rw [r1.int]
    exact .inl ⟨_, rfl, k _ _ _ _ (Grow.val s (.int _))⟩
  · cases q
    rw [r1.bl]
    exact .inr ⟨_, rfl, k _ _ _ _ (Grow.val s (.int _))⟩
  · cases q
def pStr : PyData → Option O
  | .int i => if i.natAbs < 2 ^ 1900 then some (.fr (.str (toString i))) else none
  | _ => none
theorem log_lt {i : Int} (h : i.natAbs < 2 ^ 1900) : i.natAbs.log2 < 1920 := Nat.lt_of_lt_of_le (PySem.Flt.log2_lt_of (by decide) h) (by decide)
theorem os_str : OpS K (fun xs H Q => ∃ i : Int, xs = [.int i] ∧ i.natAbs.log2 < 1920 ∧ Q (.str (toString i)) H) (on1 pStr) := ops1c fun v d I H Q o s r1 q k => by
  unfold pStr at q
  split at q
  · split at q
    · rename_i hc
      cases q
      rw [r1.int]
      exact ⟨_, rfl, log_lt hc, k _ _ _ _ (Grow.val s (.str _))⟩
    · cases q
  · cases q
/-- isinstance -/
inductive Ty where
  | int | bool | str | list | tuple | dict
def Ty.name : Ty → String
  | .int => "int"
  | .bool => "bool"
  | .str => "str"
  | .list => "list"
  | .tuple => "tuple"
  | .dict => "dict"
def tyN : PyData → String
  | .none => "NoneType"
  | .bool _ => "bool"
  | .int _ => "int"
  | .str _ => "str"
  | .list _ => "list"
  | .tuple _ => "tuple"
  | .dict _ => "dict"
def isA : Ty → PyData → Bool
  | .int, .int _ => true
  | .int, .bool _ => true
  | .bool, .bool _ => true
  | .str, .str _ => true
  | .list, .list _ => true
  | .tuple, .tuple _ => true
  | .dict, .dict _ => true
  | _, _ => false
theorem isA_kit (t : Ty) (d : PyData) : kitB (tyN d) t.name = some (isA t d) := by
  cases t <;> cases d <;> first | rfl | (show kitB _ _ = _; decide +kernel)
/-- a value's type, with the dicts of tuples -/
inductive TyY (K : PySem.W.Frag) (H : Hp) : V → Value → Prop where
  | base {x : V} {t : Value} (h : TyOf K H x t) : TyY K H x t
  | wide {x : V} {t : Value} (h : TyX K H x t) : TyY K H x t
  | dn {a : Addr} {ts : List TP} (e : Rd H a (dN a ts)) : TyY K H (.ref a) (.type "dict")
  | dkf {a : Addr} {o : Obj} {kvs : List (Key × V)} (e : H a = some (.frz o (.dK kvs))) : TyY K H (.ref a) (.type "dict")
theorem TyY.dk {K : PySem.W.Frag} {H : Hp} {a : Addr} {kvs : List (Key × V)} (e : Rd H a (.dK kvs)) : TyY K H (.ref a) (.type "dict") := by
  rcases e with e | ⟨o, e⟩
  · exact .base (.dK e)
  · exact .dkf e
theorem kit_ofY {X : Cx} {pins : List (Addr × Obj)} {σ : St} {H : Hp} {s : Shared} {x : V} {u t : Value} (I : Inv X pins σ H s) (rx : RelV x u) (ty : TyY X.K H x t) : ∃ P : Heap → Prop, PySem.W.KitX X.K u t P ∧ P s.heap ∧ u ≠ .builtin "__main__.__loader__#opaque" := by
  cases ty with
  | base h => exact kit_of I rx (.base h)
  | wide h => exact kit_of I rx h
  | @dn a ts e =>
    cases (show u = Value.ref a from rx)
    have ok : ObjOk X.prog X.w H s.heap a (dN a ts) := by
      rcases e with e | ⟨ob, e⟩
      · exact I.hok a _ e
      · exact (show ObjOk X.prog X.w H s.heap a (.frz ob (dN a ts)) from I.hok a _ e).2
    obtain ⟨⟨_, _, ys, _, o, es, ep, h1, h2, _⟩, _⟩ := ok
    exact ⟨_, PySem.W.kitx_dict, ⟨o, h1, h2.1⟩, fun z => nomatch z⟩
  | @dkf a ob kvs e =>
    cases (show u = Value.ref a from rx)
    obtain ⟨_, _, _, vs, _, p⟩ := (show ObjOk X.prog X.w H s.heap a (.frz ob (.dK kvs)) from I.hok a _ e)
    obtain ⟨o, es, ep, h1, h2, _⟩ := p
    exact ⟨_, PySem.W.kitx_dict, ⟨o, h1, h2.1⟩, fun z => nomatch z⟩
def rIsiY (K : PySem.W.Frag) : List V → Hp → VK → Prop := fun xs H Q => ∃ (x c : V) (t u : Value) (b : Bool), xs = [x, c] ∧ ClsV c u ∧ TyY K H x t ∧ PySem.W.kitOne K t u = some b ∧ Q (.bl b) H
theorem call_isiY {X : Cx} : CallR X (.builtin "isinstance") (rIsiY X.K) := by
  intro pins s σ H xs us Q I r h
  obtain ⟨x, c, t, u, b, rfl, k, ty, e, q⟩ := h
  obtain ⟨u1, u2, rfl, r1, r2⟩ := vals2 r
  have e2 := k.eq r2
  subst e2
  obtain ⟨P, Z, p, hx⟩ := kit_ofY I r1 ty
  exact PySem.W.kia_one Z I.kIn p e hx fun tk => ⟨.bl b, H, I.tok tk, rfl, q⟩
theorem tyX {I H : Hp} {v : V} {d : PyData} (s : Same I H) (h : RpS K I H v d) : TyY K H v (.type (tyN d)) := by
  rcases h with h | ⟨a, vs, ds, rfl, rfl, h1, _⟩ | ⟨a, es, rfl, rfl, ⟨kvs, h1, _⟩ | ⟨ts, h1, _⟩⟩
  · cases h with
    | non => exact .base .non
    | bl b => exact .base (.bl b)
    | int i => exact .base (.int i)
    | str x => exact .base (.str x)
    | lst h1 _ =>
      rcases h1.mono s with (h1 | ⟨o, h1⟩) | ⟨its, n, h1, _⟩
      · exact .base (.lst h1)
      · exact .base (.frz h1)
      · exact .wide (.kList h1 rfl)
    | tup h1 _ =>
      rcases same_t s h1.sq with (h1 | ⟨o, h1⟩) | ⟨o, its, n, h1, h2, _⟩
      · exact .base (.tup h1)
      · exact .wide (.fTuple h1)
      · exact .wide (.kTuple h1 h2)
    | dic h1 _ => exact .dk (same_rd s h1)
    | dit h1 _ => exact .dn (same_rd s h1)
  · exact .base (.lst h1)
  · exact .base (.dK h1)
  · exact .dn (.inl h1)
end
section
variable {g : G} {X : Cx} {a b c e : Expr} {pos p p2 : Pos} {σ : St} {H : Hp}
theorem de_isi {x : AF} {n : Str} (t : Ty) (hg : Gl X "isinstance") (hm : X.mg "isinstance" = none) (hv : bootBuiltins "isinstance" = some (.builtin "isinstance")) (ha : DX g X a x) (hT : PE X (.Name n p2) (tC (.ty t.name))) (hK : X.K = g.K := by rfl)
    (h1 : starEach [a, .Name n p2] X.env = (false, eval a X.env) :: starEach [.Name n p2] X.env := by rfl) (h2 : starEach [.Name n p2] X.env = (false, eval (.Name n p2) X.env) :: starEach [] X.env := by rfl) (h3 : (backTo pos (starEach [.Name n p2] X.env)).any (·.1) = false := by rfl) :
    DE g X (.Call (.Name "isinstance" p) [a, .Name n p2] [] pos) (fOp (on1 fun d => some (.fr (.bool (isA t d)))) [x]) :=
  PE.imp (pe_callB call_isiY hg hm hv (pa_cons ha (pa_cons hT pa_nil h2) h1) (by decide) (by decide) h1 h3) fun σ H Q h => by
    refine tArg_mono (tA1 (op_key (r := one fun v H1 Q => rIsiY X.K [v, .ty t.name] H1 Q) ?_ h)) fun v H1 q => q
    refine ops1 fun v d I H Q o s r1 q k => ?_
    cases q
    exact ⟨v, .ty t.name, .type (tyN d), .type t.name, isA t d, rfl, .ty _, by rw [hK]; exact tyX s r1, kit_ty (isA_kit t d), k _ _ _ _ (Grow.val s rbl)⟩
def fSq (a : AF) : IF := fun env => evA [a] env >>= fun r => match dvs r.1 with
  | some [d] => match seqOf d with
    | some xs => .ok (xs, r.2)
    | none => .no
  | _ => .no
theorem it_l {K : PySem.W.Frag} {I H : Hp} {a : Addr} {vs : List V} {ds : List PyData} (h : LsL K I a vs) (r : RpAll K I vs ds) : ItOk K I (Itl K a) ds := fun I2 H2 i s1 s2 => by
  have hq : SqL K H2 a vs := (h.mono (s1.trans s2)).sq
  refine ⟨fun d hd => ?_, fun e => ⟨vs, hq, by rw [r.length]; omega⟩⟩
  obtain ⟨v, hv, rp⟩ := r.get hd
  refine ⟨⟨vs, v, hq, hv⟩, fun x H' y => ?_⟩
  obtain ⟨rfl, y⟩ := y
  have := y vs hq
  rw [hv] at this; cases this
  exact ⟨I2, Grow.val s2 (rp.mono s1)⟩
theorem it_t {K : PySem.W.Frag} {I H : Hp} {a : Addr} {vs : List V} {ds : List PyData} (h : SqT K I a vs) (r : RpAll K I vs ds) : ItOk K I (Itt K a) ds := fun I2 H2 i s1 s2 => by
  have hq : SqT K H2 a vs := same_t (s1.trans s2) h
  refine ⟨fun d hd => ?_, fun e => ⟨vs, hq, by rw [r.length]; omega⟩⟩
  obtain ⟨v, hv, rp⟩ := r.get hd
  refine ⟨⟨vs, v, hq, hv⟩, fun x H' y => ?_⟩
  obtain ⟨rfl, y⟩ := y
  have := y vs hq
  rw [hv] at this; cases this
  exact ⟨I2, Grow.val s2 (rp.mono s1)⟩
theorem di_seq {tg : Expr} {x : AF} (ha : DX g X a x) (hK : X.K = g.K := by rfl) : DI g X tg a (fSq x) := by
  refine ⟨fun pins s σ H R J h => ?_⟩
  obtain ⟨I, env, F, sm, p⟩ := h
  unfold fSq at p
  cases q : evA [x] env with
  | no => rw [q] at p; exact p.elim
  | er y =>
    rw [q] at p
    have ps : g.err I H F y := p
    refine (pi_list ha).run pins s σ H R J ?_
    refine tA1 (R := fun vs H1 => ∃ v, vs = [v] ∧ ∃ a, v = .ref a ∧ (∃ xs, SqL X.K H1 a xs) ∧ R (Itl X.K a) H1) ⟨I, env, F, sm, by rw [q]; exact ps⟩ |> fun h => tArg_mono h fun v H1 ⟨_, e, z⟩ => by cases e; exact z
  | ok r =>
    rw [q, bind_ok] at p
    cases q2 : dvs r.1 with
    | none => rw [q2] at p; exact p.elim
    | some ds =>
      match ds, q2 with
      | [], q2 => rw [q2] at p; exact p.elim
      | _ :: _ :: _, q2 => rw [q2] at p; exact p.elim
      | [d], q2 =>
        rw [q2] at p
        have ps := p
        cases d with
        | list xs =>
          have ps : ∀ J H' I' F', Sim g.K g.pn I' H' σ r.2 F' → Step I H (Ow F) I' H' (Ow F') → ItOk g.K I' J xs → R J H' := ps
          refine (pi_list ha).run pins s σ H R J ?_
          have key : tA g [x] σ H (fun vs H1 => ∃ v, vs = [v] ∧ ∃ a, v = .ref a ∧ (∃ xs, SqL X.K H1 a xs) ∧ R (Itl X.K a) H1) := by
            refine ⟨I, env, F, sm, ?_⟩
            rw [q]
            intro vs H' I' F' s' st av
            match vs, dvs_rep av q2 with
            | [v], .cons rp .nil =>
              cases rp with
              | lst h1 h2 =>
                rw [hK]
                exact ⟨_, rfl, _, rfl, ⟨_, (h1.mono s'.sub).sq⟩, ps _ _ _ _ s' st (it_l (H := H') h1 h2)⟩
          exact tArg_mono (tA1 key) fun v H1 ⟨_, e, z⟩ => by cases e; exact z
        | tuple xs =>
          have ps : ∀ J H' I' F', Sim g.K g.pn I' H' σ r.2 F' → Step I H (Ow F) I' H' (Ow F') → ItOk g.K I' J xs → R J H' := ps
          refine (pi_tup ha).run pins s σ H R J ?_
          have key : tA g [x] σ H (fun vs H1 => ∃ v, vs = [v] ∧ ∃ a, v = .ref a ∧ (∃ xs, SqT X.K H1 a xs) ∧ R (Itt X.K a) H1) := by
            refine ⟨I, env, F, sm, ?_⟩
            rw [q]
            intro vs H' I' F' s' st av
            match vs, dvs_rep av q2 with
            | [v], .cons rp .nil =>
              cases rp with
              | tup h1 h2 =>
                rw [hK]
                exact ⟨_, rfl, _, rfl, ⟨_, same_t s'.sub h1.sq⟩, ps _ _ _ _ s' st (it_t (H := H') h1.sq h2)⟩
          exact tArg_mono (tA1 key) fun v H1 ⟨_, e, z⟩ => by cases e; exact z
        | none => exact ps.elim
        | bool _ => exact ps.elim
        | int _ => exact ps.elim
        | str _ => exact ps.elim
        | dict _ => exact ps.elim
end
end Dy
namespace Dy
open PySem PySem.Spec PyProof.Rows L2
section
variable {g : G} {X : Cx} {a b c e : Expr} {es : List Expr} {pos p tpos : Pos} {σ : St} {H : Hp} {elts : List Expr} {kk : Nat} {tg : Expr}
def rng (lo : Int) (n : Nat) : List PyData := (List.range n).map fun k : Nat => PyData.int (lo + (k : Int))
theorem it_r {K : PySem.W.Frag} {I : Hp} {lo : Int} {n : Nat} : ItOk K I (Itr lo n) (rng lo n) := fun I2 H2 i s1 s2 => by
  unfold rng
  refine ⟨fun d hd => ?_, fun e => ?_⟩
  · rw [List.getElem?_map] at hd
    cases q : (List.range n)[i]? with
    | none => rw [q] at hd; cases hd
    | some k =>
      rw [q] at hd; cases hd
      obtain ⟨hk, e⟩ := List.getElem?_eq_some_iff.mp q
      rw [List.length_range] at hk
      rw [List.getElem_range] at e
      subst e
      refine ⟨hk, fun x H' y => ?_⟩
      obtain ⟨rfl, rfl⟩ := y
      exact ⟨I2, Grow.val s2 (.int _)⟩
  · rw [List.length_map, List.length_range] at e
    exact Nat.le_of_eq e
def fR1 (x : AF) : IF := fun env => evA [x] env >>= fun r => match ints1 (rsvs r.2 r.1) with
  | some n => if n ≤ 1000000000 ∧ -1000000000 ≤ n then .ok (rng 0 n.toNat, r.2) else .no
  | none => .no
theorem di_r1 {x : AF} (hg : Gl X "range") (hm : X.mg "range" = none) (ha : DA g X [a] [x]) (hs : starEach [a] X.env = [(false, eval a X.env)] := by rfl) : DI g X tg (.Call (.Name "range" p) [a] [] pos) (fR1 x) :=
  PI.imp (pi_range1 hg hm ha hs) fun σ H R h => by
    obtain ⟨I, env, F, s, p⟩ := h
    refine ⟨I, env, F, s, post_mono (post_bind.mp p) (fun r q vs H' I' F' s' st av => ?_) fun _ z => z⟩
    cases q2 : ints1 (rsvs r.2 r.1) with
    | none => simp only [q2] at q; exact q.elim
    | some n =>
      simp only [q2] at q
      by_cases hz : n ≤ 1000000000 ∧ -1000000000 ≤ n
      · rw [if_pos hz] at q
        match vs, rsvs_rep s' av (ints1_inv q2) with
        | _, .cons r1 .nil =>
          cases rpss_int r1
          exact ⟨n, rfl, by omega, by omega, q _ _ _ _ s' st it_r⟩
      · rw [if_neg hz] at q; exact q.elim
def fR2 (x y : AF) : IF := fun env => evA [x, y] env >>= fun r => match ints2 (rsvs r.2 r.1) with
  | some n => if n.1 ≤ 1000000000 ∧ -1000000000 ≤ n.1 ∧ n.2 ≤ 1000000000 ∧ -1000000000 ≤ n.2 then .ok (rng n.1 (n.2 - n.1).toNat, r.2) else .no
  | none => .no
def enumD : Nat → List PyData → List PyData
  | _, [] => []
  | i, d :: ds => .tuple [.int (i : Nat), d] :: enumD (i + 1) ds
theorem enumD_at : ∀ {ds : List PyData} {k i : Nat} {x : PyData}, (enumD k ds)[i]? = some x → ∃ d, ds[i]? = some d ∧ x = .tuple [.int ((k + i : Nat) : Int), d]
  | [], _, _, _, h => by simp [enumD] at h
  | d :: ds, k, 0, x, h => by
    unfold enumD at h
    simp at h; subst h
    exact ⟨d, rfl, rfl⟩
  | d :: ds, k, i + 1, x, h => by
    unfold enumD at h
    obtain ⟨y, h1, h2⟩ := enumD_at (ds := ds) (k := k + 1) (i := i) (x := x) (by simpa using h)
    exact ⟨y, by simpa using h1, by rw [h2]; congr 3; omega⟩
theorem enumD_len : ∀ (ds : List PyData) (k : Nat), (enumD k ds).length = ds.length
  | [], _ => rfl
  | d :: ds, k => by unfold enumD; rw [List.length_cons, enumD_len ds, List.length_cons]
def zipD : List PyData → List PyData → List PyData
  | x :: xs, y :: ys => .tuple [x, y] :: zipD xs ys
  | _, _ => []
theorem sqX_of {K : PySem.W.Frag} {I : Hp} {v : V} {d : PyData} {xs : List PyData} (h : Rp K I v d) (e : seqOf d = some xs) : ∃ a t vs, v = .ref a ∧ (∀ I', Same I I' → SqX t K I' a vs) ∧ RpAll K I vs xs := by
  cases h with
  | lst h1 h2 => cases e; exact ⟨_, false, _, rfl, fun I' s => (h1.mono s).sq, h2⟩
  | tup h1 h2 => cases e; exact ⟨_, true, _, rfl, fun I' s => same_t s h1.sq, h2⟩
  | non => cases e
  | bl => cases e
  | int => cases e
  | str => cases e
  | dic => cases e
  | dit => cases e
theorem growT {K : PySem.W.Frag} {I H : Hp} {T : Addr} {ob : Obj} {vs : List V} {ds : List PyData} (s : Same I H) (pl : PlT ob) (n : H T = none) (r : RpAll K I vs ds) : ∃ I', Grow K I H I' (upd H T (.frz ob (.tup vs))) (.fr (.tuple ds)) (.ref T) [] := ⟨_, Grow.tup s pl n r⟩
def fEn (x : AF) : IF := fun env => fSq x env >>= fun r => .ok (enumD 0 r.1, r.2)
theorem di_en {x : AF} (hg : Gl X "enumerate") (hm : X.mg "enumerate" = none) (ha : DA g X [a] [x]) (hK : X.K = g.K := by rfl) (hs : starEach [a] X.env = [(false, eval a X.env)] := by rfl) : DI g X (.Tuple elts kk tpos) (.Call (.Name "enumerate" p) [a] [] pos) (fEn x) :=
  PI.imp (pi_en hg hm ha hs) fun σ H R h => by
    obtain ⟨I, env, F, s, p⟩ := h
    unfold fEn fSq at p
    refine ⟨I, env, F, s, post_mono (post_bind.mp (post_bind.mp p)) (fun r q vs H' I' F' s' st av => ?_) fun _ z => z⟩
    cases q2 : dvs r.1 with
    | none => simp only [q2] at q; exact q.elim
    | some ds =>
      simp only [q2] at q
      match ds, vs, dvs_rep av q2 with
      | [], _, .nil => exact q.elim
      | _ :: _ :: _, _, .cons _ (.cons _ _) => exact q.elim
      | [d], [v], .cons rp .nil =>
        cases q3 : seqOf d with
        | none => simp only [q3] at q; exact q.elim
        | some xs =>
          simp only [q3] at q
          obtain ⟨a, t, ws, rfl, hq, ra⟩ := sqX_of rp q3
          rw [hK]
          refine ⟨a, t, ws, rfl, hq H' s'.sub, q _ _ _ _ s' st fun I2 H2 i s1 s2 => ⟨fun z hz => ?_, fun e => ⟨ws, hq H2 (s1.trans s2), by rw [ra.length, ← e, enumD_len]⟩⟩⟩
          obtain ⟨x, hx, rfl⟩ := enumD_at hz
          obtain ⟨w, hw, rw'⟩ := ra.get hx
          refine ⟨⟨ws, w, hq H2 (s1.trans s2), hw⟩, fun y H3 hy => ?_⟩
          obtain ⟨T, ob, x', rfl, pl, nT, rfl, hy⟩ := hy
          have := hy ws (hq H2 (s1.trans s2))
          rw [hw] at this; cases this
          rw [Nat.zero_add]
          exact growT s2 pl nT (.cons (.int _) (.cons (rw'.mono s1) .nil))
def fZp (x y : AF) : IF := fun env => evA [x, y] env >>= fun r => match dvs r.1 with
  | some [d, e] => match seqOf d, seqOf e with
    | some xs, some ys => .ok (zipD xs ys, r.2)
    | _, _ => .no
  | _ => .no
theorem Sim.own {K : PySem.W.Frag} {π : Pn} {I H : Hp} {σ : St} {env : Env} {F : Nat → List Addr} {i : Nat} {ds : List PyData} (s : Sim K π I H σ env F) (q : env[i]? = some (some (.ol ds))) :
    ∃ a vs, σ[i]? = some (some (.ref a)) ∧ H a = some (.lst vs) ∧ RpAll K I vs ds ∧ ∀ vs' ds', RpAll K I vs' ds' → AftS K π I H F σ (env.set i (some (.ol ds'))) (upd H a (.lst vs')) := by
  obtain ⟨v, e1, a, vs, rfl, hF, h1, h2⟩ := s.rep i _ q
  refine ⟨a, vs, e1, h1, h2, fun vs' ds' r => ?_⟩
  have hi : i < env.length := by
    cases Nat.lt_or_ge i env.length with
    | inl h => exact h
    | inr h => rw [List.getElem?_eq_none h] at q; cases q
  have ha : a ∈ F i := by rw [hF]; simp
  have nI := s.djI i a ha
  have ne : ∀ j, j ≠ i → ∀ b ∈ F j, b ≠ a := fun j hj b hb e => by subst e; exact hj (s.dis j i b hb ha)
  refine ⟨I, upF F i [a], ?_, Step.of4 (Same.refl _) (fun b o h n => ?_) (fun b h => ?_) (fun _ _ h => .inl h)⟩
  · have := s.put (i := i) (x := some (.ol ds')) (sv := some (.ref a)) (R := [a]) (H' := upd H a (.lst vs')) hi (Same.refl _) (fun b o h => ?_) (fun j hj b hb => ?_) (fun j _ b hb => s.djI j b hb) (fun b hb => ?_) (fun j hj b hb h => ?_) (fun o e => ?_) (fun e => by cases e) (fun hp => ?_) (s.ktO ha)
    · rw [set_same e1] at this; exact this
    · rw [upd_ne (fun e => by subst e; rw [nI] at h; cases h)]; exact s.sub b o h
    · rw [upd_ne (ne j hj b hb)]
    · simp at hb; subst hb; exact nI
    · simp at h; exact ne j hj b hb h
    · cases e; exact ⟨_, rfl, a, vs', rfl, rfl, upd_same, r⟩
    · have := s.pin i hp; rw [e1] at this; exact Option.some.inj this
  · rw [upd_ne (fun e => by subst e; exact n ⟨i, ha⟩)]; exact h
  · rcases ow_up h with z | z
    · exact .inl z
    · simp at z; subst z; exact .inl ⟨i, ha⟩
/-- x.append(e) -/
def fApp (i : Nat) (f : EF) : SF := fun env => match env[i]? with
  | some (some (.ol _)) => f env >>= fun r => match r.2[i]? with
    | some (some (.ol ds)) => if ds.length < 1000000 then .ok (.nx, r.2.set i (some (.ol (ds ++ [r.1.data])))) else .no
    | _ => .no
  | _ => .no
theorem ds_app {i : Nat} {x : Str} {px apos cpos spos : Pos} {f : EF} (hx : PE X (.Name x px) (tVar i)) (he : DE g X e f)
    (h2 : attributeBase (.Name x px) "append" X.env (eval (.Name x px) X.env) = eval (.Name x px) X.env := by rfl)
    (h3 : ((backTo cpos (starEach [e] X.env)).all (fun x => !x.1) && (backToKw cpos (keywordEach [] X.env)).all (fun x => x.1.isSome)
      && decide ([e].length + ([] : List Keyword).length + (if ([] : List Keyword).isEmpty then 0 else 1) < 30)) = true := by rfl)
    (h4 : (apos.endLine == cpos.line) = true := by rfl) (h5 : starEach [e] X.env = (false, eval e X.env) :: starEach [] X.env := by rfl)
    (hs : swapsWith (.Call (.Attribute (.Name x px) "append" apos) [e] [] cpos) none spos.line X.env = pure false := by rfl) :
    DS g X (.Expr (.Call (.Attribute (.Name x px) "append" apos) [e] [] cpos) spos) (fApp i f) := PS.imp (ps_expr (pe_bm PySem.F.plainAttrs_list PySem.F.slot_list_append PySem.F.type_list_append mt_append hx (pa_cons he pa_nil h5) h2 h3 h4 h5 rfl) hs) fun D σ H q => by
  obtain ⟨I, env, F, s, p⟩ := q
  unfold fApp at p
  split at p
  · rename_i ds0 q0
    obtain ⟨a, vs, e1, h1, h2, _⟩ := s.own q0
    refine ⟨.ref a, e1, .inl ⟨rfl, vs, SqL.of h1⟩, ?_⟩
    refine tD_seq s p fun r v H1 af q => ?_
    obtain ⟨I', F', rp, s', st⟩ := af.frz
    split at q
    · rename_i ds q1
      by_cases hz : ds.length < 1000000
      · rw [if_pos hz] at q
        obtain ⟨a', vs', e1', h1', h2', up⟩ := s'.own q1
        rw [e1] at e1'; cases e1'
        exact ⟨a, vs', v, rfl, rfl, h1', by rw [h2'.length]; exact Nat.lt_of_lt_of_le hz (by decide), q _ _ (AftS.trans st (up _ _ (h2'.app (.cons rp .nil))))⟩
      · rw [if_neg hz] at q; exact q.elim
    · exact q.elim
  · exact p.elim
/-- x[k] = e -/
def fSetI (i : Nat) (y : AF) (f : EF) : SF := fun env => f env >>= fun r => match r.2[i]? with
  | some (some (.ol _)) => evA [y] r.2 >>= fun q => match ints1 (rsvs q.2 q.1) with
    | none => .no
    | some k => match q.2[i]? with
      | some (some (.ol ds)) => match ixN ds.length k with
        | some j => .ok (.nx, q.2.set i (some (.ol (ds.set j r.1.data))))
        | none => .no
      | _ => .no
  | _ => .no
theorem ds_setI {i : Nat} {x : Str} {px spos : Pos} {f : EF} {y : AF} (hx : PE X (.Name x px) (tVar i)) (hk : DX g X b y) (he : DE g X e f)
    (ha : ∀ v, assign (.Subscript (.Name x px) b pos) X.env v = (do
      let ov ← holding [v] (eval (.Name x px) X.env)
      let iv ← holding [v, ov] (eval b X.env)
      standAt pos
      holding [v, ov, iv] (setItem ov iv v)
      release [v, ov, iv] []) := by intro _; rfl)
    (hs : swapsWithSole [.Subscript (.Name x px) b pos] e spos.line X.env = pure false := by rfl) (hw : swappedStores [.Subscript (.Name x px) b pos] e X.env = pure none := by rfl)
    (h1 : (assignEach [.Subscript (.Name x px) b pos] X.env).map (·.2) = [assign (.Subscript (.Name x px) b pos) X.env] := by rfl) :
    DS g X (.Assign [.Subscript (.Name x px) b pos] e spos) (fSetI i y f) := PS.imp (ps_asg he (pg_sub hx hk set_list ha) hs hw h1) fun D σ H q => by
  obtain ⟨I, env, F, s, p⟩ := q
  refine tD_seq s p fun r v H1 af q => ?_
  obtain ⟨I', F', rp, s', st⟩ := af.frz
  split at q
  · rename_i ds0 q0
    obtain ⟨w, hw, _⟩ := s'.rep i _ q0
    refine ⟨w, hw, ?_⟩
    refine tArg_mono (tA1 (R := fun vs H3 => ∃ u, vs = [u] ∧ rSetL w u v H3 fun H4 => D.nx σ H4) ⟨I', r.2, F', s', post_mono (post_bind.mp q) (fun r3 q3 vs3 H3 I3 F3 s3 st3 av3 => ?_) fun x zz => err_step st zz⟩) fun u H3 ⟨_, e3, z⟩ => by cases e3; exact z
    cases q5 : ints1 (rsvs r3.2 r3.1) with
    | none => simp only [q5] at q3; exact q3.elim
    | some k =>
      simp only [q5] at q3
      have rr3 := rsvs_rep s3 av3 (ints1_inv q5)
      match vs3, rr3 with
      | _, .cons r1 .nil =>
        cases rpss_int r1
        refine ⟨_, rfl, ?_⟩
        split at q3
        · rename_i ds q6
          obtain ⟨a, vs, e1, h1, h2, up⟩ := s3.own q6
          rw [hw] at e1; cases e1
          cases q7 : ixN ds.length k with
          | none => simp only [q7] at q3; exact q3.elim
          | some j =>
            simp only [q7] at q3
            exact ⟨a, vs, k, j, rfl, rfl, h1, by rw [h2.length]; exact q7, q3 _ _ (AftS.trans (st.trans st3) (up _ _ (h2.sets j (rp.mono st3.i1))))⟩
        · exact q3.elim
  · exact q.elim
end
end Dy
namespace Dy
open PySem PySem.Spec PyProof.Rows L2
mutual
def rw8 : PyData → Nat
  | .none => 4
  | .bool _ => 5
  | .int i => i.natAbs.log2 + 2
  | .str x => (reprText x).length
  | .list xs => rw8s xs + 2
  | .tuple xs => rw8s xs + 2
  | .dict _ => 0
def rw8s : List PyData → Nat
  | [] => 0
  | x :: xs => rw8 x + 2 + rw8s xs
end
theorem listText_le (ts : List Str) : (listText ts).length ≤ piled ts + 2 := by
  cases ts with
  | nil => decide +kernel
  | cons t r =>
    have h := textFrom_length_pos r 1 (("[" : Str) ++ (if (0 : Nat) > 0 then ", " else "" : String) ++ t) (Nat.succ_pos 0)
    have e : ((("[" : Str) ++ (if (0 : Nat) > 0 then ", " else "" : String) ++ t)).length = 1 + t.length := by
      rw [strLen_append, strLen_append]; rfl
    have hX : (listText (t :: r)).length = (textFrom 0 "[" (t :: r)).length + 1 := by
      show (textFrom 0 "[" (t :: r) ++ "]").length = _
      rw [strLen_append]; rfl
    have hY : (textFrom 0 "[" (t :: r)).length = (textFrom 1 (("[" : Str) ++ (if (0 : Nat) > 0 then ", " else "" : String) ++ t) r).length := rfl
    rw [hX, hY, h, e, piled_cons]; omega
mutual
theorem shown_len : ∀ d : PyData, d.canLay0 = true → d.shown.length ≤ rw8 d
  | .none, _ => by decide +kernel
  | .bool b, _ => by cases b <;> decide +kernel
  | .int i, _ => by
    show (Str.ofString (toString i)).length ≤ i.natAbs.log2 + 2
    rw [PySem.ofString_length]
    exact int_text_length_le (k := i.natAbs.log2 + 1) (by omega) (by omega)
  | .str x, _ => Nat.le_refl _
  | .list xs, h => by
    have := shown_len_all xs (by simpa [PyData.canLay0] using h)
    have := listText_le (PyData.shownAll xs)
    show (listText (PyData.shownAll xs)).length ≤ rw8s xs + 2
    omega
  | .tuple xs, h => by
    have := shown_len_all xs (by simpa [PyData.canLay0] using h)
    have := fmt_text (PyData.shownAll xs)
    show (tupleText (PyData.shownAll xs)).length ≤ rw8s xs + 2
    omega
  | .dict _, h => by simp [PyData.canLay0] at h
theorem shown_len_all : ∀ ds : List PyData, PyData.canLayAll0 ds = true → piled (PyData.shownAll ds) ≤ rw8s ds
  | [], _ => Nat.le_refl _
  | d :: ds, h => by
    have h' : d.canLay0 = true ∧ PyData.canLayAll0 ds = true := by simpa [PyData.canLayAll0] using h
    have h1 := shown_len d h'.1
    have h2 := shown_len_all ds h'.2
    show piled (d.shown :: PyData.shownAll ds) ≤ rw8 d + 2 + rw8s ds
    rw [piled_cons]
    omega
end
def rOk (d : PyData) : Bool := d.canLay0 && (d.showable && decide (d.depth ≤ 64 ∧ rw8 d ≤ 16777216))
def pRepr (d : PyData) : Option O := if rOk d = true then some (.fr (.str d.shown)) else none
section
variable {X : Cx}
def rRepr (K : PySem.W.Frag) : List V → Hp → VK → Prop := fun xs H Q => ∃ x d, xs = [x] ∧ Dp K H x d ∧ d.showable = true ∧ d.hasDict = false ∧ d.depth ≤ 64 ∧ d.shown.length ≤ sizeLine ∧ Q (.str d.shown) H
theorem cr_repr {k : Nat} (hg : X.A.guards = some []) (hr : Room k X.A) : CallR X (.builtin "repr") (rRepr X.K) := by
  intro pins s σ H xs us Q J r h
  obtain ⟨x, d, rfl, hd, h1, h2, h3, h4, q⟩ := h
  obtain ⟨u, rfl, ru⟩ := vals1 r
  obtain ⟨as, rd⟩ := Dp.reads J d x u hd ru
  have hu := hr.un
  cases rd with
  | none => exact PySem.P.repr_of_none ⟨.str _, H, J.tok _, ⟨_, rfl⟩, q⟩
  | bool b => cases b <;> exact PySem.P.repr_of_bool ⟨.str _, H, J.tok _, ⟨_, rfl⟩, q⟩
  | int i t => exact PySem.P.repr_of_int (by simpa [PyData.showable] using h1) ⟨.str _, H, J.tok _, ⟨_, rfl⟩, q⟩
  | str y t => exact PySem.P.repr_of_str ⟨.str _, H, J.tok _, ⟨_, rfl⟩, q⟩ h4
  | list e1 e2 e3 e4 =>
    exact repr_of_reads' (.list e1 e2 e3 e4) h1 (PyData.noDict_hsm h2) hg (by omega) (fun _ _ z => z) (fun h' u tk k => ⟨.str _, H, J.kept (t' := tk) fun b ob q => k b ob q, ⟨_, rfl⟩, q⟩) h4
  | tuple e1 e2 e3 e4 =>
    exact repr_of_reads' (.tuple e1 e2 e3 e4) h1 (PyData.noDict_hsm h2) hg (by omega) (fun _ _ z => z) (fun h' u tk k => ⟨.str _, H, J.kept (t' := tk) fun b ob q => k b ob q, ⟨_, rfl⟩, q⟩) h4
  | dict e1 e2 e3 e4 e5 => simp [PyData.hasDict] at h2
theorem os_repr {K : PySem.W.Frag} : OpS K (rRepr K) (on1 pRepr) := ops1c fun v d I H Q o s r1 q k => by
  unfold pRepr at q
  split at q
  · rename_i hc
    cases q
    unfold rOk at hc
    simp only [Bool.and_eq_true, decide_eq_true_eq] at hc
    obtain ⟨c1, c2, c3, c4⟩ := hc
    exact ⟨v, d, rfl, r1.dp s c1, c2, PyData.hasDict_of_canLay d c1, c3, Nat.le_trans (shown_len d c1) (Nat.le_trans c4 (by decide)), k _ _ _ _ (Grow.val s (.str _))⟩
  · cases q
end
def pRev : PyData → Option O
  | .list xs => some (.ol xs.reverse)
  | _ => none
section
variable {g : G} {X : Cx} {a b c e : Expr} {es : List Expr} {pos p1 p2 p3 : Pos} {σ : St} {H I : Hp} {env : Env} {F : Nat → List Addr} {D : Ends}
def fPar (i j : Nat) (f1 f2 : EF) : SF := fun env => f1 env >>= fun r1 => f2 r1.2 >>= fun r2 => if i < r2.2.length ∧ j < r2.2.length ∧ i ≠ j then .ok (.nx, (r2.2.set i (some r1.1)).set j (some r2.1)) else .no
theorem par_key {i j : Nat} {f1 f2 : EF} (hi : i ∉ g.pn.1) (hj : j ∉ g.pn.1) (h : tS g (fPar i j f1 f2) D σ H) :
    tD g f1 σ H fun v H1 => tD g f2 σ H1 fun w H2 => ∀ H3, Same H2 H3 → D.nx ((σ.set i (some v)).set j (some w)) H3 := by
  obtain ⟨I, env, F, s, p⟩ := h
  refine tD_seq s p fun r1 v H1 af q => ?_
  obtain ⟨I1, F1, R1, rp1, s1, n1, d1, st1⟩ := af
  have q' : (f2 r1.2 >>= fun r2 => if i < r2.2.length ∧ j < r2.2.length ∧ i ≠ j then Res.ok (Fl.nx, (r2.2.set i (some r1.1)).set j (some r2.1)) else .no).post (FlP g D I H F) (g.err I1 H1 F1) :=
    post_mono q (fun _ z => z) fun x z => err_step (st1.less fun a ha => .inl ha) z
  refine tD_seq s1 q' fun r2 w H2 af2 q2 => ?_
  obtain ⟨I2, F2, R2, rp2, s2, n2, d2, st2⟩ := af2
  intro H3 sm
  by_cases hc : i < r2.2.length ∧ j < r2.2.length ∧ i ≠ j
  · rw [if_pos hc] at q2
    have dm1 : ∀ a ∈ R1, ∃ o, H1 a = some o := rp1.dom
    have k1 : ∀ a ∈ R1, H2 a = H1 a := st2.keeps rp1.domN fun a ha hz => d1 a hz ha
    have dm2 : ∀ a ∈ R2, ∃ o, H2 a = some o := rp2.dom
    have nI2 : ∀ a ∈ R1, I2 a = none := fun a ha => by
      cases q : I2 a with
      | none => rfl
      | some u =>
        rcases st2.i' a u q with z | z | z
        · rw [n1 a ha] at z; cases z
        · exact (d1 a z ha).elim
        · obtain ⟨o, ho⟩ := dm1 a ha; rw [z] at ho; cases ho
    have dF2 : ∀ a, Ow F2 a → a ∉ R1 := fun a ha hr => by
      rcases st2.s' a (.inl ha) with z | z
      · exact d1 a z hr
      · obtain ⟨o, ho⟩ := dm1 a hr; rw [z] at ho; cases ho
    have dR : ∀ a ∈ R1, a ∉ R2 := fun a hr h2 => by
      rcases st2.s' a (.inr h2) with z | z
      · exact d1 a z hr
      · obtain ⟨o, ho⟩ := dm1 a hr; rw [z] at ho; cases ho
    have k3 : ∀ a o, H2 a = some o → H3 a = some o := fun a o h => sm a o h
    have e3 : ∀ {a}, (∃ o, H2 a = some o) → H3 a = H2 a := fun {a} ⟨o, h⟩ => by rw [h, k3 a o h]
    have s3 : Sim g.K g.pn I2 H3 σ r2.2 F2 := s2.heap (Same.refl _) (s2.sub.trans sm) (fun a ha => e3 (s2.domO ha)) (fun a ⟨l, hl⟩ => s2.djI l a hl) (fun a ps h => sm a _ h)
    have r1' : RepO g.K I2 H3 r1.1 v R1 := rp1.mono st2.i1 fun a ha => by
      rw [e3 (by obtain ⟨o, ho⟩ := dm1 a ha; exact ⟨o, by rw [k1 a ha]; exact ho⟩), k1 a ha]
    have r2' : RepO g.K I2 H3 r2.1 w R2 := rp2.mono (Same.refl _) fun a ha => e3 (dm2 a ha)
    have s4 : Sim g.K g.pn I2 H3 (σ.set i (some v)) (r2.2.set i (some r1.1)) (upF F2 i R1) :=
      s3.put hc.1 (Same.refl _) s3.sub (fun _ _ _ _ => rfl) (fun l _ a ha => s3.djI l a ha) nI2 (fun l _ a ha => dF2 a ⟨l, ha⟩) (fun o e => by cases e; exact ⟨v, rfl, r1'⟩) (fun e => by cases e) (fun h => absurd h hi)
    have s5 : Sim g.K g.pn I2 H3 ((σ.set i (some v)).set j (some w)) ((r2.2.set i (some r1.1)).set j (some r2.1)) (upF (upF F2 i R1) j R2) :=
      s4.put (by rw [List.length_set]; exact hc.2.1) (Same.refl _) s4.sub (fun _ _ _ _ => rfl) (fun l _ a ha => s4.djI l a ha) n2 (fun l _ a ha hr => by
        rcases ow_up (⟨l, ha⟩ : Ow (upF F2 i R1) a) with z | z
        · exact d2 a z hr
        · exact dR a z hr) (fun o e => by cases e; exact ⟨w, rfl, r2'⟩) (fun e => by cases e) (fun h => absurd h hj)
    refine q2 _ _ ⟨I2, _, s5, ?_⟩
    have stA := st2.aside (fun a => a ∈ R1) dm1 (fun a ha hz => d1 a hz ha)
    refine (st1.trans stA).trans (Step.of4 (Same.refl _) (fun a o h _ => k3 a o h) (fun a ha => ?_) (fun a o h => .inl h))
    rcases ow_up ha with z | z
    · rcases ow_up z with y | y
      · exact .inl (.inl (.inl y))
      · exact .inl (.inr y)
    · exact .inl (.inl (.inr z))
  · rw [if_neg hc] at q2; exact q2.elim
theorem ds_par {i j : Nat} {x y : Str} {f1 f2 : EF} {px py pt : Pos} {kt k2 pt2} (hpi : i ∉ g.pn.1) (hpj : j ∉ g.pn.1) (hc : X.calm = true) (hN : X.N.Nodup) (hi : X.N[i]? = some x) (hj : X.N[j]? = some y) (hij : i ≠ j)
    (hx : X.env.scope.names.lookup x = some .local) (hy : X.env.scope.names.lookup y = some .local) (ha : DE g X a f1) (hb : DE g X b f2)
    (hw : swappedStores [.Tuple [.Name x px, .Name y py] kt pt] (.Tuple [a, b] k2 pt2) X.env = pure (some [x, y]) := by rfl)
    (h1 : starEach [a, b] X.env = (false, eval a X.env) :: starEach [b] X.env := by rfl) (h2 : starEach [b] X.env = (false, eval b X.env) :: starEach [] X.env := by rfl)
    (hs : swapsWithSole [.Tuple [.Name x px, .Name y py] kt pt] (.Tuple [a, b] k2 pt2) pos.line X.env = pure false := by rfl) :
    DS g X (.Assign [.Tuple [.Name x px, .Name y py] kt pt] (.Tuple [a, b] k2 pt2) pos) (fPar i j f1 f2) := PS.imp (ps_par hc hN hi hj hij hx hy (pa_cons ha (pa_cons hb pa_nil h2) h1) hw hs) fun D σ H h => by
  refine tArg_mono (x := .v f1) (par_key hpi hpj h) fun v H1 q => tArg_mono (x := .v f2) q fun w H2 q => ?_
  exact ⟨v, w, rfl, q H2 (Same.refl _)⟩
/-- one of the names is a cell -/
theorem ds_parC {i j : Nat} {tg : Expr} {f1 f2 : EF} {k2 pt2} (hpi : i ∉ g.pn.1) (hpj : j ∉ g.pn.1) (hg : PG X tg (rdT g.K (.tu [i, j]))) (ha : DE g X a f1) (hb : DE g X b f2)
    (h1 : starEach [a, b] X.env = (false, eval a X.env) :: starEach [b] X.env := by rfl) (h2 : starEach [b] X.env = (false, eval b X.env) :: starEach [] X.env := by rfl)
    (hs : swapsWithSole [tg] (.Tuple [a, b] k2 pt2) pos.line X.env = pure false := by rfl) (hw : swappedStores [tg] (.Tuple [a, b] k2 pt2) X.env = pure none := by rfl)
    (h3 : (assignEach [tg] X.env).map (·.2) = [assign tg X.env] := by rfl) :
    DS g X (.Assign [tg] (.Tuple [a, b] k2 pt2) pos) (fPar i j f1 f2) := PS.imp (ps_asg (pe_tup (pa_cons ha (pa_cons hb pa_nil h2) h1)) hg hs hw h3) fun D σ H h => by
  refine tArg_mono (x := .v f1) (par_key hpi hpj h) fun v H1 q => tArg_mono (x := .v f2) q fun w H2 q => ?_
  refine ⟨by show 2 ≤ sizeLine; decide, fun p np => ?_⟩
  exact ⟨_, _, rfl, SqT.of upd_same, rfl, _, _, rfl, _, _, rfl, rfl, q _ (same_new np)⟩
end
end Dy
namespace Dy
open PySem PySem.Spec PyProof.Rows L2
/-- a def of the module by its mirror -/
def CallOk (P : Program) (w : World) (K : PySem.W.Frag) (mg : Str → Option Value) (T : List (Addr × Str)) (k : Nat) (x : Str) (ps : List Str) (m : Fn) : Prop :=
  ∃ f fd, mg x = some (.ref f) ∧ PySem.W.keepIn K (.ref f) = true ∧ Binds K fd ps [] ∧ ∀ base, FnG P w K mg base k f fd ps (spD K mg T m)
theorem CallOk.mono {P : Program} {w : World} {K : PySem.W.Frag} {mg : Str → Option Value} {T : List (Addr × Str)} {j k : Nat} {x : Str} {ps : List Str} {m : Fn} (h : CallOk P w K mg T j x ps m) (l : j ≤ k) : CallOk P w K mg T k x ps m := by
  obtain ⟨f, fd, h1, h2, h3, h4⟩ := h
  exact ⟨f, fd, h1, h2, h3, fun b => (h4 b).mono l⟩
theorem callOk_of {T : List (Addr × Str)} {P : Program} {w : World} {K : PySem.W.Frag} {mg : Str → Option Value} {k : Nat} {x qual : Str} {st : Stmt} {f : Addr} {fd : FuncData} {ps : List Str} {m : Fn} (F : Fun K x qual st f fd) (hm : mg x = some (.ref f)) (hb : Binds K fd ps []) (h : ∀ base, FnG P w K mg base k f fd ps (spD K mg T m)) : CallOk P w K mg T k x ps m :=
  ⟨f, fd, hm, F.kp, hb, h⟩
theorem ru64 {k : Nat} {A : Around} (h : Room k A) : A.units + 64 < cLine := by have := h.un; omega
theorem ru65 {k : Nat} {A : Around} (h : Room k A) : A.units + 65 < cLine := by have := h.un; omega
section
variable {T : List (Addr × Str)} {g : G} {X : Cx} {k : Nat} {ps : List Str} {m : Fn} {x : Str} {p pos : Pos} {e : Expr} {es : List Expr} {as : List AF}
theorem dcall (c : CallOk X.prog X.w X.K X.mg T k x ps m) (hgd : X.A.guards = some []) (hr : Room k X.A) (hg : Gl X x) (hx : Passes (L2.CX X.prog X.w) X g.E)
    (ha : DA g X (e :: es) as) (hK : g.K = X.K := by rfl) (hM : g.mg = X.mg := by rfl) (hT : g.pn.2.2 = T := by rfl) (hdb : (x == ("__debug__" : Str)) = false := by decide) (he : starEach (e :: es) X.env = (false, eval e X.env) :: starEach es X.env := by rfl) (hpl : (backTo pos (starEach es X.env)).any (·.1) = false := by rfl) :
    DE g X (.Call (.Name x p) (e :: es) [] pos) (fCall m as) := by
  obtain ⟨f, fd, h1, h2, h3, h4⟩ := c
  have h5 := h4 X.base
  exact de_call (X := X) (by rw [hK, hM, hT]; exact h5) hgd hr hg h1 h2 h3 hx ha hdb he hpl
end
theorem npn {is rp : List Nat} (h : (is.all fun i => !rp.contains i) = true) : ∀ i ∈ is, i ∉ rp := fun i hi hr => by
  have := List.all_eq_true.mp h i hi
  rw [List.contains_iff_mem.mpr hr] at this
  cases this
theorem np1 {i : Nat} {rp : List Nat} (h : rp.contains i = false) : i ∉ rp := fun hr => by
  rw [List.contains_iff_mem.mpr hr] at h
  cases h
theorem bt_len : bootBuiltins "len" = some (.builtin "len") := by decide +kernel
theorem bt_max : bootBuiltins "max" = some (.builtin "max") := by decide +kernel
theorem bt_min : bootBuiltins "min" = some (.builtin "min") := by decide +kernel
theorem bt_all : bootBuiltins "all" = some (.builtin "all") := by decide +kernel
theorem bt_repr : bootBuiltins "repr" = some (.builtin "repr") := by decide +kernel
theorem bt_isinstance : bootBuiltins "isinstance" = some (.builtin "isinstance") := by decide +kernel
theorem bt_list : bootBuiltins "list" = some (.type "list") := by decide +kernel
theorem bt_tuple : bootBuiltins "tuple" = some (.type "tuple") := by decide +kernel
theorem bt_int : bootBuiltins "int" = some (.type "int") := by decide +kernel
theorem bt_str : bootBuiltins "str" = some (.type "str") := by decide +kernel
theorem bt_bool : bootBuiltins "bool" = some (.type "bool") := by decide +kernel
section
variable {X : Cx} {x : Str} {pos : Pos}
/-- a built-in type's name -/
theorem pty {T : String} (hg : Gl X x) (hm : X.mg x = none) (hv : bootBuiltins x = some (.type T)) (hn : x ≠ "__name__" := by decide) (hd : (x == ("__debug__" : Str)) = false := by decide) : PE X (.Name x pos) (tC (.ty T)) := by
  exact pe_bltn hg hm hv rfl hn hd
end
end Dy
namespace Dy
open PySem
section
variable (env : Env) (i j n m : Nat) (f k : EF) (t u : TF) (s s' : SF) (as : List AF) (x y z : AF) (d : PyData)
theorem a_seq : fSeq s s' env = s env >>= fun r => match r.1 with | .nx => s' r.2 | _ => .ok r := rfl
theorem a_ifS : fIfS t s s' env = t env >>= fun r => if r.1 = true then s r.2 else s' r.2 := rfl
theorem a_B : fB f env = f env >>= fun r => match r.1 with | .fr (.bool b) => .ok (b, r.2) | _ => .no := rfl
theorem a_op (g : List PyData → Option O) : fOp g as env = evA as env >>= fun r => match rsvs r.2 r.1 with | none => .no | some ds => match g ds with | none => .no | some o => .ok (o, r.2) := rfl
theorem a_ov (g : List PyData → Option O) : fOv g as env = evA as env >>= fun r => match dvs r.1 with | none => .no | some ds => match g ds with | none => .no | some o => .ok (o, r.2) := rfl
theorem a_ev0 : evA [] env = .ok ([], env) := rfl
theorem a_evv : evA (.v f :: as) env = f env >>= fun r => evA as r.2 >>= fun q => .ok (.d r.1.data :: q.1, q.2) := rfl
theorem a_evs : evA (.s i :: as) env = match env[i]? with | some (some _) => evA as env >>= fun q => .ok (.s i :: q.1, q.2) | _ => .no := rfl
theorem a_C : fC d env = .ok (.fr d, env) := rfl
theorem a_V : fV i env = match env[i]? with | some (some (.fr d)) => .ok (.fr d, env) | some (some o) => .ok (.fr o.data, env.set i (some (.fr o.data))) | _ => .no := rfl
theorem a_M : fM i env = match env[i]? with | some (some o) => .ok (o, env.set i none) | _ => .no := rfl
theorem a_set : fSet i f env = f env >>= fun r => if i < r.2.length then .ok (.nx, r.2.set i (some r.1)) else .no := rfl
theorem a_setI : fSetI i y f env = f env >>= fun r => match r.2[i]? with
  | some (some (.ol _)) => evA [y] r.2 >>= fun q => match Dy.ints1 (rsvs q.2 q.1) with
    | none => .no
    | some k => match q.2[i]? with
      | some (some (.ol ds)) => match L2.ixN ds.length k with
        | some j => .ok (.nx, q.2.set i (some (.ol (ds.set j r.1.data))))
        | none => .no
      | _ => .no
  | _ => .no := rfl
theorem a_app : fApp i f env = match env[i]? with
  | some (some (.ol _)) => f env >>= fun r => match r.2[i]? with
    | some (some (.ol ds)) => if ds.length < 1000000 then .ok (.nx, r.2.set i (some (.ol (ds ++ [r.1.data])))) else .no
    | _ => .no
  | _ => .no := rfl
theorem a_ret : fRet f env = f env >>= fun r => .ok (.rt r.1, r.2) := rfl
theorem a_ex : fEx f env = f env >>= fun r => .ok (.nx, r.2) := rfl
theorem a_skip : fSkip env = .ok (.nx, env) := rfl
theorem a_no : fNo env = .no := rfl
theorem a_not : fNot t env = t env >>= fun r => .ok (!r.1, r.2) := rfl
theorem a_andT : fAndT t u env = t env >>= fun r => if r.1 = true then u r.2 else .ok (false, r.2) := rfl
theorem a_orT : fOrT t u env = t env >>= fun r => if r.1 = true then .ok (true, r.2) else u r.2 := rfl
theorem a_and : fAnd f k env = fB f env >>= fun r => if r.1 = true then k r.2 else .ok (.fr (.bool false), r.2) := rfl
theorem a_or : fOr f k env = fB f env >>= fun r => if r.1 = true then .ok (.fr (.bool true), r.2) else k r.2 := rfl
theorem a_notV : fNotV f env = fB f env >>= fun r => .ok (.fr (.bool (!r.1)), r.2) := rfl
theorem a_if : fIf t f k env = t env >>= fun r => if r.1 = true then f r.2 else k r.2 := rfl
theorem a_par : fPar i j f k env = f env >>= fun r1 => k r1.2 >>= fun r2 => if i < r2.2.length ∧ j < r2.2.length ∧ i ≠ j then .ok (.nx, (r2.2.set i (some r1.1)).set j (some r2.1)) else .no := rfl
theorem a_call (m : Fn) : fCall m as env = evA as env >>= fun r => match rsO r.2 r.1 with | none => .no | some os => if ndS r.1 = true then m os >>= fun q => .ok (q.1, putB r.1 q.2 r.2) else .no := rfl
theorem a_forS (g : IF) (w : Tg) : fForS g w s env = g env >>= fun r => fFor w s r.1 r.2 := rfl
theorem a_sq : fSq x env = evA [x] env >>= fun r => match dvs r.1 with | some [d] => (match seqOf d with | some xs => .ok (xs, r.2) | none => .no) | _ => .no := rfl
theorem a_r1 : fR1 x env = evA [x] env >>= fun r => match Dy.ints1 (rsvs r.2 r.1) with | some n => if n ≤ 1000000000 ∧ -1000000000 ≤ n then .ok (rng 0 n.toNat, r.2) else .no | none => .no := rfl
theorem a_r2 : fR2 x y env = evA [x, y] env >>= fun r => match Dy.ints2 (rsvs r.2 r.1) with | some n => if n.1 ≤ 1000000000 ∧ -1000000000 ≤ n.1 ∧ n.2 ≤ 1000000000 ∧ -1000000000 ≤ n.2 then .ok (rng n.1 (n.2 - n.1).toNat, r.2) else .no | none => .no := rfl
theorem a_en : fEn x env = fSq x env >>= fun r => .ok (enumD 0 r.1, r.2) := rfl
theorem a_zp : fZp x y env = evA [x, y] env >>= fun r => match dvs r.1 with | some [d, e] => (match seqOf d, seqOf e with | some xs, some ys => .ok (zipD xs ys, r.2) | _, _ => .no) | _ => .no := rfl
theorem a_asT (w : Tg) : fAsT w f env = f env >>= fun r => asT w r.1.data r.2 >>= fun e => .ok (.nx, e) := rfl
theorem a_chI (c1 c2 : Int → Int → Bool) : fChI c1 c2 x y z env = evA [x, y] env >>= fun r => match Dy.ints2 (rsvs r.2 r.1) with
  | some ij => if c1 ij.1 ij.2 = true then evA [z] r.2 >>= fun q => match Dy.ints1 (rsvs q.2 q.1) with
      | some k => .ok (.fr (.bool (c2 ij.2 k)), q.2)
      | none => .no
    else .ok (.fr (.bool false), r.2)
  | none => .no := rfl
theorem a_yes : fYes env = .ok (true, env) := rfl
theorem a_lc (g : IF) (vs : List Nat) (w : Tg) : fLc g vs w t f env = g env >>= fun r => lcL vs w t f r.1 (wipeE r.2 vs) [] >>= fun q => .ok (.ol q.1, unw r.2 q.2 vs) := rfl
theorem a_fn (rp : List Nat) (os : List O) : fnM n m rp s os = if os.length = n ∧ okA rp 0 os = true then
    s (os.map some ++ List.replicate (m - n) none) >>= fun r => match bkA rp r.2 0 os with
      | none => .no
      | some os' => match r.1 with
        | .rt o => .ok (o, os')
        | .nx => .ok (.fr .none, os')
        | _ => .no
  else .no := rfl
end
section
variable (i j : Int) (xs ys : List PyData) (d e : PyData) (a b : Str) (t : Bool) (rs : List (List PyData))
theorem d_fr : (O.fr d).data = d := rfl
theorem d_ol : (O.ol xs).data = .list xs := rfl
theorem f_fr : isFr (.fr d) = true := rfl
theorem q_addI : pAdd (.int i) (.int j) = some (.fr (.int (i + j))) := rfl
theorem q_addL : pAdd (.list xs) (.list ys) = if xs.length + ys.length ≤ 1000000 then some (.ol (xs ++ ys)) else none := rfl
theorem q_addT : pAdd (.tuple xs) (.tuple ys) = if xs.length + ys.length ≤ 1000000 then some (.fr (.tuple (xs ++ ys))) else none := rfl
theorem q_addS : pAdd (.str a) (.str b) = if a.length + b.length ≤ 1000000 then some (.fr (.str (a ++ b))) else none := rfl
theorem q_sub : pSub (.int i) (.int j) = some (.fr (.int (i - j))) := rfl
theorem q_div : pDiv (.int i) (.int j) = if 0 < j ∧ j < 1073741824 then some (.fr (.int (i / j))) else none := rfl
theorem q_mod : pMod (.int i) (.int j) = if 0 < j then some (.fr (.int (i % j))) else none := rfl
theorem q_pow : pPow (.int i) (.int j) = if 0 ≤ j ∧ j ≤ 1000000 ∧ i.natAbs < 2 ^ 64 then some (.fr (.int (i ^ j.toNat))) else none := rfl
theorem q_neg : pNeg (.int i) = some (.fr (.int (-i))) := rfl
theorem q_cm (c : Int → Int → Bool) : cmI c (.int i) (.int j) = some (.fr (.bool (c i j))) := rfl
theorem q_isN : isN .none = true := rfl
theorem q_isI : isN (.int i) = false := rfl
theorem q_isS : isN (.str a) = false := rfl
theorem q_isT : isN (.tuple xs) = false := rfl
theorem q_isL : isN (.list xs) = false := rfl
theorem q_isB : isN (.bool t) = false := rfl
theorem q_lenL : pLen (.list xs) = some (.fr (.int xs.length)) := rfl
theorem q_lenT : pLen (.tuple xs) = some (.fr (.int xs.length)) := rfl
theorem q_tupL : pTuple (.list xs) = some (.fr (.tuple xs)) := rfl
theorem q_tupT : pTuple (.tuple xs) = some (.fr (.tuple xs)) := rfl
theorem q_lstL : pList (.list xs) = some (.ol xs) := rfl
theorem q_lstT : pList (.tuple xs) = some (.ol xs) := rfl
theorem q_revL : pRev (.list xs) = some (.ol xs.reverse) := rfl
theorem q_slL : pSl2l (.list xs) (.int i) = some (.ol (cutD xs (some i) none)) := rfl
theorem q_slT : pSl2l (.tuple xs) (.int i) = some (.fr (.tuple (cutD xs (some i) none))) := rfl
theorem q_shL : pSl2h (.list xs) (.int i) = some (.ol (cutD xs none (some i))) := rfl
theorem q_shT : pSl2h (.tuple xs) (.int i) = some (.fr (.tuple (cutD xs none (some i)))) := rfl
theorem q_sqL : seqOf (.list xs) = some xs := rfl
theorem q_sqT : seqOf (.tuple xs) = some xs := rfl
theorem q_intI : pInt (.int i) = some (.fr (.int i)) := rfl
theorem q_max2 : pMax [.int i, .int j] = some (.fr (.int (max i j))) := rfl
theorem q_min2 : pMin [.int i, .int j] = some (.fr (.int (min i j))) := rfl
theorem q_aII : isA .int (.int i) = true := rfl
theorem q_aBI : isA .bool (.int i) = false := rfl
theorem q_aTI : isA .tuple (.int i) = false := rfl
theorem q_aTT : isA .tuple (.tuple xs) = true := rfl
theorem q_aLL : isA .list (.list xs) = true := rfl
theorem q_aTL : isA .tuple (.list xs) = false := rfl
theorem q_aIT : isA .int (.tuple xs) = false := rfl
end
theorem lc_inv {vs : List Nat} {t : Tg} {test : TF} {elt : EF} (P : Nat → Env → List PyData → Prop) (ds : List PyData) {env : Env} {acc : List PyData} (h0 : P 0 env acc)
    (step : ∀ k d e acc, ds[k]? = some d → P k e acc → ∃ e1 b e2, asT t d e = .ok e1 ∧ test e1 = .ok (b, e2) ∧ (b = false → P (k + 1) (wipeE e2 vs) acc) ∧ (b = true → ∃ o e3, elt e2 = .ok (o, e3) ∧ acc.length < 100000 ∧ P (k + 1) (wipeE e3 vs) (acc ++ [o.data]))) :
    ∃ e acc', lcL vs t test elt ds env acc = .ok (acc', e) ∧ P ds.length e acc' := by
  suffices h : ∀ (xs : List PyData) (k : Nat) (env : Env) (acc : List PyData), ds.drop k = xs → k ≤ ds.length → P k env acc → ∃ e acc', lcL vs t test elt xs env acc = .ok (acc', e) ∧ P ds.length e acc' from h ds 0 env acc rfl (Nat.zero_le _) h0
  intro xs
  induction xs with
  | nil =>
    intro k env acc hd hk hp
    have hl : ds.length ≤ k := List.drop_eq_nil_iff.mp hd
    have : k = ds.length := by omega
    subst this
    exact ⟨env, acc, rfl, hp⟩
  | cons x xs ih =>
    intro k env acc hd hk hp
    have hlt : k < ds.length := by
      cases Nat.lt_or_ge k ds.length with
      | inl h => exact h
      | inr h => rw [List.drop_eq_nil_iff.mpr h] at hd; cases hd
    rw [List.drop_eq_getElem_cons hlt] at hd
    cases hd
    obtain ⟨e1, b, e2, a1, a2, pf, pt⟩ := step k _ env acc (List.getElem?_eq_getElem hlt) hp
    unfold lcL
    rw [a1, bind_ok, a2]
    show ∃ e acc', (if b = true then _ else _) = Res.ok (acc', e) ∧ P ds.length e acc'
    cases b with
    | false => exact ih (k + 1) _ acc rfl hlt (pf rfl)
    | true =>
      obtain ⟨o, e3, c1, c2, p⟩ := pt rfl
      rw [if_pos rfl]
      show ∃ e acc', (nE (elt e2) >>= fun r => if acc.length < 100000 then lcL vs t test elt _ (wipeE r.2 vs) (acc ++ [r.1.data]) else .no) = Res.ok (acc', e) ∧ P ds.length e acc'
      rw [c1]
      show ∃ e acc', (if acc.length < 100000 then lcL vs t test elt _ (wipeE e3 vs) (acc ++ [o.data]) else .no) = Res.ok (acc', e) ∧ P ds.length e acc'
      rw [if_pos c2]
      exact ih (k + 1) _ _ rfl hlt p
theorem rng_at {lo : Int} {n k : Nat} {d : PyData} (h : (rng lo n)[k]? = some d) : k < n ∧ d = .int (lo + k) := by
  unfold rng at h
  rw [List.getElem?_map] at h
  cases q : (List.range n)[k]? with
  | none => rw [q] at h; cases h
  | some j =>
    rw [q] at h; cases h
    obtain ⟨hk, e⟩ := List.getElem?_eq_some_iff.mp q
    rw [List.length_range] at hk
    rw [List.getElem_range] at e
    subst e
    exact ⟨hk, rfl⟩
theorem rng_len {lo : Int} {n : Nat} : (rng lo n).length = n := by unfold rng; simp
end Dy
namespace Dy
open PySem PySem.Spec PyProof.Rows L2
theorem Rows.len {K : PySem.W.Frag} {I H : Hp} {as : List Addr} {rs : List (List PyData)} (h : Rows K I H as rs) : as.length = rs.length := by
  induction h with
  | nil => rfl
  | cons _ _ _ ih => simp [ih]
theorem Rows.at {K : PySem.W.Frag} {I H : Hp} {as : List Addr} {rs : List (List PyData)} (h : Rows K I H as rs) : ∀ {k : Nat} {r : List PyData}, rs[k]? = some r → ∃ a us, as[k]? = some a ∧ H a = some (.lst us) ∧ RpAll K I us r := by
  induction h with
  | nil => intro k r e; simp at e
  | cons h1 h2 _ ih =>
    intro k r e
    cases k with
    | zero => simp at e; subst e; exact ⟨_, _, rfl, h1, h2⟩
    | succ k =>
      obtain ⟨a, us, e1, e2, e3⟩ := ih (k := k) (r := r) (by simpa using e)
      exact ⟨a, us, by simpa using e1, e2, e3⟩
theorem Rows.put {K : PySem.W.Frag} {I H : Hp} {as : List Addr} {rs : List (List PyData)} (h : Rows K I H as rs) (nd : as.Nodup) : ∀ {k : Nat} {a : Addr} {us : List V} {r : List PyData}, as[k]? = some a → RpAll K I us r → Rows K I (upd H a (.lst us)) as (rs.set k r) := by
  induction h with
  | nil => intro k a us r e; simp at e
  | @cons b bs vs r0 rs0 h1 h2 h3 ih =>
    intro k a us r e hr
    have ndb : b ∉ bs ∧ bs.Nodup := List.nodup_cons.mp nd
    cases k with
    | zero =>
      simp at e; subst e
      refine .cons upd_same hr (h3.mono (Same.refl _) fun x hx => upd_ne fun z => ?_)
      subst z; exact ndb.1 hx
    | succ k =>
      have e' : bs[k]? = some a := by simpa using e
      have hm : a ∈ bs := List.mem_of_getElem? e'
      refine .cons ?_ h2 (ih ndb.2 e' hr)
      rw [upd_ne fun z => by subst z; exact ndb.1 hm]; exact h1
def lcO (vs : List Nat) (t : Tg) (elt : EF) : List PyData → Env → List (List PyData) → Res (List (List PyData) × Env)
  | [], e, acc => .ok (acc, e)
  | d :: ds, e, acc => asT t d e >>= fun e1 => nE (elt e1) >>= fun r => match r.1 with
    | .ol x => if acc.length < 100000 then lcO vs t elt ds (wipeE r.2 vs) (acc ++ [x]) else .no
    | _ => .no
def fLcO (fi : IF) (vs : List Nat) (t : Tg) (elt : EF) : EF := fun env => fi env >>= fun r => lcO vs t elt r.1 (wipeE r.2 vs) [] >>= fun q => .ok (.oo q.1, unw r.2 q.2 vs)
/-- some addresses stand aside -/
theorem Step.set {I H I1 H1 : Hp} {S S1 : Addr → Prop} (a : Step I H S I1 H1 S1) {T : List Addr} (h : ∀ x ∈ T, ∃ o, H x = some o ∧ NT o) (n : ∀ x ∈ T, ¬ S x) (i : ∀ x ∈ T, I x = none) : (∀ x ∈ T, H1 x = H x) ∧ (∀ x ∈ T, ¬ S1 x) ∧ ∀ x ∈ T, I1 x = none := by
  refine ⟨fun x hx => ?_, fun x hx => ?_, fun x hx => ?_⟩ <;> obtain ⟨o, ho, nt⟩ := h x hx <;> have := a.one ho (n x hx) (i x hx) nt
  · rw [this.1, ho]
  · exact this.2.1
  · exact this.2.2
section
variable {g : G} {X : Cx} {a b c e : Expr} {es : List Expr} {pos : Pos} {σ : St} {H I : Hp} {env : Env} {F : Nat → List Addr}
end
end Dy
namespace Dy
open PySem PySem.Spec PyProof.Rows L2
def zN (j : Nat) : Env → Option Int := fun env => match env[j]? with
  | some (some (.fr (.int n))) => some n
  | _ => none
def zC (n : Int) : Env → Option Int := fun _ => some n
section
variable {g : G} {X : Cx} {a b c e : Expr} {es : List Expr} {pos p1 p2 px : Pos} {σ : St} {H I : Hp} {env : Env} {F : Nat → List Addr} {D : Ends}
theorem Sim.lt (s : Sim g.K g.pn I H σ env F) {i : Nat} {o : O} (q : env[i]? = some (some o)) : i < env.length := by
  cases Nat.lt_or_ge i env.length with
  | inl h => exact h
  | inr h => rw [List.getElem?_eq_none h] at q; cases q
/-- x[y][z] -/
def fIx2 (i : Nat) (y z : Env → Option Int) : EF := fun env => match env[i]?, y env, z env with
  | some (some (.oo rs)), some k, some l => match ixN rs.length k with
    | some j => match rs[j]? with
      | some r => match atI r l with
        | some d => .ok (.fr d, env)
        | none => .no
      | none => .no
    | none => .no
  | _, _, _ => .no
/-- x[y][z] = e -/
def fSetII (i : Nat) (y z : Env → Option Int) (f : EF) : SF := fun env => f env >>= fun r => match r.2[i]?, y r.2, z r.2 with
  | some (some (.oo rs)), some k, some l => match ixN rs.length k with
    | some j => match rs[j]? with
      | some w => match ixN w.length l with
        | some m => .ok (.nx, r.2.set i (some (.oo (rs.set j (w.set m r.1.data)))))
        | none => .no
      | none => .no
    | none => .no
  | _, _, _ => .no
end
end Dy
namespace Dy
open PySem PySem.Spec PyProof.Rows L2
theorem Sim.forget {K : PySem.W.Frag} {π : Pn} {I H : Hp} {σ : St} {env : Env} {F : Nat → List Addr} (s : Sim K π I H σ env F) (vs : List Nat) : Sim K π I H σ (wipeE env vs) (clF F vs) := by
  refine ⟨by rw [wipeE_length, s.len], fun i o q => ?_, fun i q => ?_, fun i j a h1 h2 => ?_, fun i a h => ?_, s.sub, s.pin, s.tab⟩
  · rw [wipeE_at] at q
    by_cases h : i ∈ vs
    · rw [if_pos h] at q; split at q <;> cases q
    · rw [if_neg h] at q
      obtain ⟨v, e1, r⟩ := s.rep i o q
      exact ⟨v, e1, by unfold clF; rw [if_neg h]; exact r⟩
  · unfold clF
    by_cases h : i ∈ vs
    · rw [if_pos h]
    · rw [if_neg h]; exact s.out i fun o z => q o (by rw [wipeE_at, if_neg h]; exact z)
  · unfold clF at h1 h2
    split at h1
    · cases h1
    · split at h2
      · cases h2
      · exact s.dis i j a h1 h2
  · unfold clF at h
    split at h
    · cases h
    · exact s.djI i a h
section
variable {g : G} {X : Cx} {a b c e : Expr} {es : List Expr} {pos p1 p2 px : Pos} {σ : St} {H I : Hp} {env : Env} {F : Nat → List Addr} {D : Ends} {st : Stmt} {sts : List Stmt}
theorem AftS.forget {H1 : Hp} {env' : Env} (af : AftS g.K g.pn I H F σ env' H1) (vs : List Nat) : AftS g.K g.pn I H F σ (wipeE env' vs) H1 := by
  obtain ⟨I', F', s, t⟩ := af
  exact ⟨I', clF F' vs, s.forget vs, t.less fun a h => clF_ow h⟩
theorem Aft.forget {H1 : Hp} {env' : Env} {o : O} {v : V} (af : Aft g.K g.pn I H F σ env' o v H1) (vs : List Nat) : Aft g.K g.pn I H F σ (wipeE env' vs) o v H1 := by
  obtain ⟨I', F', R, r, s, n, d, t⟩ := af
  exact ⟨I', clF F' vs, R, r, s.forget vs, n, fun a h => d a (clF_ow h), t.less fun a h => h.elim (fun z => .inl (clF_ow z)) .inr⟩
/-- behind a statement some slots are forgotten -/
def fWp (vs : List Nat) (f : SF) : SF := fun env => f env >>= fun r => .ok (r.1, wipeE r.2 vs)
theorem wp_key {f : SF} {vs : List Nat} (q : tS g (fWp vs f) D σ H) : tS g f D σ H := by
  obtain ⟨I, env, F, s, p⟩ := q
  refine ⟨I, env, F, s, post_mono (post_bind.mp p) (fun r q => ?_) fun _ z => z⟩
  obtain ⟨fl, e⟩ := r
  cases fl with
  | nx => exact fun σ' H' af => q σ' H' (af.forget vs)
  | bk => exact fun σ' H' af => q σ' H' (af.forget vs)
  | ct => exact fun σ' H' af => q σ' H' (af.forget vs)
  | rt o => exact fun v σ' H' af => q v σ' H' (af.forget vs)
theorem ds_wp {f : SF} (vs : List Nat) (h : DS g X st f) : DS g X st (fWp vs f) := PS.imp h fun D σ H q => wp_key q
/-- a name's thing is frozen -/
def frzE (e : Env) : List Nat → Env
  | [] => e
  | i :: is => match (frzE e is)[i]? with
    | some (some o) => (frzE e is).set i (some (.fr o.data))
    | _ => frzE e is
def fFz (vs : List Nat) (f : SF) : SF := fun env => f env >>= fun r => .ok (r.1, frzE r.2 vs)
theorem AftS.freeze {H1 : Hp} {env' : Env} (af : AftS g.K g.pn I H F σ env' H1) : ∀ vs : List Nat, AftS g.K g.pn I H F σ (frzE env' vs) H1
  | [] => af
  | i :: is => by
    have ih := AftS.freeze af is
    unfold frzE
    split
    · rename_i o q
      obtain ⟨I', F', s, t⟩ := ih
      obtain ⟨v, I2, _, _, s2, t2⟩ := sim_frz s q
      exact ⟨I2, _, s2, t.trans t2⟩
    · exact ih
theorem ds_fz {f : SF} (vs : List Nat) (h : DS g X st f) (hf : ∀ env r, f env = .ok r → r.1 = .nx) : DS g X st (fFz vs f) := PS.imp h fun D σ H q => by
  obtain ⟨I, env, F, s, p⟩ := q
  refine ⟨I, env, F, s, ?_⟩
  have p := post_bind.mp p
  cases q : f env with
  | no => rw [q] at p; exact p
  | er x => rw [q] at p; exact p
  | ok r =>
    rw [q] at p
    have h1 := hf env r q
    obtain ⟨fl, e⟩ := r
    cases h1
    exact fun σ' H' af => p σ' H' (af.freeze vs)
theorem nx_set {i : Nat} {f : EF} : ∀ env r, fSet i f env = .ok r → r.1 = .nx := fun env r h => by
  unfold fSet at h
  cases q : f env with
  | no => rw [q] at h; cases h
  | er x => rw [q] at h; cases h
  | ok y =>
    rw [q, bind_ok] at h
    split at h
    · cases h; rfl
    · cases h
theorem Sim.own2 {K : PySem.W.Frag} {π : Pn} {I H : Hp} {σ : St} {env : Env} {F : Nat → List Addr} {i : Nat} {ds : List PyData} (s : Sim K π I H σ env F) (q : env[i]? = some (some (.ol ds))) :
    ∃ a vs, σ[i]? = some (some (.ref a)) ∧ H a = some (.lst vs) ∧ RpAll K I vs ds ∧ ∀ vs' ds', RpAll K I vs' ds' → Sim K π I (upd H a (.lst vs')) σ (env.set i (some (.ol ds'))) (upF F i [a]) ∧ Step I H (Ow F) I (upd H a (.lst vs')) (Ow (upF F i [a])) := by
  obtain ⟨v, e1, a, vs, rfl, hF, h1, h2⟩ := s.rep i _ q
  refine ⟨a, vs, e1, h1, h2, fun vs' ds' r => ?_⟩
  have hi : i < env.length := by
    cases Nat.lt_or_ge i env.length with
    | inl h => exact h
    | inr h => rw [List.getElem?_eq_none h] at q; cases q
  have ha : a ∈ F i := by rw [hF]; simp
  have nI := s.djI i a ha
  have ne : ∀ j, j ≠ i → ∀ b ∈ F j, b ≠ a := fun j hj b hb e => by subst e; exact hj (s.dis j i b hb ha)
  refine ⟨?_, Step.of4 (Same.refl _) (fun b o h n => ?_) (fun b h => ?_) (fun _ _ h => .inl h)⟩
  · have := s.put (i := i) (x := some (.ol ds')) (sv := some (.ref a)) (R := [a]) (H' := upd H a (.lst vs')) hi (Same.refl _) (fun b o h => ?_) (fun j hj b hb => ?_) (fun j _ b hb => s.djI j b hb) (fun b hb => ?_) (fun j hj b hb h => ?_) (fun o e => ?_) (fun e => by cases e) (fun hp => ?_) (s.ktO ha)
    · rw [set_same e1] at this; exact this
    · rw [upd_ne (fun e => by subst e; rw [nI] at h; cases h)]; exact s.sub b o h
    · rw [upd_ne (ne j hj b hb)]
    · simp at hb; subst hb; exact nI
    · simp at h; exact ne j hj b hb h
    · cases e; exact ⟨_, rfl, a, vs', rfl, rfl, upd_same, r⟩
    · have := s.pin i hp; rw [e1] at this; exact Option.some.inj this
  · rw [upd_ne (fun e => by subst e; exact n ⟨i, ha⟩)]; exact h
  · rcases ow_up h with z | z
    · exact .inl z
    · simp at z; subst z; exact .inl ⟨i, ha⟩
/-- x.extend(e), e a new list -/
def fExt (i : Nat) (f : EF) : SF := fun env => match env[i]? with
  | some (some (.ol _)) => f env >>= fun r => match r.1 with
    | .ol ys => match r.2[i]? with
      | some (some (.ol xs)) => if xs.length + ys.length ≤ 1000000 then .ok (.nx, r.2.set i (some (.ol (xs ++ ys)))) else .no
      | _ => .no
    | _ => .no
  | _ => .no
/-- x.insert(k, e) -/
def insA (xs : List PyData) : Option (List PyData) → Option (List PyData)
  | some [.int k, d] => if xs.length < 1000000 ∧ 0 ≤ k ∧ k < 1000000 then some (xs.take k.toNat ++ [d] ++ xs.drop k.toNat) else none
  | _ => none
def fIns (i : Nat) (as : List AF) : SF := fun env => match env[i]? with
  | some (some (.ol _)) => evA as env >>= fun r => match r.2[i]? with
    | some (some (.ol xs)) => match insA xs (dvs r.1) with
      | some ys => .ok (.nx, r.2.set i (some (.ol ys)))
      | none => .no
    | _ => .no
  | _ => .no
/-- x.pop() -/
def fPop (i : Nat) : EF := fun env => match env[i]? with
  | some (some (.ol xs)) => match xs[xs.length - 1]? with
    | some d => .ok (.fr d, env.set i (some (.ol xs.dropLast)))
    | none => .no
  | _ => .no
theorem RpAll.dropLast {K : PySem.W.Frag} {I : Hp} : ∀ {vs : List V} {ds : List PyData}, RpAll K I vs ds → RpAll K I vs.dropLast ds.dropLast := fun {vs ds} h => by
  rw [List.dropLast_eq_take, List.dropLast_eq_take, h.length]; exact h.takes _
end
end Dy
namespace Dy
open PySem PySem.Spec PyProof.Rows L2
inductive Hold (K : PySem.W.Frag) (I H : Hp) : List O → List V → List (List Addr) → Prop
  | nil : Hold K I H [] [] []
  | cons {o : O} {v : V} {R : List Addr} {os : List O} {vs : List V} {Rs : List (List Addr)} : RepO K I H o v R → Hold K I H os vs Rs → Hold K I H (o :: os) (v :: vs) (R :: Rs)
theorem Hold.snoc {K : PySem.W.Frag} {I H : Hp} {os : List O} {vs : List V} {Rs : List (List Addr)} {o : O} {v : V} {R : List Addr} (h : Hold K I H os vs Rs) (r : RepO K I H o v R) : Hold K I H (os ++ [o]) (vs ++ [v]) (Rs ++ [R]) := by
  induction h with
  | nil => exact .cons r .nil
  | cons a _ ih => exact .cons a ih
theorem Hold.mono {K : PySem.W.Frag} {I H I' H' : Hp} {os : List O} {vs : List V} {Rs : List (List Addr)} (h : Hold K I H os vs Rs) (e : Same I I') (k : ∀ a ∈ Rs.flatten, H' a = H a) : Hold K I' H' os vs Rs := by
  induction h with
  | nil => exact .nil
  | cons r _ ih => exact .cons (r.mono e fun a ha => k a (by simp [ha])) (ih fun a ha => k a (by rw [List.flatten_cons]; exact List.mem_append_right _ ha))
theorem Hold.domN {K : PySem.W.Frag} {I H : Hp} {os : List O} {vs : List V} {Rs : List (List Addr)} (h : Hold K I H os vs Rs) : ∀ a ∈ Rs.flatten, ∃ o, H a = some o ∧ NT o := by
  induction h with
  | nil => intro a ha; cases ha
  | cons r _ ih =>
    intro a ha
    rw [List.flatten_cons] at ha
    rcases List.mem_append.mp ha with h | h
    · exact r.domN a h
    · exact ih a h
theorem Hold.dom {K : PySem.W.Frag} {I H : Hp} {os : List O} {vs : List V} {Rs : List (List Addr)} (h : Hold K I H os vs Rs) : ∀ a ∈ Rs.flatten, ∃ o, H a = some o := fun a ha => let ⟨o, e, _⟩ := h.domN a ha; ⟨o, e⟩
def setO : List Nat → List O → Env → Option Env
  | [], [], e => some e
  | i :: is, o :: os, e => if i < e.length then setO is os (e.set i (some o)) else none
  | _, _, _ => none
def setV : List Nat → List V → St → St
  | i :: is, v :: vs, σ => setV is vs (σ.set i (some v))
  | _, _, σ => σ
def evO : List EF → Env → Res (List O × Env)
  | [], e => .ok ([], e)
  | f :: fs, e => f e >>= fun r => evO fs r.2 >>= fun q => .ok (r.1 :: q.1, q.2)
def fParN (is : List Nat) (fs : List EF) : SF := fun env => evO fs env >>= fun r => match setO is r.1 r.2 with
  | some e => .ok (.nx, e)
  | none => .no
def tEach (g : G) : List EF → TA
  | [] => fun _ H Q => Q [] H
  | f :: fs => fun σ H Q => tD g f σ H fun v H1 => tEach g fs σ H1 fun vs H2 => Q (v :: vs) H2
section
variable {g : G} {X : Cx} {a b c e : Expr} {es : List Expr} {pos p1 p2 px : Pos} {σ : St} {H I : Hp} {env : Env} {F : Nat → List Addr} {D : Ends}
theorem hold_set : ∀ (is : List Nat) {os : List O} {vs : List V} {Rs : List (List Addr)} {σ : St} {env env' : Env} {F : Nat → List Addr} {I H : Hp}, (∀ i ∈ is, i ∉ g.pn.1) → Sim g.K g.pn I H σ env F → Hold g.K I H os vs Rs → (∀ a ∈ Rs.flatten, I a = none) → (∀ a, Ow F a → a ∉ Rs.flatten) → Rs.flatten.Nodup → setO is os env = some env' →
    ∃ F', Sim g.K g.pn I H (setV is vs σ) env' F' ∧ ∀ a, Ow F' a → Ow F a ∨ a ∈ Rs.flatten
  | [], _, _, _, σ, env, env', F, I, H, _, s, .nil, _, _, _, e => by cases e; exact ⟨F, s, fun _ z => .inl z⟩
  | [], _, _, _, _, _, _, _, _, _, _, _, .cons _ _, _, _, _, e => by cases e
  | _ :: _, _, _, _, _, _, _, _, _, _, _, _, .nil, _, _, _, e => by cases e
  | i :: is, _, _, _, σ, env, env', F, I, H, hp, s, .cons (o := o) (v := v) (R := R) (Rs := Rs) r t, nI, dF, nd, e => by
    unfold setO at e
    split at e
    · rename_i hi
      rw [List.flatten_cons] at nI dF nd
      obtain ⟨nd1, nd2, nd3⟩ := List.nodup_append.mp nd
      have s1 : Sim g.K g.pn I H (σ.set i (some v)) (env.set i (some o)) (upF F i R) := s.put hi (Same.refl _) s.sub (fun _ _ _ _ => rfl) (fun j _ a ha => s.djI j a ha) (fun a ha => nI a (List.mem_append_left _ ha)) (fun j _ a ha hr => dF a ⟨j, ha⟩ (List.mem_append_left _ hr)) (fun o' e' => by cases e'; exact ⟨v, rfl, r⟩) (fun e' => by cases e') (fun h => absurd h (hp i (by simp)))
      obtain ⟨F', s2, h2⟩ := hold_set is (fun j hj => hp j (by simp [hj])) s1 t (fun a ha => nI a (List.mem_append_right _ ha)) (fun a ha hr => by
        rcases ow_up ha with z | z
        · exact dF a z (List.mem_append_right _ hr)
        · exact nd3 a z a hr rfl) nd2 e
      refine ⟨F', s2, fun a ha => ?_⟩
      rw [List.flatten_cons]
      rcases h2 a ha with z | z
      · rcases ow_up z with y | y
        · exact .inl y
        · exact .inr (List.mem_append_left _ y)
      · exact .inr (List.mem_append_right _ z)
    · cases e
theorem RepO.nodup {K : PySem.W.Frag} {I H : Hp} {o : O} {v : V} {R : List Addr} (h : RepO K I H o v R) : R.Nodup := by
  cases o with
  | fr d => rw [h.1]; exact List.nodup_nil
  | ol ds => obtain ⟨a, vs, _, rfl, _⟩ := h; simp
  | oo rs => obtain ⟨a, as, _, rfl, nd, _⟩ := h; exact nd
  | od es => obtain ⟨a, _, rfl, _⟩ := h; simp
  | om es => obtain ⟨a, ts, bs, _, rfl, nd, _⟩ := h; exact nd
theorem hold_run {is : List Nat} (hp : ∀ i ∈ is, i ∉ g.pn.1) : ∀ (fs : List EF) {os : List O} {vs : List V} {Rs : List (List Addr)} {I1 H1 : Hp} {env1 : Env} {F1 : Nat → List Addr}, Sim g.K g.pn I1 H1 σ env1 F1 → Hold g.K I1 H1 os vs Rs → (∀ a ∈ Rs.flatten, I1 a = none) → (∀ a, Ow F1 a → a ∉ Rs.flatten) → Rs.flatten.Nodup →
    Step I H (Ow F) I1 H1 (fun a => Ow F1 a ∨ a ∈ Rs.flatten) →
    (evO fs env1 >>= fun r => match setO is (os ++ r.1) r.2 with | some e => Res.ok (Fl.nx, e) | none => .no).post (FlP g D I H F) (g.err I H F) →
    tEach g fs σ H1 fun ws H2 => ∀ H3, Same H2 H3 → D.nx (setV is (vs ++ ws) σ) H3
  | [], os, vs, Rs, I1, H1, env1, F1, s, hh, nI, dF, nd, st, p => by
    intro H3 sm
    rw [List.append_nil]
    have p : (match setO is (os ++ []) env1 with | some e => Res.ok (Fl.nx, e) | none => .no).post (FlP g D I H F) (g.err I H F) := p
    rw [List.append_nil] at p
    cases q : setO is os env1 with
    | none => rw [q] at p; exact p.elim
    | some e =>
      rw [q] at p
      have e3 : ∀ {a}, (∃ o, H1 a = some o) → H3 a = H1 a := fun {a} ⟨o, h⟩ => by rw [h, sm a o h]
      have s3 : Sim g.K g.pn I1 H3 σ env1 F1 := s.heap (Same.refl _) (s.sub.trans sm) (fun a ha => e3 (s.domO ha)) (fun a ⟨l, hl⟩ => s.djI l a hl) (fun a ps h => sm a _ h)
      obtain ⟨F', s4, h4⟩ := hold_set is hp s3 (hh.mono (Same.refl _) fun a ha => e3 (hh.dom a ha)) nI dF nd q
      refine p _ _ ⟨I1, F', s4, st.trans (Step.of4 (Same.refl _) (fun a o h _ => sm a o h) (fun a ha => .inl (h4 a ha)) (fun a o h => .inl h))⟩
  | f :: fs, os, vs, Rs, I1, H1, env1, F1, s, hh, nI, dF, nd, st, p => by
    have p : (f env1 >>= fun r1 => evO fs r1.2 >>= fun r => match setO is ((os ++ [r1.1]) ++ r.1) r.2 with | some e => Res.ok (Fl.nx, e) | none => .no).post (FlP g D I H F) (g.err I H F) := by
      rw [post_bind]
      unfold evO at p
      rw [post_bind, post_bind] at p
      refine post_mono p (fun r1 z => ?_) fun _ z => z
      rw [post_bind] at z ⊢
      refine post_mono z (fun r2 z => ?_) fun _ z => z
      rw [List.append_assoc]; exact z
    refine ⟨I1, env1, F1, s, post_mono (post_bind.mp p) (fun r q v H2 af => ?_) fun x z => err_step (st.less fun a ha => .inl ha) z⟩
    obtain ⟨I2, F2, R, rp, s2, n2, d2, st2⟩ := af
    obtain ⟨k1, k2, k3⟩ := st2.set hh.domN (fun a ha hz => dF a hz ha) nI
    have fl : (Rs ++ [R]).flatten = Rs.flatten ++ R := by simp
    have := hold_run hp fs (os := os ++ [r.1]) (vs := vs ++ [v]) (Rs := Rs ++ [R]) s2 ((hh.mono st2.i1 k1).snoc rp) (fun a ha => by
        rw [fl] at ha
        rcases List.mem_append.mp ha with z | z
        · exact k3 a z
        · exact n2 a z) (fun a ha hr => by
        rw [fl] at hr
        rcases List.mem_append.mp hr with z | z
        · exact k2 a z (.inl ha)
        · exact d2 a ha z) (by
        rw [fl, List.nodup_append]
        exact ⟨nd, rp.nodup, fun x hx y hy z => by subst z; exact k2 x hx (.inr hy)⟩) (by
        refine (st.trans (st2.aside (fun a => a ∈ Rs.flatten) hh.dom fun a ha hz => dF a hz ha)).less fun a ha => ?_
        rw [fl] at ha
        rcases ha with z | z
        · exact .inl (.inl z)
        · rcases List.mem_append.mp z with y | y
          · exact .inr y
          · exact .inl (.inr y)) q
    have ec : ∀ ws : List V, (vs ++ [v]) ++ ws = vs ++ v :: ws := fun ws => by simp
    simp only [ec] at this
    exact this
theorem parN_key {is : List Nat} {fs : List EF} (hp : ∀ i ∈ is, i ∉ g.pn.1) (h : tS g (fParN is fs) D σ H) : tEach g fs σ H fun ws H2 => ∀ H3, Same H2 H3 → D.nx (setV is ws σ) H3 := by
  obtain ⟨I, env, F, s, p⟩ := h
  exact hold_run hp fs (os := []) (vs := []) (Rs := []) s .nil (fun a ha => nomatch ha) (fun a _ ha => nomatch ha) List.nodup_nil (Step.refl.less fun a h => h.elim id fun z => nomatch z) p
theorem tEach_mono : ∀ {fs : List EF} {σ : St} {H : Hp} {Q Q' : List V → Hp → Prop}, tEach g fs σ H Q → (∀ vs H', vs.length = fs.length → Q vs H' → Q' vs H') → tEach g fs σ H Q'
  | [], _, _, _, _, h, i => i _ _ rfl h
  | _ :: _, _, _, _, _, h, i => tArg_mono (x := .v _) h fun _ _ q => tEach_mono q fun _ _ l q => i _ _ (by simp [l]) q
theorem nx_parN {is : List Nat} {fs : List EF} : ∀ env r, fParN is fs env = .ok r → r.1 = .nx := fun env r h => by
  unfold fParN at h
  cases q : evO fs env with
  | no => rw [q] at h; cases h
  | er x => rw [q] at h; cases h
  | ok y =>
    rw [q, bind_ok] at h
    split at h
    · cases h; rfl
    · cases h
theorem ds_par3 {i j l : Nat} {x y z : Str} {f1 f2 f3 : EF} {px py pz pt : Pos} {kt k2 pt2} (hp : ∀ n ∈ [i, j, l], n ∉ g.pn.1) (hc : X.calm = true) (hN : X.N.Nodup) (hi : X.N[i]? = some x) (hj : X.N[j]? = some y) (hl : X.N[l]? = some z) (hij : i ≠ j) (hil : i ≠ l) (hjl : j ≠ l)
    (hx : X.env.scope.names.lookup x = some .local) (hy : X.env.scope.names.lookup y = some .local) (hz : X.env.scope.names.lookup z = some .local) (ha : DE g X a f1) (hb : DE g X b f2) (hc' : DE g X c f3)
    (hw : swappedStores [.Tuple [.Name x px, .Name y py, .Name z pz] kt pt] (.Tuple [a, b, c] k2 pt2) X.env = pure (some [x, y, z]) := by rfl)
    (h1 : starEach [a, b, c] X.env = (false, eval a X.env) :: starEach [b, c] X.env := by rfl) (h2 : starEach [b, c] X.env = (false, eval b X.env) :: starEach [c] X.env := by rfl) (h3 : starEach [c] X.env = (false, eval c X.env) :: starEach [] X.env := by rfl)
    (hs : swapsWithSole [.Tuple [.Name x px, .Name y py, .Name z pz] kt pt] (.Tuple [a, b, c] k2 pt2) pos.line X.env = pure false := by rfl) :
    DS g X (.Assign [.Tuple [.Name x px, .Name y py, .Name z pz] kt pt] (.Tuple [a, b, c] k2 pt2) pos) (fParN [i, j, l] [f1, f2, f3]) := PS.imp (ps_par3 hc hN hi hj hl hij hil hjl hx hy hz (pa_cons ha (pa_cons hb (pa_cons hc' pa_nil h3) h2) h1) hw hs) fun D σ H h => by
  have := tEach_mono (Q' := fun vs H1 => ∃ u v w, vs = [u, v, w] ∧ D.nx (((σ.set i (some u)).set j (some v)).set l (some w)) H1) (parN_key hp h) fun vs H' hl q => by
    match vs, hl with
    | [u, v, w], _ => exact ⟨u, v, w, rfl, q H' (Same.refl _)⟩
  exact this
/-- the names' tuple is a target (cells among them, or more of them) -/
theorem ds_parNC {is : List Nat} {tg : Expr} {fs : List EF} {k2 pt2} {ps : List Expr} (hp : ∀ n ∈ is, n ∉ g.pn.1) (hl : is.length = fs.length) (hz : is.length ≤ 100) (hg : PG X tg (rdT g.K (.tu is))) (ha : PA X ps (tEach g fs))
    (hs : swapsWithSole [tg] (.Tuple ps k2 pt2) pos.line X.env = pure false := by rfl) (hw : swappedStores [tg] (.Tuple ps k2 pt2) X.env = pure none := by rfl)
    (h3 : (assignEach [tg] X.env).map (·.2) = [assign tg X.env] := by rfl) :
    DS g X (.Assign [tg] (.Tuple ps k2 pt2) pos) (fParN is fs) := PS.imp (ps_asg (pe_tup ha) hg hs hw h3) fun D σ H h => by
  have key : ∀ (is : List Nat) (vs : List V) (σ : St) (H : Hp) (Q : St → Hp → Prop), vs.length = is.length → Q (setV is vs σ) H → gNames is vs σ H Q := by
    intro is
    induction is with
    | nil => intro vs σ H Q hl q; cases vs with
      | nil => exact ⟨rfl, q⟩
      | cons _ _ => cases hl
    | cons i is ih => intro vs σ H Q hl q; cases vs with
      | nil => cases hl
      | cons v vs => exact ⟨v, vs, rfl, ih vs _ H Q (by simpa using hl) q⟩
  have := tEach_mono (Q' := fun vs H1 => vs.length ≤ sizeLine ∧ ∀ p, H1 p = none → rdT g.K (.tu is) (.ref p) σ (upd H1 p (.tup vs)) D.nx) (parN_key hp h) fun vs H' hv q => by
    refine ⟨by rw [hv, ← hl]; exact Nat.le_trans hz (by decide), fun p np => ?_⟩
    exact ⟨_, _, rfl, SqT.of upd_same, by rw [hv, ← hl], key is vs σ _ _ (by rw [hv, ← hl]) (q _ (same_new np))⟩
  exact this
end
end Dy
namespace Dy
open PySem PySem.Spec PyProof.Rows L2
section
variable {K : PySem.W.Frag} {I H : Hp} {X : Cx}
theorem rps_tup {v : V} {ds : List PyData} (h : RpS K I H v (.tuple ds)) : Rp K I v (.tuple ds) := by
  rcases h with h | ⟨a, vs, ds, rfl, e, h1, h2⟩ | ⟨_, _, _, e, _⟩
  · exact h
  · cases e
  · cases e
def pDivW : PyData → PyData → Option O
  | .int i, .int j => if 0 < j ∧ j < 1000000000000000000000000000000 then some (.fr (.int (i / j))) else none
  | _, _ => none
theorem os_divW : OpS K (two (rI CDivW fun i j => .int (i / j))) (on2 pDivW) := ops2 fun v u d e I H Q o s r1 r2 q k => by
  unfold pDivW at q
  split at q
  · split at q
    · rename_i hc
      cases q
      rw [r1.int, r2.int]
      refine ⟨_, _, rfl, rfl, ⟨hc.1, ?_⟩, k _ _ _ _ (Grow.val s (.int _))⟩
      exact Nat.lt_of_lt_of_le (PySem.Flt.log2_lt_of (k := 100) (by decide) (by omega)) (by decide)
    · cases q
  · cases q
def fWb (vs : List Nat) (f : SF) : SF := fun env => f (wipeE env vs)
theorem a_wb (vs : List Nat) (f : SF) (env : Dy.Env) : fWb vs f env = f (wipeE env vs) := rfl
theorem q_divW (i j : Int) : pDivW (.int i) (.int j) = if 0 < j ∧ j < 1000000000000000000000000000000 then some (.fr (.int (i / j))) else none := rfl
end
end Dy
namespace Dy
open PySem PySem.Spec PyProof.Rows L2
theorem tuple_mul1 (l : Addr) (items : Array Value) (n : Nat) (dd : Option Addr) (sl : Array (Option Value)) (u : Tok) :
    Meets (Builtin.«tuple.__mul__» ⟨[.ref l, .int 1 u], []⟩) (fun _ R s => s.heap.get? l = some { cls := .type "tuple", dict := dd, data := .seq items n, slots := sl } ∧
      R (.ok (.ret (Value.ref l))) s) :=
  .of_wp fun prog w A R s h => by
    obtain ⟨hp, g, d, tk, os⟩ := s
    obtain ⟨hl, h⟩ := h
    have f1 := AutoSeq1.idx_int
    have c1 : (items.isEmpty || (1 : Int) == 1) = true := by simp
    wp_walk using wpAny_loadPart' hl
    exact ⟨_, rfl, h⟩
theorem tuple_mul0 (l : Addr) (items : Array Value) (n : Nat) (dd : Option Addr) (sl : Array (Option Value)) (x : Int) (u : Tok) (c0 : (decide (x < -(2 ^ 63)) || decide (x ≥ 2 ^ 63)) = false) (c1 : (items.isEmpty || x == 1) = false) (c2 : (decide (x ≤ 0) || items.isEmpty) = true) :
    Meets (Builtin.«tuple.__mul__» ⟨[.ref l, .int x u], []⟩) (fun _ R s => s.heap.get? l = some { cls := .type "tuple", dict := dd, data := .seq items n, slots := sl } ∧
      R (.ok (.ret (Value.ref s.heap.objs.size))) { s with heap := s.heap.push { cls := Value.type "tuple", data := Data.seq #[] }, toks := s.toks }) :=
  .of_wp fun prog w A R s h => by
    obtain ⟨hp, g, d, tk, os⟩ := s
    obtain ⟨hl, h⟩ := h
    have f1 := AutoSeq1.idx_int
    wp_walk using wpAny_loadPart' hl
    repeat (first
      | (refine wpAny_ite_false (decide_eq_false (by rw [c0]; exact Bool.false_ne_true)) ?_; wp_walk using wpAny_loadPart' hl)
      | (refine wpAny_ite_false (decide_eq_false (by rw [c1]; exact Bool.false_ne_true)) ?_; wp_walk using wpAny_loadPart' hl)
      | (refine wpAny_ite_true (decide_eq_true (by rw [c2])) ?_; wp_walk using wpAny_loadPart' hl))
    exact ⟨_, rfl, h⟩
def rRepT1 (K : PySem.W.Frag) : R2 := fun x y H Q => ∃ l k xs, x = .ref l ∧ y = .int k ∧ SqT K H l xs ∧ xs ≠ [] ∧ -1000 ≤ k ∧ ((k = 1 ∧ Q (.ref l) H) ∨ (k ≤ 0 ∧ NewT H [] Q))
theorem op_repT1 {X : Cx} : OpR X (binaryOp .Mult) (rRepT1 X.K) := by
  intro pins s σ H x y v u Q I rx ry h
  obtain ⟨l, k, xs, rfl, rfl, hT, hne, h1, q⟩ := h
  cases rx
  obtain ⟨t, rfl⟩ := ry
  obtain ⟨its, r, ⟨⟨cls, dd, data, sl⟩, ho, hc, n, hd⟩, hs⟩ := I.tuple hT
  simp only at hc hd
  subst hc hd
  have hle : its.length = xs.length := r.length.symm
  have hn : its ≠ [] := fun e => hne (by
    rw [e] at hle
    exact List.eq_nil_of_length_eq_zero hle.symm)
  have hi : its.toArray.isEmpty = false := by
    cases its with
    | nil => exact absurd rfl hn
    | cons a b => rfl
  rcases q with ⟨rfl, q⟩ | ⟨h0, q⟩
  · refine wpAny_binaryOp_repeat_ref (T := "tuple") (U := "int") (by decide) ⟨_, ho, rfl⟩ (fun s' => typeIs_int s' 1 t) noFill_tuple_mul F.fills_int_mul F.slot_int_rmul repeat_tuple F.slot_int_index.lookup
      (call_meets F.slot_int_rmul (typeIs_int s 1 t) F.entry_int_rmul (F.args_int_rmul_2 _ _) (int_rmul_tuple 1 t l its.toArray n dd sl)
        ⟨ho, rfl, ⟨_, ho, rfl⟩, call_meets F.slot_tuple_mul ⟨_, ho, rfl⟩ F.entry_tuple_mul (F.args_tuple_mul_2 _ _) (tuple_mul1 l its.toArray n dd sl t) ⟨ho, ?_⟩⟩)
    exact ⟨.ref l, H, I, rfl, q⟩
  · have c0 : (decide (k < -(2 ^ 63)) || decide (k ≥ 2 ^ 63)) = false := by
      rw [decide_eq_false (by omega), decide_eq_false (by omega)] <;> rfl
    have c1 : (its.toArray.isEmpty || k == 1) = false := by
      rw [hi, Bool.false_or]
      exact beq_eq_false_iff_ne.mpr (by omega)
    have c2 : (decide (k ≤ 0) || its.toArray.isEmpty) = true := by
      rw [decide_eq_true h0]; rfl
    refine wpAny_binaryOp_repeat_ref (T := "tuple") (U := "int") (by decide) ⟨_, ho, rfl⟩ (fun s' => typeIs_int s' k t) noFill_tuple_mul F.fills_int_mul F.slot_int_rmul repeat_tuple F.slot_int_index.lookup
      (call_meets F.slot_int_rmul (typeIs_int s k t) F.entry_int_rmul (F.args_int_rmul_2 _ _) (int_rmul_tuple k t l its.toArray n dd sl)
        ⟨ho, rfl, ⟨_, ho, rfl⟩, call_meets F.slot_tuple_mul ⟨_, ho, rfl⟩ F.entry_tuple_mul (F.args_tuple_mul_2 _ _) (tuple_mul0 l its.toArray n dd sl k t c0 c1 c2) ⟨ho, ?_⟩⟩)
    exact ep_newT I (Nat.zero_le _) .nil q
def pMulA : PyData → PyData → Option O
  | .tuple xs, .int k => if xs.length ≤ 1000 ∧ -1000 ≤ k ∧ k ≤ 1000 ∧ xs ≠ [] then some (.fr (.tuple (List.replicate k.toNat xs).flatten)) else none
  | d, e => pMul d e
def rMulB (K : PySem.W.Frag) : R2 := fun x y H Q => rMulA K x y H Q ∨ rRepT1 K x y H Q
theorem op_mulB {X : Cx} : OpR X (binaryOp .Mult) (rMulB X.K) := op_mulA.or op_repT1
theorem os_mulB {K : PySem.W.Frag} : OpS K (two (rMulB K)) (on2 pMulA) := ops2 fun v u d e I H Q o s r1 r2 q k => by
  unfold pMulA at q
  split at q
  · rename_i xs n
    split at q
    · rename_i hc
      cases q
      by_cases h2 : 2 ≤ n
      · refine .inl (os_mul [v, u] [_, _] I H Q _ s (.cons r1 (.cons r2 .nil)) ?_ k)
        show (if _ then _ else _) = _
        rw [if_pos ⟨hc.1, h2, hc.2.2.1, hc.2.2.2⟩]
      · have hu := r2.int
        subst hu
        cases rps_tup r1 with
        | tup h1 ra =>
          rename_i a vs
          refine .inr ⟨a, n, vs, rfl, rfl, same_t s h1.sq, fun z => ?_, hc.2.1, ?_⟩
          · subst z; have := ra.length; exact hc.2.2.2 (List.length_eq_zero_iff.mp this.symm)
          · by_cases h1' : n = 1
            · left
              subst h1'
              refine ⟨rfl, k _ _ I [] ?_⟩
              have : (List.replicate (1 : Int).toNat xs).flatten = xs := by simp
              rw [this]
              exact Grow.val s (.tup h1 ra)
            · right
              have : (List.replicate n.toNat xs).flatten = [] := by
                have : n.toNat = 0 := by omega
                rw [this]; rfl
              refine ⟨by omega, fun p _ pl np => ?_⟩
              rw [this] at k
              exact k _ _ _ _ (Grow.tup s pl np .nil)
    · cases q
  · exact .inl (os_mul [v, u] [_, _] I H Q o s (.cons r1 (.cons r2 .nil)) q k)
theorem q_mulAI (i j : Int) : pMulA (.int i) (.int j) = pMul (.int i) (.int j) := rfl
theorem q_mulAL (xs : List PyData) (j : Int) : pMulA (.list xs) (.int j) = pMul (.list xs) (.int j) := rfl
end Dy
namespace Dy
open PySem PySem.Spec PyProof.Rows L2
/-- what stands for a dict -/
def DiOb (K : PySem.W.Frag) (I : Hp) (ob : HO) (a : Addr) (es : List (PyData × PyData)) : Prop := (∃ kvs, ob = .dK kvs ∧ RpKv K I kvs es) ∨ ∃ ts, ob = dN a ts ∧ RpKt K I ts es
theorem DiOb.at {K : PySem.W.Frag} {I H : Hp} {ob : HO} {a : Addr} {es : List (PyData × PyData)} (h : DiOb K I ob a es) (e : H a = some ob) : DiO K I H a es := by
  rcases h with ⟨kvs, rfl, h⟩ | ⟨ts, rfl, h⟩
  · exact .inl ⟨kvs, e, h⟩
  · exact .inr ⟨ts, e, h⟩
section
variable {X : Cx} {pins : List (Addr × Obj)} {σ : St} {I H : Hp} {s : Shared} {a : Addr} {es : List (PyData × PyData)} {k d : PyData} {y v : V} {u r : Value} {A : Around} {E : Value → Shared → Prop}
end
section
variable {X : Cx}
variable {o e : Expr} {es : List Expr} {to : TE} {t : TA} {name : Str} {apos cpos : Pos} {id : String} {r : V → List V → Hp → VK → Prop}
end
section
variable {g : G} {X : Cx} {a b c e : Expr} {es : List Expr} {pos p1 p2 px : Pos} {σ : St} {H I : Hp} {env : Env} {F : Nat → List Addr} {D : Ends} {st : Stmt} {sts : List Stmt}
def fNewD : EF := fun env => .ok (.od [], env)
theorem de_dnew : DE g X (.Dict [] [] pos) fNewD := PE.imp pe_dnewK fun σ H Q q => by
  obtain ⟨I, env, F, s, p⟩ := q
  intro x hx
  refine p _ _ (Grow.aft (I' := I) (R := [x]) ⟨⟨x, rfl, rfl, .inl ⟨[], upd_same, .nil⟩⟩, Same.refl _, same_new hx, s.sub.trans (same_new hx), fun a h => by simp at h; subst h; exact hx, fun a h => by simp at h; subst h; exact none_of_same s.sub hx, fun _ _ h => .inl h⟩ s)
end
theorem a_newD (env : Env) : fNewD env = .ok (.od [], env) := rfl
end Dy
namespace Dy
open PySem PySem.Spec PyProof.Rows L2 HT
section
variable {prog : Program} {w : World} {A : Around} {E : Value → Shared → Prop} {s : Shared}
end
section
variable {X : Cx}
end
section
variable {g : G} {X : Cx} {a b c e : Expr} {es : List Expr} {pos p1 p2 p3 : Pos} {σ : St} {H I : Hp} {env : Env} {F : Nat → List Addr} {D : Ends}
end
end Dy
namespace Dy
open PySem PySem.Spec PyProof.Rows L2
section
variable {g : G} {X : Cx} {e : Expr} {pos : Pos} {σ : St}
end
end Dy
namespace Dy
open PySem PySem.Spec PyProof.Rows L2
def isKy : PyData → Bool
  | .int _ => true
  | .str _ => true
  | _ => false
mutual
def ndd : PyData → Bool
  | .none => true
  | .bool _ => true
  | .int _ => true
  | .str _ => true
  | .tuple xs => ndds xs
  | .list _ => false
  | .dict es => nddKv es
def ndds : List PyData → Bool
  | [] => true
  | d :: ds => ndd d && ndds ds
def nddKv : List (PyData × PyData) → Bool
  | [] => true
  | (k, d) :: es => (isKy k && ndd d) && nddKv es
end
section
variable {X : Cx} {pins : List (Addr × Obj)} {σ : St} {I H : Hp} {s : Shared}
theorem key_reads {P : Program} {w : World} {k : Key} {u : Value} {h : Heap} (e : (mixKind P w).is k u = true) : Reads h u (kD k) [] := by
  rcases keyIs_shape (show keyIs k u = true from e) with ⟨i, t, rfl, rfl⟩ | ⟨x, t, rfl, rfl⟩
  · exact Reads.int i t
  · exact Reads.str x t
mutual
theorem Rp.readsD (J : Inv X pins σ H s) (sm : Same I H) : ∀ {v : V} {d : PyData}, Rp X.K I v d → ndd d = true → ∀ u : Value, RelV v u → ∃ as, Reads s.heap u d as ∧ sysModules ∉ as
  | _, _, .non, _, u, r => by cases r; exact ⟨_, Reads.none, by simp⟩
  | _, _, .bl b, _, u, r => by cases r; exact ⟨_, Reads.bool b, by simp⟩
  | _, _, .int i, _, u, r => by obtain ⟨t, rfl⟩ := r; exact ⟨_, Reads.int i t, by simp⟩
  | _, _, .str x, _, u, r => by obtain ⟨t, rfl⟩ := r; exact ⟨_, Reads.str x t, by simp⟩
  | _, _, .lst h a, c, u, r => by simp [ndd] at c
  | _, _, .tup h a, c, u, r => by
    cases r
    obtain ⟨its, rv, ⟨o, ho, hc, n, hd⟩, _⟩ := J.tuple (same_t sm h.sq)
    obtain ⟨as, hr, hn⟩ := RpAll.readsD J sm a (by simpa [ndd] using c) its rv
    exact ⟨_, Reads.tuple ho hc hd hr, hn⟩
  | _, _, .dic h a, c, u, r => by
    cases r
    obtain ⟨z, hd, vs, rel, o, es, ep, ho, hc, hdt, _, pr, _⟩ := dk_rd J.hok (same_rd sm h)
    obtain ⟨as, bs, r1, r2, n1, n2⟩ := RpKv.readsD J sm a (by simpa [ndd] using c) vs es.toList rel pr
    refine ⟨_, Reads.dict ho hc.1 hdt r1 r2, ?_⟩
    have n0 := beq_eq_false_iff_ne.mp hd
    simp only [List.cons_append, List.mem_cons, List.mem_append, not_or]
    exact ⟨fun e => n0 e.symm, n1, n2⟩
  | _, _, .dit (ts := ts) h a, c, u, r => by
    cases r
    have e := rd_obj J.hok (same_rd sm h)
    obtain ⟨⟨hd, _, ys, pr, o, es, ep, ho, hc, hdt, hes, _⟩, _⟩ := e
    cases a with
    | nil =>
      cases pr
      have he : es.toList = [] := hes X.w
      refine ⟨_, Reads.dict ho hc.1 hdt (by rw [he]; exact ReadsAll.nil) (by rw [he]; exact ReadsAll.nil), ?_⟩
      have n0 := beq_eq_false_iff_ne.mp hd
      simp only [List.cons_append, List.mem_cons, List.mem_append, not_or]
      exact ⟨fun e => n0 e.symm, by simp, by simp⟩
    | cons h1 h2 h3 h4 t =>
      cases pr with
      | cons p1 p2 =>
        have e := p1.2.1
        simp only at e
        subst e
        simp only [ndd, nddKv, Bool.and_eq_true] at c
        exfalso
        cases h3 <;> simp [isKy] at c
theorem RpAll.readsD (J : Inv X pins σ H s) (sm : Same I H) : ∀ {vs : List V} {ds : List PyData}, RpAll X.K I vs ds → ndds ds = true → ∀ us : List Value, Vals vs us → ∃ as, ReadsAll s.heap us ds as ∧ sysModules ∉ as
  | _, _, .nil, _, us, r => by cases r; exact ⟨_, ReadsAll.nil, by simp⟩
  | _, _, .cons h t, c, us, r => by
    simp only [ndds, Bool.and_eq_true] at c
    cases r with
    | cons r1 r2 =>
      obtain ⟨as, q1, n1⟩ := Rp.readsD J sm h c.1 _ r1
      obtain ⟨bs, q2, n2⟩ := RpAll.readsD J sm t c.2 _ r2
      exact ⟨_, ReadsAll.cons q1 q2, by simp [n1, n2]⟩
theorem RpKv.readsD (J : Inv X pins σ H s) (sm : Same I H) : ∀ {kvs : List (Key × V)} {es : List (PyData × PyData)}, RpKv X.K I kvs es → nddKv es = true → ∀ (vs : List (Key × Value)) (ds : List DictEntry), KV kvs vs → Pairs (mixKind X.prog X.w) ds vs →
    ∃ as bs, ReadsAll s.heap (ds.map (·.key)) (es.map (·.1)) as ∧ ReadsAll s.heap (ds.map (·.val)) (es.map (·.2)) bs ∧ sysModules ∉ as ∧ sysModules ∉ bs
  | _, _, .nil, _, vs, ds, r, pr => by
    cases r
    cases pr
    exact ⟨_, _, ReadsAll.nil, ReadsAll.nil, by simp, by simp⟩
  | _, _, .cons h t, c, vs, ds, r, pr => by
    simp only [nddKv, Bool.and_eq_true] at c
    cases r with
    | cons r1 r2 =>
      cases pr with
      | cons p1 p2 p3 =>
        obtain ⟨as, q1, n1⟩ := Rp.readsD J sm h c.1.2 _ r1.2
        obtain ⟨ks, bs, q2, q3, n2, n3⟩ := RpKv.readsD J sm t c.2 _ _ r2 p3
        have e1 := r1.1
        simp only at e1
        rw [← e1] at p1
        rw [← p2] at q1
        exact ⟨[] ++ ks, as ++ bs, ReadsAll.cons (key_reads p1) q2, ReadsAll.cons q1 q3, by simpa using n2, by simp [n1, n3]⟩
end
end
def rOkD (d : PyData) : Bool := ndd d && (d.showable && decide (d.depth ≤ 64 ∧ d.shown.length ≤ 16777216))
def pReprD (d : PyData) : Option O := if rOk d = true then some (.fr (.str d.shown)) else if rOkD d = true then some (.fr (.str d.shown)) else none
section
variable {X : Cx}
def rReprD (K : PySem.W.Frag) : List V → Hp → VK → Prop := fun xs H Q => rRepr K xs H Q ∨ ∃ x d I, xs = [x] ∧ Same I H ∧ Rp K I x d ∧ ndd d = true ∧ d.showable = true ∧ d.depth ≤ 64 ∧ d.shown.length ≤ sizeLine ∧ Q (.str d.shown) H
theorem cr_reprD {k : Nat} (hg : X.A.guards = some []) (hr : Room k X.A) : CallR X (.builtin "repr") (rReprD X.K) := by
  intro pins s σ H xs us Q J r h
  rcases h with h | ⟨x, d, I, rfl, sm, hd, hn, h1, h3, h4, q⟩
  · exact cr_repr hg hr pins s σ H xs us Q J r h
  obtain ⟨u, rfl, ru⟩ := vals1 r
  obtain ⟨as, rd, ns⟩ := Rp.readsD J sm hd hn u ru
  have hu := hr.un
  cases rd with
  | none => exact PySem.P.repr_of_none ⟨.str _, H, J.tok _, ⟨_, rfl⟩, q⟩
  | bool b => cases b <;> exact PySem.P.repr_of_bool ⟨.str _, H, J.tok _, ⟨_, rfl⟩, q⟩
  | int i t => exact PySem.P.repr_of_int (by simpa [PyData.showable] using h1) ⟨.str _, H, J.tok _, ⟨_, rfl⟩, q⟩
  | str y t => exact PySem.P.repr_of_str ⟨.str _, H, J.tok _, ⟨_, rfl⟩, q⟩ h4
  | list e1 e2 e3 e4 =>
    exact repr_of_reads' (.list e1 e2 e3 e4) h1 (fun _ => ns) hg (by omega) (fun _ _ z => z) (fun h' u tk k => ⟨.str _, H, J.kept (t' := tk) fun b ob q => k b ob q, ⟨_, rfl⟩, q⟩) h4
  | tuple e1 e2 e3 e4 =>
    exact repr_of_reads' (.tuple e1 e2 e3 e4) h1 (fun _ => ns) hg (by omega) (fun _ _ z => z) (fun h' u tk k => ⟨.str _, H, J.kept (t' := tk) fun b ob q => k b ob q, ⟨_, rfl⟩, q⟩) h4
  | dict e1 e2 e3 e4 e5 =>
    exact repr_of_reads' (.dict e1 e2 e3 e4 e5) h1 (fun _ => ns) hg (by omega) (fun _ _ z => z) (fun h' u tk k => ⟨.str _, H, J.kept (t' := tk) fun b ob q => k b ob q, ⟨_, rfl⟩, q⟩) h4
end
/-- for a dict of its own: what is frozen with it -/
theorem rps_rpD {K : PySem.W.Frag} {I H : Hp} {v : V} {d : PyData} (sm : Same I H) (h : RpS K I H v d) (n : ndd d = true) : ∃ I', Same I' H ∧ Rp K I' v d := by
  rcases h with h | ⟨a, vs, ds, rfl, rfl, h1, h2⟩ | ⟨a, es, rfl, rfl, h1⟩
  · exact ⟨I, sm, h⟩
  · simp [ndd] at n
  · have sm' : Same I (frz I H [a]) := fun b o e => by
      unfold frz
      split
      · rename_i hb
        exact sm _ _ e
      · exact e
    have ea : frz I H [a] a = H a := by unfold frz; rw [if_pos (by simp)]
    refine ⟨frz I H [a], frz_sub sm, ?_⟩
    rcases h1 with ⟨kvs, e, r⟩ | ⟨ts, e, r⟩
    · exact .dic (.inl (ea.trans e)) (r.mono sm')
    · exact .dit (.inl (ea.trans e)) (r.mono sm')
theorem os_reprD {K : PySem.W.Frag} : OpS K (rReprD K) (on1 pReprD) := ops1c fun v d I H Q o s r1 q k => by
  unfold pReprD at q
  split at q
  · rename_i hc
    refine .inl (os_repr [v] [d] I H Q o s (.cons r1 .nil) ?_ k)
    show pRepr d = some o
    unfold pRepr; rw [if_pos hc]; exact q
  · split at q
    · rename_i hc
      cases q
      unfold rOkD at hc
      simp only [Bool.and_eq_true, decide_eq_true_eq] at hc
      obtain ⟨c1, c2, c3, c4⟩ := hc
      obtain ⟨I', sm', rp⟩ := rps_rpD s r1 c1
      exact .inr ⟨v, d, I', rfl, sm', rp, c1, c2, c3, Nat.le_trans c4 (by decide), k _ _ _ _ (Grow.val s (.str _))⟩
    · cases q
section
variable {g : G} {X : Cx} {a b c e : Expr} {es : List Expr} {pos p1 p2 px : Pos} {σ : St} {H I : Hp} {env : Env} {F : Nat → List Addr} {D : Ends} {st : Stmt} {sts : List Stmt}
end
section
variable {X : Cx} {K : PySem.W.Frag}
end
end Dy
namespace Dy
open PySem PySem.Spec PyProof.Rows L2
/-- what is known of the class x, at C -/
structure ExcOk (K : PySem.W.Frag) (mg : Str → Option Value) (x : Str) (C : Addr) : Prop where
  g : mg x = some (.ref C)
  q : PySem.W.excIn K C He.veBase "ValueError.__new__" = true
  k : PySem.W.keepIn K (.ref C) = true
  b : PySem.W.subIn K (.ref C) (.type "BaseException") = some true
  t : PySem.W.typeIn K (.ref C) = some (.type "type")
section
variable {g : G} {X : Cx} {a b c e : Expr} {es : List Expr} {pos p1 p2 p3 px : Pos} {σ : St} {H I : Hp} {env : Env} {F : Nat → List Addr} {D : Ends} {st : Stmt} {sts : List Stmt}
def fRaise (x : Str) : SF := fun _ => .er ⟨x, []⟩
theorem ds_raise {x m : Str} {C : Addr} {j : Nat} (hc : X.calm = true) (tk : Takes X (fun cls d _ H => g.E cls d H)) (T : ExcOk X.K X.mg x C) (hg : Gl X x) (hM : g.mg = X.mg := by rfl) (hdb : (x == ("__debug__" : Str)) = false := by decide) :
    DS g X (.Raise (some (.Call (.Name x p1) [.Constant (.str m) j p2] [] p3)) none pos) (fRaise x) :=
  PS.imp (ps_raise hc tk (pmk_own PySem.F.excBase_ValueError T.q T.g T.k (raises_own T.b T.t) hg hdb)) fun D σ H h => by
    obtain ⟨I, env, F, s, p⟩ := h
    exact p H (.ref C) none (Err.of Step.refl s.sub s.tab) ⟨C, by rw [hM]; exact T.g, rfl, fun _ => rfl, fun p q h => by cases h⟩
theorem takes_len {W : WX} (tk : Takes X W) : Takes X (fun c d σ H => σ.length = X.N.length → W c d σ H) := fun u s' x => by
  obtain ⟨a, B, sI, pins, σ, H, cls, d, e, J, nb, up, sky, na, os, ag, w⟩ := x
  exact tk u s' ⟨a, B, sI, pins, σ, H, cls, d, e, J, nb, up, sky, na, os, ag, w J.len⟩
/-- the wish about exceptions in a try's body -/
def wTry (n : Nat) (W : WX) : XK := fun c d H => ∀ σ : St, σ.length = n → W c d σ H
structure TryX (K : PySem.W.Frag) (mg : Str → Option Value) (PE : Addr) (x : Str) (C : Addr) : Prop where
  g : mg x = some (.ref C)
  m : PySem.W.exmOne K (.ref C) (.ref PE) = some true
theorem sim_err {K : PySem.W.Frag} {T : List (Addr × Str)} {a : Addr} {i n : Nat} {H' : Hp} {σ' : St} (sub : Same I H') (tb : TabI T I H') (hl : σ'.length = n) (hi : i < n) : Sim K ([i], (fun _ => .ref a), T) I H' (σ'.set i (some (.ref a))) (List.replicate n none) (fun _ => []) := by
  refine ⟨by simp [hl], fun j o q => ?_, fun _ _ => rfl, fun _ _ _ h => (nomatch h), fun _ _ h => (nomatch h), sub, fun j hj => ?_, tb⟩
  · rw [List.getElem?_replicate] at q
    split at q <;> cases q
  · simp at hj; subst hj
    rw [List.getElem?_set_self (by omega)]
end
theorem a_raise (x : Str) (env : Env) : fRaise x env = .er ⟨x, []⟩ := rfl
end Dy
namespace Dy
open PySem PySem.Spec PyProof.Rows L2
open LamX (CodeO TabB LamS lamEnv lamCx)
abbrev lamQ (X : Cx) : Str := X.env.qual ++ "<lambda>"
theorem lam_nf (x : Str) : isFld (x ++ "<lambda>") = false := by
  unfold isFld
  have h : (x ++ ("<lambda>" : Str)).cps.size = x.cps.size + 8 := by
    show (x.cps ++ ("<lambda>" : Str).cps).size = _
    rw [Array.size_append]
    rfl
  rw [h]
  simp
/-- the table behind the making of a lambda with the code object c' -/
def Made (X : Cx) (H : Hp) (P : Addr) (ps : Array Value) (c' : Addr) (H1 : Hp) : Prop :=
  (H1 = H ∧ ∃ pos, codeAmong pos ps.toList = some (.ref c')) ∨ ∃ more : Array Value, H c' = none ∧ H1 = upd (upd H P (.tbl (ps ++ more))) c' (CodeO c' (lamQ X)) ∧ TriplesOk (ps ++ more).toList ∧ ∀ (pos : Pos) (cv : Value), codeAmong pos (ps ++ more).toList = some cv → codeAmong pos ps.toList = some cv ∨ cv = .ref c'
section
variable {X : Cx} {pins : List (Addr × Obj)} {σ : L2.St} {H : Hp} {s : Shared}
theorem lam_mk {c P : Addr} {ps : Array Value} {params : Arguments} {body : Expr} {scope : Scope} {pos : Pos} {E Q : Value → Shared → Prop} (J : Inv X pins σ H s) (TB : TabB X.base X.mg c P) (hcode : X.env.code = .ref c)
    (hP : H P = some (.tbl ps)) (ht : TriplesOk ps.toList) (ha : ∀ (pos : Pos) (cv : Value), codeAmong pos ps.toList = some cv → ∃ c, cv = .ref c ∧ H c = some (CodeO c (lamQ X))) (hdef : defaultsOf params X.env = ([], []))
    (hfree : ∀ y ∈ scope.names, y.2 = .free → ∃ c, X.env.cells.lookup y.1 = some c)
    (h : ∀ (f c' : Addr) (pm ctv : Value) (H1 : Hp) (s' : Shared), Inv X pins σ H1 s' → Made X H P ps c' H1 → s'.heap.get? f = some (PySem.W.kla_obj "<lambda>" (lamQ X) params body scope (cloFrom X.env.cells scope.names []) pm c' ctv) → H1 f = none → f ∉ frs X.stack → Q (.ref f) s') :
    wpAny (model X.prog X.w) X.A (eval (.Lambda params body scope pos) X.env) Q E s := by
  refine PySem.W.kla_eval hdef ?_
  have bm := TB.bm.keeps J.bk
  have oP : s.heap.get? P = some { cls := .none, data := .fields ps } := J.hok P _ hP
  have out : ∀ f, s.heap.objs.size ≤ f → f ∉ frs X.stack := fun f hf z => by
    rcases List.mem_cons.mp (J.stkSub _ z) with e | e
    · have h1 := J.lt
      rw [← e] at h1
      exact Nat.lt_irrefl _ (Nat.lt_of_lt_of_le h1 hf)
    · exact J.nofs hf e
  cases hc : codeAmong pos ps.toList with
  | some cv =>
    obtain ⟨c', rfl, hco⟩ := ha pos cv hc
    refine PySem.W.kla_makeFunctionHit (mg := X.mg) (c := c) (P := P) (ps := ps) (closure_ok hfree) J.ok.glob (J.mod.glob.keeps J.bk) hcode (TB.code.keeps J.bk) oP ht hc bm fun ctv h' tk hx hsz => ?_
    exact h _ c' _ ctv H _ (J.kept (t' := tk) fun b o e => Heap.get?_push_of_some _ (hx b o e)) (.inl ⟨rfl, pos, hc⟩) (Heap.get?_push_size _ rfl) (J.hok.fresh hsz) (out _ hsz)
  | none =>
    refine PySem.W.kla_makeFunction (mg := X.mg) (c := c) (P := P) (ps := ps) (closure_ok hfree) J.ok.glob (J.mod.glob.keeps J.bk) hcode (TB.code.keeps J.bk) oP ht hc TB.gP bm fun c' ctv h' tk hx hge hlt hrec htb => ?_
    obtain ⟨c2, oc, vs, t, e2, hoc, hd, hv⟩ := hrec
    cases e2
    have nC : H c' = none := J.hok.fresh hge
    have hsz : s.heap.objs.size ≤ h'.objs.size := Nat.le_trans hge (Nat.le_of_lt hlt)
    have I1 := LamX.inv_table (t' := tk) (more := #[rawInt pos.line, rawInt pos.col, .ref c']) (h' := h'.push (PySem.W.kla_obj "<lambda>" (lamQ X) params body scope (cloFrom X.env.cells scope.names []) ((X.mg "__name__").getD .none) c' ctv)) J hP
      (fun b o hb e => Heap.get?_push_of_some _ (hx b o hb e)) (Heap.get?_push_of_some _ htb) hge ⟨oc, vs, t, Heap.get?_push_of_some _ hoc, hd, hv⟩
    have eL : (ps ++ #[rawInt pos.line, rawInt pos.col, Value.ref c']).toList = ps.toList ++ [rawInt pos.line, rawInt pos.col, .ref c'] := by simp
    refine h h'.objs.size c' _ ctv _ _ I1 (.inr ⟨_, nC, rfl, by rw [eL]; exact PySem.TriplesOk_snoc _ _ _ _ ht, fun p' cv hcv => ?_⟩) (Heap.get?_push_size _ rfl) ?_ (out _ hsz)
    · rw [eL] at hcv
      exact LamX.among_app _ ht hcv
    · rw [upd_ne (Nat.ne_of_gt hlt), upd_ne (Nat.ne_of_gt (Nat.lt_of_lt_of_le (Heap.lt_size oP) hsz))]
      exact J.hok.fresh hsz
end
/-- the frame behind the making of a lambda -/
theorem sim_made {X : Cx} {π : Pn} {I H H1 : Hp} {σ : St} {env : Env} {F : Nat → List Addr} {K : PySem.W.Frag} {P c' : Addr} {ps : Array Value} (s : Sim K π I H σ env F) (hm : (P, lamQ X) ∈ π.2.2) (hu : ∀ p ∈ π.2.2, p.1 = P → p.2 = lamQ X) (hP : H P = some (.tbl ps)) (m : Made X H P ps c' H1) :
    ∃ I1, Sim K π I1 H1 σ env F ∧ Step I H (Ow F) I1 H1 (Ow F) ∧ I1 c' = some (CodeO c' (lamQ X)) := by
  obtain ⟨qs, q1, q0, q2, q3⟩ := s.tab.cod hm (lam_nf _)
  have q1 : H P = some (.tbl qs) := q1
  rw [hP] at q1; cases q1
  rcases m with ⟨rfl, pos, hc⟩ | ⟨more, nC, rfl, hok, told⟩
  · obtain ⟨c, e, hI⟩ := q3 pos _ hc
    cases e
    exact ⟨I, s, Step.refl, hI⟩
  · have nI : I c' = none := none_of_same s.sub nC
    have nPc : P ≠ c' := fun z => by rw [z, nC] at hP; cases hP
    have atP : upd (upd H P (.tbl (ps ++ more))) c' (CodeO c' (lamQ X)) P = some (.tbl (ps ++ more)) := by rw [upd_ne nPc, upd_same]
    have oth : ∀ b, b ≠ P → b ≠ c' → upd (upd H P (.tbl (ps ++ more))) c' (CodeO c' (lamQ X)) b = H b := fun b h1 h2 => by rw [upd_ne h2, upd_ne h1]
    have sm : Same I (upd I c' (CodeO c' (lamQ X))) := same_new nI
    have nFc : ∀ a, Ow F a → a ≠ c' := fun a ha z => by obtain ⟨o, ho⟩ := s.domO ha; rw [z, nC] at ho; cases ho
    have nFP : ∀ a, Ow F a → a ≠ P := fun a ha z => by subst z; exact s.domT ha hP
    refine ⟨upd I c' (CodeO c' (lamQ X)), ⟨s.len, fun i o q => ?_, s.out, s.dis, fun i a h => ?_, fun b o e => ?_, s.pin, fun p hp => ?_⟩, ⟨sm, fun a o h _ nt => ?_, fun a o h _ => ?_, fun a h => .inl h, fun a o h => ?_⟩, upd_same⟩
    · obtain ⟨v, e1, r⟩ := s.rep i o q
      exact ⟨v, e1, r.mono sm fun a ha => oth a (nFP a ⟨i, ha⟩) (nFc a ⟨i, ha⟩)⟩
    · rw [upd_ne (nFc a ⟨i, h⟩)]; exact s.djI i a h
    · by_cases hb : b = c'
      · subst hb; rw [upd_same] at e ⊢; exact e
      · rw [upd_ne hb] at e
        have e' := s.sub b o e
        rw [oth b (fun z => by subst z; have : I b = none := q0; rw [this] at e; cases e) hb]; exact e'
    · have tp := s.tab p hp
      by_cases hf : isFld p.2 = true
      · rw [if_pos hf] at tp ⊢
        obtain ⟨fs, f1, f2⟩ := tp
        exact ⟨fs, sm _ _ f1, f2⟩
      rw [if_neg hf] at tp ⊢
      obtain ⟨rs, r1, r0, r2, r3⟩ := tp
      by_cases hb : p.1 = P
      · rw [hb] at r1 r0
        rw [hP] at r1; cases r1
        unfold CodI
        rw [hb, hu p hp hb]
        refine ⟨ps ++ more, atP, by rw [upd_ne nPc]; exact r0, hok, fun pos cv hcv => ?_⟩
        rcases told pos cv hcv with z | z
        · obtain ⟨c, e1, e2⟩ := q3 pos cv z
          exact ⟨c, e1, sm _ _ e2⟩
        · exact ⟨c', z, upd_same⟩
      · have nc : p.1 ≠ c' := fun z => by rw [z, nC] at r1; cases r1
        refine ⟨rs, by rw [oth _ hb nc]; exact r1, by rw [upd_ne nc]; exact r0, r2, fun pos cv hcv => ?_⟩
        obtain ⟨c, e1, e2⟩ := r3 pos cv hcv
        exact ⟨c, e1, sm _ _ e2⟩
    · rw [oth a (fun z => by subst z; rw [hP] at h; cases h; exact nt _ rfl) (fun z => by subst z; rw [nC] at h; cases h)]; exact h
    · by_cases hb : a = P
      · subst hb; exact ⟨_, atP⟩
      · exact ⟨o, by rw [oth a hb (fun z => by subst z; rw [nC] at h; cases h)]; exact h⟩
    · by_cases hb : a = c'
      · subst hb; exact .inr (.inr nC)
      · rw [upd_ne hb] at h; exact .inl h
end Dy
namespace Dy
open PySem PySem.Spec PyProof.Rows L2
open LamX (CodeO TabB LamS lamEnv lamCx)
/-- a frame over which nothing of its own was changed -/
theorem sim_over {K : PySem.W.Frag} {π : Pn} {I H I' H' : Hp} {σ : St} {env : Env} {F : Nat → List Addr} {S' : Addr → Prop} (s : Sim K π I H σ env F) (st : Step I H (Ow fun _ => []) I' H' S') (sub : Same I' H') (tb : TabI π.2.2 I' H') :
    Sim K π I' H' σ env F ∧ Step I H (Ow F) I' H' (Ow F) := by
  have no : ∀ a, ¬ Ow (fun _ => ([] : List Addr)) a := fun a ⟨_, h⟩ => by cases h
  refine ⟨⟨s.len, fun i o q => ?_, s.out, s.dis, fun i a h => ?_, sub, s.pin, tb⟩, ⟨st.i1, fun a o h _ nt => st.fr a o h (no a) nt, fun a o h _ => st.th a o h (no a), fun a h => .inl h, fun a o h => ?_⟩⟩
  · obtain ⟨v, e1, r⟩ := s.rep i o q
    refine ⟨v, e1, r.mono st.i1 fun a ha => ?_⟩
    obtain ⟨u, hu, nt⟩ := s.domN ha
    rw [hu, st.fr a u hu (no a) nt]
  · cases q : I' a with
    | none => rfl
    | some u =>
      rcases st.i' a u q with z | z | z
      · rw [s.djI i a h] at z; cases z
      · exact absurd z (no a)
      · obtain ⟨w, hw⟩ := s.dom h; rw [z] at hw; cases hw
  · rcases st.i' a o h with z | z | z
    · exact .inl z
    · exact absurd z (no a)
    · exact .inr (.inr z)
section
variable {X : Cx} {pins : List (Addr × Obj)} {σ : L2.St} {H : Hp} {s : Shared}
/-- x(), in the def that got the lambda -/
theorem pe_actG {CXg : CXT} {Eg : XK} {Ng : List Str} {qg : Str} {sg : Scope} {g f c' : Addr} {cdg pm ctv : Value} {params : Arguments} {body : Expr} {scope : Scope} {k i : Nat} {a : Str} {pn : List (Addr × Obj)} {xe : Value → Shared → Prop} {W : WX} {E : XK} {tb : TE} {p1 p2 : Pos}
    (J : Inv X pins σ H s) (L : LamS X.env.scope scope) (hf : s.heap.get? f = some (PySem.W.kla_obj "<lambda>" (lamQ X) params body scope (cloFrom X.env.cells scope.names []) pm c' ctv)) (hfn : H f = none) (hfr : f ∉ frs X.stack)
    (hbind : bindArgs (PySem.W.kla_fn "<lambda>" (lamQ X) params body scope (cloFrom X.env.cells scope.names []) pm (.ref c') ctv) ⟨[], []⟩ = pure [])
    (tk : Takes ((cxOf CXg X.prog X.w X.K X.mg X.base Ng qg sg g cdg X.A X.stack s H Eg).tr pn xe) W) (hW : ∀ cls d σ' H', E cls d H' → W cls d σ' H') (hr : Room (k + 1) (X.A.deeper (envOfC qg sg s.heap.objs.size g cdg)))
    (hbody : ∀ (s1 : Shared) (HZ : Hp), Room k ((X.A.deeper (envOfC qg sg s.heap.objs.size g cdg)).deeper (lamEnv X scope s1.heap.objs.size f c')) → PE (lamCx X (X.A.deeper (envOfC qg sg s.heap.objs.size g cdg)) (envOfC qg sg s.heap.objs.size g cdg :: X.stack) s1 HZ E scope f c') body tb)
    (hN : Ng[i]? = some a) (hv : Vis sg a) (hd : (a == ("__debug__" : Str)) = false := by decide) (hcd : (a == ("__classdict__" : Str)) = false := by decide) :
    PE ((cxOf CXg X.prog X.w X.K X.mg X.base Ng qg sg g cdg X.A X.stack s H Eg).tr pn xe) (.Call (.Name a p1) [] [] p2) (fun σZ HZ Q => σZ[i]? = some (some (.ref f)) ∧ HZ c' = some (CodeO c' (lamQ X)) ∧ tb σ HZ Q) := by
  refine ⟨fun pinsZ sZ σZ HZ Q JZ hh => ?_⟩
  obtain ⟨hs, hc, ht⟩ := hh
  refine wpAny_Call_Name_kw (thn ((pe_var (pos := p1) (i := i) hN hv hd hcd).run pinsZ sZ σZ HZ (fun v H1 => v = .ref f ∧ H1 = HZ) JZ ⟨.ref f, hs, rfl, rfl⟩) fun u s1 hu => ?_)
  obtain ⟨v, H1, J1, r1, rfl, eH⟩ := hu
  subst eH
  cases (show u = Value.ref f from r1)
  have of1 := J1.base.keep f _ hf hfn hfr (fun z => nomatch (show f ∈ ([] : List Addr) from z))
  refine PySem.W.callWith_F0 ⟨_, _, _, _, of1⟩ ?_
  obtain ⟨⟨oc, vs, t, hoc, hdc, hvc⟩, _, _⟩ := J1.hok c' _ hc
  have rc : codeAny (model X.prog X.w) (X.A.deeper (envOfC qg sg s.heap.objs.size g cdg)) (.call (.ref f) ⟨[], []⟩) (CR (L2.CX X.prog X.w) (envOfC qg sg s.heap.objs.size g cdg :: X.stack) X.prog X.w H1 s1 Q E) s1 := by
    refine PySem.W.kla_callFunE hr.depth of1 rfl L.co L.gen rfl ⟨c', oc, vs, t, rfl, hoc, hdc, hvc⟩ ?_
    rw [hbind]
    refine wpAny_pure (wpAny_newFunctionEnv (fun y hy => (L.own y hy).2) (fun y hy => absurd hy (by simp)) (fun h₁ hns hsb => ⟨J1.nolimit.fresh _ hsb, ?_⟩) L.kind)
    show codeAny _ _ (.expr body (lamEnv X scope s1.heap.objs.size f c')) _ _
    have JL := LamX.lam_start2 (E := E) (f := f) (c' := c') (tk := s1.toks + ([] : List (Str × Value)).length) J L J1.env0 hr.hd (show Un (frs X.stack) [] H H1 s.heap s1.heap from J1.base) hns fun b o e => hsb.extBut b o (Nat.ne_of_lt (Heap.lt_size e)) (Heap.get?_push_of_some _ e)
    refine PySem.W.kla_codeExpr (wpAny_mono ((hbody s1 H1 (hr.deeper _)).run [] _ _ H1 Q JL ht) (fun v s' hq => ?_) fun e s' hq => hq)
    obtain ⟨w', H', J', rv, q⟩ := hq
    exact ⟨w', H', J'.os, J'.bare, J'.base, J'.hok, rv, q⟩
  have hx : Passes (L2.CX X.prog X.w) ((cxOf CXg X.prog X.w X.K X.mg X.base Ng qg sg g cdg X.A X.stack s H Eg).tr pn xe) E := passes_call tk hW
  refine wpAny_call (codeAny_mono rc fun r s' hq => ?_)
  cases r with
  | error e => exact hx pinsZ σZ H1 s1 e s' J1 hq
  | ok fl =>
    cases fl with
    | ret u => exact J1.after hq
    | next => exact hq.elim
    | brk => exact hq.elim
    | cont => exact hq.elim
end
end Dy
namespace Dy
open PySem PySem.Spec PyProof.Rows L2
open LamX (CodeO TabB LamS lamEnv lamCx)
def allF (env : Env) : Bool := env.all fun x => match x with
  | none => true
  | some (.fr _) => true
  | _ => false
theorem allF_at {env : Env} (h : allF env = true) {i : Nat} {o : O} (q : env[i]? = some (some o)) : ∃ d, o = .fr d := by
  have := List.all_eq_true.mp h _ (List.mem_of_getElem? q)
  cases o with
  | fr d => exact ⟨d, rfl⟩
  | ol _ => cases this
  | oo _ => cases this
  | od _ => cases this
  | om _ => cases this
theorem sim_allF {K : PySem.W.Frag} {π : Pn} {I H : Hp} {σ : St} {env : Env} {F : Nat → List Addr} (s : Sim K π I H σ env F) (h : allF env = true) (v : Nat → V) : Sim K ([], v, π.2.2) I H σ env (fun _ => []) := by
  refine ⟨s.len, fun i o q => ?_, fun _ _ => rfl, fun _ _ _ z => (nomatch z), fun _ _ z => (nomatch z), s.sub, fun _ z => (nomatch z), s.tab⟩
  obtain ⟨u, e1, r⟩ := s.rep i o q
  obtain ⟨d, rfl⟩ := allF_at h q
  exact ⟨u, e1, rfl, r.2⟩
/-- n: how many names the def has; L: what may be raised; caps: what is captured; ws: all other names of the caller -/
def fSaid (n : Nat) (L : List Str) (caps ws : List Nat) (f : EF) (h : Exn → SF) : EF := fun env =>
  if allF (wipeE (frzE env caps) ws) = true then (match f (wipeE (frzE env caps) ws) with
    | .ok r => (match pReprD r.1.data with
      | some (.fr (.str x)) => .ok (.fr (.str x), frzE env caps)
      | _ => .no)
    | .er y => if y.cls ∈ L ∧ y.args = [] then (match h y (List.replicate n none) with
      | .ok (.rt o, _) => .ok (.fr o.data, frzE env caps)
      | _ => .no) else .no
    | .no => .no) else .no
section
variable {g : G} {X : Cx}
theorem de_said {xs aN n ex : Str} {gS c P PE : Addr} {fd : FuncData} {st : Stmt} {Ng : List Str} {k i : Nat} {L : List Str} {caps ws : List Nat} {fb : EF} {h : Exn → SF} {params : Arguments} {body : Expr} {scope : Scope} {suite : List Stmt} {b₀ : Stmt} {p pos lpos p1 p2 p3 p4 p5 p6 p7 p8 : Pos}
    (hg : Gl X xs) (hm : X.mg xs = some (.ref gS)) (hk : PySem.W.keepIn X.K (.ref gS) = true) (F : Fun X.K xs xs st gS fd) (hb : Binds X.K fd [aN] []) (S : FnScope Ng [aN] (defScope st))
    (hbg : defBody st = [.Try [.Return (some (.Call (.Name "repr" p1) [.Call (.Name aN p2) [] [] p3] [] p4)) p5] [.ExceptHandler (some (.Name ex p6)) (some n) (b₀ :: suite) p7] [] [] p8])
    (hN0 : Ng[0]? = some aN) (hva : Vis (defScope st) aN) (hNi : Ng[i]? = some n) (hln : (defScope st).names.lookup n = some .local) (hgr : (defScope st).names.lookup ("repr" : Str) = some .globalImplicit) (hge : (defScope st).names.lookup ex = some .globalImplicit) (hmr : X.mg "repr" = none) (hmE : X.mg ex = some (.ref PE))
    (TB : TabB X.base X.mg c P) (hcode : X.env.code = .ref c) (hmT : (P, lamQ X) ∈ g.pn.2.2) (hu : ∀ p ∈ g.pn.2.2, p.1 = P → p.2 = lamQ X) (hgd : X.A.guards = some []) (hr : Room (k + 2) X.A) (LS : LamS X.env.scope scope) (hdef : defaultsOf params X.env = ([], []))
    (hbind : ∀ (q : Str) (cl : List (Str × Addr)) (pm cv ctv : Value), bindArgs (PySem.W.kla_fn "<lambda>" q params body scope cl pm cv ctv) ⟨[], []⟩ = pure [])
    (hL : ∀ y ∈ L, ∃ C, TryX X.K X.mg PE y C)
    (hbody : ∀ (A : Around) (outer : List PySem.Env) (s : Shared) (H : Hp) (E : XK) (f c' : Addr), (A.deeper (lamEnv X scope s.heap.objs.size f c')).guards = some [] → Room k (A.deeper (lamEnv X scope s.heap.objs.size f c')) → DE ⟨g.K, g.mg, ([], (fun _ => .non), g.pn.2.2), E⟩ (lamCx X A outer s H E scope f c') body fb)
    (hsu : ∀ (cdv : Value) (A : Around) (outer : List PySem.Env) (s : Shared) (H : Hp), (A.deeper (envOfC xs (defScope st) s.heap.objs.size gS cdv)).guards = some [] → Room (k + 1) (A.deeper (envOfC xs (defScope st) s.heap.objs.size gS cdv)) → ∀ (a : Addr) (oe : Obj) (pn : List (Addr × Obj)) (y : Exn) (C : Addr), y.cls ∈ L → X.mg y.cls = some (.ref C) → Zc (.ref C) none oe → (∃ vs, oe.data = .fields vs) →
      DSs ⟨g.K, g.mg, ([i], (fun _ => .ref a), g.pn.2.2), fun _ _ _ => False⟩ ((cxOf (L2.CX X.prog X.w) X.prog X.w X.K X.mg X.base Ng xs (defScope st) gS cdv A outer s H (fun _ _ _ => False)).suite a ((a, oe) :: pn)) (b₀ :: suite) (h y))
    (hK : X.K = g.K := by rfl) (hM : g.mg = X.mg := by rfl) (hdb : (xs == ("__debug__" : Str)) = false := by decide) (hdb2 : (ex == ("__debug__" : Str)) = false := by decide) (hda : (aN == ("__debug__" : Str)) = false := by decide) (hdc : (aN == ("__classdict__" : Str)) = false := by decide) :
    DE g X (.Call (.Name xs p) [.Lambda params body scope lpos] [] pos) (fSaid Ng.length L caps ws fb h) := by
  refine ⟨fun pins s σ H Q J hh => ?_⟩
  obtain ⟨I, env, F0, sim, pp⟩ := hh
  obtain ⟨ps, hP, _, ht, hcodes⟩ := sim.tab.cod hmT (lam_nf _)
  refine wpAny_Call_Name_kw (ld_glob J hg hm ?_ hdb)
  refine PySem.W.callWith_K (h₀ := X.base) J.ok.mod.kin hk ?_ (by rfl) (by rfl)
  show wpAny _ _ (spliced ((false, eval (.Lambda params body scope lpos) X.env) :: backTo pos (starEach [] X.env))) _ _ s
  refine Calls.spliced_cons (lam_mk J TB hcode hP ht (fun pos cv hc => let ⟨c, e1, e2⟩ := hcodes pos cv hc; ⟨c, e1, sim.sub _ _ e2⟩) hdef (LS.has J.ok) fun f c' pm ctv H1 s' J1 made hf hfn hfr => ?_)
  obtain ⟨I1, sim1, st1, hco⟩ := sim_made sim hmT hu hP made
  refine Calls.spliced_nil ⟨J1.kIn, ?_⟩
  obtain ⟨I2, F2, sim2, st2⟩ := AftS.freeze (g := g) ⟨I1, F0, sim1, Step.refl⟩ caps
  have hco2 : H1 c' = some (CodeO c' (lamQ X)) := sim1.sub _ _ hco
  have hin : i < Ng.length := by
    cases Nat.lt_or_ge i Ng.length with
    | inl z => exact z
    | inr z => rw [List.getElem?_eq_none z] at hNi; cases hNi
  unfold fSaid at pp
  by_cases hall : allF (wipeE (frzE env caps) ws) = true
  · rw [if_pos hall] at pp
    have simL := sim_allF (sim2.forget ws) hall (fun _ => .non)
    -- what is asked behind: the frame as it was, the names frozen
    have fin : ∀ {I' H' : Hp} {S' : Addr → Prop} {d : PyData} {v : V}, Step I2 H1 (Ow fun _ => []) I' H' S' → Same I' H' → TabI g.pn.2.2 I' H' → Rp g.K I' v d → Aft g.K g.pn I H F0 σ (frzE env caps) (.fr d) v H' := fun st sub tb r => by
      obtain ⟨s5, st5⟩ := sim_over sim2 st sub tb
      exact AftD.aft ⟨_, _, r, s5, (st1.trans st2).trans st5⟩
    have rc : codeAny (model X.prog X.w) X.A (.call (.ref gS) ⟨[.ref f], []⟩) (CR (L2.CX X.prog X.w) X.stack X.prog X.w H1 s' Q (fun _ _ _ => False)) s' := by
      obtain ⟨oc, od, kV, doc, pm', an, cdv, ct, osl, rfl, lk, hcd⟩ := F.ex
      refine LamX.run_ofS (N := Ng) (ps := [aN]) (us := [.ref f]) (vs := [.ref f]) lk hcd S hr J1.env0 (hb s' [.ref f] J1.kIn rfl) (.cons rfl .nil) rfl fun hr' => ?_
      rw [hbg]
      have g1 : (X.A.deeper (envOfC xs (defScope st) s'.heap.objs.size gS cdv)).guards = some [] := hgd
      refine ⟨_, pss_one (ps_try_as (X := cxOf (L2.CX X.prog X.w) X.prog X.w X.K X.mg X.base Ng xs (defScope st) gS cdv X.A X.stack s' H1 (fun _ _ _ => False)) (c := .ref PE) (i := i) (Wout := fun _ _ _ _ => False)
        (tb := fun W D σZ HZ => σZ[0]? = some (some (.ref f)) ∧ HZ c' = some (CodeO c' (lamQ X)) ∧ tD ⟨g.K, g.mg, ([], (fun _ => .non), g.pn.2.2), wTry Ng.length W⟩ fb σ HZ fun v H' => rReprD X.K [v] H' D.rt)
        (ts := fun a cls d D σZ HZ => ∃ (y : Exn) (C : Addr), y.cls ∈ L ∧ X.mg y.cls = some (.ref C) ∧ cls = .ref C ∧ d = none ∧ tS ⟨g.K, g.mg, ([i], (fun _ => .ref a), g.pn.2.2), fun _ _ _ => False⟩ (h y) D σZ HZ)
        rfl rfl S.nd hNi hln ⟨hge, hdb2, .inl hmE⟩ takes0 (fun W pn xe tk po => ?_) (fun a oe cls d pn hz hv => ⟨fun pins2 s2 σ2 H2 D2 J2 q2 => ?_⟩)), ?_⟩
      · have act := pe_actG (tb := tD ⟨g.K, g.mg, ([], (fun _ => .non), g.pn.2.2), wTry Ng.length W⟩ fb) (E := wTry Ng.length W) (p1 := p2) (p2 := p3) J1 LS hf hfn hfr (hbind _ _ _ _ _) (takes_len tk) (fun cls d σ' H' h hl => h σ' hl) hr' (fun s1 HZ hr2 => hbody _ _ s1 HZ (wTry Ng.length W) f c' hgd hr2) hN0 hva hda hdc
        refine PSs.imp (pss_one (ps_ret (pe_callB (cr_reprD (X := (cxOf (L2.CX X.prog X.w) X.prog X.w X.K X.mg X.base Ng xs (defScope st) gS cdv X.A X.stack s' H1 (fun _ _ _ => False)).tr pn xe) g1 hr') hgr hmr bt_repr (pa_cons act pa_nil)))) fun D σZ HZ q => ?_
        obtain ⟨q1, q2, q3⟩ := q
        exact ⟨q1, q2, q3⟩
      · obtain ⟨y, C, h1, h2, rfl, rfl, q2⟩ := q2
        exact (hsu cdv X.A X.stack s' H1 g1 hr' a oe pn y C h1 h2 hz hv).run pins2 s2 σ2 H2 D2 J2 q2
      · refine ⟨?_, hco2, I2, wipeE (frzE env caps) ws, fun _ => [], simL, ?_⟩
        · unfold L2.start; rfl
        · cases qf : fb (wipeE (frzE env caps) ws) with
          | no => rw [qf] at pp; exact pp
          | ok r =>
            rw [qf] at pp
            intro v H' af
            obtain ⟨I3, F3, rp, s3, st3⟩ := af.frz
            simp only at pp
            split at pp
            · rename_i x hx
              rw [hK]
              refine os_reprD [v] [r.1.data] I3 H' Q _ s3.sub (.cons (.inl rp) .nil) hx fun v2 H2 I4 R gr => ?_
              obtain ⟨I5, F5, rp5, s5, st5⟩ := (gr.aft s3).frz
              exact pp v2 H2 (fin (st3.trans st5) s5.sub s5.tab rp5)
            · exact pp.elim
          | er y =>
            rw [qf] at pp
            simp only at pp
            intro H' cls d er xr σ' hl
            obtain ⟨C, e1, rfl, e3, _⟩ := xr
            split at pp
            · rename_i hy
              obtain ⟨C', T⟩ := hL y.cls hy.1
              rw [hM] at e1
              have e2 := T.g
              rw [e1] at e2; cases e2
              refine ⟨true, T.m, fun _ a na => ?_, fun z => by cases z⟩
              obtain ⟨I', s2, tb, _, stp⟩ := er
              refine ⟨y, C, hy.1, e1, rfl, e3 hy.2, I', List.replicate Ng.length none, fun _ => [], sim_err s2 tb hl hin, ?_⟩
              cases qh : h y (List.replicate Ng.length none) with
              | no => rw [qh] at pp; exact pp.elim
              | er z => rw [qh] at pp; exact pp.elim
              | ok r =>
                rw [qh] at pp
                obtain ⟨fl, e⟩ := r
                cases fl with
                | nx => exact pp.elim
                | bk => exact pp.elim
                | ct => exact pp.elim
                | rt o =>
                  intro v σ2 H2 af
                  obtain ⟨I6, F6, rp6, s6, st6⟩ := af.frz
                  have stB := Step.trans (S1 := Ow fun _ => []) (stp.less fun a ha => by obtain ⟨j, hj⟩ := ha; cases hj) st6
                  exact pp v H2 (fin stB s6.sub s6.tab rp6)
            · exact pp.elim
    refine wpAny_call (codeAny_mono rc fun r s2 hq => ?_)
    cases r with
    | error e =>
      obtain ⟨_, _, _, _, _, _, _, _, _, _, _, _, z⟩ := hq
      exact z.elim
    | ok fl =>
      cases fl with
      | ret u => exact J1.after hq
      | next => exact hq.elim
      | brk => exact hq.elim
      | cont => exact hq.elim
  · rw [if_neg hall] at pp; exact pp.elim
end
end Dy
namespace Dy
open PySem PySem.Spec PyProof.Rows L2
section
variable {X : Cx}
def rCountD (K : PySem.W.Frag) : V → List V → Hp → VK → Prop := fun x xs H Q => ∃ (a : Addr) (y : V) (d : PyData) (ds : List PyData), x = V.ref a ∧ xs = [y] ∧ Dp K H (V.ref a) (.list ds) ∧ Dp K H y d ∧
  SeqAt.shaped (.list ds) = true ∧ SeqAt.shaped d = true ∧ Q (.int (ds.countP fun z => PyData.eqv z d : Nat)) H
theorem mt_countD (hu : X.A.units + 65 < cLine) : MtR X "list.count" (rCountD X.K) := by
  intro pins s σ H x xs v us Q I rx rxs h
  obtain ⟨a, y, d, ds, rfl, rfl, hl, hy, sl, sd, q⟩ := h
  cases rx
  cases rxs with
  | cons ry rt =>
    rename_i uy ut
    cases rt
    obtain ⟨bs, r1⟩ := Dp.reads I d y uy hy ry
    have hxs : PyData.canLayAll0 ds = true := SeqAt.canLay_of_shaped sl
    have hroom : X.A.units + 1 + min (PyData.depthAll ds) d.depth < cLine := room_in_shaped sd hu
    cases hl with
    | lst hs ha =>
      obtain ⟨its, rv, ⟨⟨cls, dd, data, sls⟩, n, ho, hc, hdn, hdt⟩, hlen⟩ := I.list hs
      simp only at hc hdt
      subst hc hdt
      obtain ⟨as, h4⟩ := Dp.readsAll I ds _ its ha rv
      have hmap : its.map (SeqAt.readOf s.heap) = ds := SeqAt.readsAll_map ds its as hxs h4
      refine call_meets PySem.F.slot_list_count ⟨_, ho, rfl⟩ PySem.F.entry_list_count (PySem.F.args_list_count_2 _ _)
        (SeqAt.list_countAt a its.toArray n dd sls uy (fun u => PyData.eqv (SeqAt.readOf s.heap u) d)) ⟨ho, SeqAt.items_eqAt (vs := its.toArray) (show ReadsAll s.heap its.toArray.toList ds as from h4) r1 hxs (SeqAt.canLay_of_shaped sd) hroom, ?_⟩
      refine ⟨.int (ds.countP (fun z => PyData.eqv z d) : Nat), H, I.tok _, ⟨s.toks, ?_⟩, q⟩
      have e : its.toArray.toList.countP (fun u => PyData.eqv (SeqAt.readOf s.heap u) d) = ds.countP (fun z => PyData.eqv z d) := by
        rw [← hmap, List.countP_map]; rfl
      show Value.int ((its.toArray.toList.countP (fun u => PyData.eqv (SeqAt.readOf s.heap u) d) : Nat) : Int) s.toks = _
      rw [e]
end
def pCount (ds : List PyData) (d : PyData) : Option PyData := if SeqAt.shaped (.list ds) = true ∧ SeqAt.shaped d = true then some (.int (ds.countP fun z => PyData.eqv z d : Nat)) else none
def pIndex (ds : List PyData) (d : PyData) : Option PyData := if SeqAt.shaped (.list ds) = true ∧ SeqAt.shaped d = true then (ds.findIdx? fun z => PyData.eqv z d).map fun j => .int (j : Nat) else none
def fMt (f : List PyData → PyData → Option PyData) (i : Nat) (y : AF) : EF := fun env => match env[i]? with
  | some (some (.fr (.list ds))) => evA [y] env >>= fun q => match rsvs q.2 q.1 with
    | some [k] => match f ds k with
      | some d => .ok (.fr d, q.2)
      | _ => .no
    | _ => .no
  | _ => .no
section
variable {g : G} {X : Cx} {a b c e : Expr} {es : List Expr} {pos p1 p2 p3 px : Pos} {σ : St} {H I : Hp} {env : Env} {F : Nat → List Addr} {D : Ends} {st : Stmt} {sts : List Stmt}
theorem de_mt {r : V → List V → Hp → VK → Prop} {f : List PyData → PyData → Option PyData} {i : Nat} {x name : Str} {id : String} {px apos cpos : Pos} {y : AF} (slot : Slot "list" name id) (hty : typeOf (.builtin id) = pure (.type "method_descriptor")) (hm : MtR X id r)
    (ok : ∀ (K : PySem.W.Frag) (I H : Hp) (v u : V) (ds : List PyData) (k d : PyData) (Q : VK), K = X.K → Same I H → Rp K I v (.list ds) → RpS K I H u k → f ds k = some d → (∀ w, Rp K I w d → Q w H) → r v [u] H Q)
    (hx : PE X (.Name x px) (tVar i)) (he : DX g X e y) 
    (hbase : attributeBase (.Name x px) name X.env (eval (.Name x px) X.env) = eval (.Name x px) X.env := by rfl)
    (hfew : ((backTo cpos (starEach [e] X.env)).all (fun x => !x.1) && (backToKw cpos (keywordEach [] X.env)).all (fun x => x.1.isSome)
      && decide (([e] : List Expr).length + ([] : List Keyword).length + (if ([] : List Keyword).isEmpty then 0 else 1) < 30)) = true := by rfl)
    (hline : (apos.endLine == cpos.line) = true := by rfl) (hs : starEach [e] X.env = (false, eval e X.env) :: starEach [] X.env := by rfl) (hplain : (backTo cpos (starEach [] X.env)).any (·.1) = false := by rfl) (hK : X.K = g.K := by rfl) :
    DE g X (.Call (.Attribute (.Name x px) name apos) [e] [] cpos) (fMt f i y) := PE.imp (pe_bm PySem.F.plainAttrs_list slot hty hm hx (da_cons he da_nil hs) hbase hfew hline hs hplain) fun σ H Q q => by
  obtain ⟨I, env, F, s, p⟩ := q
  unfold fMt at p
  split at p
  · rename_i ds q0
    obtain ⟨w, hw, rw0⟩ := s.rep i _ q0
    have rw0 : F i = [] ∧ Rp g.K I w (.list ds) := rw0
    refine ⟨w, hw, ?_, ?_⟩
    · obtain ⟨a, vs, rfl, h1, h2⟩ := RpS.lst (H := H) s.sub (.inl rw0.2)
      rw [hK]
      exact .inl ⟨rfl, vs, h1.sq⟩
    · refine ⟨I, env, F, s, post_mono (post_bind.mp p) (fun r3 q3 vs3 H3 I3 F3 s3 st3 av3 => ?_) fun x zz => zz⟩
      split at q3
      · rename_i k q5
        have rr3 := rsvs_rep s3 av3 q5
        match vs3, rr3 with
        | [u], .cons r5 .nil =>
          split at q3
          · rename_i d hd
            refine ok g.K I3 H3 w u ds k d Q hK.symm s3.sub (rw0.2.mono st3.i1) r5 hd fun v rv => ?_
            exact q3 v H3 (AftD.aft ⟨_, _, rv, s3, st3⟩)
          · exact q3.elim
      · exact q3.elim
  · exact p.elim
theorem de_count {i : Nat} {x : Str} {px apos cpos : Pos} {y : AF} (hu : X.A.units + 65 < cLine) (hx : PE X (.Name x px) (tVar i)) (he : DX g X e y)
    (hbase : attributeBase (.Name x px) "count" X.env (eval (.Name x px) X.env) = eval (.Name x px) X.env := by rfl)
    (hfew : ((backTo cpos (starEach [e] X.env)).all (fun x => !x.1) && (backToKw cpos (keywordEach [] X.env)).all (fun x => x.1.isSome)
      && decide (([e] : List Expr).length + ([] : List Keyword).length + (if ([] : List Keyword).isEmpty then 0 else 1) < 30)) = true := by rfl)
    (hline : (apos.endLine == cpos.line) = true := by rfl) (hs : starEach [e] X.env = (false, eval e X.env) :: starEach [] X.env := by rfl) (hplain : (backTo cpos (starEach [] X.env)).any (·.1) = false := by rfl) (hK : X.K = g.K := by rfl) :
    DE g X (.Call (.Attribute (.Name x px) "count" apos) [e] [] cpos) (fMt pCount i y) :=
  de_mt PySem.F.slot_list_count PySem.F.type_list_count (mt_countD hu) (fun K I H v u ds k d Q e s r1 r2 q kk => by
    subst e
    unfold pCount at q
    split at q
    · rename_i hc
      cases q
      have d1 := r1.dp s (SeqAt.canLay_of_shaped hc.1)
      obtain ⟨a, vs, rfl, _, _⟩ := RpS.lst s (.inl r1)
      exact ⟨a, u, k, ds, rfl, rfl, d1, r2.dp s (SeqAt.canLay_of_shaped hc.2), hc.1, hc.2, kk _ (.int _)⟩
    · cases q) hx he hbase hfew hline hs hplain hK
theorem de_index {i : Nat} {x : Str} {px apos cpos : Pos} {y : AF} (hu : X.A.units + 65 < cLine) (hx : PE X (.Name x px) (tVar i)) (he : DX g X e y)
    (hbase : attributeBase (.Name x px) "index" X.env (eval (.Name x px) X.env) = eval (.Name x px) X.env := by rfl)
    (hfew : ((backTo cpos (starEach [e] X.env)).all (fun x => !x.1) && (backToKw cpos (keywordEach [] X.env)).all (fun x => x.1.isSome)
      && decide (([e] : List Expr).length + ([] : List Keyword).length + (if ([] : List Keyword).isEmpty then 0 else 1) < 30)) = true := by rfl)
    (hline : (apos.endLine == cpos.line) = true := by rfl) (hs : starEach [e] X.env = (false, eval e X.env) :: starEach [] X.env := by rfl) (hplain : (backTo cpos (starEach [] X.env)).any (·.1) = false := by rfl) (hK : X.K = g.K := by rfl) :
    DE g X (.Call (.Attribute (.Name x px) "index" apos) [e] [] cpos) (fMt pIndex i y) :=
  de_mt PySem.F.slot_list_index PySem.F.type_list_index (mt_indexD hu) (fun K I H v u ds k d Q e s r1 r2 q kk => by
    subst e
    unfold pIndex at q
    split at q
    · rename_i hc
      have d1 := r1.dp s (SeqAt.canLay_of_shaped hc.1)
      obtain ⟨a, vs, rfl, _, _⟩ := RpS.lst s (.inl r1)
      cases hf : ds.findIdx? (fun z => PyData.eqv z k) with
      | none => rw [hf] at q; cases q
      | some j =>
        rw [hf] at q; cases q
        obtain ⟨h1, h2, h3⟩ := List.findIdx?_eq_some_iff_getElem.mp hf
        exact ⟨a, u, k, ds, j, ds[j], rfl, rfl, d1, r2.dp s (SeqAt.canLay_of_shaped hc.2), hc.1, hc.2, List.getElem?_eq_getElem h1, h2, fun m z' hm hz => by
          obtain ⟨hm2, e2⟩ := List.getElem?_eq_some_iff.mp hz
          have := h3 m hm
          rw [e2] at this
          simpa using this, kk _ (.int _)⟩
    · cases q) hx he hbase hfew hline hs hplain hK
theorem call_isP {X : Cx} {a D : Addr} {oe : Obj} (hp : (a, oe) ∈ X.pn) (C : ExcC X.K D) (hz : Zc (.ref D) none oe) (hf : ∃ vs, oe.data = .fields vs) : CallR X (.builtin "isinstance") (rIsE X.K D a) := by
  intro pins s σ H xs us Q I r h
  obtain ⟨c, cv, b, rfl, hcv, e, q⟩ := h
  cases r with
  | cons rx rr =>
    cases rr with
    | cons rt rr =>
      cases rr
      cases rx
      have ec := hcv _ rt
      subst ec
      obtain ⟨hget, _⟩ := I.pin (a, oe) (List.mem_append.mpr (.inl hp))
      obtain ⟨vs, hv⟩ := hf
      have J : PySem.W.InstAt s.heap a oe D none := by
        obtain ⟨oc, od, oda, osl⟩ := oe
        obtain ⟨h1, h2⟩ := hz
        dsimp only at h1 h2 hv
        subst h1 h2 hv
        exact ⟨hget, rfl, rfl, trivial⟩
      exact PySem.W.kia_one (PySem.W.handS_kitx_exc C.hg C.hk C.hs C.hd C.ha C.hn C.ht C.hm) I.kIn J e (fun z => nomatch z) fun tk => ⟨.bl b, H, I.kept (t' := tk) fun _ _ z => z, rfl, q⟩
theorem de_isP {a C : Addr} {oe : Obj} {i : Nat} {n y : Str} {v : Bool} {cv : V} {cu : Value} (hpn : (a, oe) ∈ X.pn) (EC : ExcC X.K C) (hz : Zc (.ref C) none oe) (hv : ∃ vs, oe.data = .fields vs) (hp : g.pn = ([i], (fun _ => V.ref a), g.pn.2.2)) (hg : Gl X "isinstance") (hm : X.mg "isinstance" = none)
    (hx : PE X (.Name n p1) (tVar i)) (hT : PE X (.Name y p2) (tC cv)) (hcu : ∀ u, RelV cv u → u = cu) (kit : PySem.W.kitOne X.K (.ref C) cu = some v)
    (he : starEach [.Name n p1, .Name y p2] X.env = (false, eval (.Name n p1) X.env) :: starEach [.Name y p2] X.env := by rfl) (hpl : (backTo pos (starEach [.Name y p2] X.env)).any (·.1) = false := by rfl) :
    DE g X (.Call (.Name "isinstance" p3) [.Name n p1, .Name y p2] [] pos) (fC (.bool v)) := by
  refine PE.imp (pe_callB (call_isP hpn EC hz hv) hg hm bt_isinstance (pa_cons hx (pa_cons hT pa_nil)) (by decide) (by decide) he hpl) fun σ H Q q => ?_
  obtain ⟨I, env, F, s, p⟩ := q
  have e1 := s.pin i (by rw [hp]; simp)
  rw [hp] at e1
  exact ⟨.ref a, e1, cv, cu, v, rfl, hcu, kit, p (.bl v) H (aftC s (.bl v))⟩
theorem run_ofH {CX : CXT} {P : Program} {w : World} {K : PySem.W.Frag} {mg : Str → Option Value} {base : Heap} {k : Nat} {f : Addr} {name qual : Str} {params : Arguments} {body : List Stmt} {scope : Scope} {dV kV doc pm cdv ct oc : Value} {an od : Option Addr}
    {osl : Array (Option Value)} {N ps : List Str} (lk : K.lookup f = some ⟨oc, od, .func (PySem.W.fnOf name qual params body scope dV kV doc pm an cdv ct), osl⟩) (hcd : PySem.W.codeIn K cdv qual = true) (S : FnScope N ps scope)
    {A : Around} {outer : List PySem.Env} {s : Shared} {H : Hp} {args : Args} {us : List Value} {vs : List V} {Q : VK} {E : XK} {p : Addr × Obj} (hr : L2H.RoomH (k + 1) A) (hpin : L2H.PinOk outer H s p) (e0 : Env0 P w K mg base A outer s H) (hb : BindsTo s (PySem.W.fnOf name qual params body scope dV kV doc pm an cdv ct) args (ps.zip us)) (r : Vals vs us) (hl : vs.length = ps.length)
    (hbody : L2H.RoomH k (A.deeper (envOfC qual scope s.heap.objs.size f cdv)) → ∃ t, PSs (L2H.cxH CX P w K mg base N qual scope f cdv A outer s H E p) body t ∧ t { nx := fun _ H' => Q .non H', rt := Q } (L2.start N vs) H) :
    codeAny (model P w) A (.call (.ref f) args) (CR CX outer P w H s Q E) s := by
  have KX : K.In s.heap := e0.mod.kin.keeps fun b o e => (e0.bs b o e).1
  have lim : s.heap.NoLimit := e0.mod.nolimit.keeps fun b o e => (e0.bs b o e).1
  have hkind : ∀ y ∈ ps.zip us, scope.names.lookup y.1 = some .local ∨ (scope.names.lookup y.1 = some .cell ∧ ((cellsFrom (s.heap.objs.size + 1) scope.names []).lookup y.1).isSome = true) := fun ⟨n, v⟩ hy => by
    rcases S.par n (List.of_mem_zip hy).1 with q | q
    · exact .inl q
    · exact .inr ⟨q, PySem.W.cellsFrom_some _ _ _ (.inl q)⟩
  refine codeAny_call_function hr.depth (KX _ _ lk) rfl S.co S.gen rfl (PySem.W.codeRec_of KX hcd) (hb _ _ _ _ ?_)
  refine wpAny_newFunctionEnv_cells S.kind hkind fun env he s1 x => ?_
  subst he
  refine ⟨lim.keeps x.toInCall.keep, codeAny_func ?_⟩
  obtain ⟨t, ht, hq⟩ := hbody (hr.deeper _)
  have I : Inv (L2H.cxH CX P w K mg base N qual scope f cdv A outer s H E p) [] (L2.start N vs) H s1 := L2H.inv_startH S hpin e0 hl r x
  refine wpAny_mono (ht.run [] s1 (L2.start N vs) H _ I hq) (fun fl s' hs => ?_) fun e s' hs => hs
  have fin : ∀ {σ' : L2.St} {H' : Hp} {v : V} {u : Value}, Inv (L2H.cxH CX P w K mg base N qual scope f cdv A outer s H E p) [] σ' H' s' → L2.RelV v u → Q v H' → CE outer P w H s Q u s' :=
    fun {σ' H' v u} J rv q => ⟨v, H', J.os, J.bare, J.base, J.hok, rv, q⟩
  cases fl with
  | ret u =>
    obtain ⟨v, σ', H', J, rv, q⟩ := hs
    exact fin J rv q
  | next =>
    obtain ⟨σ', H', J, q⟩ := hs
    exact fin (v := V.non) (u := Value.none) J rfl q
  | brk =>
    obtain ⟨_, _, _, q⟩ := hs
    exact False.elim q
  | cont =>
    obtain ⟨_, _, _, q⟩ := hs
    exact False.elim q
def fKind (n : Nat) (f : SF) : EF := fun env => match f (List.replicate n none) with
  | .ok (.rt o, _) => .ok (.fr o.data, env)
  | _ => .no
theorem sim_pin0 {K : PySem.W.Frag} {T : List (Addr × Str)} {a : Addr} {I H : Hp} {N : List Str} (sub : Same I H) (tb : TabI T I H) (hl : 0 < N.length) : Sim K ([0], (fun _ => .ref a), T) I H (L2.start N [.ref a]) (List.replicate N.length none) (fun _ => []) := by
  refine ⟨?_, fun j o q => ?_, fun _ _ => rfl, fun _ _ _ h => (nomatch h), fun _ _ h => (nomatch h), sub, fun j hj => ?_, tb⟩
  · unfold L2.start; simp; omega
  · rw [List.getElem?_replicate] at q
    split at q <;> cases q
  · simp at hj; subst hj; unfold L2.start; rfl
theorem de_kind {X : Cx} {a : Addr} {oe : Obj} {xs aN n : Str} {gK : Addr} {fd : FuncData} {st : Stmt} {Ng : List Str} {k i : Nat} {fb : SF} {p pos : Pos}
    (hpn : (a, oe) ∈ X.pn) (hp : g.pn = ([i], (fun _ => V.ref a), g.pn.2.2)) (hg : Gl X xs) (hm : X.mg xs = some (.ref gK)) (hk : PySem.W.keepIn X.K (.ref gK) = true) (F : Fun X.K xs xs st gK fd) (hb : Binds X.K fd [aN] []) (S : FnScope Ng [aN] (defScope st)) (hgd : X.A.guards = some []) (hr : L2H.RoomH (k + 1) X.A)
    (hx : PE X (.Name n p1) (tVar i)) (hN : 0 < Ng.length)
    (hbody : ∀ (cdv : Value) (A : Around) (outer : List PySem.Env) (s : Shared) (H : Hp), (A.deeper (envOfC xs (defScope st) s.heap.objs.size gK cdv)).guards = some [] → L2H.RoomH k (A.deeper (envOfC xs (defScope st) s.heap.objs.size gK cdv)) →
      DSs ⟨g.K, g.mg, ([0], (fun _ => .ref a), g.pn.2.2), fun _ _ _ => False⟩ (L2H.cxH (L2.CX X.prog X.w) X.prog X.w X.K X.mg X.base Ng xs (defScope st) gK cdv A outer s H (fun _ _ _ => False) (a, oe)) (defBody st) fb)
    (hdb : (xs == ("__debug__" : Str)) = false := by decide)
    (he : starEach [.Name n p1] X.env = (false, eval (.Name n p1) X.env) :: starEach [] X.env := by rfl) (hpl : (backTo pos (starEach [] X.env)).any (·.1) = false := by rfl) :
    DE g X (.Call (.Name xs p) [.Name n p1] [] pos) (fKind Ng.length fb) := by
  refine ⟨fun pins s σ H Q J hh => ?_⟩
  obtain ⟨I, env, F0, sim, pp⟩ := hh
  have e1 := sim.pin i (by rw [hp]; simp)
  rw [hp] at e1
  refine wpAny_Call_Name_kw (ld_glob J hg hm ?_ hdb)
  refine PySem.W.callWith_K (h₀ := X.base) J.ok.mod.kin hk (thn ((pa_cons hx pa_nil).run pos pins s σ H (fun vs H1 => vs = [.ref a] ∧ H1 = H) J ⟨.ref a, e1, rfl, rfl⟩) fun us s1 hu => ?_) he hpl
  obtain ⟨vs, H1, J1, rr, rfl, eH⟩ := hu
  subst eH
  refine ⟨J1.kIn, ?_⟩
  have P1 := J1.pin (a, oe) (List.mem_append_left _ hpn)
  have hpin : L2H.PinOk X.stack H1 s1 (a, oe) := ⟨P1.1, P1.2.1, fun hm => (List.mem_cons.mp (J1.stkSub a hm)).elim P1.2.2.1 P1.2.2.2.1, P1.2.2.2.2⟩
  have hl : us.length = 1 := by rw [← rr.length]; rfl
  have rc : codeAny (model X.prog X.w) X.A (.call (.ref gK) ⟨us, []⟩) (CR (L2.CX X.prog X.w) X.stack X.prog X.w H1 s1 Q (fun _ _ _ => False)) s1 := by
    obtain ⟨oc, od, kV, doc, pm', an, cdv, ct, osl, rfl, lk, hcd⟩ := F.ex
    have b := hb s1 us J1.kIn (by rw [List.append_nil]; exact hl)
    rw [List.append_nil] at b
    refine run_ofH (N := Ng) (ps := [aN]) (us := us) (vs := [.ref a]) lk hcd S hr hpin J1.env0 b rr rfl fun hr' => ?_
    refine ⟨_, hbody cdv X.A X.stack s1 H1 hgd hr', ?_⟩
    refine ⟨I, List.replicate Ng.length none, fun _ => [], sim_pin0 sim.sub sim.tab hN, ?_⟩
    unfold fKind at pp
    cases qh : fb (List.replicate Ng.length none) with
    | no => rw [qh] at pp; exact pp.elim
    | er z => rw [qh] at pp; exact pp.elim
    | ok r =>
      rw [qh] at pp
      obtain ⟨fl, e⟩ := r
      cases fl with
      | nx => exact pp.elim
      | bk => exact pp.elim
      | ct => exact pp.elim
      | rt o =>
        intro v σ2 H2 af
        obtain ⟨I6, F6, rp6, s6, st6⟩ := af.frz
        obtain ⟨s5, st5⟩ := sim_over sim st6 s6.sub s6.tab
        exact pp v H2 (AftD.aft ⟨_, _, rp6, s5, st5⟩)
  refine wpAny_call (codeAny_mono rc fun r s2 hq => ?_)
  cases r with
  | error e =>
    obtain ⟨_, _, _, _, _, _, _, _, _, _, _, _, z⟩ := hq
    exact z.elim
  | ok fl =>
    cases fl with
    | ret u => exact J1.after hq
    | next => exact hq.elim
    | brk => exact hq.elim
    | cont => exact hq.elim
end
end Dy
namespace Dy
open PySem PySem.Spec PyProof.Rows L2
open LamX (TabB)
/-- the law is called where nothing is tracked but the script and the tables -/
theorem lawT {P : Program} {w : World} {K : PySem.W.Frag} {mg mb : Str → Option Value} {k : Nat} {fa a : Addr} {cs : List (Addr × Addr)} {fd : FuncData} {x : Str} {sp : Sp} {s1 : Shared} {vs : List Value} {ns : List Int}
    (KX : K.In s1.heap) (hns : s1.heap.Ns mainGlobals mg) (hb : s1.heap.Ns builtinsNs mb) (hbb : ∀ x : Str, x ≠ "__name__" → mb x = bootBuiltins x) (hlim : s1.heap.NoLimit) (hgs : s1.gens = #[])
    (hT : ∀ p ∈ cs, s1.heap.get? p.2 = some { cls := .none, data := .fields #[] }) (nT : ∀ p ∈ cs, K.lookup p.2 = none) (C : ∀ p ∈ cs, PySem.W.CodeHd s1.heap p.1 p.2)
    (hbm : ∃ (bm : Addr) (ob : Obj), mg "__builtins__" = some (.ref bm) ∧ bm ≠ builtinsNs ∧ s1.heap.get? bm = some ob ∧ ob.cls = .type "module" ∧ ob.dict = some builtinsNs ∧ ob.data = .plain)
    (ha : s1.heap.get? a = some { cls := .type "list", data := .seq vs.toArray }) (hi : IntsAre vs ns) (hl : ns.length ≤ sizeLine) (hr : Room k callerA)
    (F : ∀ base : Heap, K.In base → base.Ns mainGlobals mg → (∀ p ∈ cs, TabB base mg p.1 p.2) → FnG P w K mg base k fa fd [x] sp) (bind : ∀ (s : Shared) (u : Value), BindsTo s fd ⟨[u], []⟩ [(x, u)])
    (hsp : ∀ H : Hp, (∀ p ∈ cs, H p.2 = some (.tbl #[])) → LsL K H a (ns.map V.int) → sp [.ref a] H (fun v _ => v = .bl true) fun _ _ _ => False) :
    codeAny (model P w) callerA (.call (.ref fa) ⟨[.ref a], []⟩) (fun r s' => r = .ok (.ret (.bool true)) ∧ OldK s1.heap s'.heap ∧ s'.os = s1.os ∧ AllBare s'.gens) s1 := by
  have rv := vals_ints hi
  have hlen := hi.length
  let B : Addr → Prop := fun b => b ∈ cs.map (·.2)
  have dB : ∀ b, B b ∨ ¬ B b := fun b => Classical.em _
  have inB : ∀ p ∈ cs, B p.2 := fun p hp => List.mem_map.mpr ⟨p, hp, rfl⟩
  have isT : ∀ b, B b → s1.heap.get? b = some { cls := .none, data := .fields #[] } := fun b hb => by
    obtain ⟨p, hp, e⟩ := List.mem_map.mp hb
    rw [← e]; exact hT p hp
  have aT : ¬ B a := fun z => by
    have q := isT a z
    rw [ha] at q
    cases q
  suffices core : ∀ H : Hp, (∀ b, B b → H b = some (.tbl #[])) → (∀ b, ¬ B b → H b = none ∨ (b = a ∧ ∃ o xs, H b = some (.frz o (.lst xs)))) → LsL K H a (ns.map V.int) → HOk P w H s1.heap → (H a ≠ none → K.lookup a = none) →
      codeAny (model P w) callerA (.call (.ref fa) ⟨[.ref a], []⟩) (fun r s' => r = .ok (.ret (.bool true)) ∧ OldK s1.heap s'.heap ∧ s'.os = s1.os ∧ AllBare s'.gens) s1 by
    open Classical in
    cases hk : K.lookup a with
    | some o =>
      have e := KX a o hk
      rw [ha] at e
      cases e
      refine core (fun b => if B b then some (.tbl #[]) else none) (fun b hb => if_pos hb) (fun b hb => .inl (if_neg hb)) (Or.inr ⟨vs, _, hk, by rw [hlen]; exact hl, rv⟩) (fun b u z => ?_) (fun z => (z (if_neg aT)).elim)
      by_cases hb : B b
      · have z' := (if_pos hb).symm.trans z
        cases z'
        exact isT b hb
      · have z' := (if_neg hb).symm.trans z
        cases z'
    | none =>
      let o1 : Obj := { cls := .type "list", data := .seq vs.toArray }
      refine core (fun b => if B b then some (.tbl #[]) else if b = a then some (.frz o1 (.lst (ns.map V.int))) else none) (fun b hb => if_pos hb) (fun b hb => ?_) (Or.inl (Or.inr ⟨o1, (if_neg aT).trans (if_pos rfl)⟩)) (fun b u z => ?_) (fun _ => hk)
      · by_cases h : b = a
        · exact Or.inr ⟨h, o1, _, (if_neg hb).trans (if_pos h)⟩
        · exact Or.inl ((if_neg hb).trans (if_neg h))
      · by_cases hb : B b
        · have z' := (if_pos hb).symm.trans z
          cases z'
          exact isT b hb
        · have z1 := (if_neg hb).symm.trans z
          by_cases h : b = a
          · have z' := (if_pos h).symm.trans z1
            cases z'
            rw [h]
            exact ⟨ha, by rw [List.length_map]; exact hl, vs, _, rv, ha⟩
          · have z' := (if_neg h).symm.trans z1
            cases z'
  intro H hB hO hS hok hK
  have up : ∀ {b : Addr} {o : Obj}, s1.heap.get? b = some o → H b = none → (hidT s1.heap H).get? b = some o := fun e n => hidT_get e n
  have free : ∀ {b : Addr} {o : Obj}, s1.heap.get? b = some o → (∀ vs n, o.data ≠ .seq vs n) → o.data ≠ .fields #[] → H b = none := by
    intro b o e d1 d2
    rcases dB b with hb | hb
    · rw [isT b hb] at e
      cases e
      exact (d2 rfl).elim
    · rcases hO b hb with z | ⟨z, _⟩
      · exact z
      · rw [z, ha] at e
        cases e
        exact (d1 _ _ rfl).elim
  have freeD : ∀ {b : Addr} {o : Obj} {es : Array DictEntry} {ep : Nat}, s1.heap.get? b = some o → o.data = .dict es ep → H b = none := by
    intro b o es ep e d
    refine free e (fun vs n z => ?_) fun z => ?_
    · rw [d] at z; cases z
    · rw [d] at z; cases z
  have ns' : ∀ {b : Addr} {m : Str → Option Value}, s1.heap.Ns b m → (hidT s1.heap H).Ns b m := by
    rintro b m ⟨o, es, ep, e, d, r⟩
    exact ⟨o, es, ep, up e (freeD e d), d, r⟩
  have kin : K.In (hidT s1.heap H) := by
    intro b o e
    refine up (KX b o e) ?_
    rcases dB b with hb | hb
    · obtain ⟨p, hp, ep⟩ := List.mem_map.mp hb
      rw [← ep, nT p hp] at e
      cases e
    · rcases hO b hb with z | ⟨z, o2, xs, q⟩
      · exact z
      · subst z
        rw [hK (by rw [q]; exact fun h => by cases h)] at e
        cases e
  have hM : Mod K mg (hidT s1.heap H) := by
    refine ⟨kin, ns' hns, ⟨mb, ns' hb, hbb⟩, ?_⟩
    obtain ⟨mc, h1, h2⟩ := hlim
    exact ⟨mc, ns' h1, h2⟩
  have TB : ∀ p ∈ cs, TabB (hidT s1.heap H) mg p.1 p.2 := fun p hp => by
    refine ⟨?_, ?_, fun z => ?_⟩
    · obtain ⟨o, us, file, tf, flags, tg, inF, text, tt, e1, r1, r2, r3, r4, r5, r6, r7, r8, hne⟩ := C p hp
      refine ⟨o, us, file, tf, flags, tg, inF, text, tt, up e1 (free e1 (fun vs n z => ?_) fun z => ?_), r1, r2, r3, r4, r5, r6, r7, r8, hne⟩
      · rw [r2] at z; cases z
      · rw [r2] at z; cases z
        simp at r3
    · obtain ⟨bm, ob, b1, b2, b3, b4, b5, b6⟩ := hbm
      have nG : bm ≠ mainGlobals := fun q => by
        obtain ⟨o, es, ep, e, hd, _⟩ := hns
        rw [q, e] at b3; cases b3
        rw [hd] at b6; cases b6
      have nP : bm ≠ p.2 := fun q => by
        rw [q, hT p hp] at b3; cases b3
        cases b6
      refine ⟨bm, ob, b1, b2, nG, nP, up b3 (free b3 (fun vs n z => ?_) fun z => ?_), b4, b5, b6⟩
      · rw [b6] at z; cases z
      · rw [b6] at z; cases z
    · obtain ⟨o, es, ep, e, hd, _⟩ := hns
      rw [z, hT p hp] at e; cases e
      cases hd
  have e0 : L2.Env0 P w K mg (hidT s1.heap H) callerA [] s1 H :=
    { frames := rfl, mod := hM, bs := fun b o e => of_hidT e, bsz := Nat.le_of_eq (hidT_size _ _), funs := trivial, frf := fun b z => (nomatch (show b ∈ ([] : List Addr) from z)), hok := hok, bare := .of_eq hgs }
  refine codeAny_mono ((F _ kin (ns' hns) TB).run callerA [] s1 H ⟨[.ref a], []⟩ [.ref a] [.ref a] _ _ rfl hr e0 (bind s1 (.ref a)) (.cons rfl .nil) (hsp H (fun p hp => hB _ (inB p hp)) hS)) ?_
  intro r s' h
  cases r with
  | error e =>
    obtain ⟨_, _, _, _, _, _, _, _, _, _, _, _, z⟩ := h
    exact z.elim
  | ok fl =>
    cases fl with
    | next => exact h.elim
    | brk => exact h.elim
    | cont => exact h.elim
    | ret u =>
      obtain ⟨v, H', os, bare, un, hok', r', q⟩ := h
      have q : v = .bl true := q
      subst q
      cases (show u = Value.bool true from r')
      have key : ∀ b o, ¬ B b → s1.heap.get? b = some o → s'.heap.get? b = some o := fun b o nb e => by
        rcases hO b nb with z | ⟨_, ob, xs, z⟩
        · exact un.keep b o e z (fun h => by cases (show b ∈ ([] : List Addr) from h)) (by simp)
        · obtain ⟨e1, _⟩ := hok b _ z
          obtain ⟨e2, _⟩ := hok' b _ (un.frzs b ob _ z)
          rw [e] at e1; cases e1
          exact e2
      have grown : ∀ p ∈ cs, ∃ more : Array Value, s'.heap.get? p.2 = some { cls := .none, data := .fields more } := fun p hp => by
        obtain ⟨more, z⟩ := un.tbls p.2 #[] (hB _ (inB p hp))
        exact ⟨_, hok' p.2 _ z⟩
      refine ⟨rfl, ⟨fun b o e => ?_, fun b o e => ?_⟩, os, bare⟩
      · rcases dB b with hb | hb
        · obtain ⟨p, hp, ep⟩ := List.mem_map.mp hb
          obtain ⟨more, hm⟩ := grown p hp
          rw [← ep] at e ⊢
          rw [hT p hp] at e
          cases e
          exact .inr (.inl ⟨((C p hp).tab (hT p hp)).isCodeTable, rfl, #[], more, rfl, by rw [Array.empty_append]; exact hm⟩)
        · exact .inl (key b o hb e)
      · rcases dB b with hb | hb
        · obtain ⟨p, hp, ep⟩ := List.mem_map.mp hb
          obtain ⟨more, hm⟩ := grown p hp
          rw [← ep]
          exact ⟨_, hm⟩
        · exact ⟨o, key b o hb e⟩
/-- what is known of the law at the head's heap h -/
def LawAtT (l : PySem.W.OpenLaw) (w : World) (K : PySem.W.Frag) (k n : Nat) (x : Str) (mg : Str → Option Value) (fa : Addr) (h : Heap) : Prop :=
  ∃ (fd : FuncData) (cs : List (Addr × Addr)) (sp : Sp), (∀ p ∈ cs, h.get? p.2 = some { cls := .none, data := .fields #[] }) ∧ (∀ p ∈ cs, K.lookup p.2 = none) ∧ (∀ p ∈ cs, PySem.W.CodeHd h p.1 p.2) ∧ (∀ (s : Shared) (u : Value), BindsTo s fd ⟨[u], []⟩ [(x, u)]) ∧
    (∀ (H : Hp) (a : Addr) (ns : List Int), ns.length ≤ n → (∀ p ∈ cs, H p.2 = some (.tbl #[])) → LsL K H a (ns.map V.int) → sp [.ref a] H (fun v _ => v = .bl true) fun _ _ _ => False) ∧
    ∀ base : Heap, K.In base → base.Ns mainGlobals mg → (∀ p ∈ cs, TabB base mg p.1 p.2) → FnG l.prog w K mg base k fa fd [x] sp
theorem walkT {l : PySem.W.OpenLaw} {n k : Nat} {q : Program} {loose : List Str} {XP : (Str → Option Value) → Heap → Prop} {YP : World → Heap → Prop} {d : DefRec} {x : Str}
    (hn : l.most = some n) (hn2 : n ≤ sizeLine) (hdf : d.params.defaults = []) (hr : Room k callerA)
    (F : ∀ (w : World) (mg : Str → Option Value) (fa : Addr) (h : Heap), YP w h → h.Ns mainGlobals mg → mg d.name = some (.ref fa) → ∃ K : PySem.W.Frag, K.In h ∧ LawAtT l w K k n x mg fa h) :
    PySem.W.WalkO q loose XP YP l.row.toRowW d [] (fun f vs => PySem.call f vs) := by
  refine Att.attach_callB hn hdf ?_
  intro w s0 s1 mg mb fa o pm cd doc a vs ns G Y ho hd hcd hmg hobj hints hlen hbits hgs
  obtain ⟨K, KX, fd, cs, sp, hT, nT, C, hb, hsp, hF⟩ := F w mg fa _ Y G.T.g hmg
  exact lawT KX G.T.g G.T.b G.T.builtins G.T.nolimit hgs hT nT C G.T.bmain hobj hints (Nat.le_trans hlen hn2) hr hF hb fun H hH hS => hsp H a ns hlen hH hS
/-- H without the tables -/
def noTab (H : Hp) : Hp := fun b => match H b with
  | some (.tbl _) => none
  | o => o
theorem noTab_of {H : Hp} {b : Addr} {o : HO} (h : H b = some o) (n : NT o) : noTab H b = some o := by
  unfold noTab
  rw [h]
  cases o with
  | tbl ps => exact (n ps rfl).elim
  | _ => rfl
theorem noTab_same {H : Hp} : Same (noTab H) H := fun b o h => by
  unfold noTab at h
  split at h
  · cases h
  · exact h
theorem law_okT {K : PySem.W.Frag} {mg : Str → Option Value} {T : List (Addr × Str)} {H : Hp} {a : Addr} {ns : List Int} {m : Fn} {os' : List O} (h : m [.fr (.list (ns.map PyData.int))] = .ok (.fr (.bool true), os')) (hT : ∀ p ∈ T, H p.1 = some (.tbl #[])) (hF : ∀ p ∈ T, isFld p.2 = false) (hS : LsL K H a (ns.map V.int)) :
    spD K mg T m [.ref a] H (fun v _ => v = .bl true) fun _ _ _ => False := by
  have hS2 : LsL K (noTab H) a (ns.map V.int) := by
    rcases hS with (z | ⟨o, z⟩) | z
    · exact .inl (.inl (noTab_of z fun _ e => by cases e))
    · exact .inl (.inr ⟨o, noTab_of z fun _ e => by cases e⟩)
    · exact .inr z
  refine ⟨noTab H, [.fr (.list (ns.map PyData.int))], fun _ => [], ⟨rfl, fun i o q => ?_, fun _ _ => rfl, fun i j a h => (nomatch h), fun i a h => (nomatch h), noTab_same, (fun i hi => (nomatch hi)), fun p hp => ?_⟩, ?_⟩
  · cases i with
    | zero =>
      cases q
      exact ⟨_, rfl, rfl, .lst hS2 (rp_ints ns)⟩
    | succ i => simp at q
  · rw [if_neg (by rw [hF p hp]; decide)]
    refine ⟨#[], hT p hp, ?_, ?_, fun pos cv hc => ?_⟩
    · unfold noTab; rw [hT p hp]
    · first | exact trivial | exact .nil | simp [TriplesOk]
    · simp [codeAmong] at hc
  · rw [h]
    intro v H' ⟨I', F', R, r, _⟩
    cases r.2
    rfl
end Dy
namespace Dy
open PySem PySem.Spec PyProof.Rows L2
open LamX (TabB)
theorem fun_of {K : PySem.W.Frag} {x qual : Str} {st : Stmt} {f : Addr} {fd : FuncData} (F : FunD K x qual (defArgs st) (defBody st) (defScope st) [] [] f fd) : Fun K x qual st f fd := by
  obtain ⟨oc, od, dV, kV, doc, pm, an, cdv, ct, osl, e, lk, hc, hd, _⟩ := F.ex
  rcases hd with ⟨_, rfl⟩ | ⟨z, _⟩
  · exact ⟨⟨oc, od, kV, doc, pm, an, cdv, ct, osl, e, lk, hc⟩, F.kp⟩
  · exact (z rfl).elim
/-- the code object that the head has found -/
theorem code_of {K : PySem.W.Frag} {x qual : Str} {st : Stmt} {fd : FuncData} (F : Fun K x qual st (He.fAd K (x, none)) fd) : fd.code = .ref (He.cT K (x, none)).1 := by
  obtain ⟨oc, od, kV, doc, pm, an, cdv, ct, osl, rfl, lk, hcd⟩ := F.ex
  obtain ⟨c, rfl⟩ := He.codeIn_ref hcd
  have e := He.codeOf_eq (c := c) lk rfl
  show Value.ref c = .ref (He.codeOf K (x, none))
  rw [e]
def CallB (P : Program) (w : World) (K : PySem.W.Frag) (mg : Str → Option Value) (base : Heap) (T : List (Addr × Str)) (k : Nat) (x : Str) (ps : List Str) (m : Fn) : Prop :=
  ∃ f fd, mg x = some (.ref f) ∧ PySem.W.keepIn K (.ref f) = true ∧ Binds K fd ps [] ∧ FnG P w K mg base k f fd ps (spD K mg T m)
theorem CallB.mono {P : Program} {w : World} {K : PySem.W.Frag} {mg : Str → Option Value} {base : Heap} {T : List (Addr × Str)} {j k : Nat} {x : Str} {ps : List Str} {m : Fn} (h : CallB P w K mg base T j x ps m) (l : j ≤ k) : CallB P w K mg base T k x ps m := by
  obtain ⟨f, fd, h1, h2, h3, h4⟩ := h
  exact ⟨f, fd, h1, h2, h3, h4.mono l⟩
theorem callB_of {T : List (Addr × Str)} {P : Program} {w : World} {K : PySem.W.Frag} {mg : Str → Option Value} {base : Heap} {k : Nat} {x qual : Str} {st : Stmt} {f : Addr} {fd : FuncData} {ps : List Str} {m : Fn} (F : Fun K x qual st f fd) (hm : mg x = some (.ref f)) (hb : Binds K fd ps []) (h : FnG P w K mg base k f fd ps (spD K mg T m)) : CallB P w K mg base T k x ps m :=
  ⟨f, fd, hm, F.kp, hb, h⟩
section
variable {T : List (Addr × Str)} {g : G} {X : Cx} {k : Nat} {ps : List Str} {m : Fn} {x : Str} {p pos : Pos} {e : Expr} {es : List Expr} {as : List AF}
theorem dcallB (c : CallB X.prog X.w X.K X.mg X.base T k x ps m) (hgd : X.A.guards = some []) (hr : Room k X.A) (hg : Gl X x) (hx : Passes (L2.CX X.prog X.w) X g.E)
    (ha : DA g X (e :: es) as) (hK : g.K = X.K := by rfl) (hM : g.mg = X.mg := by rfl) (hT : g.pn.2.2 = T := by rfl) (hdb : (x == ("__debug__" : Str)) = false := by decide) (he : starEach (e :: es) X.env = (false, eval e X.env) :: starEach es X.env := by rfl) (hpl : (backTo pos (starEach es X.env)).any (·.1) = false := by rfl) :
    DE g X (.Call (.Name x p) (e :: es) [] pos) (fCall m as) := by
  obtain ⟨f, fd, h1, h2, h3, h4⟩ := c
  exact de_call (X := X) (by rw [hK, hM, hT]; exact h4) hgd hr hg h1 h2 h3 hx ha hdb he hpl
end
theorem ruH64 {k : Nat} {A : Around} (h : L2H.RoomH k A) : A.units + 64 < cLine := by have := h.un; omega
theorem ruH65 {k : Nat} {A : Around} (h : L2H.RoomH k A) : A.units + 65 < cLine := by have := h.un; omega
/-- L: the classes whose instances are raised and caught; A: the classes that are asked for; pe: the one that is caught -/
structure ExcSet (K : PySem.W.Frag) (mg : Str → Option Value) (L A : List Str) (pe : Str) (PE : Addr) : Prop where
  pe : mg pe = some (.ref PE)
  ok : ∀ x ∈ L, ∃ C, ExcOk K mg x C ∧ ExcC K C ∧ TryX K mg PE x C ∧ PySem.W.kitOne K (.ref C) (.type "ValueError") = some true
  kit : ∀ x ∈ L, ∀ y ∈ A, ∃ C D, mg x = some (.ref C) ∧ mg y = some (.ref D) ∧ PySem.W.kitOne K (.ref C) (.ref D) = some (decide (x = y))
def excB (K : PySem.W.Frag) (C : Addr) : Bool :=
  He.eqO (PySem.W.findIn K (.ref C) "__getattribute__") (some (some (.builtin "BaseException.__getattribute__"))) &&
  (He.eqO (PySem.W.findIn K (.ref C) "__getattr__") (some none) &&
  (decide (PySem.W.subIn K (.ref C) (.type "BaseException") = some true) &&
  (PySem.W.hasDictIn K C &&
  (He.eqO (PySem.W.findIn K (.ref C) "__class__") (some (some (.builtin "object.__class__"))) &&
  (He.eqO (PySem.W.specialIn K (.builtin "object.__class__") "__get__") (some (some (.builtin "getset_descriptor.__get__"))) &&
  (decide (PySem.W.takesIn K (.builtin "object.__class__") = some true) &&
  decide (PySem.W.mroIn K C (.type "object") = some true)))))))
theorem excB_ok {K : PySem.W.Frag} {C : Addr} (h : excB K C = true) : ExcC K C := by
  obtain ⟨h1, h⟩ := He.ba h
  obtain ⟨h2, h⟩ := He.ba h
  obtain ⟨h3, h⟩ := He.ba h
  obtain ⟨h4, h⟩ := He.ba h
  obtain ⟨h5, h⟩ := He.ba h
  obtain ⟨h6, h⟩ := He.ba h
  obtain ⟨h7, h8⟩ := He.ba h
  exact ⟨He.eqO_ok h1, He.eqO_ok h2, of_decide_eq_true h3, h4, He.eqO_ok h5, He.eqO_ok h6, of_decide_eq_true h7, of_decide_eq_true h8⟩
def oneB (K : PySem.W.Frag) (A : List Str) (pe x : Str) : Bool :=
  (He.Fa.glo x).ok K && ((He.Fa.exc x).ok K && (excB K (He.ga K x) && ((He.Fa.exm x pe true).ok K && (decide (PySem.W.kitOne K (.ref (He.ga K x)) (.type "ValueError") = some true) &&
    A.all fun y => (He.Fa.glo y).ok K && decide (PySem.W.kitOne K (.ref (He.ga K x)) (.ref (He.ga K y)) = some (decide (x = y)))))))
def setB (L A : List Str) (pe : Str) (K : PySem.W.Frag) : Bool := (He.Fa.glo pe).ok K && L.all fun x => oneB K A pe x
theorem setB_ok {K : PySem.W.Frag} {h : Heap} {mg : Str → Option Value} {L A : List Str} {pe : Str} (X : K.In h) (G : h.Ns mainGlobals mg) (b : setB L A pe K = true) : ExcSet K mg L A pe (He.ga K pe) := by
  obtain ⟨b1, b2⟩ := He.ba b
  refine ⟨He.glo_ok X G b1, fun x hx => ?_, fun x hx y hy => ?_⟩
  · obtain ⟨c1, c⟩ := He.ba (List.all_eq_true.mp b2 x hx)
    obtain ⟨c2, c⟩ := He.ba c
    obtain ⟨c3, c⟩ := He.ba c
    obtain ⟨c4, c⟩ := He.ba c
    obtain ⟨c5, c6⟩ := He.ba c
    obtain ⟨e1, e2, e3, e4⟩ := He.exc_ok c2
    have g := He.glo_ok X G c1
    exact ⟨He.ga K x, ⟨g, e1, e2, e3, e4⟩, excB_ok c3, ⟨g, He.exm_ok c4⟩, of_decide_eq_true c5⟩
  · obtain ⟨c1, c⟩ := He.ba (List.all_eq_true.mp b2 x hx)
    obtain ⟨c2, c⟩ := He.ba c
    obtain ⟨c3, c⟩ := He.ba c
    obtain ⟨c4, c⟩ := He.ba c
    obtain ⟨c5, c6⟩ := He.ba c
    obtain ⟨d1, d2⟩ := He.ba (List.all_eq_true.mp c6 y hy)
    exact ⟨He.ga K x, He.ga K y, He.glo_ok X G c1, He.glo_ok X G d1, of_decide_eq_true d2⟩
section
variable {g : G} {X : Cx} {a b c e : Expr} {es : List Expr} {pos p1 p2 p3 px : Pos} {L A : List Str} {pe : Str} {PEa : Addr}
theorem ds_raiseS {x m : Str} {j : Nat} (S : ExcSet X.K X.mg L A pe PEa) (hL : x ∈ L) (hc : X.calm = true) (tk : Takes X (fun cls d _ H => g.E cls d H)) (hg : Gl X x) (hM : g.mg = X.mg := by rfl) (hdb : (x == ("__debug__" : Str)) = false := by decide) :
    DS g X (.Raise (some (.Call (.Name x p1) [.Constant (.str m) j p2] [] p3)) none pos) (fRaise x) := by
  obtain ⟨C, h, _⟩ := S.ok x hL
  exact ds_raise hc tk h hg hM hdb
theorem de_isK {a C : Addr} {oe : Obj} {i : Nat} {n x y : Str} (S : ExcSet X.K X.mg L A pe PEa) (hx0 : x ∈ L) (hC : X.mg x = some (.ref C)) (hy : y ∈ A) (hpn : (a, oe) ∈ X.pn) (hz : Zc (.ref C) none oe) (hv : ∃ vs, oe.data = .fields vs) (hp : g.pn = ([i], (fun _ => V.ref a), g.pn.2.2)) (hg : Gl X "isinstance") (hm : X.mg "isinstance" = none)
    (hx : PE X (.Name n p1) (tVar i)) (hgy : Gl X y) (hdy : (y == ("__debug__" : Str)) = false := by decide)
    (he : starEach [.Name n p1, .Name y p2] X.env = (false, eval (.Name n p1) X.env) :: starEach [.Name y p2] X.env := by rfl) (hpl : (backTo pos (starEach [.Name y p2] X.env)).any (·.1) = false := by rfl) :
    DE g X (.Call (.Name "isinstance" p3) [.Name n p1, .Name y p2] [] pos) (fC (.bool (decide (x = y)))) := by
  obtain ⟨C1, h1, h2, _⟩ := S.ok x hx0
  obtain ⟨C2, D, h3, h4, h5⟩ := S.kit x hx0 y hy
  have e1 := h1.g; rw [hC] at e1; cases e1
  rw [hC] at h3; cases h3
  exact de_isP hpn h2 hz hv hp hg hm hx (pe_glob (u := .ref D) (v := .ref D) hgy h4 rfl hdy) (fun u r => r) h5 he hpl
theorem de_isVE {a C : Addr} {oe : Obj} {i : Nat} {n x : Str} (S : ExcSet X.K X.mg L A pe PEa) (hx0 : x ∈ L) (hC : X.mg x = some (.ref C)) (hpn : (a, oe) ∈ X.pn) (hz : Zc (.ref C) none oe) (hv : ∃ vs, oe.data = .fields vs) (hp : g.pn = ([i], (fun _ => V.ref a), g.pn.2.2)) (hg : Gl X "isinstance") (hm : X.mg "isinstance" = none)
    (hx : PE X (.Name n p1) (tVar i)) (hT : PE X (.Name "ValueError" p2) (tC (.ty "ValueError")))
    (he : starEach [.Name n p1, .Name "ValueError" p2] X.env = (false, eval (.Name n p1) X.env) :: starEach [.Name "ValueError" p2] X.env := by rfl) (hpl : (backTo pos (starEach [.Name "ValueError" p2] X.env)).any (·.1) = false := by rfl) :
    DE g X (.Call (.Name "isinstance" p3) [.Name n p1, .Name "ValueError" p2] [] pos) (fC (.bool true)) := by
  obtain ⟨C1, h1, h2, _, h5⟩ := S.ok x hx0
  have e1 := h1.g; rw [hC] at e1; cases e1
  exact de_isP hpn h2 hz hv hp hg hm hx hT (fun u r => r) h5 he hpl
end
theorem memS {x : Str} {A : List Str} (h : A.contains x = true) : x ∈ A := List.contains_iff_mem.mp h
theorem bt_ValueError : bootBuiltins "ValueError" = some (.type "ValueError") := by decide +kernel
abbrev lamN (x : Str) : Str := (envOfC x ⟨.function, [], false, false, []⟩ 0 0 .none).qual ++ "<lambda>"
def TT (K : PySem.W.Frag) (TF : List He.Defn) : List (Addr × Str) := TF.map fun p => ((He.cT K p).2, lamN p.1)
theorem hm_of {K : PySem.W.Frag} {TF : List He.Defn} {x : He.Defn} (h : x ∈ TF) : ((He.cT K x).2, lamN x.1) ∈ TT K TF := List.mem_map.mpr ⟨x, h, rfl⟩
def ndB (TF : List He.Defn) (K : PySem.W.Frag) : Bool := TF.all fun p => TF.all fun q => decide ((He.cT K p).2 = (He.cT K q).2 → p = q)
theorem hu_of {K : PySem.W.Frag} {TF : List He.Defn} (h : ndB TF K = true) {x : He.Defn} (hx : x ∈ TF) : ∀ p ∈ TT K TF, p.1 = (He.cT K x).2 → p.2 = lamN x.1 := fun p hp e => by
  obtain ⟨q, hq, rfl⟩ := List.mem_map.mp hp
  have h2 := List.all_eq_true.mp (List.all_eq_true.mp h q hq) x hx
  have e2 := of_decide_eq_true h2 e
  rw [e2]
/-- what the head tells, and the law's promise -/
theorem lawAt_of {l : PySem.W.OpenLaw} {w : World} {K : PySem.W.Frag} {k n : Nat} {x : Str} {mg : Str → Option Value} {fa : Addr} {h : Heap} {FA : List He.Fa} {FN : List He.DefD} {TF : List He.Defn} {EX : PySem.W.Frag → Bool} {fd : FuncData} {m : Fn} (X : K.In h) (S : He.SaysX FA FN [] TF EX w h K)
    (hb : ∀ (s : Shared) (u : Value), BindsTo s fd ⟨[u], []⟩ [(x, u)]) (lt : ∀ ns : List Int, ns.length ≤ n → ∃ os, m [.fr (.list (ns.map PyData.int))] = .ok (.fr (.bool true), os))
    (F : ∀ base : Heap, (∀ p ∈ TF, TabB base mg (He.cT K p).1 (He.cT K p).2) → FnG l.prog w K mg base k fa fd [x] (spD K mg (TT K TF) m)) : LawAtT l w K k n x mg fa h := by
  refine ⟨fd, TF.map (He.cT K), spD K mg (TT K TF) m, fun p hp => ?_, fun p hp => ?_, fun p hp => ?_, hb, fun H a ns hl hT hS => ?_, fun base _ _ tb => F base fun p hp => tb _ (List.mem_map.mpr ⟨p, hp, rfl⟩)⟩
  · obtain ⟨q, hq, rfl⟩ := List.mem_map.mp hp
    exact S.empty q hq
  · obtain ⟨q, hq, rfl⟩ := List.mem_map.mp hp
    exact S.out q hq
  · obtain ⟨q, hq, rfl⟩ := List.mem_map.mp hp
    exact PySem.W.codeHd_of_K X (S.hd q hq)
  · obtain ⟨os, e⟩ := lt ns hl
    refine law_okT e (fun p hp => ?_) (fun p hp => by obtain ⟨q, hq, rfl⟩ := List.mem_map.mp hp; exact lam_nf _) hS
    obtain ⟨q, hq, rfl⟩ := List.mem_map.mp hp
    exact hT _ (List.mem_map.mpr ⟨q, hq, rfl⟩)
/-- the statements of the suite of def said -/
def suiteOf (st : Stmt) : List Stmt := match defBody st with
  | [.Try _ [.ExceptHandler _ _ b _] _ _ _] => b
  | _ => []
end Dy
namespace Dy
open PySem PySem.Spec PyProof.Rows L2
section
variable {X : Cx} {K : PySem.W.Frag}
end
end Dy
namespace Dy
open PySem PySem.Spec PyProof.Rows L2
section
variable {g : G} {X : Cx} {a b c e : Expr} {es : List Expr} {pos p tpos : Pos} {σ : St} {H : Hp} {tg : Expr}
end
end Dy
namespace Dy
open PySem PySem.Spec PyProof.Rows L2
section
variable {g : G} {X : Cx} {a b c e : Expr} {es : List Expr} {pos p1 p2 px : Pos} {σ : St} {H I I' H1 : Hp} {env e' : Env} {F F' : Nat → List Addr} {D : Ends}
theorem Step.more {S S1 S2 : Addr → Prop} (a : Step I H S I' H1 S1) (h : ∀ x, S x → S2 x) : Step I H S2 I' H1 S1 :=
  ⟨a.i1, fun x o q n => a.fr x o q fun z => n (h x z), fun x o q n => a.th x o q fun z => n (h x z), fun x q => (a.s' x q).imp (h x) id, fun x o q => (a.i' x o q).imp id (Or.imp (h x) id)⟩
theorem RpAll.erase {K : PySem.W.Frag} {I : Hp} : ∀ {vs : List V} {ds : List PyData} (j : Nat), RpAll K I vs ds → RpAll K I (vs.eraseIdx j) (ds.eraseIdx j)
  | _, _, _, .nil => .nil
  | _, _, 0, .cons _ t => t
  | _, _, j + 1, .cons h t => .cons h (t.erase j)
end
end Dy
namespace Dy
open PySem PySem.Spec PyProof.Rows L2
open PySem.W (alike alike_all_cons toks_eqv eqAt_alike oneLt_alike dataLt EachIs AllAlike Sortable SortsAt keyToks sortLe sortVals sorted_vals sortVals_each dataLe dataType looks_reads dataType_alike dataType_tuple each_katTups kat_lt kat_cons kat_yes kat_no kat_nil kat_kind KeyedOut sorted_data alike_unique sort_unique sortLe_total sameRank)
open Classical in
section
variable {h : Heap} {ds : List PyData}
end
section
variable {prog : Program} {w : World} {A : Around} {s : Shared}
end
section
variable {X : Cx} {K : PySem.W.Frag}
end
end Dy
namespace Dy
open PySem PySem.Spec PyProof.Rows L2
section
variable {g : G} {X : Cx} {a b c e : Expr} {es : List Expr} {pos p1 p2 p3 px py : Pos} {σ : St} {H I I' H1 : Hp} {env e' : Env} {F F' : Nat → List Addr} {D : Ends}
end
section
variable {X : Cx} {K : PySem.W.Frag}
end
end Dy
namespace Dy
open PySem PySem.Spec PyProof.Rows L2
section
variable {X : Cx}
end
section
variable {g : G} {X : Cx} {a b c e : Expr} {es : List Expr} {pos p1 p2 p3 px py : Pos} {σ : St} {H I I' H1 : Hp} {env e' : Env} {F F' : Nat → List Addr} {D : Ends}
end
end Dy
namespace Dy
open PySem PySem.Spec PyProof.Rows L2
section
variable {g : G} {X : Cx} {a b c e : Expr} {es : List Expr} {pos p1 p2 p3 : Pos} {x : AF}
end
section
variable {g : G} {X : Cx} {pos p1 px : Pos} {σ : St} {H : Hp}
end
end Dy
namespace Dy
open PySem PySem.Spec PyProof.Rows L2
section
variable {X : Cx} {pins : List (Addr × Obj)} {σ : St} {H : Hp} {s : Shared} {a C : Addr} {xs : Str} {i : Nat} {E : Value → Shared → Prop}
end
end Dy
namespace Dy
open PySem PySem.Spec PyProof.Rows L2
section
variable {CX : CXT} {P : Program} {w : World} {K : PySem.W.Frag} {mg : Str → Option Value} {base : Heap} {N : List Str} {qual : Str} {scope : Scope} {f cc C : Addr} {cd cl : Value} {cld : Option Addr} {csl : Array (Option Value)} {A : Around} {outer : List PySem.Env} {s : Shared} {H : Hp} {E : XK} {us : List Value} {vs : List V} {h₀ : Heap} {tk : Nat}
end
end Dy
namespace Dy
open PySem PySem.Spec PyProof.Rows L2
section
variable {X : Cx} {H : Hp} {s : Shared} {a C : Addr} {p q : Int} {q0 q1 q2 q3 q4 q5 q6 q7 q8 q9 q10 r1 r2 r3 r4 t1 t2 t3 t4 : Pos} {j : Nat} {mid : Str}
end
end Dy
namespace Dy
open PySem PySem.Spec PyProof.Rows L2
section
variable {g : G} {X : Cx} {e1 e2 : Expr} {p1 p3 pos : Pos} {mid : Str}
end
end Dy
namespace Dy
open PySem PySem.Spec PyProof.Rows L2
theorem str_app_len (a b : Str) : (a ++ b).length = a.length + b.length := by
  show (a.cps ++ b.cps).size = _
  rw [Array.size_append]; rfl
section
variable {g : G} {X : Cx} {a C dx : Addr} {oe : Obj} {pn : List (Addr × Obj)} {i : Nat} {n : Str} {p1 pos : Pos} {p q : Int}
end
end Dy
namespace Dy
open PySem PySem.Spec PyProof.Rows L2
open LamX (CodeO TabB LamS lamEnv lamCx)
section
variable {g : G} {X : Cx} {a b c e : Expr} {es : List Expr} {pos p1 p2 p3 px : Pos} {σ : St} {H I : Hp} {env : Env} {F : Nat → List Addr} {D : Ends} {st : Stmt} {sts : List Stmt}
end
section
variable {g : G} {X : Cx} {a b c e e1 e2 : Expr} {es : List Expr} {pos p1 p2 p3 px : Pos} {A : List Str} {PEa : Addr} {mid : Str}
end
end Dy
namespace Dy
open PySem PySem.Spec PyProof.Rows L2
open LamX (CodeO TabB LamS lamEnv lamCx)
section
variable {g : G} {X : Cx}
end
end Dy
namespace Dy
open PySem PySem.Spec PyProof.Rows L2
section
variable {q0 q1 q2 q3 q4 q5 q6 q7 q8 q9 q10 r1 r2 r3 r4 t1 t2 t3 t4 : Pos} {j : Nat} {mid : Str}
end
end Dy
namespace Dy
open PySem PySem.Spec PyProof.Rows L2
section
variable {g : G} {X : Cx} {e : Expr} {y : Exn} {f : Int → Int → EF} {p q : Int}
end
section
variable {X : Cx}
end
end Dy
namespace Dy
open PySem PySem.Spec PyProof.Rows L2
open LamX (CodeO TabB LamS lamEnv lamCx)
section
variable {g : G} {X : Cx}
end
end Dy
namespace Dy
open PySem PySem.Spec PyProof.Rows L2
section
variable {g : G} {X : Cx} {a C dx : Addr} {oe : Obj} {i : Nat} {n x : Str} {p1 pos : Pos} {p q : Int} {A : List Str} {PEa : Addr} {mid : Str}
end
end Dy
namespace Dy
open PySem PySem.Spec PyProof.Rows L2
section
variable {g : G} {X : Cx} {a b c : Expr} {pos p tpos : Pos} {elts : List Expr} {kk : Nat}
end
end Dy
namespace Dy
open PySem PySem.Spec PyProof.Rows L2
section
variable {g : G} {X : Cx} {e : Expr} {px : Pos}
/-- x.pop(e), x a list of its own that e may read -/
def fPopA (i : Nat) (as : List AF) : EF := fun env => match env[i]? with
  | some (some (.ol _)) => evA as env >>= fun r => match r.2[i]? with
    | some (some (.ol xs)) => match dvs r.1 with
      | some [.int k] => if -(2 ^ 63) ≤ k ∧ k < 2 ^ 63 then (match ixN xs.length k with
        | some j => match xs[j]? with
          | some d => .ok (.fr d, r.2.set i (some (.ol (xs.eraseIdx j))))
          | none => .no
        | none => .no) else .no
      | _ => .no
    | _ => .no
  | _ => .no
theorem de_popA {i : Nat} {x : Str} {apos cpos : Pos} {as : List AF} (hx : PE X (.Name x px) (tVar i)) (he : DA g X [e] as)
    (h2 : attributeBase (.Name x px) "pop" X.env (eval (.Name x px) X.env) = eval (.Name x px) X.env := by rfl)
    (h3 : ((backTo cpos (starEach [e] X.env)).all (fun x => !x.1) && (backToKw cpos (keywordEach [] X.env)).all (fun x => x.1.isSome)
      && decide ([e].length + ([] : List Keyword).length + (if ([] : List Keyword).isEmpty then 0 else 1) < 30)) = true := by rfl)
    (h4 : (apos.endLine == cpos.line) = true := by rfl) (h5 : starEach [e] X.env = (false, eval e X.env) :: starEach [] X.env := by rfl) :
    DE g X (.Call (.Attribute (.Name x px) "pop" apos) [e] [] cpos) (fPopA i as) := PE.imp (pe_bm PySem.F.plainAttrs_list PySem.F.slot_list_pop PySem.F.type_list_pop mt_popAt hx he h2 h3 h4 h5 rfl) fun σ H Q q => by
  obtain ⟨I, env, F, s, p⟩ := q
  unfold fPopA at p
  split at p
  · rename_i ds0 q0
    obtain ⟨a, vs, e1, h1, h2, _⟩ := s.own q0
    refine ⟨.ref a, e1, .inl ⟨rfl, vs, SqL.of h1⟩, ?_⟩
    refine ⟨I, env, F, s, post_mono (post_bind.mp p) (fun r q us H1 I' F' s' st av => ?_) fun _ z => z⟩
    split at q
    · rename_i xs q1
      split at q
      · rename_i k q3
        by_cases hb : -(2 ^ 63) ≤ k ∧ k < 2 ^ 63
        · rw [if_pos hb] at q
          cases q4 : ixN xs.length k with
          | none => simp only [q4] at q; exact q.elim
          | some j =>
            simp only [q4] at q
            cases q5 : xs[j]? with
            | none => simp only [q5] at q; exact q.elim
            | some d =>
              simp only [q5] at q
              have rr := dvs_rep av q3
              match us, rr with
              | _, .cons r1 .nil =>
                cases r1
                obtain ⟨a', vs', e1', h1', h2', up⟩ := s'.own2 q1
                rw [e1] at e1'; cases e1'
                obtain ⟨u, ev, rv⟩ := h2'.get q5
                obtain ⟨s3, st3⟩ := up _ _ (h2'.erase j)
                exact ⟨a, vs', k, j, u, rfl, rfl, h1', hb.1, hb.2, by rw [h2'.length]; exact (ixN_seq q4).1, ev, q u _ (AftD.aft ⟨_, _, rv, s3, st.trans st3⟩)⟩
        · rw [if_neg hb] at q; exact q.elim
      · exact q.elim
    · exact q.elim
  · exact p.elim
end
theorem a_popA (i : Nat) (as : List AF) (env : Env) : fPopA i as env = match env[i]? with
  | some (some (.ol _)) => evA as env >>= fun r => match r.2[i]? with
    | some (some (.ol xs)) => match dvs r.1 with
      | some [.int k] => if -(2 ^ 63) ≤ k ∧ k < 2 ^ 63 then (match ixN xs.length k with
        | some j => match xs[j]? with
          | some d => .ok (.fr d, r.2.set i (some (.ol (xs.eraseIdx j))))
          | none => .no
        | none => .no) else .no
      | _ => .no
    | _ => .no
  | _ => .no := rfl
end Dy
namespace Dy
open PySem PySem.Spec PyProof.Rows L2
section
variable {g : G} {X : Cx} {a b c e o : Expr} {es : List Expr} {pos p1 p2 p3 px : Pos} {σ : St} {H I : Hp} {env : Env} {F : Nat → List Addr}
end
end Dy
namespace Dy
open PySem PySem.Spec PyProof.Rows L2
/-- in another order -/
def pm {α : Type} (perm : List Nat) (xs : List α) : List α := perm.filterMap fun i => xs[i]?
/-- by names ks a def binds its parameters so -/
def KB0 (K : PySem.W.Frag) (fd : FuncData) (ps ks : List Str) (perm : List Nat) : Prop := ∀ (s : Shared) (ws : List Value), K.In s.heap → ws.length = ks.length → BindsTo s fd ⟨[], ks.zip ws⟩ (ps.zip (pm perm ws))
def CallK (P : Program) (w : World) (K : PySem.W.Frag) (mg : Str → Option Value) (T : List (Addr × Str)) (k : Nat) (x : Str) (ps ks : List Str) (perm : List Nat) (m : Fn) : Prop :=
  ∃ f fd, mg x = some (.ref f) ∧ PySem.W.keepIn K (.ref f) = true ∧ KB0 K fd ps ks perm ∧ ∀ base, FnG P w K mg base k f fd ps (spD K mg T m)
theorem CallK.mono {P : Program} {w : World} {K : PySem.W.Frag} {mg : Str → Option Value} {T : List (Addr × Str)} {j k : Nat} {x : Str} {ps ks : List Str} {perm : List Nat} {m : Fn} (h : CallK P w K mg T j x ps ks perm m) (l : j ≤ k) : CallK P w K mg T k x ps ks perm m := by
  obtain ⟨f, fd, h1, h2, h3, h4⟩ := h
  exact ⟨f, fd, h1, h2, h3, fun b => (h4 b).mono l⟩
section
variable {g : G} {X : Cx} {σ : St} {H : Hp}
end
section
variable {T : List (Addr × Str)} {g : G} {X : Cx} {k : Nat} {ps ks : List Str} {perm : List Nat} {m : Fn} {x : Str} {p pos : Pos} {kws : List Keyword} {as : List AF}
end
end Dy
namespace Dy
open PySem PySem.Spec PyProof.Rows L2
section
variable {g : G} {X : Cx} {a b c e o : Expr} {es : List Expr} {pos p1 p2 p3 px : Pos} {σ : St} {H I : Hp} {env : Env} {F : Nat → List Addr}
end
end Dy
namespace Dy
open PySem PySem.Spec PyProof.Rows L2
section
variable {prog : Program} {w : World} {A : Around} {E : Value → Shared → Prop} {s : Shared} {z TI TO i1 i2 : Addr} {fp1 fp2 : List Addr} {n1 n2 i : Nat} {P1 P2 : Nat → Value → Prop} {St1 St2 : Nat → Heap → Prop} {a1 a2 f0 : Value} {f : Bool}
end
section
variable {g : G} {X : Cx} {a b c e o : Expr} {es : List Expr} {pos p p1 p2 p3 px tpos : Pos} {σ : St} {H I : Hp} {env : Env} {F : Nat → List Addr}
end
end Dy
namespace Dy
open PySem PySem.Spec PyProof.Rows L2
section
variable {g : G} {X : Cx} {a b c e : Expr} {pos p1 p2 : Pos} {σ : St} {H H3 : Hp} {D : Ends}
end
end Dy
namespace Dy
open PySem PySem.Spec PyProof.Rows L2
section
variable {K : PySem.W.Frag} {I H : Hp} {X : Cx}
end
end Dy
namespace Dy
open PySem PySem.Spec PyProof.Rows L2
section
variable {g : G} {X : Cx} {a b c e : Expr} {pos : Pos}
end
end Dy
namespace Dy
open PySem PySem.Spec PyProof.Rows L2
section
variable {K : PySem.W.Frag} {I H : Hp} {X : Cx}
end
end Dy
namespace Dy
open PySem PySem.Calls PySem.Spec PyProof.Rows L2
open PySem.W (alike alike_all_cons toks_eqv eqAt_alike oneLt_alike dataLt EachIs AllAlike Sortable SortsAt keyToks sortLe sortVals sorted_vals sortVals_each sortVals_length sortVals_data dataLe dataType looks_reads dataType_alike dataType_tuple each_katTups kat_lt kat_cons kat_yes kat_no kat_nil kat_kind KeyedOut sorted_data alike_unique sort_unique sortLe_total sameRank copyHeap copyHeap_at copyHeap_old sortingHeap sorting_copy_old list_sort_vals each_map bound_map)
section
variable {prog : Program} {w : World} {A : Around} {s : Shared}
end
section
variable {X : Cx} {K : PySem.W.Frag}
end
end Dy
namespace Dy
open PySem PySem.Spec PyProof.Rows L2
section
variable {X : Cx}
end
section
variable {g : G} {X : Cx} {a b c e o : Expr} {es : List Expr} {pos p1 p2 p3 px : Pos} {σ : St} {H I : Hp} {env : Env} {F : Nat → List Addr} {D : Ends}
end
end Dy
namespace Dy
open PySem PySem.Spec PyProof.Rows L2
open LamX (CodeO TabB LamS lamEnv lamCx)
section
variable {g : G} {X : Cx}
end
section
variable {g : G} {X : Cx} {a b c e : Expr} {es : List Expr} {pos p1 p2 p3 px : Pos} {σ : St} {H I : Hp} {env : Env} {F : Nat → List Addr} {D : Ends}
end
end Dy
namespace Dy
open PySem PySem.Spec PyProof.Rows L2
section
variable {K : PySem.W.Frag}
end
end Dy
namespace Dy
open PySem PySem.Spec PyProof.Rows L2
section
variable {K : PySem.W.Frag} {I H : Hp} {n : NestedKey} {kd : PyData}
theorem MRows.len : ∀ {ts : List TP} {bs : List Addr} {es : List (PyData × List PyData)}, MRows K I H ts bs es → ts.length = es.length
  | _, _, _, .nil => rfl
  | _, _, _, .cons _ _ _ _ _ t => by simp [t.len]
theorem MRows.snoc {kv : V} {b : Addr} {us : List V} {r : List PyData} (h1 : keyOf kd = some n) (h2 : n.depth ≤ 8) (h3 : Rp K I kv kd) (h4 : H b = some (.lst us)) (h5 : RpAll K I us r) : ∀ {ts : List TP} {bs : List Addr} {es : List (PyData × List PyData)}, MRows K I H ts bs es →
    MRows K I H (ts ++ [(n, kv, .ref b)]) (bs ++ [b]) (es ++ [(kd, r)])
  | _, _, _, .nil => .cons h1 h2 h3 h4 h5 .nil
  | _, _, _, .cons a1 a2 a3 a4 a5 t => .cons a1 a2 a3 a4 a5 (t.snoc h1 h2 h3 h4 h5)
end
section
variable {X : Cx} {pins : List (Addr × Obj)} {σ : St} {I H : Hp} {s : Shared} {a : Addr} {es : List (PyData × PyData)} {k d : PyData} {y v : V} {u r : Value} {A : Around} {E : Value → Shared → Prop} {n : NestedKey}
end
section
variable {g : G} {X : Cx} {a b c e : Expr} {es : List Expr} {pos p1 p2 px : Pos} {σ : St} {H I : Hp} {env : Env} {F : Nat → List Addr} {D : Ends} {st : Stmt} {sts : List Stmt}
end
end Dy
namespace Dy
open PySem PySem.Spec PyProof.Rows L2
open AutoSeq1 (wpAny_loadPart')
section
variable {M : Model} {A : Around} {E : Value → Shared → Prop} {s : Shared} {env : PySem.Env}
end
section
variable {g : G} {X : Cx} {a b : Expr} {p pos tpos kpos : Pos} {elts : List Expr} {kk : Nat} {nm : Str}
end
end Dy
namespace Dy
open PySem PySem.Spec PyProof.Rows L2
end Dy
namespace Dy
open PySem PySem.Spec PyProof.Rows L2
section
variable {prog : Program} {w : World} {A : Around} {E : Value → Shared → Prop} {s : Shared} {z TI TO i1 i2 : Addr} {fp1 fp2 : List Addr} {n1 n2 i : Nat} {P1 P2 : Nat → Value → Prop} {St1 St2 : Nat → Heap → Prop} {a1 a2 : Value}
/-- where a zip stands whose tuples are kept -/
def ZS (z TI TO i1 i2 : Addr) (St1 St2 : Nat → Heap → Prop) (i : Nat) (h : Heap) : Prop :=
  IsTupOf2 h TI (.ref i1) (.ref i2) ∧ St1 i h ∧ St2 i h ∧ ((IsZip h z TI TO .none ∧ ∃ x y, IsTupOf2 h TO x y) ∨ ∃ T f oT, IsZipHeld h z TI TO T f ∧ h.get? T = some oT)
theorem ZS.type (h : ZS z TI TO i1 i2 St1 St2 i s.heap) : s.TypeIs (.ref z) "zip" := by
  obtain ⟨_, _, _, ⟨h, _⟩ | ⟨_, _, _, h, _⟩⟩ := h
  · exact ⟨_, h, rfl⟩
  · exact ⟨_, h, rfl⟩
theorem ZS.over {h h' : Heap} (D1 : Draws prog w A i1 fp1 n1 P1 St1) (D2 : Draws prog w A i2 fp2 n2 P2 St2) (x : ZS z TI TO i1 i2 St1 St2 i h) {S : Addr} (hS : ∀ b ∈ [z, TI, TO] ++ fp1 ++ fp2, b ≠ S) (k : ∀ b o, b ≠ S → h.get? b = some o → h'.get? b = some o) (kS : ∀ o, h.get? S = some o → ∃ o', h'.get? S = some o') : ZS z TI TO i1 i2 St1 St2 i h' := by
  obtain ⟨a, b, c, d⟩ := x
  refine ⟨k _ _ (hS _ (by simp)) a, D1.frame _ _ _ b fun b hb o e => k _ _ (hS _ (by simp [hb])) e, D2.frame _ _ _ c fun b hb o e => k _ _ (hS _ (by simp [hb])) e, ?_⟩
  rcases d with ⟨d, x, y, e⟩ | ⟨T, f, oT, d, e⟩
  · exact .inl ⟨k _ _ (hS _ (by simp)) d, x, y, k _ _ (hS _ (by simp)) e⟩
  · refine .inr ?_
    by_cases hT : T = S
    · subst hT
      obtain ⟨o', e'⟩ := kS _ e
      exact ⟨_, f, o', k _ _ (hS _ (by simp)) d, e'⟩
    · exact ⟨T, f, oT, k _ _ (hS _ (by simp)) d, k _ _ hT e⟩
end
/-- pairs laid one behind another -/
inductive ZG (H0 : Hp) : List (V × V) → List V → Hp → Prop
  | nil : ZG H0 [] [] H0
  | snoc {ps : List (V × V)} {vs : List V} {G : Hp} {x y : V} {T : Addr} {ob : Obj} : ZG H0 ps vs G → PlT ob → G T = none → ZG H0 (ps ++ [(x, y)]) (vs ++ [.ref T]) (upd G T (.frz ob (.tup [x, y])))
theorem ZG.len {H0 : Hp} {ps : List (V × V)} {vs : List V} {G : Hp} (h : ZG H0 ps vs G) : vs.length = ps.length := by
  induction h with
  | nil => rfl
  | snoc _ _ _ ih => simp [ih]
section
variable {X : Cx} {pins : List (Addr × Obj)} {σ : St} {A : Around} {R : Result → Shared → Prop} {z TI TO i1 i2 : Addr} {fp1 fp2 : List Addr} {n1 n2 : Nat} {its1 its2 : List Value} {St1 St2 : Nat → Heap → Prop} {H0 : Hp} {xs ys : List V}
end
section
variable {X : Cx} {e e2 : Expr} {ta : TA} {p p2 pos q : Pos}
end
section
variable {g : G} {X : Cx} {a b : Expr} {p p2 pos q : Pos} {K : PySem.W.Frag} {I : Hp}
theorem RpAll.snoc {v : V} {d : PyData} : ∀ {vs : List V} {ds : List PyData}, RpAll K I vs ds → Rp K I v d → RpAll K I (vs ++ [v]) (ds ++ [d])
  | _, _, .nil, h => .cons h .nil
  | _, _, .cons a t, h => .cons a (t.snoc h)
end
end Dy
namespace Dy
open PySem PySem.Spec PyProof.Rows L2
section
variable {X : Cx} {pins : List (Addr × Obj)} {σ : St} {H : Hp} {s : Shared} {d : Addr} {o : Obj} {u : HO} {ps : List (V × V)}
end
end Dy
namespace Dy
open PySem PySem.Spec PyProof.Rows L2
/-- a dict's thing -/
def IsDc (a : Addr) (u : HO) : Prop := (∃ kvs, u = .dK kvs) ∨ ∃ ts, u = dN a ts
theorem IsDc.nf {a : Addr} {u : HO} (h : IsDc a u) : ∀ o w, u ≠ .frz o w := by
  rcases h with ⟨_, rfl⟩ | ⟨_, rfl⟩ <;> exact fun _ _ z => nomatch z
section
variable {K : PySem.W.Frag} {I I' H H' : Hp}
end
section
variable {K : PySem.W.Frag} {π : Pn} {I H I' H' : Hp} {σ : St} {env : Env} {F : Nat → List Addr}
end
section
variable {I H I3 H3 : Hp} {d : Addr} {u : HO} {od : Obj}
end
section
variable {K : PySem.W.Frag} {π : Pn} {I H I1 H1 I3 H3 : Hp} {σ σ' : St} {env env' : Env} {F F' : Nat → List Addr} {d : Addr} {u : HO} {od : Obj} {o : O} {v : V}
end
end Dy
namespace Dy
open PySem PySem.Spec PyProof.Rows L2
section
variable {g : G} {X : Cx} {σ : St} {H I : Hp} {env : Env} {F : Nat → List Addr}
end
end Dy
namespace Dy
open PySem PySem.Spec PyProof.Rows L2
section
variable {P : Program} {w : World} {A : Around} {E : Value → Shared → Prop} {s : Shared}
end
section
variable {g : G} {X : Cx} {a b e : Expr} {p1 p2 pos : Pos}
end
end Dy
namespace Dy
open PySem PySem.Spec PyProof.Rows L2
section
variable {g : G} {X : Cx} {a b c e o : Expr} {es : List Expr} {pos p tpos : Pos} {σ : St} {H I : Hp} {env : Env} {F : Nat → List Addr} {tg : Expr}
def fM1 (f : Str → PyData → Option O) (fo : EF) (y : AF) : EF := fun env => fo env >>= fun r => match r.1.data with
  | .str a => fOp (on1 (f a)) [y] r.2
  | _ => .no
theorem de_m1 {r : V → List V → Hp → VK → Prop} {f : Str → PyData → Option O} {fo : EF} {name : Str} {id : String} {apos cpos : Pos} {y : AF} (slot : Slot "str" name id) (ty : typeOf (.builtin id) = pure (.type "method_descriptor")) (rule : MtR X id r)
    (ok : ∀ (K : PySem.W.Frag) (I H : Hp) (x : Str) (u : V) (k : PyData) (o : O) (Q : VK), K = X.K → Same I H → RpS K I H u k → f x k = some o → (∀ v H' I' R, Grow K I H I' H' o v R → Q v H') → r (.str x) [u] H Q)
    (ho : DE g X o fo) (he : DX g X e y)
    (hs : starEach [e] X.env = [(false, eval e X.env)] := by rfl) (hbase : attributeBase o name X.env (eval o X.env) = eval o X.env := by rfl) (hline : (apos.endLine == cpos.line) = true := by rfl) (hK : X.K = g.K := by rfl) :
    DE g X (.Call (.Attribute o name apos) [e] [] cpos) (fM1 f fo y) := PE.imp (pe_m1 slot ty rule ho he hs hbase hline) fun σ H Q q => by
  obtain ⟨I, env, F, s, p⟩ := q
  refine tD_seq s p fun r v H1 af q => ?_
  obtain ⟨I', F', rp, s', st⟩ := af.frz
  split at q
  · rename_i x q0
    rw [q0] at rp
    have ev : v = .str x := by cases rp; rfl
    subst ev
    refine ⟨⟨x, rfl⟩, ?_⟩
    have h : tD g (fOp (on1 (f x)) [y]) σ H1 Q := ⟨I', r.2, F', s', post_mono q (fun r3 q3 v3 H3 af3 => q3 v3 H3 (Aft.trans st af3)) fun x zz => err_step st zz⟩
    exact tArg_mono (tA1 (op_key (r := one fun u H2 Q => _) (ops1 fun u k I H Q o s r1 q k2 => ok g.K I H x u k o Q hK.symm s r1 q k2) h)) fun v H1 q => q
  · exact q.elim
theorem rps_str {K : PySem.W.Frag} {I H : Hp} {v : V} {x : Str} (h : RpS K I H v (.str x)) : v = .str x := by
  rcases h with h | ⟨_, _, _, _, e, _⟩ | ⟨_, _, _, e, _⟩
  · cases h; rfl
  · cases e
  · cases e
theorem rpall_strs {K : PySem.W.Frag} {I : Hp} : ∀ ys : List Str, RpAll K I (ys.map V.str) (ys.map PyData.str)
  | [] => .nil
  | y :: ys => .cons (.str y) (rpall_strs ys)
/-- split -/
def pSplit (x : Str) : PyData → Option O
  | .str y => if (y.length == 0) = false ∧ x.length ≤ 1000000 then some (.ol ((Txt.split x y).map .str)) else none
  | _ => none
theorem de_split {fo : EF} {apos cpos : Pos} {y : AF} (ho : DE g X o fo) (he : DX g X e y)
    (hs : starEach [e] X.env = [(false, eval e X.env)] := by rfl) (hbase : attributeBase o "split" X.env (eval o X.env) = eval o X.env := by rfl) (hline : (apos.endLine == cpos.line) = true := by rfl) (hK : X.K = g.K := by rfl) :
    DE g X (.Call (.Attribute o "split" apos) [e] [] cpos) (fM1 pSplit fo y) :=
  de_m1 F.slot_str_split F.type_str_split mt_split (fun K I H x u k o Q eK s r1 q kk => by
    unfold pSplit at q
    split at q
    · split at q
      · rename_i hc
        cases q
        rw [rps_str r1]
        exact ⟨_, _, rfl, rfl, hc.1, Nat.le_trans (Nat.add_le_add_right hc.2 2) (by decide), fun p np => kk _ _ _ _ (Grow.lst s np (rpall_strs _))⟩
      · cases q
    · cases q) ho he hs hbase hline hK
/-- join -/
def strsQ : List PyData → Option (List Str)
  | [] => some []
  | .str i :: ds => (strsQ ds).map (i :: ·)
  | _ :: _ => none
theorem strsQ_eq : ∀ {ds : List PyData} {ns : List Str}, strsQ ds = some ns → ds = ns.map PyData.str
  | [], ns, h => by cases h; rfl
  | d :: ds, ns, h => by
    cases d with
    | str i =>
      show PyData.str i :: ds = _
      have h : (strsQ ds).map (i :: ·) = some ns := h
      cases q : strsQ ds with
      | none => rw [q] at h; cases h
      | some ms => rw [q] at h; cases h; rw [strsQ_eq q]; rfl
    | _ => cases h
theorem strsQ_map (ns : List Str) : strsQ (ns.map PyData.str) = some ns := by
  induction ns with
  | nil => rfl
  | cons n ns ih => show (strsQ (ns.map PyData.str)).map (n :: ·) = _; rw [ih]; rfl
theorem rpall_strs' {K : PySem.W.Frag} {I : Hp} : ∀ {vs : List V} {ys : List Str}, RpAll K I vs (ys.map PyData.str) → vs = ys.map V.str
  | _, [], .nil => rfl
  | _, y :: ys, .cons r t => by rw [rpall_strs' t]; cases r; rfl
def joinOk (x : Str) (ys : List Str) : Bool := decide ((ys.map (·.length)).sum + ys.length * x.length ≤ 1000000)
def pJoin (x : Str) : PyData → Option O
  | .list ds => match strsQ ds with
    | some ys => if joinOk x ys = true then some (.fr (.str (Txt.join x ys))) else none
    | none => none
  | _ => none
theorem de_join {fo : EF} {apos cpos : Pos} {y : AF} (ho : DE g X o fo) (he : DX g X e y)
    (hs : starEach [e] X.env = [(false, eval e X.env)] := by rfl) (hbase : attributeBase o "join" X.env (eval o X.env) = eval o X.env := by rfl) (hline : (apos.endLine == cpos.line) = true := by rfl) (hK : X.K = g.K := by rfl) :
    DE g X (.Call (.Attribute o "join" apos) [e] [] cpos) (fM1 pJoin fo y) :=
  de_m1 F.slot_str_join F.type_str_join mt_join (fun K I H x u k o Q eK s r1 q kk => by
    unfold pJoin at q
    split at q
    · split at q
      · rename_i ys hy
        split at q
        · rename_i hc
          cases q
          have hz := of_decide_eq_true hc
          rw [strsQ_eq hy] at r1
          obtain ⟨a, vs, rfl, h1, h2⟩ := r1.lst s
          rw [rpall_strs' h2] at h1
          subst eK
          exact ⟨_, a, ys, rfl, rfl, .inl h1.sq, by omega, kk _ _ _ _ (Grow.val s (.str _))⟩
        · cases q
      · cases q
    · cases q) ho he hs hbase hline hK
def pIntT : PyData → Option O
  | .str x => if x.length ≤ 640 then (intText? x).map fun n => .fr (.int n) else none
  | _ => none
theorem os_intT {K : PySem.W.Frag} : OpS K (fun xs H Q => ∃ a n, xs = [.str a] ∧ PySem.intText? a = some n ∧ a.length ≤ 640 ∧ Q (.int n) H) (on1 pIntT) := ops1c fun v d I H Q o s r1 q k => by
  unfold pIntT at q
  split at q
  · rename_i x
    split at q
    · rename_i hc
      cases hn : intText? x with
      | none => rw [hn] at q; cases q
      | some n =>
        rw [hn] at q
        cases q
        rw [rps_str r1]
        exact ⟨_, n, rfl, hn, hc, k _ _ _ _ (Grow.val s (.int _))⟩
    · cases q
  · cases q
def sgn1 (x : Str) : Option Nat := match x.cps.toList with
  | [c] => some c
  | _ => none
theorem sgn1_eq {x : Str} {c : Nat} (h : sgn1 x = some c) : x = ⟨#[c]⟩ := by
  unfold sgn1 at h
  split at h
  · rename_i d e
    cases h
    cases x with | mk cs => cases cs with | mk l => simp at e; subst e; rfl
  · cases h
def pInS (no : Bool) : PyData → PyData → Option O
  | .str x, .str z => (sgn1 x).map fun c => .fr (.bool (no != decide (c ∈ z.cps.toList)))
  | _, _ => none
def rInS (no : Bool) : R2 := fun x y H Q => ∃ (c : Nat) (z : Str), x = .str ⟨#[c]⟩ ∧ y = .str z ∧ Q (.bl (no != decide (c ∈ z.cps.toList))) H
theorem op_inS : OpR X (compareOp .In) (rInS false) := fun pins s σ H x y v u Q I rx ry h => by
  obtain ⟨c, z, e1, e2, q⟩ := h
  refine op_in_sign pins s σ H x y v u Q I rx ry ⟨c, z, e1, e2, ?_⟩
  simpa using q
theorem op_notInS : OpR X (compareOp .NotIn) (rInS true) := fun pins s σ H x y v u Q I rx ry h => by
  obtain ⟨c, z, e1, e2, q⟩ := h
  refine op_notIn_sign pins s σ H x y v u Q I rx ry ⟨c, z, e1, e2, ?_⟩
  simpa using q
theorem os_inS {K : PySem.W.Frag} (no : Bool) : OpS K (two (rInS no)) (on2 (pInS no)) := ops2 fun v u d e I H Q o s r1 r2 q k => by
  unfold pInS at q
  split at q
  · rename_i x z
    cases hn : sgn1 x with
    | none => rw [hn] at q; cases q
    | some c =>
      rw [hn] at q
      cases q
      rw [rps_str r1, rps_str r2, sgn1_eq hn]
      exact ⟨c, z, rfl, rfl, k _ _ _ _ (Grow.val s rbl)⟩
  · cases q
def sgns (x : Str) : List PyData := x.cps.toList.map fun c => .str ⟨#[c]⟩
theorem it_s {K : PySem.W.Frag} {I : Hp} {x : Str} : ItOk K I (Its x) (sgns x) := fun I2 H2 i s1 s2 => by
  unfold sgns
  refine ⟨fun d hd => ?_, fun e => ?_⟩
  · rw [List.getElem?_map] at hd
    cases q : x.cps.toList[i]? with
    | none => rw [q] at hd; cases hd
    | some k =>
      rw [q] at hd; cases hd
      have hk := (List.getElem?_eq_some_iff.mp q).1
      refine ⟨by rwa [Array.length_toList] at hk, fun v H' y => ?_⟩
      obtain ⟨rfl, c, hc, rfl⟩ := y
      rw [← Array.getElem?_toList, q] at hc
      cases hc
      exact ⟨I2, Grow.val s2 (.str _)⟩
  · rw [List.length_map, Array.length_toList] at e
    exact Nat.le_of_eq e
def fSg (a : AF) : IF := fun env => evA [a] env >>= fun r => match rsvs r.2 r.1 with
  | some [d] => match d with
    | .str x => .ok (sgns x, r.2)
    | _ => .no
  | _ => .no
theorem di_sg {x : AF} (ha : DX g X a x) : DI g X tg a (fSg x) := PI.imp (pi_str ha) fun σ H R h => by
  obtain ⟨I, env, F, s, p⟩ := h
  refine tArg_mono (tA1 (R := fun vs H1 => ∃ z, vs = [V.str z] ∧ R (Its z) H1) ⟨I, env, F, s, post_mono (post_bind.mp p) (fun r q vs H' I' F' s' st av => ?_) fun _ z => z⟩) fun v H1 ⟨z, e, q⟩ => by cases e; exact ⟨z, rfl, q⟩
  split at q
  · rename_i d hd
    split at q
    · rename_i x
      match vs, rsvs_rep s' av hd with
      | [v], .cons r1 .nil =>
        rw [rps_str r1]
        exact ⟨x, rfl, q _ _ _ _ s' st it_s⟩
    · exact q.elim
  · exact q.elim
end
end Dy
namespace Dy
open PySem PySem.Spec PyProof.Rows L2
section
variable {g : G} {X : Cx} {a b c e : Expr} {pos p2 : Pos} {σ : St} {H : Hp}
theorem pe_negc {X : Cx} {i : Int} {j : Nat} {p q : Pos} : PE X (.UnaryOp .USub (.Constant (.int i) j p) q) (tC (.int (-i))) := PE.imp (pe_un un_neg pe_int) fun σ H Q q => ⟨i, rfl, q⟩
theorem de_slc {x : AF} {i j : Int} (ha : DX g X a x) (hb : PE X b (tC (.int i))) (hc : PE X c (tC (.int j))) (hK : X.K = g.K := by rfl) : DE g X (.Subscript a (.Slice (some b) (some c) none p2) pos) (fOp (on1 fun d => pSl d (some i) (some j)) [x]) :=
  PE.imp (pe_slice sl_any ha (po_some hb) (po_some hc)) fun σ H Q h => by
    refine tArg_mono (tA1 (op_key (r := one fun v H1 Q => rSlX' X.K v (some i) (some j) H1 Q) ?_ h)) fun v H1 q => ?_
    · refine ops1 fun v d I H Q o s r1 q k => ?_
      rw [hK]
      exact os_sl s r1 q k
    · exact ⟨i, rfl, j, rfl, q⟩
end
end Dy
namespace Dy
open PySem PySem.Spec PyProof.Rows L2
theorem tuple_mulE (l : Addr) (items : Array Value) (n : Nat) (dd : Option Addr) (sl : Array (Option Value)) (x : Int) (u : Tok) (c0 : (decide (x < -(2 ^ 63)) || decide (x ≥ 2 ^ 63)) = false) (c1 : (items.isEmpty || x == 1) = true) :
    Meets (Builtin.«tuple.__mul__» ⟨[.ref l, .int x u], []⟩) (fun _ R s => s.heap.get? l = some { cls := .type "tuple", dict := dd, data := .seq items n, slots := sl } ∧
      R (.ok (.ret (Value.ref l))) s) :=
  .of_wp fun prog w A R s h => by
    obtain ⟨hp, g, d, tk, os⟩ := s
    obtain ⟨hl, h⟩ := h
    have f1 := AutoSeq1.idx_int
    wp_walk using wpAny_loadPart' hl
    repeat (first
      | (refine wpAny_ite_false (decide_eq_false (by rw [c0]; exact Bool.false_ne_true)) ?_; wp_walk using wpAny_loadPart' hl)
      | (refine wpAny_ite_true (decide_eq_true (by rw [c1])) ?_; wp_walk using wpAny_loadPart' hl))
    exact ⟨_, rfl, h⟩
def rRepE (K : PySem.W.Frag) : R2 := fun x y H Q => ∃ l k, x = .ref l ∧ y = .int k ∧ SqT K H l [] ∧ 2 ≤ k ∧ k ≤ 1000 ∧ Q (.ref l) H
theorem op_repE {X : Cx} : OpR X (binaryOp .Mult) (rRepE X.K) := by
  intro pins s σ H x y v u Q I rx ry h
  obtain ⟨l, k, rfl, rfl, hT, h1, h2, q⟩ := h
  cases rx
  obtain ⟨t, rfl⟩ := ry
  obtain ⟨its, r, ⟨⟨cls, dd, data, sl⟩, ho, hc, n, hd⟩, hs⟩ := I.tuple hT
  simp only at hc hd
  subst hc hd
  have hle : its.length = 0 := r.length.symm
  have hn : its = [] := List.eq_nil_of_length_eq_zero hle
  subst hn
  have c0 : (decide (k < -(2 ^ 63)) || decide (k ≥ 2 ^ 63)) = false := by
    rw [decide_eq_false (by omega), decide_eq_false (by omega)] <;> rfl
  refine wpAny_binaryOp_repeat_ref (T := "tuple") (U := "int") (by decide) ⟨_, ho, rfl⟩ (fun s' => typeIs_int s' k t) noFill_tuple_mul F.fills_int_mul F.slot_int_rmul repeat_tuple F.slot_int_index.lookup
    (call_meets F.slot_int_rmul (typeIs_int s k t) F.entry_int_rmul (F.args_int_rmul_2 _ _) (int_rmul_tuple k t l #[] n dd sl)
      ⟨ho, rfl, ⟨_, ho, rfl⟩, call_meets F.slot_tuple_mul ⟨_, ho, rfl⟩ F.entry_tuple_mul (F.args_tuple_mul_2 _ _) (tuple_mulE l #[] n dd sl k t c0 rfl) ⟨ho, ?_⟩⟩)
  exact ⟨.ref l, H, I, rfl, q⟩
def pMulE : PyData → PyData → Option O
  | .tuple [], .int k => if 2 ≤ k ∧ k ≤ 1000 then some (.fr (.tuple [])) else none
  | d, e => pMulA d e
def rMulE (K : PySem.W.Frag) : R2 := fun x y H Q => rMulB K x y H Q ∨ rRepE K x y H Q
theorem op_mulE {X : Cx} : OpR X (binaryOp .Mult) (rMulE X.K) := op_mulB.or op_repE
theorem os_mulE {K : PySem.W.Frag} : OpS K (two (rMulE K)) (on2 pMulE) := ops2 fun v u d e I H Q o s r1 r2 q k => by
  unfold pMulE at q
  split at q
  · split at q
    · rename_i hc
      cases q
      have hu := r2.int
      subst hu
      cases rps_tup r1 with
      | tup h1 ra =>
        rename_i a vs
        cases ra
        exact .inr ⟨a, _, rfl, rfl, same_t s h1.sq, hc.1, hc.2, k _ _ _ _ (Grow.val s (.tup h1 .nil))⟩
    · cases q
  · exact .inl (os_mulB [v, u] [_, _] I H Q o s (.cons r1 (.cons r2 .nil)) q k)
end Dy
namespace Q
open PySem Dy
open L2 (atI ixN)
abbrev fr (d : PyData) : Option O := some (.fr d)
abbrev ol (ds : List PyData) : Option O := some (.ol ds)
abbrev dN (n : Nat) : PyData := .int (n : Int)
section
variable (env : Dy.Env) (i j n m : Nat) (f k : EF) (s : SF) (vs : List Nat) (as : List AF)
theorem a_wp : fWp vs s env = s env >>= fun r => .ok (r.1, wipeE r.2 vs) := rfl
theorem a_fz : fFz vs s env = s env >>= fun r => .ok (r.1, frzE r.2 vs) := rfl
theorem a_fz0 : frzE env [] = env := rfl
theorem a_fz1 : frzE env (i :: vs) = match (frzE env vs)[i]? with | some (some o) => (frzE env vs).set i (some (.fr o.data)) | _ => frzE env vs := rfl
theorem a_ext : fExt i f env = match env[i]? with
  | some (some (.ol _)) => f env >>= fun r => match r.1 with
    | .ol ys => match r.2[i]? with
      | some (some (.ol xs)) => if xs.length + ys.length ≤ 1000000 then .ok (.nx, r.2.set i (some (.ol (xs ++ ys)))) else .no
      | _ => .no
    | _ => .no
  | _ => .no := rfl
theorem a_ins : fIns i as env = match env[i]? with
  | some (some (.ol _)) => evA as env >>= fun r => match r.2[i]? with
    | some (some (.ol xs)) => match insA xs (dvs r.1) with
      | some ys => .ok (.nx, r.2.set i (some (.ol ys)))
      | none => .no
    | _ => .no
  | _ => .no := rfl
theorem a_insA (xs : List PyData) (k : Int) (d : PyData) : insA xs (some [.int k, d]) = if xs.length < 1000000 ∧ 0 ≤ k ∧ k < 1000000 then some (xs.take k.toNat ++ [d] ++ xs.drop k.toNat) else none := rfl
theorem a_pop : fPop i env = match env[i]? with
  | some (some (.ol xs)) => match xs[xs.length - 1]? with
    | some d => .ok (.fr d, env.set i (some (.ol xs.dropLast)))
    | none => .no
  | _ => .no := rfl
theorem a_parN (is : List Nat) (fs : List EF) : fParN is fs env = evO fs env >>= fun r => match setO is r.1 r.2 with | some e => .ok (.nx, e) | none => .no := rfl
theorem a_evO0 : evO [] env = .ok ([], env) := rfl
theorem a_evO1 (fs : List EF) : evO (f :: fs) env = f env >>= fun r => evO fs r.2 >>= fun q => .ok (r.1 :: q.1, q.2) := rfl
theorem a_setO0 : setO [] [] env = some env := rfl
theorem a_setO1 (is : List Nat) (o : O) (os : List O) : setO (i :: is) (o :: os) env = if i < env.length then setO is os (env.set i (some o)) else none := rfl
theorem a_ix2 (y z : Dy.Env → Option Int) : fIx2 i y z env = match env[i]?, y env, z env with
  | some (some (.oo rs)), some k, some l => match ixN rs.length k with
    | some j => match rs[j]? with
      | some r => match atI r l with
        | some d => .ok (.fr d, env)
        | none => .no
      | none => .no
    | none => .no
  | _, _, _ => .no := rfl
theorem a_setII (y z : Dy.Env → Option Int) : fSetII i y z f env = f env >>= fun r => match r.2[i]?, y r.2, z r.2 with
  | some (some (.oo rs)), some k, some l => match ixN rs.length k with
    | some j => match rs[j]? with
      | some w => match ixN w.length l with
        | some m => .ok (.nx, r.2.set i (some (.oo (rs.set j (w.set m r.1.data)))))
        | none => .no
      | none => .no
    | none => .no
  | _, _, _ => .no := rfl
theorem a_zN : zN j env = match env[j]? with | some (some (.fr (.int n))) => some n | _ => none := rfl
theorem a_zC (n : Int) : zC n env = some n := rfl
theorem a_lcO (g : IF) (w : Tg) : fLcO g vs w f env = g env >>= fun r => lcO vs w f r.1 (wipeE r.2 vs) [] >>= fun q => .ok (.oo q.1, unw r.2 q.2 vs) := rfl
theorem q_starI (i : Int) (xs : List PyData) : pStar (.int i) (.list xs) = if xs.length < 100000 then some (.fr (.tuple (.int i :: xs))) else none := rfl
theorem q_starIT (i : Int) (xs : List PyData) : pStar (.int i) (.tuple xs) = if xs.length < 100000 then some (.fr (.tuple (.int i :: xs))) else none := rfl
theorem d_oo (rs : List (List PyData)) : (O.oo rs).data = .list (rs.map PyData.list) := rfl
end
structure Rk (n w : Nat) (d : PyData) : Prop where
  lay : d.canLay0 = true
  sho : d.showable = true
  dep : d.depth ≤ n
  wt : rw8 d ≤ w
theorem Rk.mono {n w n' w' : Nat} {d : PyData} (h : Rk n w d) (a : n ≤ n') (b : w ≤ w') : Rk n' w' d := ⟨h.lay, h.sho, Nat.le_trans h.dep a, Nat.le_trans h.wt b⟩
theorem Rk.bool (b : Bool) : Rk 0 5 (.bool b) := ⟨rfl, rfl, Nat.zero_le _, Nat.le_refl _⟩
theorem Rk.int {i : Int} (h : i.natAbs < 10 ^ 100) : Rk 0 1100 (.int i) := by
  have : i.natAbs.log2 < 1050 := Nat.lt_of_lt_of_le (PySem.Flt.log2_lt_of (k := 400) (by decide) (Nat.lt_trans h (by decide +kernel))) (by decide)
  refine ⟨rfl, decide_eq_true (by omega), Nat.zero_le _, ?_⟩
  show i.natAbs.log2 + 2 ≤ 1100; omega
theorem Rk.nat {i : Nat} (h : i < 10 ^ 100) : Rk 0 1100 (.int (i : Int)) := Rk.int (by simpa using h)
theorem Rk.all {n w : Nat} : ∀ {ds : List PyData}, (∀ d ∈ ds, Rk n w d) → PyData.canLayAll0 ds = true ∧ PyData.showableAll ds = true ∧ PyData.depthAll ds ≤ n ∧ rw8s ds ≤ ds.length * (w + 2)
  | [], _ => ⟨rfl, rfl, Nat.zero_le _, Nat.zero_le _⟩
  | d :: ds, h => by
    obtain ⟨a, b, c, e⟩ := Rk.all (ds := ds) fun x hx => h x (by simp [hx])
    have hd := h d (by simp)
    refine ⟨?_, ?_, ?_, ?_⟩
    · show (d.canLay0 && PyData.canLayAll0 ds) = true; rw [hd.lay, a]; rfl
    · show (d.showable && PyData.showableAll ds) = true; rw [hd.sho, b]; rfl
    · show max d.depth (PyData.depthAll ds) ≤ n; have := hd.dep; omega
    · show rw8 d + 2 + rw8s ds ≤ _; rw [List.length_cons, Nat.succ_mul]; have := hd.wt; omega
theorem Rk.tup {n w : Nat} {ds : List PyData} (h : ∀ d ∈ ds, Rk n w d) : Rk (n + 1) (ds.length * (w + 2) + 2) (.tuple ds) := by
  obtain ⟨a, b, c, e⟩ := Rk.all h
  exact ⟨by simpa [PyData.canLay0] using a, by simpa [PyData.showable] using b, by simp [PyData.depth]; omega, Nat.add_le_add_right e 2⟩
theorem Rk.lst {n w : Nat} {ds : List PyData} (h : ∀ d ∈ ds, Rk n w d) : Rk (n + 1) (ds.length * (w + 2) + 2) (.list ds) := by
  obtain ⟨a, b, c, e⟩ := Rk.all h
  exact ⟨by simpa [PyData.canLay0] using a, by simpa [PyData.showable] using b, by simp [PyData.depth]; omega, Nat.add_le_add_right e 2⟩
theorem Rk.shp {n w : Nat} {d : PyData} (h : Rk n w d) (hn : n ≤ 64) : shp d = true := by
  unfold Dy.shp SeqAt.shaped
  rw [h.lay, decide_eq_true (Nat.le_trans h.dep hn)]; rfl
theorem Rk.rOk {n w : Nat} {d : PyData} (h : Rk n w d) (hn : n ≤ 64) (hw : w ≤ 16777216) : rOk d = true := by
  unfold Dy.rOk
  rw [h.lay, h.sho, decide_eq_true ⟨Nat.le_trans h.dep hn, Nat.le_trans h.wt hw⟩]; rfl
theorem Rk.repr {n w : Nat} {d : PyData} (h : Rk n w d) (hn : n ≤ 64) (hw : w ≤ 16777216) : pRepr d = some (.fr (.str d.shown)) := by unfold pRepr; rw [if_pos (h.rOk hn hw)]
theorem pEq_int (i j : Int) : pEq (.int i) (.int j) = some (.fr (.bool (decide (i = j)))) := by
  have h : ∀ k : Int, shp (.int k) = true := fun k => by unfold shp SeqAt.shaped; simp [PyData.canLay0, PyData.depth]
  show (if shp (.int i) = true ∧ shp (.int j) = true then some (O.fr (PyData.bool (PyData.eqv (.int i) (.int j)))) else none) = _
  rw [if_pos ⟨h i, h j⟩]
  show some (O.fr (PyData.bool (PyData.eqv (.int i) (.int j)))) = _
  congr 3
theorem pNe_int (i j : Int) : pNe (.int i) (.int j) = some (.fr (.bool (!decide (i = j)))) := by
  have h : ∀ k : Int, shp (.int k) = true := fun k => by unfold shp SeqAt.shaped; simp [PyData.canLay0, PyData.depth]
  show (if shp (.int i) = true ∧ shp (.int j) = true then some (O.fr (PyData.bool (!PyData.eqv (.int i) (.int j)))) else none) = _
  rw [if_pos ⟨h i, h j⟩]
  show some (O.fr (PyData.bool (!PyData.eqv (.int i) (.int j)))) = _
  congr 3
theorem pEq_L (xs ys : List PyData) (h : shp (.list xs) = true) (h' : shp (.list ys) = true) : pEq (.list xs) (.list ys) = some (.fr (.bool (PyData.eqvAll xs ys))) := by
  show (if _ then _ else _) = _
  rw [if_pos ⟨h, h'⟩]; simp [PyData.eqv]
theorem pNe_L (xs ys : List PyData) (h : shp (.list xs) = true) (h' : shp (.list ys) = true) : pNe (.list xs) (.list ys) = some (.fr (.bool (!PyData.eqvAll xs ys))) := by
  show (if _ then _ else _) = _
  rw [if_pos ⟨h, h'⟩]; simp [PyData.eqv]
theorem eqvAll_nil (xs : List PyData) : PyData.eqvAll xs [] = xs.isEmpty := by cases xs <;> simp [PyData.eqvAll]
theorem shpL0 : shp (.list []) = true := (Rk.lst (n := 0) (w := 0) (ds := []) (by simp)).shp (by decide)
theorem pEq_L0 {xs : List PyData} (h : shp (.list xs) = true) : pEq (.list xs) (.list []) = some (.fr (.bool xs.isEmpty)) := by rw [pEq_L _ _ h shpL0, eqvAll_nil]
theorem pNe_L0 {xs : List PyData} (h : shp (.list xs) = true) : pNe (.list xs) (.list []) = some (.fr (.bool (!xs.isEmpty))) := by rw [pNe_L _ _ h shpL0, eqvAll_nil]
theorem atI_nat {α : Type} (xs : List α) (k : Nat) : atI xs (k : Int) = xs[k]? := by
  unfold atI ixN
  rw [if_pos (by omega)]
  by_cases h : k < xs.length
  · rw [if_pos (by omega)]; rfl
  · rw [if_neg (by omega), List.getElem?_eq_none (by omega)]; rfl
theorem atI_0 {α : Type} (xs : List α) : atI xs 0 = xs[0]? := atI_nat xs 0
theorem atI_1 {α : Type} (xs : List α) : atI xs 1 = xs[1]? := atI_nat xs 1
theorem atI_2 {α : Type} (xs : List α) : atI xs 2 = xs[2]? := atI_nat xs 2
theorem atI_3 {α : Type} (xs : List α) : atI xs 3 = xs[3]? := atI_nat xs 3
theorem atI_m1 {α : Type} (xs : List α) : atI xs (-1) = xs.getLast? := by
  cases h : xs.getLast? with
  | none =>
    have : xs = [] := by simpa using h
    subst this; rfl
  | some x =>
    obtain ⟨ys, rfl⟩ := List.getLast?_eq_some_iff.mp h
    exact L2.atI_last ys x
theorem pIxL (xs : List PyData) (i : Int) : pIx (.list xs) (.int i) = (atI xs i).map .fr := rfl
theorem pIxT (xs : List PyData) (i : Int) : pIx (.tuple xs) (.int i) = (atI xs i).map .fr := rfl
theorem ixN_nat (n k : Nat) (h : k < n) : ixN n (k : Int) = some k := by
  unfold ixN; rw [if_pos (by omega), if_pos (by omega)]; rfl
theorem cutHi {α : Type} (xs : List α) (k : Nat) : cutD xs none (some (k : Int)) = xs.take k := by
  unfold cutD
  rw [HT.sIx_none, HT.sIx_nat, List.drop_zero, Nat.sub_zero]
  by_cases h : k ≤ xs.length
  · rw [Nat.min_eq_left h]
  · rw [Nat.min_eq_right (by omega), List.take_length, List.take_of_length_le (by omega)]
theorem cutLo {α : Type} (xs : List α) (k : Nat) : cutD xs (some (k : Int)) none = xs.drop k := by
  unfold cutD
  rw [HT.sIx_none, HT.sIx_nat]
  by_cases h : k ≤ xs.length
  · rw [Nat.min_eq_left h, List.take_of_length_le (by simp)]
  · rw [Nat.min_eq_right (by omega), List.drop_of_length_le (Nat.le_refl _), List.drop_of_length_le (by omega), List.take_nil]
theorem cutLo1 {α : Type} (xs : List α) : cutD xs (some 1) none = xs.drop 1 := cutLo xs 1
theorem cutHi1 {α : Type} (xs : List α) : cutD xs none (some 1) = xs.take 1 := cutHi xs 1
theorem pAll_B (xs : List Bool) : pAll (.list (xs.map PyData.bool)) = some (.fr (.bool (xs.all id))) := by
  show (boolsOf _).map _ = _
  rw [boolsOf_map]; rfl
theorem pAll_true {α : Type} (xs : List α) : pAll (.list (xs.map fun _ => .bool true)) = some (.fr (.bool true)) := by
  have e : xs.map (fun _ => PyData.bool true) = (xs.map fun _ => true).map PyData.bool := by simp
  rw [e, pAll_B]
  simp
theorem for_l {α σ : Type} {t : Tg} {body : SF} (enc : α → PyData) (S : σ → Dy.Env) (P : List α → σ → Prop) (xs : List α) {s : σ} (h0 : P [] s)
    (step : ∀ pre x post s, xs = pre ++ x :: post → P pre s → ∃ s', P (pre ++ [x]) s' ∧ (asT t (enc x) (S s) >>= body) = .ok (.nx, S s')) :
    ∃ s', P xs s' ∧ fFor t body (xs.map enc) (S s) = .ok (.nx, S s') := by
  suffices h : ∀ (post pre : List α) (s : σ), xs = pre ++ post → P pre s → ∃ s', P xs s' ∧ fFor t body (post.map enc) (S s) = .ok (.nx, S s') from h xs [] s rfl h0
  intro post
  induction post with
  | nil => intro pre s e hp; rw [List.append_nil] at e; subst e; exact ⟨s, hp, rfl⟩
  | cons x post ih =>
    intro pre s e hp
    obtain ⟨s1, p1, e1⟩ := step pre x post s e hp
    obtain ⟨s2, p2, e2⟩ := ih (pre ++ [x]) s1 (by rw [e]; simp) p1
    refine ⟨s2, p2, ?_⟩
    show (asT t (enc x) (S s) >>= fun e => body e >>= fun r => match r.1 with | .nx => fFor t body (post.map enc) r.2 | .ct => fFor t body (post.map enc) r.2 | .bk => .ok (.nx, r.2) | .rt o => .ok (.rt o, r.2)) = _
    cases q : asT t (enc x) (S s) with
    | no => rw [q] at e1; cases e1
    | er x => rw [q] at e1; cases e1
    | ok e =>
      rw [q, bind_ok] at e1
      rw [bind_ok, e1, bind_ok]
      exact e2
theorem for_r {σ : Type} {t : Tg} {body : SF} (S : σ → Dy.Env) (P : Nat → σ → Prop) (n : Nat) {s : σ} (h0 : P 0 s)
    (step : ∀ k s, k < n → P k s → ∃ s', P (k + 1) s' ∧ (asT t (.int (k : Int)) (S s) >>= body) = .ok (.nx, S s')) :
    ∃ s', P n s' ∧ fFor t body (rng 0 n) (S s) = .ok (.nx, S s') := by
  have e : rng 0 n = (List.range n).map fun k : Nat => PyData.int (k : Int) := by unfold rng; simp
  rw [e]
  obtain ⟨s', p, q⟩ := for_l (fun k : Nat => PyData.int (k : Int)) S (fun pre s => pre.length ≤ n ∧ P pre.length s) (List.range n) (s := s) ⟨Nat.zero_le _, h0⟩ (fun pre x post s e hp => by
    have hx : x = pre.length := by
      have h1 : (List.range n)[pre.length]? = some x := by rw [e]; simp
      obtain ⟨h2, h3⟩ := List.getElem?_eq_some_iff.mp h1
      rw [List.getElem_range] at h3; exact h3.symm
    have hn : pre.length < n := by
      have := congrArg List.length e
      simp at this; omega
    subst hx
    obtain ⟨s', p', q'⟩ := step pre.length s hn hp.2
    exact ⟨s', by simp; exact ⟨hn, p'⟩, q'⟩)
  simp only [List.length_range] at p
  exact ⟨s', p.2, q⟩
theorem lc_fl {α : Type} {vs : List Nat} {t : Tg} {test : TF} {elt : EF} {ds : List PyData} {e : Dy.Env} (enc : α → PyData) (g : α → Option PyData) (xs : List α) (hd : ds = xs.map enc)
    (hs : ∀ x ∈ xs, (asT t (enc x) e >>= fun e1 => test e1 >>= fun b => if b.1 = true then elt b.2 >>= fun r => Res.ok (some r.1.data, wipeE r.2 vs) else Res.ok (none, wipeE b.2 vs)) = .ok (g x, e)) (hl : xs.length ≤ 100000) :
    lcL vs t test elt ds e [] = .ok (xs.filterMap g, e) := by
  subst hd
  suffices h : ∀ (ys : List α) (acc : List PyData), (∀ x ∈ ys, x ∈ xs) → acc.length + ys.length ≤ 100000 → lcL vs t test elt (ys.map enc) e acc = .ok (acc ++ ys.filterMap g, e) by
    have := h xs [] (fun _ z => z) (by simpa using hl)
    simpa using this
  intro ys
  induction ys with
  | nil => intro acc _ _; simp [lcL]
  | cons y ys ih =>
    intro acc hm hl
    have hy := hs y (hm y (by simp))
    have ihy := fun acc => ih acc fun x hx => hm x (by simp [hx])
    rw [List.length_cons] at hl
    show (asT t (enc y) e >>= fun e1 => nE (test e1) >>= fun b => if b.1 = true then nE (elt b.2) >>= fun r => if acc.length < 100000 then lcL vs t test elt (ys.map enc) (wipeE r.2 vs) (acc ++ [r.1.data]) else .no else lcL vs t test elt (ys.map enc) (wipeE b.2 vs) acc) = _
    cases q : asT t (enc y) e with
    | no => rw [q] at hy; cases hy
    | er x => rw [q] at hy; cases hy
    | ok e1 =>
      rw [q, bind_ok] at hy
      rw [bind_ok]
      cases q2 : test e1 with
      | no => rw [q2] at hy; cases hy
      | er x => rw [q2] at hy; cases hy
      | ok b =>
        rw [q2, bind_ok] at hy
        show (if b.1 = true then _ else _) = _
        by_cases hb : b.1 = true
        · rw [if_pos hb] at hy ⊢
          cases q3 : elt b.2 with
          | no => rw [q3] at hy; cases hy
          | er x => rw [q3] at hy; cases hy
          | ok r =>
            rw [q3, bind_ok] at hy
            injection hy with hy
            have h1 := congrArg Prod.fst hy
            have h2 := congrArg Prod.snd hy
            show (if acc.length < 100000 then lcL vs t test elt (ys.map enc) (wipeE r.2 vs) (acc ++ [r.1.data]) else .no) = _
            dsimp only at h1 h2
            rw [if_pos (by omega), h2, ihy _ (by simp; omega), List.filterMap_cons, ← h1]
            simp
        · rw [if_neg hb] at hy ⊢
          injection hy with hy
          have h1 := congrArg Prod.fst hy
          have h2 := congrArg Prod.snd hy
          dsimp only at h1 h2
          rw [h2, ihy _ (by omega), List.filterMap_cons, ← h1]
theorem lc_tm {α : Type} {vs : List Nat} {t : Tg} {elt : EF} {ds : List PyData} {e : Dy.Env} (enc : α → PyData) (g : α → PyData) (xs : List α) (hd : ds = xs.map enc)
    (hs : ∀ x ∈ xs, (asT t (enc x) e >>= fun e1 => elt e1 >>= fun r => Res.ok (r.1.data, wipeE r.2 vs)) = .ok (g x, e)) (hl : xs.length ≤ 100000) :
    lcL vs t fYes elt ds e [] = .ok (xs.map g, e) := by
  rw [lc_fl (g := fun x => some (g x)) (enc := enc) (xs := xs) hd (fun x hx => ?_) hl]
  · simp
  · have h := hs x hx
    cases q : asT t (enc x) e with
    | no => rw [q] at h; cases h
    | er x => rw [q] at h; cases h
    | ok e1 =>
      rw [q, bind_ok] at h
      rw [bind_ok]
      show (if true = true then elt e1 >>= fun r => Res.ok (some r.1.data, wipeE r.2 vs) else Res.ok (none, wipeE e1 vs)) = _
      rw [if_pos rfl]
      cases q3 : elt e1 with
      | no => rw [q3] at h; cases h
      | er x => rw [q3] at h; cases h
      | ok r =>
        rw [q3, bind_ok] at h
        rw [bind_ok]
        injection h with h
        have h1 := congrArg Prod.fst h
        have h2 := congrArg Prod.snd h
        dsimp only at h1 h2
        rw [h1, h2]
/-- a comprehension over a range whose elements change a state -/
theorem lc_r {α σ : Type} {vs : List Nat} {t : Tg} {elt : EF} (enc : α → PyData) (S : σ → Dy.Env) (P : Nat → σ → Prop) (R : α → Prop) (n : Nat) {s : σ} (h0 : P 0 s) (hn : n ≤ 100000)
    (step : ∀ k s, k < n → P k s → ∃ x s', P (k + 1) s' ∧ R x ∧ (asT t (.int (k : Int)) (S s) >>= fun e1 => elt e1 >>= fun r => Res.ok (r.1.data, wipeE r.2 vs)) = .ok (enc x, S s')) :
    ∃ (xs : List α) (s' : σ), P n s' ∧ xs.length = n ∧ (∀ x ∈ xs, R x) ∧ lcL vs t fYes elt (rng 0 n) (S s) [] = .ok (xs.map enc, S s') := by
  obtain ⟨e, acc, h, xs, s', p, r, l, ea, ee⟩ := lc_inv (vs := vs) (t := t) (test := fYes) (elt := elt) (fun k e acc => ∃ (xs : List α) (s' : σ), P k s' ∧ (∀ x ∈ xs, R x) ∧ xs.length = k ∧ acc = xs.map enc ∧ e = S s') (rng 0 n) (env := S s) (acc := []) ⟨[], s, h0, by simp, rfl, rfl, rfl⟩ (fun k d e acc hd hP => by
    obtain ⟨xs, s1, p1, r1, l1, rfl, rfl⟩ := hP
    obtain ⟨hk, rfl⟩ := rng_at hd
    rw [Int.zero_add]
    obtain ⟨x, s2, p2, r2, e2⟩ := step k s1 hk p1
    cases q : asT t (.int (k : Int)) (S s1) with
    | no => rw [q] at e2; cases e2
    | er x => rw [q] at e2; cases e2
    | ok e1 =>
      rw [q, bind_ok] at e2
      refine ⟨e1, true, e1, rfl, rfl, fun z => (by cases z), fun _ => ?_⟩
      cases q3 : elt e1 with
      | no => rw [q3] at e2; cases e2
      | er x => rw [q3] at e2; cases e2
      | ok r =>
        rw [q3, bind_ok] at e2
        injection e2 with e2
        have h1 := congrArg Prod.fst e2
        have h2 := congrArg Prod.snd e2
        dsimp only at h1 h2
        refine ⟨r.1, r.2, rfl, by rw [List.length_map, l1]; omega, xs ++ [x], s2, p2, ?_, by simp [l1], by rw [h1]; simp, h2⟩
        intro y hy
        rcases List.mem_append.mp hy with z | z
        · exact r1 y z
        · simp at z; subst z; exact r2)
  rw [rng_len] at l p
  exact ⟨xs, s', p, l, r, by rw [h, ea, ee]⟩
theorem enumD_map {α : Type} (enc : α → PyData) (xs : List α) : ∀ k : Nat, enumD k (xs.map enc) = (List.zip (List.range' k xs.length) xs).map fun p => PyData.tuple [.int (p.1 : Int), enc p.2] := by
  induction xs with
  | nil => intro k; rfl
  | cons x xs ih => intro k; rw [List.length_cons, List.range'_succ, List.zip_cons_cons, List.map_cons, List.map_cons, ← ih (k + 1)]; rfl
/-- the items with their places -/
def ens {α : Type} (xs : List α) : List (Nat × α) := List.zip (List.range' 0 xs.length) xs
theorem ens_mem {α : Type} {xs : List α} {p : Nat × α} (h : p ∈ ens xs) : xs[p.1]? = some p.2 := by
  obtain ⟨k, hk⟩ := List.getElem?_of_mem h
  unfold ens at hk
  rw [List.getElem?_zip_eq_some] at hk
  obtain ⟨h1, h2⟩ := hk
  obtain ⟨h3, h4⟩ := List.getElem?_eq_some_iff.mp h1
  rw [List.getElem_range'] at h4
  have : k = p.1 := by omega
  rw [← this]; exact h2
theorem ens_len {α : Type} (xs : List α) : (ens xs).length = xs.length := by simp [ens]
theorem enumD_ens {α : Type} (enc : α → PyData) (xs : List α) : enumD 0 (xs.map enc) = (ens xs).map fun p => PyData.tuple [.int (p.1 : Int), enc p.2] := enumD_map enc xs 0
theorem lt_of_get {α : Type} {xs : List α} {k : Nat} {x : α} (h : xs[k]? = some x) : k < xs.length := (List.getElem?_eq_some_iff.mp h).1
theorem get_of_lt {α : Type} {xs : List α} {k : Nat} (h : k < xs.length) : ∃ x, xs[k]? = some x ∧ x ∈ xs := ⟨xs[k], List.getElem?_eq_getElem h, List.getElem_mem h⟩
end Q
namespace Q
open PySem Dy
def b_is_between : SF := fRet (fAnd (fOp (on1 fun d => some (.fr (.bool (isA .int d)))) [.s 0]) (fAnd (fNotV (fOp (on1 fun d => some (.fr (.bool (isA .bool d)))) [.s 0])) (fChI (fun i j => decide (i ≤ j)) (fun i j => decide (i ≤ j)) (.s 1) (.s 0) (.s 2))))
def M_is_between : Fn := fnM 3 3 [] b_is_between
def E1_is_arities : EF := fCall M_is_between [.v (fV 1), .v (fC (.int 0)), .v (fC (.int 2))]
def b_is_arities : SF := fSeq (fIfS (fOrT (fNot (fB (fOp (on1 fun d => some (.fr (.bool (isA .tuple d)))) [.s 0]))) (fNot (fB (fChI (fun i j => decide (i ≤ j)) (fun i j => decide (i ≤ j)) (.v (fC (.int 1))) (.v (fOp (on1 pLen) [.s 0])) (.v (fC (.int 6))))))) (fRet (fC (.bool false))) (fSkip))
  (fRet (fOp (on1 pAll) [.v (fLc (fSq (.v (fV 0))) [1] (.nm 1) (fYes) (E1_is_arities))]))
def M_is_arities : Fn := fnM 1 2 [] b_is_arities
def b__law_pen_2 : SF := fRet (fOv pLst [.v (fOp (pMax) [.v (fC (.int 0)), .v (fOp (on2 pSub) [.s 0, .v (fOp (on2 pPow) [.v (fC (.int 10)), .v (fC (.int 18))])])]), .v (fOp (on2 pAdd) [.v (fOp (on2 pMod) [.s 0, .v (fC (.int 2147483629))]), .v (fC (.int 1))]), .v (fC (.int 0))])
def M__law_pen_2 : Fn := fnM 1 1 [] b__law_pen_2
def b__law_cell : SF := fSeq (fIfS (fB (fOp (on2 (cmI (fun i j => decide (i < j)))) [.s 1, .v (fOp (on1 pLen) [.s 0])])) (fRet (fOp (on2 pIx) [.s 0, .s 1])) (fSkip))
  (fRet (fC (.int 0)))
def M__law_cell : Fn := fnM 2 2 [] b__law_cell
def b__law_draw_2 : SF := fSeq (fIfS (fB (fOp (on2 (cmI (fun i j => decide (j < i)))) [.v (fOp (on2 pIx) [.s 0, .v (fC (.int 0))]), .v (fC (.int 0))])) (fSeq (fSet 3 (fOp (on2 pMod) [.v (fOp (on2 pIx) [.s 0, .v (fC (.int 0))]), .s 1]))
  (fSeq (fSetI 0 (.v (fC (.int 0))) (fOp (on2 pDivW) [.v (fOp (on2 pIx) [.s 0, .v (fC (.int 0))]), .s 1]))
  (fRet (fM 3)))) (fSkip))
  (fSeq (fSetI 0 (.v (fC (.int 2))) (fOp (on2 pAdd) [.v (fOp (on2 pIx) [.s 0, .v (fC (.int 2))]), .v (fC (.int 1))]))
  (fSeq (fSetI 0 (.v (fC (.int 1))) (fOp (on2 pMod) [.v (fOp (on2 pAdd) [.v (fOp (on2 pAdd) [.v (fOp (on2 pMulA) [.v (fOp (on2 pIx) [.s 0, .v (fC (.int 1))]), .v (fC (.int 48271))]), .v (fOp (on2 pMulA) [.v (fC (.int 1009)), .v (fOp (on2 pIx) [.s 0, .v (fC (.int 2))])])]), .v (fC (.int 7))]), .v (fC (.int 2147483647))]))
  (fSeq (fSet 2 (fOp (on2 pMod) [.v (fOp (on2 pAdd) [.v (fOp (on2 pAdd) [.v (fOp (on2 pMulA) [.v (fOp (on2 pIx) [.s 0, .v (fC (.int 1))]), .v (fOp (on2 pIx) [.s 0, .v (fC (.int 1))])]), .v (fOp (on2 pMulA) [.v (fC (.int 69621)), .v (fOp (on2 pIx) [.s 0, .v (fC (.int 1))])])]), .v (fC (.int 11))]), .v (fC (.int 2147483629))]))
  (fSeq (fSet 2 (fOp (on2 pMod) [.v (fOp (on2 pAdd) [.v (fOp (on2 pMulA) [.s 2, .s 2]), .v (fOp (on2 pMulA) [.v (fC (.int 40014)), .s 2])]), .v (fC (.int 2147483587))]))
  (fRet (fOp (on2 pMod) [.v (fOp (on2 pDivW) [.s 2, .v (fC (.int 16))]), .s 1]))))))
def M__law_draw_2 : Fn := fnM 2 4 [0] b__law_draw_2
def b__law_pick_2 : SF := fRet (fOp (on2 pIx) [.s 1, .v (fCall M__law_draw_2 [.s 0, .v (fOp (on1 pLen) [.s 1])])])
def M__law_pick_2 : Fn := fnM 2 2 [0] b__law_pick_2
def b_is_conversion : SF := fSeq (fIfS (fOrT (fNot (fB (fOp (on1 fun d => some (.fr (.bool (isA .tuple d)))) [.s 1]))) (fOrT (fB (fOp (on2 pNe) [.v (fOp (on1 pLen) [.s 1]), .v (fC (.int 3))])) (fNot (fB (fCall M_is_between [.v (fOp (on2 pIx) [.s 1, .v (fC (.int 2))]), .v (fC (.int 0)), .v (fC (.int 20))]))))) (fRet (fC (.bool false))) (fSkip))
  (fRet (fAnd (fCall M_is_between [.v (fOp (on2 pIx) [.s 1, .v (fC (.int 0))]), .v (fC (.int 0)), .v (fOp (on2 pSub) [.s 0, .v (fC (.int 1))])]) (fAnd (fCall M_is_between [.v (fOp (on2 pIx) [.s 1, .v (fC (.int 1))]), .v (fC (.int 0)), .v (fOp (on2 pSub) [.s 0, .v (fC (.int 1))])]) (fOp (on2 pNe) [.v (fOp (on2 pIx) [.s 1, .v (fC (.int 0))]), .v (fOp (on2 pIx) [.s 1, .v (fC (.int 1))])]))))
def M_is_conversion : Fn := fnM 2 2 [] b_is_conversion
def E1_is_instruction : EF := fCall M_is_between [.v (fV 3), .v (fC (.int 0)), .v (fOp (on2 pSub) [.s 1, .v (fC (.int 1))])]
def b_is_instruction : SF := fSeq (fIfS (fOrT (fNot (fB (fOp (on1 fun d => some (.fr (.bool (isA .tuple d)))) [.s 2]))) (fOrT (fB (fOp (on2 pNe) [.v (fOp (on1 pLen) [.s 2]), .v (fC (.int 4))])) (fNot (fB (fCall M_is_between [.v (fOp (on2 pIx) [.s 2, .v (fC (.int 0))]), .v (fC (.int 0)), .v (fOp (on2 pSub) [.s 1, .v (fC (.int 1))])]))))) (fRet (fC (.bool false))) (fSkip))
  (fSeq (fIfS (fOrT (fNot (fB (fCall M_is_between [.v (fOp (on2 pIx) [.s 2, .v (fC (.int 1))]), .v (fC (.int 0)), .v (fOp (on2 pSub) [.v (fOp (on1 pLen) [.s 0]), .v (fC (.int 1))])]))) (fNot (fB (fCall M_is_between [.v (fOp (on2 pIx) [.s 2, .v (fC (.int 3))]), .v (fC (.int 0)), .v (fC (.int 20))])))) (fRet (fC (.bool false))) (fSkip))
  (fSeq (fIfS (fOrT (fNot (fB (fOp (on1 fun d => some (.fr (.bool (isA .tuple d)))) [.v (fOp (on2 pIx) [.s 2, .v (fC (.int 2))])]))) (fB (fOp (on2 pNe) [.v (fOp (on1 pLen) [.v (fOp (on2 pIx) [.s 2, .v (fC (.int 2))])]), .v (fOp (on2 pIx) [.s 0, .v (fOp (on2 pIx) [.s 2, .v (fC (.int 1))])])]))) (fRet (fC (.bool false))) (fSkip))
  (fRet (fOp (on1 pAll) [.v (fLc (fSq (.v (fOp (on2 pIx) [.s 2, .v (fC (.int 2))]))) [3] (.nm 3) (fYes) (E1_is_instruction))]))))
def M_is_instruction : Fn := fnM 3 4 [] b_is_instruction
def E1_is_machine : EF := fCall M_is_instruction [.v (fV 1), .v (fV 2), .v (fV 5)]
def E2_is_machine : EF := fCall M_is_conversion [.v (fV 2), .v (fV 5)]
def b_is_machine : SF := fSeq (fIfS (fOrT (fNot (fB (fOp (on1 fun d => some (.fr (.bool (isA .tuple d)))) [.s 0]))) (fB (fOp (on2 pNe) [.v (fOp (on1 pLen) [.s 0]), .v (fC (.int 4))]))) (fRet (fC (.bool false))) (fSkip))
  (fSeq (fAsT (.tu [1, 2, 3, 4]) (fV 0))
  (fSeq (fIfS (fOrT (fNot (fB (fCall M_is_arities [.v (fV 1)]))) (fNot (fB (fCall M_is_between [.v (fV 2), .v (fC (.int 1)), .v (fC (.int 4))])))) (fRet (fC (.bool false))) (fSkip))
  (fSeq (fIfS (fOrT (fNot (fB (fOp (on1 fun d => some (.fr (.bool (isA .tuple d)))) [.s 3]))) (fB (fOp (on2 (cmI (fun i j => decide (j < i)))) [.v (fOp (on1 pLen) [.s 3]), .v (fC (.int 24))]))) (fRet (fC (.bool false))) (fSkip))
  (fSeq (fIfS (fOrT (fNot (fB (fOp (on1 fun d => some (.fr (.bool (isA .tuple d)))) [.s 4]))) (fB (fOp (on2 (cmI (fun i j => decide (j < i)))) [.v (fOp (on1 pLen) [.s 4]), .v (fC (.int 12))]))) (fRet (fC (.bool false))) (fSkip))
  (fSeq (fIfS (fNot (fB (fOp (on1 pAll) [.v (fLc (fSq (.v (fV 3))) [5] (.nm 5) (fYes) (E1_is_machine))]))) (fRet (fC (.bool false))) (fSkip))
  (fRet (fOp (on1 pAll) [.v (fLc (fSq (.v (fV 4))) [5] (.nm 5) (fYes) (E2_is_machine))])))))))
def M_is_machine : Fn := fnM 1 6 [] b_is_machine
abbrev V_is_machine (thing : Option O := none) (arities : Option O := none) (forms : Option O := none) (instructions : Option O := none) (conversions : Option O := none) (one : Option O := none) : Dy.Env := [thing, arities, forms, instructions, conversions, one]
end Q
namespace Q
open PySem Dy
open L2 (atI ixN)
/-- arities -/
structure ArOk (as : List Nat) : Prop where
  le2 : ∀ a ∈ as, a ≤ 2
  len : as.length ≤ 6
  pos : 0 < as.length
abbrev encA (as : List Nat) : PyData := .tuple (as.map dN)
theorem between_ok {a lo hi : Int} : M_is_between [.fr (.int a), .fr (.int lo), .fr (.int hi)] = .ok (.fr (.bool (decide (lo ≤ a) && decide (a ≤ hi))), [.fr (.int a), .fr (.int lo), .fr (.int hi)]) := by
  by_cases h : lo ≤ a
  · simp [M_is_between, b_is_between, q_mulAI, q_mulAL, a_wb, q_divW, Function.comp_def, q_starI, q_starIT, a_wp, a_fz, a_fz0, a_fz1, a_ext, a_ins, a_insA, a_pop, a_parN, a_evO0, a_evO1, a_setO0, a_setO1, a_ix2, a_setII, a_zN, a_zC, a_lcO, d_oo, pEq_int, pNe_int, pIxL, pIxT, atI_nat, atI_0, atI_1, atI_2, atI_3, atI_m1, cutLo, cutHi, cutLo1, cutHi1, a_seq, a_ifS, a_B, a_op, a_ov, a_ev0, a_evv, a_evs, a_C, a_V, a_M, a_set, a_setI, a_app, a_ret, a_ex, a_skip, a_no, a_not, a_andT, a_orT, a_and, a_or, a_notV, a_if, a_par, a_call, a_forS, a_sq, a_r1, a_r2, a_en, a_zp, a_asT, a_chI, a_yes, a_lc, a_fn, okA, f_fr, bkA, rsvs, rsv, dvs, on1, on2, d_fr, d_ol, rsO, ndS, sl, putB, asT, setAll, ofO, Dy.ints1, Dy.ints2, nE, wipeE, unw, frO, q_addI, q_addL, q_addT, q_addS, q_sub, q_div, q_mod, q_pow, q_neg, q_cm, pIs, pIsn, q_isN, q_isI, q_isS, q_isT, q_isL, q_isB, q_lenL, q_lenT, pTup, pLst, q_tupL, q_tupT, q_lstL, q_lstT, q_revL, q_slL, q_slT, q_shL, q_shT, q_sqL, q_sqT, q_intI, q_max2, q_min2, q_aII, q_aBI, q_aTI, q_aTT, q_aLL, q_aTL, q_aIT, h]
  · simp [M_is_between, b_is_between, q_mulAI, q_mulAL, a_wb, q_divW, Function.comp_def, q_starI, q_starIT, a_wp, a_fz, a_fz0, a_fz1, a_ext, a_ins, a_insA, a_pop, a_parN, a_evO0, a_evO1, a_setO0, a_setO1, a_ix2, a_setII, a_zN, a_zC, a_lcO, d_oo, pEq_int, pNe_int, pIxL, pIxT, atI_nat, atI_0, atI_1, atI_2, atI_3, atI_m1, cutLo, cutHi, cutLo1, cutHi1, a_seq, a_ifS, a_B, a_op, a_ov, a_ev0, a_evv, a_evs, a_C, a_V, a_M, a_set, a_setI, a_app, a_ret, a_ex, a_skip, a_no, a_not, a_andT, a_orT, a_and, a_or, a_notV, a_if, a_par, a_call, a_forS, a_sq, a_r1, a_r2, a_en, a_zp, a_asT, a_chI, a_yes, a_lc, a_fn, okA, f_fr, bkA, rsvs, rsv, dvs, on1, on2, d_fr, d_ol, rsO, ndS, sl, putB, asT, setAll, ofO, Dy.ints1, Dy.ints2, nE, wipeE, unw, frO, q_addI, q_addL, q_addT, q_addS, q_sub, q_div, q_mod, q_pow, q_neg, q_cm, pIs, pIsn, q_isN, q_isI, q_isS, q_isT, q_isL, q_isB, q_lenL, q_lenT, pTup, pLst, q_tupL, q_tupT, q_lstL, q_lstT, q_revL, q_slL, q_slT, q_shL, q_shT, q_sqL, q_sqT, q_intI, q_max2, q_min2, q_aII, q_aBI, q_aTI, q_aTT, q_aLL, q_aTL, q_aIT, h]
theorem arities_ok {as : List Nat} (h : ArOk as) : M_is_arities [.fr (encA as)] = .ok (.fr (.bool true), [.fr (encA as)]) := by
  have h1 : (1 : Int) ≤ as.length := by have := h.pos; omega
  have h2 : (as.length : Int) ≤ 6 := by have := h.len; omega
  simp [M_is_arities, b_is_arities, q_mulAI, q_mulAL, a_wb, q_divW, Function.comp_def, q_starI, q_starIT, a_wp, a_fz, a_fz0, a_fz1, a_ext, a_ins, a_insA, a_pop, a_parN, a_evO0, a_evO1, a_setO0, a_setO1, a_ix2, a_setII, a_zN, a_zC, a_lcO, d_oo, pEq_int, pNe_int, pIxL, pIxT, atI_nat, atI_0, atI_1, atI_2, atI_3, atI_m1, cutLo, cutHi, cutLo1, cutHi1, a_seq, a_ifS, a_B, a_op, a_ov, a_ev0, a_evv, a_evs, a_C, a_V, a_M, a_set, a_setI, a_app, a_ret, a_ex, a_skip, a_no, a_not, a_andT, a_orT, a_and, a_or, a_notV, a_if, a_par, a_call, a_forS, a_sq, a_r1, a_r2, a_en, a_zp, a_asT, a_chI, a_yes, a_lc, a_fn, okA, f_fr, bkA, rsvs, rsv, dvs, on1, on2, d_fr, d_ol, rsO, ndS, sl, putB, asT, setAll, ofO, Dy.ints1, Dy.ints2, nE, wipeE, unw, frO, q_addI, q_addL, q_addT, q_addS, q_sub, q_div, q_mod, q_pow, q_neg, q_cm, pIs, pIsn, q_isN, q_isI, q_isS, q_isT, q_isL, q_isB, q_lenL, q_lenT, pTup, pLst, q_tupL, q_tupT, q_lstL, q_lstT, q_revL, q_slL, q_slT, q_shL, q_shT, q_sqL, q_sqT, q_intI, q_max2, q_min2, q_aII, q_aBI, q_aTI, q_aTT, q_aLL, q_aTL, q_aIT, h1, h2]
  rw [lc_tm dN (fun _ => .bool true) as rfl (fun a ha => ?_) (by have := h.len; omega)]
  · simp [q_mulAI, q_mulAL, a_wb, q_divW, Function.comp_def, q_starI, q_starIT, a_wp, a_fz, a_fz0, a_fz1, a_ext, a_ins, a_insA, a_pop, a_parN, a_evO0, a_evO1, a_setO0, a_setO1, a_ix2, a_setII, a_zN, a_zC, a_lcO, d_oo, pEq_int, pNe_int, pIxL, pIxT, atI_nat, atI_0, atI_1, atI_2, atI_3, atI_m1, cutLo, cutHi, cutLo1, cutHi1, a_seq, a_ifS, a_B, a_op, a_ov, a_ev0, a_evv, a_evs, a_C, a_V, a_M, a_set, a_setI, a_app, a_ret, a_ex, a_skip, a_no, a_not, a_andT, a_orT, a_and, a_or, a_notV, a_if, a_par, a_call, a_forS, a_sq, a_r1, a_r2, a_en, a_zp, a_asT, a_chI, a_yes, a_lc, a_fn, okA, f_fr, bkA, rsvs, rsv, dvs, on1, on2, d_fr, d_ol, rsO, ndS, sl, putB, asT, setAll, ofO, Dy.ints1, Dy.ints2, nE, wipeE, unw, frO, q_addI, q_addL, q_addT, q_addS, q_sub, q_div, q_mod, q_pow, q_neg, q_cm, pIs, pIsn, q_isN, q_isI, q_isS, q_isT, q_isL, q_isB, q_lenL, q_lenT, pTup, pLst, q_tupL, q_tupT, q_lstL, q_lstT, q_revL, q_slL, q_slT, q_shL, q_shT, q_sqL, q_sqT, q_intI, q_max2, q_min2, q_aII, q_aBI, q_aTI, q_aTT, q_aLL, q_aTL, q_aIT, pAll_true]
  · have := h.le2 a ha
    simp [E1_is_arities, q_mulAI, q_mulAL, a_wb, q_divW, Function.comp_def, q_starI, q_starIT, a_wp, a_fz, a_fz0, a_fz1, a_ext, a_ins, a_insA, a_pop, a_parN, a_evO0, a_evO1, a_setO0, a_setO1, a_ix2, a_setII, a_zN, a_zC, a_lcO, d_oo, pEq_int, pNe_int, pIxL, pIxT, atI_nat, atI_0, atI_1, atI_2, atI_3, atI_m1, cutLo, cutHi, cutLo1, cutHi1, a_seq, a_ifS, a_B, a_op, a_ov, a_ev0, a_evv, a_evs, a_C, a_V, a_M, a_set, a_setI, a_app, a_ret, a_ex, a_skip, a_no, a_not, a_andT, a_orT, a_and, a_or, a_notV, a_if, a_par, a_call, a_forS, a_sq, a_r1, a_r2, a_en, a_zp, a_asT, a_chI, a_yes, a_lc, a_fn, okA, f_fr, bkA, rsvs, rsv, dvs, on1, on2, d_fr, d_ol, rsO, ndS, sl, putB, asT, setAll, ofO, Dy.ints1, Dy.ints2, nE, wipeE, unw, frO, q_addI, q_addL, q_addT, q_addS, q_sub, q_div, q_mod, q_pow, q_neg, q_cm, pIs, pIsn, q_isN, q_isI, q_isS, q_isT, q_isL, q_isB, q_lenL, q_lenT, pTup, pLst, q_tupL, q_tupT, q_lstL, q_lstT, q_revL, q_slL, q_slT, q_shL, q_shT, q_sqL, q_sqT, q_intI, q_max2, q_min2, q_aII, q_aBI, q_aTI, q_aTT, q_aLL, q_aTL, q_aIT, between_ok]; omega
abbrev Nd := Nat × List Nat
def NdOk (as : List Nat) (k : Nat) (n : Nd) : Prop := as[n.1]? = some n.2.length ∧ ∀ p ∈ n.2, p < k
def WF (as : List Nat) (t : List Nd) : Prop := ∀ k n, t[k]? = some n → NdOk as k n
theorem NdOk.mono {as : List Nat} {k l : Nat} {n : Nd} (h : NdOk as k n) (hl : k ≤ l) : NdOk as l n := ⟨h.1, fun p hp => Nat.lt_of_lt_of_le (h.2 p hp) hl⟩
theorem NdOk.le2 {as : List Nat} {k : Nat} {n : Nd} (ha : ArOk as) (h : NdOk as k n) : n.2.length ≤ 2 := ha.le2 _ (List.mem_of_getElem? h.1)
theorem WF.nil {as : List Nat} : WF as [] := fun k n h => by simp at h
theorem WF.snoc {as : List Nat} {t : List Nd} {n : Nd} (h : WF as t) (hn : NdOk as t.length n) : WF as (t ++ [n]) := by
  intro k m hk
  by_cases h1 : k < t.length
  · rw [List.getElem?_append_left h1] at hk; exact h k m hk
  · have h2 := lt_of_get hk
    have : k = t.length := by simp at h2; omega
    subst this
    simp at hk; subst hk; exact hn
theorem WF.pre {as : List Nat} {t u : List Nd} (h : WF as (t ++ u)) : WF as t := fun k n hk => h k n (by rw [List.getElem?_append_left (lt_of_get hk)]; exact hk)
end Q
namespace Q
open PySem Dy
open L2 (atI ixN)
section
variable {β : Type} (f : Nat → List β → β) (d : β)
end
end Q
namespace Q
open PySem Dy
open L2 (atI ixN)
abbrev Pr := Option Nat
structure Ins where
  form : Nat
  op : Nat
  args : List Nat
  pr : Nat
structure Con where
  a : Nat
  b : Nat
  pr : Nat
structure Mach where
  ar : List Nat
  fs : Nat
  ins : List Ins
  con : List Con
abbrev encI (i : Ins) : PyData := .tuple [dN i.form, dN i.op, .tuple (i.args.map dN), dN i.pr]
abbrev encK (c : Con) : PyData := .tuple [dN c.a, dN c.b, dN c.pr]
abbrev encM (m : Mach) : PyData := .tuple [encA m.ar, dN m.fs, .tuple (m.ins.map encI), .tuple (m.con.map encK)]
structure InsOk (ar : List Nat) (fs : Nat) (i : Ins) : Prop where
  form : i.form < fs
  ar : ar[i.op]? = some i.args.length
  args : ∀ a ∈ i.args, a < fs
  pr : i.pr ≤ 20
structure ConOk (fs : Nat) (c : Con) : Prop where
  a : c.a < fs
  b : c.b < fs
  ne : c.a ≠ c.b
  pr : c.pr ≤ 20
structure MOk (m : Mach) : Prop where
  ar : ArOk m.ar
  f1 : 1 ≤ m.fs
  f4 : m.fs ≤ 4
  il : m.ins.length ≤ 24
  cl : m.con.length ≤ 12
  ins : ∀ i ∈ m.ins, InsOk m.ar m.fs i
  con : ∀ c ∈ m.con, ConOk m.fs c
theorem ins_ok {ar : List Nat} {fs : Nat} {i : Ins} (ha : ArOk ar) (h : InsOk ar fs i) : M_is_instruction [.fr (encA ar), .fr (dN fs), .fr (encI i)] = .ok (.fr (.bool true), [.fr (encA ar), .fr (dN fs), .fr (encI i)]) := by
  have h1 := lt_of_get h.ar
  have h2 := ha.le2 _ (List.mem_of_getElem? h.ar)
  have c1 : (i.op : Int) ≤ ar.length - 1 := by omega
  have c2 : (i.form : Int) ≤ fs - 1 := by have := h.form; omega
  have c3 := h.pr
  have c4 : (i.pr : Int) ≤ 20 := by omega
  simp [M_is_instruction, b_is_instruction, q_mulAI, q_mulAL, a_wb, q_divW, Function.comp_def, q_starI, q_starIT, a_wp, a_fz, a_fz0, a_fz1, a_ext, a_ins, a_insA, a_pop, a_parN, a_evO0, a_evO1, a_setO0, a_setO1, a_ix2, a_setII, a_zN, a_zC, a_lcO, d_oo, pEq_int, pNe_int, pIxL, pIxT, atI_nat, atI_0, atI_1, atI_2, atI_3, atI_m1, cutLo, cutHi, cutLo1, cutHi1, a_seq, a_ifS, a_B, a_op, a_ov, a_ev0, a_evv, a_evs, a_C, a_V, a_M, a_set, a_setI, a_app, a_ret, a_ex, a_skip, a_no, a_not, a_andT, a_orT, a_and, a_or, a_notV, a_if, a_par, a_call, a_forS, a_sq, a_r1, a_r2, a_en, a_zp, a_asT, a_chI, a_yes, a_lc, a_fn, okA, f_fr, bkA, rsvs, rsv, dvs, on1, on2, d_fr, d_ol, rsO, ndS, sl, putB, asT, setAll, ofO, Dy.ints1, Dy.ints2, nE, wipeE, unw, frO, q_addI, q_addL, q_addT, q_addS, q_sub, q_div, q_mod, q_pow, q_neg, q_cm, pIs, pIsn, q_isN, q_isI, q_isS, q_isT, q_isL, q_isB, q_lenL, q_lenT, pTup, pLst, q_tupL, q_tupT, q_lstL, q_lstT, q_revL, q_slL, q_slT, q_shL, q_shT, q_sqL, q_sqT, q_intI, q_max2, q_min2, q_aII, q_aBI, q_aTI, q_aTT, q_aLL, q_aTL, q_aIT, between_ok, c1, c2, c4, h.ar]
  rw [lc_tm dN (fun _ => .bool true) i.args rfl (fun a ha => ?_) (by omega)]
  · simp [q_mulAI, q_mulAL, a_wb, q_divW, Function.comp_def, q_starI, q_starIT, a_wp, a_fz, a_fz0, a_fz1, a_ext, a_ins, a_insA, a_pop, a_parN, a_evO0, a_evO1, a_setO0, a_setO1, a_ix2, a_setII, a_zN, a_zC, a_lcO, d_oo, pEq_int, pNe_int, pIxL, pIxT, atI_nat, atI_0, atI_1, atI_2, atI_3, atI_m1, cutLo, cutHi, cutLo1, cutHi1, a_seq, a_ifS, a_B, a_op, a_ov, a_ev0, a_evv, a_evs, a_C, a_V, a_M, a_set, a_setI, a_app, a_ret, a_ex, a_skip, a_no, a_not, a_andT, a_orT, a_and, a_or, a_notV, a_if, a_par, a_call, a_forS, a_sq, a_r1, a_r2, a_en, a_zp, a_asT, a_chI, a_yes, a_lc, a_fn, okA, f_fr, bkA, rsvs, rsv, dvs, on1, on2, d_fr, d_ol, rsO, ndS, sl, putB, asT, setAll, ofO, Dy.ints1, Dy.ints2, nE, wipeE, unw, frO, q_addI, q_addL, q_addT, q_addS, q_sub, q_div, q_mod, q_pow, q_neg, q_cm, pIs, pIsn, q_isN, q_isI, q_isS, q_isT, q_isL, q_isB, q_lenL, q_lenT, pTup, pLst, q_tupL, q_tupT, q_lstL, q_lstT, q_revL, q_slL, q_slT, q_shL, q_shT, q_sqL, q_sqT, q_intI, q_max2, q_min2, q_aII, q_aBI, q_aTI, q_aTT, q_aLL, q_aTL, q_aIT, pAll_true]
  · have := h.args a ha
    simp [E1_is_instruction, q_mulAI, q_mulAL, a_wb, q_divW, Function.comp_def, q_starI, q_starIT, a_wp, a_fz, a_fz0, a_fz1, a_ext, a_ins, a_insA, a_pop, a_parN, a_evO0, a_evO1, a_setO0, a_setO1, a_ix2, a_setII, a_zN, a_zC, a_lcO, d_oo, pEq_int, pNe_int, pIxL, pIxT, atI_nat, atI_0, atI_1, atI_2, atI_3, atI_m1, cutLo, cutHi, cutLo1, cutHi1, a_seq, a_ifS, a_B, a_op, a_ov, a_ev0, a_evv, a_evs, a_C, a_V, a_M, a_set, a_setI, a_app, a_ret, a_ex, a_skip, a_no, a_not, a_andT, a_orT, a_and, a_or, a_notV, a_if, a_par, a_call, a_forS, a_sq, a_r1, a_r2, a_en, a_zp, a_asT, a_chI, a_yes, a_lc, a_fn, okA, f_fr, bkA, rsvs, rsv, dvs, on1, on2, d_fr, d_ol, rsO, ndS, sl, putB, asT, setAll, ofO, Dy.ints1, Dy.ints2, nE, wipeE, unw, frO, q_addI, q_addL, q_addT, q_addS, q_sub, q_div, q_mod, q_pow, q_neg, q_cm, pIs, pIsn, q_isN, q_isI, q_isS, q_isT, q_isL, q_isB, q_lenL, q_lenT, pTup, pLst, q_tupL, q_tupT, q_lstL, q_lstT, q_revL, q_slL, q_slT, q_shL, q_shT, q_sqL, q_sqT, q_intI, q_max2, q_min2, q_aII, q_aBI, q_aTI, q_aTT, q_aLL, q_aTL, q_aIT, between_ok]; omega
theorem con_ok {fs : Nat} {c : Con} (h : ConOk fs c) : M_is_conversion [.fr (dN fs), .fr (encK c)] = .ok (.fr (.bool true), [.fr (dN fs), .fr (encK c)]) := by
  have c1 : (c.a : Int) ≤ fs - 1 := by have := h.a; omega
  have c2 : (c.b : Int) ≤ fs - 1 := by have := h.b; omega
  have c3 : (c.pr : Int) ≤ 20 := by have := h.pr; omega
  have c4 : ¬ (c.a : Int) = c.b := by have := h.ne; omega
  simp [M_is_conversion, b_is_conversion, q_mulAI, q_mulAL, a_wb, q_divW, Function.comp_def, q_starI, q_starIT, a_wp, a_fz, a_fz0, a_fz1, a_ext, a_ins, a_insA, a_pop, a_parN, a_evO0, a_evO1, a_setO0, a_setO1, a_ix2, a_setII, a_zN, a_zC, a_lcO, d_oo, pEq_int, pNe_int, pIxL, pIxT, atI_nat, atI_0, atI_1, atI_2, atI_3, atI_m1, cutLo, cutHi, cutLo1, cutHi1, a_seq, a_ifS, a_B, a_op, a_ov, a_ev0, a_evv, a_evs, a_C, a_V, a_M, a_set, a_setI, a_app, a_ret, a_ex, a_skip, a_no, a_not, a_andT, a_orT, a_and, a_or, a_notV, a_if, a_par, a_call, a_forS, a_sq, a_r1, a_r2, a_en, a_zp, a_asT, a_chI, a_yes, a_lc, a_fn, okA, f_fr, bkA, rsvs, rsv, dvs, on1, on2, d_fr, d_ol, rsO, ndS, sl, putB, asT, setAll, ofO, Dy.ints1, Dy.ints2, nE, wipeE, unw, frO, q_addI, q_addL, q_addT, q_addS, q_sub, q_div, q_mod, q_pow, q_neg, q_cm, pIs, pIsn, q_isN, q_isI, q_isS, q_isT, q_isL, q_isB, q_lenL, q_lenT, pTup, pLst, q_tupL, q_tupT, q_lstL, q_lstT, q_revL, q_slL, q_slT, q_shL, q_shT, q_sqL, q_sqT, q_intI, q_max2, q_min2, q_aII, q_aBI, q_aTI, q_aTT, q_aLL, q_aTL, q_aIT, between_ok, c1, c2, c3, c4]
theorem machine_ok {m : Mach} (h : MOk m) : M_is_machine [.fr (encM m)] = .ok (.fr (.bool true), [.fr (encM m)]) := by
  have c1 : (1 : Int) ≤ m.fs := by have := h.f1; omega
  have c2 : (m.fs : Int) ≤ 4 := by have := h.f4; omega
  have c3 : ¬ (24 : Int) < m.ins.length := by have := h.il; omega
  have c4 : ¬ (12 : Int) < m.con.length := by have := h.cl; omega
  simp [M_is_machine, b_is_machine, q_mulAI, q_mulAL, a_wb, q_divW, Function.comp_def, q_starI, q_starIT, a_wp, a_fz, a_fz0, a_fz1, a_ext, a_ins, a_insA, a_pop, a_parN, a_evO0, a_evO1, a_setO0, a_setO1, a_ix2, a_setII, a_zN, a_zC, a_lcO, d_oo, pEq_int, pNe_int, pIxL, pIxT, atI_nat, atI_0, atI_1, atI_2, atI_3, atI_m1, cutLo, cutHi, cutLo1, cutHi1, a_seq, a_ifS, a_B, a_op, a_ov, a_ev0, a_evv, a_evs, a_C, a_V, a_M, a_set, a_setI, a_app, a_ret, a_ex, a_skip, a_no, a_not, a_andT, a_orT, a_and, a_or, a_notV, a_if, a_par, a_call, a_forS, a_sq, a_r1, a_r2, a_en, a_zp, a_asT, a_chI, a_yes, a_lc, a_fn, okA, f_fr, bkA, rsvs, rsv, dvs, on1, on2, d_fr, d_ol, rsO, ndS, sl, putB, asT, setAll, ofO, Dy.ints1, Dy.ints2, nE, wipeE, unw, frO, q_addI, q_addL, q_addT, q_addS, q_sub, q_div, q_mod, q_pow, q_neg, q_cm, pIs, pIsn, q_isN, q_isI, q_isS, q_isT, q_isL, q_isB, q_lenL, q_lenT, pTup, pLst, q_tupL, q_tupT, q_lstL, q_lstT, q_revL, q_slL, q_slT, q_shL, q_shT, q_sqL, q_sqT, q_intI, q_max2, q_min2, q_aII, q_aBI, q_aTI, q_aTT, q_aLL, q_aTL, q_aIT, arities_ok h.ar, between_ok, c1, c2, c3, c4]
  rw [lc_tm encI (fun _ => .bool true) m.ins rfl (fun i hi => ?_) (by have := h.il; omega)]
  · simp [q_mulAI, q_mulAL, a_wb, q_divW, Function.comp_def, q_starI, q_starIT, a_wp, a_fz, a_fz0, a_fz1, a_ext, a_ins, a_insA, a_pop, a_parN, a_evO0, a_evO1, a_setO0, a_setO1, a_ix2, a_setII, a_zN, a_zC, a_lcO, d_oo, pEq_int, pNe_int, pIxL, pIxT, atI_nat, atI_0, atI_1, atI_2, atI_3, atI_m1, cutLo, cutHi, cutLo1, cutHi1, a_seq, a_ifS, a_B, a_op, a_ov, a_ev0, a_evv, a_evs, a_C, a_V, a_M, a_set, a_setI, a_app, a_ret, a_ex, a_skip, a_no, a_not, a_andT, a_orT, a_and, a_or, a_notV, a_if, a_par, a_call, a_forS, a_sq, a_r1, a_r2, a_en, a_zp, a_asT, a_chI, a_yes, a_lc, a_fn, okA, f_fr, bkA, rsvs, rsv, dvs, on1, on2, d_fr, d_ol, rsO, ndS, sl, putB, asT, setAll, ofO, Dy.ints1, Dy.ints2, nE, wipeE, unw, frO, q_addI, q_addL, q_addT, q_addS, q_sub, q_div, q_mod, q_pow, q_neg, q_cm, pIs, pIsn, q_isN, q_isI, q_isS, q_isT, q_isL, q_isB, q_lenL, q_lenT, pTup, pLst, q_tupL, q_tupT, q_lstL, q_lstT, q_revL, q_slL, q_slT, q_shL, q_shT, q_sqL, q_sqT, q_intI, q_max2, q_min2, q_aII, q_aBI, q_aTI, q_aTT, q_aLL, q_aTL, q_aIT, pAll_true]
    rw [lc_tm encK (fun _ => .bool true) m.con rfl (fun c hc => ?_) (by have := h.cl; omega)]
    · simp [q_mulAI, q_mulAL, a_wb, q_divW, Function.comp_def, q_starI, q_starIT, a_wp, a_fz, a_fz0, a_fz1, a_ext, a_ins, a_insA, a_pop, a_parN, a_evO0, a_evO1, a_setO0, a_setO1, a_ix2, a_setII, a_zN, a_zC, a_lcO, d_oo, pEq_int, pNe_int, pIxL, pIxT, atI_nat, atI_0, atI_1, atI_2, atI_3, atI_m1, cutLo, cutHi, cutLo1, cutHi1, a_seq, a_ifS, a_B, a_op, a_ov, a_ev0, a_evv, a_evs, a_C, a_V, a_M, a_set, a_setI, a_app, a_ret, a_ex, a_skip, a_no, a_not, a_andT, a_orT, a_and, a_or, a_notV, a_if, a_par, a_call, a_forS, a_sq, a_r1, a_r2, a_en, a_zp, a_asT, a_chI, a_yes, a_lc, a_fn, okA, f_fr, bkA, rsvs, rsv, dvs, on1, on2, d_fr, d_ol, rsO, ndS, sl, putB, asT, setAll, ofO, Dy.ints1, Dy.ints2, nE, wipeE, unw, frO, q_addI, q_addL, q_addT, q_addS, q_sub, q_div, q_mod, q_pow, q_neg, q_cm, pIs, pIsn, q_isN, q_isI, q_isS, q_isT, q_isL, q_isB, q_lenL, q_lenT, pTup, pLst, q_tupL, q_tupT, q_lstL, q_lstT, q_revL, q_slL, q_slT, q_shL, q_shT, q_sqL, q_sqT, q_intI, q_max2, q_min2, q_aII, q_aBI, q_aTI, q_aTT, q_aLL, q_aTL, q_aIT, pAll_true]
    · simp [E2_is_machine, q_mulAI, q_mulAL, a_wb, q_divW, Function.comp_def, q_starI, q_starIT, a_wp, a_fz, a_fz0, a_fz1, a_ext, a_ins, a_insA, a_pop, a_parN, a_evO0, a_evO1, a_setO0, a_setO1, a_ix2, a_setII, a_zN, a_zC, a_lcO, d_oo, pEq_int, pNe_int, pIxL, pIxT, atI_nat, atI_0, atI_1, atI_2, atI_3, atI_m1, cutLo, cutHi, cutLo1, cutHi1, a_seq, a_ifS, a_B, a_op, a_ov, a_ev0, a_evv, a_evs, a_C, a_V, a_M, a_set, a_setI, a_app, a_ret, a_ex, a_skip, a_no, a_not, a_andT, a_orT, a_and, a_or, a_notV, a_if, a_par, a_call, a_forS, a_sq, a_r1, a_r2, a_en, a_zp, a_asT, a_chI, a_yes, a_lc, a_fn, okA, f_fr, bkA, rsvs, rsv, dvs, on1, on2, d_fr, d_ol, rsO, ndS, sl, putB, asT, setAll, ofO, Dy.ints1, Dy.ints2, nE, wipeE, unw, frO, q_addI, q_addL, q_addT, q_addS, q_sub, q_div, q_mod, q_pow, q_neg, q_cm, pIs, pIsn, q_isN, q_isI, q_isS, q_isT, q_isL, q_isB, q_lenL, q_lenT, pTup, pLst, q_tupL, q_tupT, q_lstL, q_lstT, q_revL, q_slL, q_slT, q_shL, q_shT, q_sqL, q_sqT, q_intI, q_max2, q_min2, q_aII, q_aBI, q_aTI, q_aTT, q_aLL, q_aTL, q_aIT, con_ok (h.con c hc)]
  · simp [E1_is_machine, q_mulAI, q_mulAL, a_wb, q_divW, Function.comp_def, q_starI, q_starIT, a_wp, a_fz, a_fz0, a_fz1, a_ext, a_ins, a_insA, a_pop, a_parN, a_evO0, a_evO1, a_setO0, a_setO1, a_ix2, a_setII, a_zN, a_zC, a_lcO, d_oo, pEq_int, pNe_int, pIxL, pIxT, atI_nat, atI_0, atI_1, atI_2, atI_3, atI_m1, cutLo, cutHi, cutLo1, cutHi1, a_seq, a_ifS, a_B, a_op, a_ov, a_ev0, a_evv, a_evs, a_C, a_V, a_M, a_set, a_setI, a_app, a_ret, a_ex, a_skip, a_no, a_not, a_andT, a_orT, a_and, a_or, a_notV, a_if, a_par, a_call, a_forS, a_sq, a_r1, a_r2, a_en, a_zp, a_asT, a_chI, a_yes, a_lc, a_fn, okA, f_fr, bkA, rsvs, rsv, dvs, on1, on2, d_fr, d_ol, rsO, ndS, sl, putB, asT, setAll, ofO, Dy.ints1, Dy.ints2, nE, wipeE, unw, frO, q_addI, q_addL, q_addT, q_addS, q_sub, q_div, q_mod, q_pow, q_neg, q_cm, pIs, pIsn, q_isN, q_isI, q_isS, q_isT, q_isL, q_isB, q_lenL, q_lenT, pTup, pLst, q_tupL, q_tupT, q_lstL, q_lstT, q_revL, q_slL, q_slT, q_shL, q_shT, q_sqL, q_sqT, q_intI, q_max2, q_min2, q_aII, q_aBI, q_aTI, q_aTT, q_aLL, q_aTL, q_aIT, ins_ok h.ar (h.ins i hi)]
abbrev Mat := List (List Pr)
def getM (w : Mat) (i j : Nat) : Pr := (w.getD i []).getD j none
def setM (w : Mat) (i j : Nat) (v : Pr) : Mat := w.set i ((w.getD i []).set j v)
def Sq (n : Nat) (w : Mat) : Prop := w.length = n ∧ ∀ r ∈ w, r.length = n
theorem getD_mem {α : Type} {xs : List α} {k : Nat} {d : α} (h : k < xs.length) : xs[k]? = some (xs.getD k d) := by
  rw [List.getD_eq_getElem?_getD, List.getElem?_eq_getElem h]; rfl
theorem Sq.row {n : Nat} {w : Mat} (h : Sq n w) {i : Nat} (hi : i < n) : w[i]? = some (w.getD i []) ∧ (w.getD i []).length = n := by
  have e := getD_mem (xs := w) (d := []) (show i < w.length by rw [h.1]; exact hi)
  exact ⟨e, h.2 _ (List.mem_of_getElem? e)⟩
theorem Sq.at {n : Nat} {w : Mat} (h : Sq n w) {i j : Nat} (hi : i < n) (hj : j < n) : (w.getD i [])[j]? = some (getM w i j) :=
  getD_mem (by rw [(h.row hi).2]; exact hj)
theorem Sq.set {n : Nat} {w : Mat} (h : Sq n w) {i j : Nat} {v : Pr} (hi : i < n) : Sq n (setM w i j v) := by
  refine ⟨by simp [setM, h.1], fun r hr => ?_⟩
  unfold setM at hr
  rcases List.mem_or_eq_of_mem_set hr with z | z
  · exact h.2 r z
  · subst z; rw [List.length_set]; exact (h.row hi).2
theorem Sq.rw {n : Nat} {w : Mat} (h : Sq n w) {i : Nat} (hi : i < n) : ∃ r : List Pr, w[i]? = some r ∧ r.length = n ∧ (∀ j, j < n → r[j]? = some (getM w i j)) ∧ ∀ j v, setM w i j v = w.set i (r.set j v) :=
  ⟨w.getD i [], (h.row hi).1, (h.row hi).2, fun j hj => h.at hi hj, fun j v => rfl⟩
end Q
namespace Q
open PySem Dy
open L2 (atI ixN)
def gP (r : List Pr) (i : Nat) : Pr := r.getD i none
theorem gP_at {r : List Pr} {i : Nat} (h : i < r.length) : r[i]? = some (gP r i) := getD_mem h
def minN : List Nat → Nat
  | [] => 0
  | [x] => x
  | x :: y :: r => min x (minN (y :: r))
theorem minN_mem : ∀ {ns : List Nat}, ns ≠ [] → minN ns ∈ ns
  | [x], _ => by simp [minN]
  | x :: z :: r, _ => by
    have ih := minN_mem (ns := z :: r) (by simp)
    unfold minN
    by_cases h : x ≤ minN (z :: r)
    · rw [Nat.min_eq_left h]; simp
    · rw [Nat.min_eq_right (by omega)]; exact List.mem_cons_of_mem _ ih
def baseP (row : List Pr) : Pr := if row.filterMap id = [] then none else some (minN (row.filterMap id))
end Q
namespace Q
open PySem Dy
open L2 (atI ixN)
theorem mulA (i j : Int) (h : -18446744073709551616 < i ∧ i < 18446744073709551616) : pMul (.int i) (.int j) = some (.fr (.int (i * j))) := by
  have : smI i = true := by unfold smI; exact decide_eq_true ⟨by omega, by omega⟩
  simp [pMul, muOk, this]
theorem mulA' (i j : Int) (h : -18446744073709551616 < j ∧ j < 18446744073709551616) : pMul (.int i) (.int j) = some (.fr (.int (i * j))) := by
  have : smI j = true := by unfold smI; exact decide_eq_true ⟨by omega, by omega⟩
  simp [pMul, muOk, this]
def PenA (o : O) : Prop := ∃ a b c : Int, o = .ol [.int a, .int b, .int c]
theorem penA_ok (z : Int) : ∃ o, PenA o ∧ M__law_pen_2 [.fr (.int z)] = .ok (o, [.fr (.int z)]) := by
  refine ⟨_, ⟨max 0 (z - 10 ^ 18), z % 2147483629 + 1, 0, rfl⟩, ?_⟩
  simp [M__law_pen_2, b__law_pen_2, q_mulAI, q_mulAL, a_wb, q_divW, Function.comp_def, q_starI, q_starIT, a_wp, a_fz, a_fz0, a_fz1, a_ext, a_ins, a_insA, a_pop, a_parN, a_evO0, a_evO1, a_setO0, a_setO1, a_ix2, a_setII, a_zN, a_zC, a_lcO, d_oo, pEq_int, pNe_int, pIxL, pIxT, atI_nat, atI_0, atI_1, atI_2, atI_3, atI_m1, cutLo, cutHi, cutLo1, cutHi1, a_seq, a_ifS, a_B, a_op, a_ov, a_ev0, a_evv, a_evs, a_C, a_V, a_M, a_set, a_setI, a_app, a_ret, a_ex, a_skip, a_no, a_not, a_andT, a_orT, a_and, a_or, a_notV, a_if, a_par, a_call, a_forS, a_sq, a_r1, a_r2, a_en, a_zp, a_asT, a_chI, a_yes, a_lc, a_fn, okA, f_fr, bkA, rsvs, rsv, dvs, on1, on2, d_fr, d_ol, rsO, ndS, sl, putB, asT, setAll, ofO, Dy.ints1, Dy.ints2, nE, wipeE, unw, frO, q_addI, q_addL, q_addT, q_addS, q_sub, q_div, q_mod, q_pow, q_neg, q_cm, pIs, pIsn, q_isN, q_isI, q_isS, q_isT, q_isL, q_isB, q_lenL, q_lenT, pTup, pLst, q_tupL, q_tupT, q_lstL, q_lstT, q_revL, q_slL, q_slT, q_shL, q_shT, q_sqL, q_sqT, q_intI, q_max2, q_min2, q_aII, q_aBI, q_aTI, q_aTT, q_aLL, q_aTL, q_aIT]
theorem cellA_ok {ns : List Int} {k : Nat} : ∃ z : Int, M__law_cell [.fr (.list (ns.map PyData.int)), .fr (dN k)] = .ok (.fr (.int z), [.fr (.list (ns.map PyData.int)), .fr (dN k)]) := by
  by_cases hk : k < ns.length
  · exact ⟨ns[k], by simp [M__law_cell, b__law_cell, q_mulAI, q_mulAL, a_wb, q_divW, Function.comp_def, q_starI, q_starIT, a_wp, a_fz, a_fz0, a_fz1, a_ext, a_ins, a_insA, a_pop, a_parN, a_evO0, a_evO1, a_setO0, a_setO1, a_ix2, a_setII, a_zN, a_zC, a_lcO, d_oo, pEq_int, pNe_int, pIxL, pIxT, atI_nat, atI_0, atI_1, atI_2, atI_3, atI_m1, cutLo, cutHi, cutLo1, cutHi1, a_seq, a_ifS, a_B, a_op, a_ov, a_ev0, a_evv, a_evs, a_C, a_V, a_M, a_set, a_setI, a_app, a_ret, a_ex, a_skip, a_no, a_not, a_andT, a_orT, a_and, a_or, a_notV, a_if, a_par, a_call, a_forS, a_sq, a_r1, a_r2, a_en, a_zp, a_asT, a_chI, a_yes, a_lc, a_fn, okA, f_fr, bkA, rsvs, rsv, dvs, on1, on2, d_fr, d_ol, rsO, ndS, sl, putB, asT, setAll, ofO, Dy.ints1, Dy.ints2, nE, wipeE, unw, frO, q_addI, q_addL, q_addT, q_addS, q_sub, q_div, q_mod, q_pow, q_neg, q_cm, pIs, pIsn, q_isN, q_isI, q_isS, q_isT, q_isL, q_isB, q_lenL, q_lenT, pTup, pLst, q_tupL, q_tupT, q_lstL, q_lstT, q_revL, q_slL, q_slT, q_shL, q_shT, q_sqL, q_sqT, q_intI, q_max2, q_min2, q_aII, q_aBI, q_aTI, q_aTT, q_aLL, q_aTL, q_aIT, hk]⟩
  · exact ⟨0, by simp [M__law_cell, b__law_cell, q_mulAI, q_mulAL, a_wb, q_divW, Function.comp_def, q_starI, q_starIT, a_wp, a_fz, a_fz0, a_fz1, a_ext, a_ins, a_insA, a_pop, a_parN, a_evO0, a_evO1, a_setO0, a_setO1, a_ix2, a_setII, a_zN, a_zC, a_lcO, d_oo, pEq_int, pNe_int, pIxL, pIxT, atI_nat, atI_0, atI_1, atI_2, atI_3, atI_m1, cutLo, cutHi, cutLo1, cutHi1, a_seq, a_ifS, a_B, a_op, a_ov, a_ev0, a_evv, a_evs, a_C, a_V, a_M, a_set, a_setI, a_app, a_ret, a_ex, a_skip, a_no, a_not, a_andT, a_orT, a_and, a_or, a_notV, a_if, a_par, a_call, a_forS, a_sq, a_r1, a_r2, a_en, a_zp, a_asT, a_chI, a_yes, a_lc, a_fn, okA, f_fr, bkA, rsvs, rsv, dvs, on1, on2, d_fr, d_ol, rsO, ndS, sl, putB, asT, setAll, ofO, Dy.ints1, Dy.ints2, nE, wipeE, unw, frO, q_addI, q_addL, q_addT, q_addS, q_sub, q_div, q_mod, q_pow, q_neg, q_cm, pIs, pIsn, q_isN, q_isI, q_isS, q_isT, q_isL, q_isB, q_lenL, q_lenT, pTup, pLst, q_tupL, q_tupT, q_lstL, q_lstT, q_revL, q_slL, q_slT, q_shL, q_shT, q_sqL, q_sqT, q_intI, q_max2, q_min2, q_aII, q_aBI, q_aTI, q_aTT, q_aLL, q_aTL, q_aIT, hk]⟩
theorem drawA {o : O} {m : Int} (h : PenA o) (h1 : 0 < m) (h3 : m < 1000000000000000000000000000000) : ∃ (r : Nat) (o' : O), (r : Int) < m ∧ PenA o' ∧ M__law_draw_2 [o, .fr (.int m)] = .ok (.fr (dN r), [o', .fr (.int m)]) := by
  obtain ⟨a, b, c, rfl⟩ := h
  by_cases ha : 0 < a
  · have q0 := Int.emod_nonneg a (show m ≠ 0 by omega)
    have q1 := Int.emod_lt_of_pos a h1
    have e0 : ((a % m).toNat : Int) = a % m := by omega
    refine ⟨(a % m).toNat, _, by omega, ⟨a / m, b, c, rfl⟩, ?_⟩
    show _ = Res.ok (O.fr (.int ((a % m).toNat : Int)), _)
    rw [e0]
    simp [M__law_draw_2, b__law_draw_2, q_mulAI, q_mulAL, a_wb, q_divW, Function.comp_def, q_starI, q_starIT, a_wp, a_fz, a_fz0, a_fz1, a_ext, a_ins, a_insA, a_pop, a_parN, a_evO0, a_evO1, a_setO0, a_setO1, a_ix2, a_setII, a_zN, a_zC, a_lcO, d_oo, pEq_int, pNe_int, pIxL, pIxT, atI_nat, atI_0, atI_1, atI_2, atI_3, atI_m1, cutLo, cutHi, cutLo1, cutHi1, a_seq, a_ifS, a_B, a_op, a_ov, a_ev0, a_evv, a_evs, a_C, a_V, a_M, a_set, a_setI, a_app, a_ret, a_ex, a_skip, a_no, a_not, a_andT, a_orT, a_and, a_or, a_notV, a_if, a_par, a_call, a_forS, a_sq, a_r1, a_r2, a_en, a_zp, a_asT, a_chI, a_yes, a_lc, a_fn, okA, f_fr, bkA, rsvs, rsv, dvs, on1, on2, d_fr, d_ol, rsO, ndS, sl, putB, asT, setAll, ofO, Dy.ints1, Dy.ints2, nE, wipeE, unw, frO, q_addI, q_addL, q_addT, q_addS, q_sub, q_div, q_mod, q_pow, q_neg, q_cm, pIs, pIsn, q_isN, q_isI, q_isS, q_isT, q_isL, q_isB, q_lenL, q_lenT, pTup, pLst, q_tupL, q_tupT, q_lstL, q_lstT, q_revL, q_slL, q_slT, q_shL, q_shT, q_sqL, q_sqT, q_intI, q_max2, q_min2, q_aII, q_aBI, q_aTI, q_aTT, q_aLL, q_aTL, q_aIT, ixN, ha, h1, h3]
  · have m1 : ∀ i, pMul (.int i) (.int 48271) = some (.fr (.int (i * 48271))) := fun i => mulA' _ _ (by decide)
    have m2 : ∀ i, pMul (.int 1009) (.int i) = some (.fr (.int (1009 * i))) := fun i => mulA _ _ (by decide)
    have m3 : ∀ i, pMul (.int 69621) (.int i) = some (.fr (.int (69621 * i))) := fun i => mulA _ _ (by decide)
    have m4 : ∀ i, pMul (.int 40014) (.int i) = some (.fr (.int (40014 * i))) := fun i => mulA _ _ (by decide)
    generalize hx : (b * 48271 + 1009 * (c + 1) + 7) % 2147483647 = x
    have x0 : 0 ≤ x ∧ x < 2147483647 := by rw [← hx]; exact ⟨Int.emod_nonneg _ (by decide), Int.emod_lt_of_pos _ (by decide)⟩
    have m5 : pMul (.int x) (.int x) = some (.fr (.int (x * x))) := mulA _ _ (by omega)
    generalize hy : (x * x + 69621 * x + 11) % 2147483629 = y
    have y0 : 0 ≤ y ∧ y < 2147483647 := by rw [← hy]; exact ⟨Int.emod_nonneg _ (by decide), Int.lt_trans (Int.emod_lt_of_pos _ (by decide)) (by decide)⟩
    have m6 : pMul (.int y) (.int y) = some (.fr (.int (y * y))) := mulA _ _ (by omega)
    generalize hz : (y * y + 40014 * y) % 2147483587 / 16 = z
    have q0 := Int.emod_nonneg z (show m ≠ 0 by omega)
    have q1 := Int.emod_lt_of_pos z h1
    have e0 : ((z % m).toNat : Int) = z % m := by omega
    refine ⟨(z % m).toNat, _, by omega, ⟨a, x, c + 1, rfl⟩, ?_⟩
    show _ = Res.ok (O.fr (.int ((z % m).toNat : Int)), _)
    rw [e0]
    simp [M__law_draw_2, b__law_draw_2, q_mulAI, q_mulAL, a_wb, q_divW, Function.comp_def, q_starI, q_starIT, a_wp, a_fz, a_fz0, a_fz1, a_ext, a_ins, a_insA, a_pop, a_parN, a_evO0, a_evO1, a_setO0, a_setO1, a_ix2, a_setII, a_zN, a_zC, a_lcO, d_oo, pEq_int, pNe_int, pIxL, pIxT, atI_nat, atI_0, atI_1, atI_2, atI_3, atI_m1, cutLo, cutHi, cutLo1, cutHi1, a_seq, a_ifS, a_B, a_op, a_ov, a_ev0, a_evv, a_evs, a_C, a_V, a_M, a_set, a_setI, a_app, a_ret, a_ex, a_skip, a_no, a_not, a_andT, a_orT, a_and, a_or, a_notV, a_if, a_par, a_call, a_forS, a_sq, a_r1, a_r2, a_en, a_zp, a_asT, a_chI, a_yes, a_lc, a_fn, okA, f_fr, bkA, rsvs, rsv, dvs, on1, on2, d_fr, d_ol, rsO, ndS, sl, putB, asT, setAll, ofO, Dy.ints1, Dy.ints2, nE, wipeE, unw, frO, q_addI, q_addL, q_addT, q_addS, q_sub, q_div, q_mod, q_pow, q_neg, q_cm, pIs, pIsn, q_isN, q_isI, q_isS, q_isT, q_isL, q_isB, q_lenL, q_lenT, pTup, pLst, q_tupL, q_tupT, q_lstL, q_lstT, q_revL, q_slL, q_slT, q_shL, q_shT, q_sqL, q_sqT, q_intI, q_max2, q_min2, q_aII, q_aBI, q_aTI, q_aTT, q_aLL, q_aTL, q_aIT, ixN, ha, h1, m1, m2, m3, m4, hx, m5, hy, m6, hz]
theorem drawA_upto {o : O} (h : PenA o) (k : Nat) (h1 : 0 < k) (h2 : k < 1000000) : ∃ (r : Nat) (o' : O), r < k ∧ PenA o' ∧ M__law_draw_2 [o, .fr (.int (k : Int))] = .ok (.fr (dN r), [o', .fr (.int (k : Int))]) := by
  obtain ⟨r, o', q1, q2, q3⟩ := drawA (m := (k : Int)) h (by omega) (by omega)
  exact ⟨r, o', by omega, q2, q3⟩
theorem drawA_lit {o : O} {mi : Int} (k : Nat) (h : PenA o) (h1 : 0 < k) (h2 : k < 1000000) (hm : mi = k) : ∃ (r : Nat) (o' : O), r < k ∧ PenA o' ∧ M__law_draw_2 [o, .fr (.int mi)] = .ok (.fr (dN r), [o', .fr (.int mi)]) := by
  subst hm; exact drawA_upto h k h1 h2
theorem pickA {o : O} {xs : List PyData} (h : PenA o) (hx : xs ≠ []) (hl : xs.length < 1000000) : ∃ (d : PyData) (o' : O), d ∈ xs ∧ PenA o' ∧ M__law_pick_2 [o, .fr (.list xs)] = .ok (.fr d, [o', .fr (.list xs)]) := by
  have h0 : 0 < xs.length := List.length_pos_iff.mpr hx
  obtain ⟨r, o', q1, q2, q3⟩ := drawA_upto h xs.length h0 hl
  obtain ⟨d, hd, hm⟩ := get_of_lt q1
  exact ⟨d, o', hm, q2, by simp [M__law_pick_2, b__law_pick_2, q_mulAI, q_mulAL, a_wb, q_divW, Function.comp_def, q_starI, q_starIT, a_wp, a_fz, a_fz0, a_fz1, a_ext, a_ins, a_insA, a_pop, a_parN, a_evO0, a_evO1, a_setO0, a_setO1, a_ix2, a_setII, a_zN, a_zC, a_lcO, d_oo, pEq_int, pNe_int, pIxL, pIxT, atI_nat, atI_0, atI_1, atI_2, atI_3, atI_m1, cutLo, cutHi, cutLo1, cutHi1, a_seq, a_ifS, a_B, a_op, a_ov, a_ev0, a_evv, a_evs, a_C, a_V, a_M, a_set, a_setI, a_app, a_ret, a_ex, a_skip, a_no, a_not, a_andT, a_orT, a_and, a_or, a_notV, a_if, a_par, a_call, a_forS, a_sq, a_r1, a_r2, a_en, a_zp, a_asT, a_chI, a_yes, a_lc, a_fn, okA, f_fr, bkA, rsvs, rsv, dvs, on1, on2, d_fr, d_ol, rsO, ndS, sl, putB, asT, setAll, ofO, Dy.ints1, Dy.ints2, nE, wipeE, unw, frO, q_addI, q_addL, q_addT, q_addS, q_sub, q_div, q_mod, q_pow, q_neg, q_cm, pIs, pIsn, q_isN, q_isI, q_isS, q_isT, q_isL, q_isB, q_lenL, q_lenT, pTup, pLst, q_tupL, q_tupT, q_lstL, q_lstT, q_revL, q_slL, q_slT, q_shL, q_shT, q_sqL, q_sqT, q_intI, q_max2, q_min2, q_aII, q_aBI, q_aTI, q_aTT, q_aLL, q_aTL, q_aIT, q3, hd]⟩
end Q
namespace Q
def Least (A : Nat → Prop) (v : Pr) : Prop := (∀ x, v = some x → A x) ∧ ∀ y, A y → ∃ x, v = some x ∧ x ≤ y
theorem Least.congr {A B : Nat → Prop} {v : Pr} (h : Least A v) (e : ∀ x, A x ↔ B x) : Least B v := ⟨fun x q => (e x).mp (h.1 x q), fun y q => h.2 y ((e y).mpr q)⟩
def leP (a b : Pr) : Prop := ∀ y, b = some y → ∃ x, a = some x ∧ x ≤ y
theorem leP.refl (a : Pr) : leP a a := fun y e => ⟨y, e, Nat.le_refl _⟩
theorem leP.trans {a b c : Pr} (h : leP a b) (k : leP b c) : leP a c := fun z e => by
  obtain ⟨y, e1, l1⟩ := k z e
  obtain ⟨x, e2, l2⟩ := h y e1
  exact ⟨x, e2, by omega⟩
theorem leP.none (a : Pr) : leP a none := fun y e => by cases e
inductive Wk (cs : List Con) : Nat → Nat → Nat → Prop
  | refl (i : Nat) : Wk cs i i 0
  | step {j c : Nat} (k : Con) : k ∈ cs → Wk cs k.b j c → Wk cs k.a j (k.pr + c)
theorem Wk.edge {cs : List Con} {k : Con} (h : k ∈ cs) : Wk cs k.a k.b k.pr := Wk.step k h (.refl _)
theorem Wk.trans {cs : List Con} {i j l c d : Nat} (h : Wk cs i j c) (g : Wk cs j l d) : Wk cs i l (c + d) := by
  induction h with
  | refl i => rw [Nat.zero_add]; exact g
  | step k hk _ ih => rw [Nat.add_assoc]; exact .step k hk (ih g)
inductive WU (cs : List Con) (u : Nat) : Nat → Nat → Nat → Prop
  | refl (i : Nat) : WU cs u i i 0
  | edge (k : Con) : k ∈ cs → WU cs u k.a k.b k.pr
  | cons {j c : Nat} (k : Con) : k ∈ cs → k.b < u → WU cs u k.b j c → WU cs u k.a j (k.pr + c)
theorem WU.split {cs : List Con} {u i j c : Nat} (h : WU cs (u + 1) i j c) : WU cs u i j c ∨ ∃ c1 c2, WU cs u i u c1 ∧ WU cs u u j c2 ∧ c1 + c2 ≤ c := by
  induction h with
  | refl i => exact .inl (.refl i)
  | edge k hk => exact .inl (.edge k hk)
  | @cons j c k hk hu _ ih =>
    by_cases e : k.b < u
    · rcases ih with z | ⟨c1, c2, z1, z2, z3⟩
      · exact .inl (.cons k hk e z)
      · exact .inr ⟨k.pr + c1, c2, .cons k hk e z1, z2, by omega⟩
    · have e : k.b = u := by omega
      have ed : WU cs u k.a u k.pr := by have := WU.edge (u := u) k hk; rw [e] at this; exact this
      rcases ih with z | ⟨c1, c2, z1, z2, z3⟩
      · rw [e] at z; exact .inr ⟨k.pr, c, ed, z, Nat.le_refl _⟩
      · exact .inr ⟨k.pr, c2, ed, z2, by omega⟩
theorem Wk.lt {cs : List Con} {n i j c : Nat} (hn : ∀ k ∈ cs, k.b < n) (h : Wk cs i j c) (hi : i < n) : j < n := by
  induction h with
  | refl i => exact hi
  | step k hk _ ih => exact ih (hn k hk)
section
variable {m : Mach}
def leM (n : Nat) (w w' : Mat) : Prop := ∀ i j, i < n → j < n → leP (getM w i j) (getM w' i j)
theorem leM.refl (n : Nat) (w : Mat) : leM n w w := fun _ _ _ _ => leP.refl _
theorem leM.trans {n : Nat} {a b c : Mat} (h : leM n a b) (k : leM n b c) : leM n a c := fun i j hi hj => (h i j hi hj).trans (k i j hi hj)
def leR (n : Nat) (f g : List Pr) : Prop := ∀ j, j < n → leP (gP f j) (gP g j)
theorem leR.refl (n : Nat) (f : List Pr) : leR n f f := fun _ _ => leP.refl _
theorem leR.trans {n : Nat} {a b c : List Pr} (h : leR n a b) (k : leR n b c) : leR n a c := fun j hj => (h j hj).trans (k j hj)
end
end Q
namespace Q
/-- a way with t steps whose places all lie in U -/
inductive AW (cs : List Con) (U : List Nat) : Nat → Nat → Nat → Nat → Prop
  | refl (i : Nat) : i ∈ U → AW cs U i i 0 0
  | step {j t c : Nat} (k : Con) : k ∈ cs → k.a ∈ U → AW cs U k.b j t c → AW cs U k.a j (t + 1) (k.pr + c)
theorem AW.start {cs : List Con} {U : List Nat} {i j t c : Nat} (h : AW cs U i j t c) : i ∈ U := by
  cases h with
  | refl i hi => exact hi
  | step k _ hk _ => exact hk
theorem AW.mono {cs : List Con} {U V : List Nat} {i j t c : Nat} (s : ∀ x ∈ U, x ∈ V) (h : AW cs U i j t c) : AW cs V i j t c := by
  induction h with
  | refl i hi => exact .refl i (s i hi)
  | step k hk ha _ ih => exact .step k hk (s _ ha) ih
theorem AW.last {cs : List Con} {U : List Nat} {i j t c : Nat} (x : Nat) (h : AW cs U i j t c) :
    AW cs (U.filter fun y => decide (y ≠ x)) i j t c ∨ x = j ∨ ∃ k ∈ cs, k.a = x ∧ ∃ t' c', AW cs (U.filter fun y => decide (y ≠ x)) k.b j t' c' ∧ k.pr + c' ≤ c := by
  induction h with
  | refl i hi =>
    by_cases e : i = x
    · exact .inr (.inl e.symm)
    · exact .inl (.refl i (List.mem_filter.mpr ⟨hi, by simpa using e⟩))
  | @step j t c k hk ha _ ih =>
    rcases ih with z | z | ⟨k', h1, h2, t', c', h3, h4⟩
    · by_cases e : k.a = x
      · exact .inr (.inr ⟨k, hk, e, t, c, z, Nat.le_refl _⟩)
      · exact .inl (.step k hk (List.mem_filter.mpr ⟨ha, by simpa using e⟩) z)
    · exact .inr (.inl z)
    · exact .inr (.inr ⟨k', h1, h2, t', c', h3, by omega⟩)
theorem AW.short {cs : List Con} : ∀ (n : Nat) {U : List Nat} {i j t c : Nat}, U.length ≤ n → AW cs U i j t c → ∃ t' c', t' < U.length ∧ c' ≤ c ∧ AW cs U i j t' c'
  | 0, U, i, j, t, c, hn, h => by
    have := h.start
    have : U = [] := List.length_eq_zero_iff.mp (by omega)
    subst this; cases h.start
  | n + 1, U, i, j, t, c, hn, h => by
    have hi := h.start
    have hlt : (U.filter fun y => decide (y ≠ i)).length < U.length := List.length_filter_lt_length_iff_exists.mpr ⟨i, hi, by simp⟩
    rcases h.last i with z | z | ⟨k, h1, h2, t', c', h3, h4⟩
    · have := z.start
      simp at this
    · subst z
      exact ⟨0, 0, by omega, Nat.zero_le _, .refl i hi⟩
    · obtain ⟨t2, c2, l2, l3, w⟩ := AW.short n (by omega) h3
      subst h2
      exact ⟨t2 + 1, k.pr + c2, by omega, by omega, .step k h1 hi (w.mono fun x hx => (List.mem_filter.mp hx).1)⟩
/-- a way with t steps, from its end -/
inductive WS (cs : List Con) : Nat → Nat → Nat → Nat → Prop
  | refl (i : Nat) : WS cs i i 0 0
  | snoc {i t c : Nat} (k : Con) : WS cs i k.a t c → k ∈ cs → WS cs i k.b (t + 1) (c + k.pr)
theorem WS.cons {cs : List Con} {j t c : Nat} {k : Con} (hk : k ∈ cs) {i : Nat} (h : WS cs i j t c) (e : i = k.b) : WS cs k.a j (t + 1) (k.pr + c) := by
  induction h with
  | refl => subst e; have := WS.snoc (t := 0) k (.refl k.a) hk; simpa using this
  | snoc l _ hl ih => rw [← Nat.add_assoc]; exact .snoc l ih hl
theorem AW.ws {cs : List Con} {U : List Nat} {i j t c : Nat} (h : AW cs U i j t c) : WS cs i j t c := by
  induction h with
  | refl i _ => exact .refl i
  | step k hk _ _ ih => exact WS.cons hk ih rfl
theorem Wk.aw {cs : List Con} {n i j c : Nat} (ha : ∀ k ∈ cs, k.a < n ∧ k.b < n) (h : Wk cs i j c) (hi : i < n) : ∃ t, AW cs (List.range n) i j t c := by
  induction h with
  | refl i => exact ⟨0, .refl i (List.mem_range.mpr hi)⟩
  | step k hk _ ih =>
    obtain ⟨t, w⟩ := ih (ha k hk).2
    exact ⟨t + 1, .step k hk (List.mem_range.mpr (ha k hk).1) w⟩
theorem Wk.short {cs : List Con} {n i j c : Nat} (ha : ∀ k ∈ cs, k.a < n ∧ k.b < n) (h : Wk cs i j c) (hi : i < n) : ∃ t c', t < n ∧ c' ≤ c ∧ WS cs i j t c' := by
  obtain ⟨t, w⟩ := h.aw ha hi
  obtain ⟨t', c', l1, l2, w'⟩ := AW.short n (by simp) w
  exact ⟨t', c', by simpa using l1, l2, w'.ws⟩
section
variable {m : Mach}
theorem gP_out {r : List Pr} {i : Nat} (h : r.length ≤ i) : gP r i = none := by unfold gP; rw [List.getD_eq_getElem?_getD, List.getElem?_eq_none h]; rfl
end
end Q
namespace Q
open PySem Dy
/-- rows whose numbers are less than a bound -/
def Bd (B : Nat) (row : List Pr) : Prop := ∀ x, some x ∈ row → x < B
theorem Bd.mono {B C : Nat} {row : List Pr} (h : Bd B row) (l : B ≤ C) : Bd C row := fun x hx => Nat.lt_of_lt_of_le (h x hx) l
theorem Bd.base {B : Nat} {row : List Pr} (h : Bd B row) {b : Nat} (e : baseP row = some b) : b < B := by
  unfold baseP at e
  split at e
  · cases e
  · rename_i hy
    cases e
    obtain ⟨p, hp, e⟩ := List.mem_filterMap.mp (minN_mem hy)
    have e : p = some (minN (row.filterMap id)) := e
    subst e
    exact h _ hp
theorem Bd.at {B : Nat} {row : List Pr} (h : Bd B row) {i x : Nat} (e : gP row i = some x) : x < B := by
  by_cases hi : i < row.length
  · have := gP_at hi; rw [e] at this; exact h x (List.mem_of_getElem? this)
  · rw [gP_out (by omega)] at e; cases e
end Q
namespace Q
theorem Least.sh {A : Nat → Prop} {v : Pr} (h : Least A v) (k : Nat) : Least (fun z => ∃ x, A x ∧ z = x + k) (v.map (· + k)) := by
  refine ⟨fun x e => ?_, fun y hy => ?_⟩
  · cases v with
    | none => cases e
    | some a => cases e; exact ⟨a, h.1 a rfl, rfl⟩
  · obtain ⟨x, hx, rfl⟩ := hy
    obtain ⟨a, rfl, l⟩ := h.2 x hx
    exact ⟨a + k, rfl, by omega⟩
end Q
namespace Q
open PySem Dy
open L2 (atI ixN)
def PenB (n : Nat) (o : O) : Prop := ∃ a b c : Int, o = .ol [.int a, .int b, .int c] ∧ 0 ≤ b ∧ b < 1000000007 ∧ 0 ≤ c ∧ c ≤ n
theorem PenB.mono {n m : Nat} {o : O} (h : PenB n o) (l : n ≤ m) : PenB m o := by
  obtain ⟨a, b, c, e, h1, h2, h3, h4⟩ := h
  exact ⟨a, b, c, e, h1, h2, h3, by omega⟩
end Q
namespace Q
open PySem Dy
open L2 (atI ixN)
end Q
namespace Q
open PySem Dy
open L2 (atI ixN)
end Q
namespace Q
open PySem Dy
open L2 (atI ixN)
mutual
def nstr : PyData → Bool
  | .none | .bool _ | .int _ => true
  | .str _ => false
  | .list xs | .tuple xs => nstrs xs
  | .dict _ => false
def nstrs : List PyData → Bool
  | [] => true
  | x :: xs => nstr x && nstrs xs
end
theorem nstrs_all : ∀ {xs : List PyData}, (∀ d ∈ xs, nstr d = true) → nstrs xs = true
  | [], _ => rfl
  | x :: xs, h => by
    unfold nstrs
    rw [h x (by simp), nstrs_all fun d hd => h d (by simp [hd])]; rfl
theorem sok_of (s : String) : PyData.strOk (Str.ofString s) = true := by
  unfold PyData.strOk
  rw [Str.ofString_eq_toList]
  simp only [List.all_toArray, List.all_map, List.all_eq_true, Function.comp_apply, decide_eq_true_eq]
  intro c _
  have := c.valid
  simp only [UInt32.isValidChar, Nat.isValidChar] at this
  show c.val.toNat < 0x110000
  omega
theorem sok_app {a b : Str} (h : PyData.strOk a = true) (h' : PyData.strOk b = true) : PyData.strOk (a ++ b) = true := by
  show (a.cps ++ b.cps).all _ = true
  rw [Array.all_append]
  unfold PyData.strOk at h h'
  rw [h, h']; rfl
theorem sok_from : ∀ (ts : List Str) (k : Nat) (acc : Str), PyData.strOk acc = true → (∀ t ∈ ts, PyData.strOk t = true) → PyData.strOk (textFrom k acc ts) = true
  | [], _, _, h, _ => h
  | t :: ts, k, acc, h, ht => sok_from ts (k + 1) _ (sok_app (sok_app h (sok_of _)) (ht t (by simp))) fun x hx => ht x (by simp [hx])
theorem sok_join : ∀ (ts : List Str), (∀ t ∈ ts, PyData.strOk t = true) → PyData.strOk (Str.join ", " ts) = true
  | [], _ => by decide +kernel
  | [x], h => h x (by simp)
  | x :: y :: r, h => sok_app (sok_app (h x (by simp)) (sok_of _)) (sok_join (y :: r) fun t ht => h t (by simp [ht]))
mutual
theorem sok_shown : ∀ d : PyData, nstr d = true → PyData.strOk d.shown = true
  | .none, _ => by decide +kernel
  | .bool b, _ => by cases b <;> decide +kernel
  | .int i, _ => sok_of _
  | .str x, h => by simp [nstr] at h
  | .list xs, h => sok_app (sok_from _ _ _ (sok_of _) (sok_all xs (by simpa [nstr] using h))) (sok_of _)
  | .tuple xs, h => sok_app (sok_app (sok_of _) (sok_join _ (sok_all xs (by simpa [nstr] using h)))) (sok_of _)
  | .dict _, h => by simp [nstr] at h
theorem sok_all : ∀ ds : List PyData, nstrs ds = true → ∀ t ∈ PyData.shownAll ds, PyData.strOk t = true
  | [], _ => by intro t ht; simp [PyData.shownAll] at ht
  | d :: ds, h => by
    have h' : nstr d = true ∧ nstrs ds = true := by simpa [nstrs] using h
    intro t ht
    have ht' : t = d.shown ∨ t ∈ PyData.shownAll ds := by simpa [PyData.shownAll] using ht
    rcases ht' with rfl | ht'
    · exact sok_shown d h'.1
    · exact sok_all ds h'.2 t ht'
end
end Q
namespace Q
open PySem Dy
end Q
namespace Q
open PySem Dy
end Q
namespace Q
open PySem Dy
end Q
namespace Q
open PySem Dy
open L2 (atI ixN)
mutual
def gd (B : Nat) : PyData → Bool
  | .none => true
  | .bool _ => true
  | .int i => decide (i.natAbs ≤ B)
  | .str x => PyData.strOk x && decide (x.length ≤ 40)
  | .tuple xs => gds B xs
  | .list xs => gds B xs
  | .dict _ => false
def gds (B : Nat) : List PyData → Bool
  | [] => true
  | d :: ds => gd B d && gds B ds
end
mutual
def sz : PyData → Nat
  | .tuple xs => szs xs + 1
  | .list xs => szs xs + 1
  | .none => 1
  | .bool _ => 1
  | .int _ => 1
  | .str _ => 1
  | .dict _ => 1
def szs : List PyData → Nat
  | [] => 0
  | d :: ds => sz d + szs ds
end
theorem gds_iff {B : Nat} : ∀ {ds : List PyData}, gds B ds = true ↔ ∀ d ∈ ds, gd B d = true
  | [] => by simp [gds]
  | d :: ds => by simp [gds, gds_iff (ds := ds)]
theorem szs_sum : ∀ ds : List PyData, szs ds = (ds.map sz).sum
  | [] => rfl
  | d :: ds => by simp [szs, szs_sum ds]
theorem sz_pos (d : PyData) : 1 ≤ sz d := by cases d <;> simp [sz]
theorem szs_len : ∀ ds : List PyData, ds.length ≤ szs ds
  | [] => Nat.le_refl _
  | d :: ds => by have := szs_len ds; have := sz_pos d; simp [szs]; omega
theorem szs_app (a b : List PyData) : szs (a ++ b) = szs a + szs b := by simp [szs_sum]
theorem sz_mem {d : PyData} : ∀ {ds : List PyData}, d ∈ ds → sz d ≤ szs ds
  | [], h => by cases h
  | e :: ds, h => by
    rcases List.mem_cons.mp h with rfl | h
    · simp [szs]
    · have := sz_mem h; simp [szs]; omega
mutual
theorem gd_mono {B C : Nat} (h : B ≤ C) : ∀ d : PyData, gd B d = true → gd C d = true
  | .none, _ => rfl
  | .bool _, _ => rfl
  | .int i, e => by simp only [gd, decide_eq_true_eq] at e ⊢; omega
  | .str x, e => e
  | .tuple xs, e => by simp only [gd] at e ⊢; exact gds_mono h xs e
  | .list xs, e => by simp only [gd] at e ⊢; exact gds_mono h xs e
  | .dict _, e => by simp [gd] at e
theorem gds_mono {B C : Nat} (h : B ≤ C) : ∀ ds : List PyData, gds B ds = true → gds C ds = true
  | [], _ => rfl
  | d :: ds, e => by
    simp only [gds, Bool.and_eq_true] at e ⊢
    exact ⟨gd_mono h d e.1, gds_mono h ds e.2⟩
end
theorem sok_lt {x : Str} (h : PyData.strOk x = true) : ∀ c ∈ x.cps.toList, c < 16 ^ 8 := by
  intro c hc
  unfold PyData.strOk at h
  have := (Array.all_eq_true_iff_forall_mem.mp h) c (by simpa using hc)
  have := of_decide_eq_true this
  exact Nat.lt_trans this (by decide)
mutual
theorem gd_rk {B : Nat} (hB : B < 10 ^ 100) : ∀ d : PyData, gd B d = true → d.canLay0 = true ∧ d.showable = true ∧ d.depth ≤ sz d ∧ rw8 d + 2 ≤ 1200 * sz d
  | .none, _ => ⟨rfl, rfl, by simp [PyData.depth], by simp [rw8, sz]⟩
  | .bool b, _ => ⟨rfl, rfl, by simp [PyData.depth], by simp [rw8, sz]⟩
  | .int i, e => by
    simp only [gd, decide_eq_true_eq] at e
    have r := Rk.int (i := i) (by omega)
    exact ⟨r.lay, r.sho, by simp [PyData.depth], by have := r.wt; simp [sz]; omega⟩
  | .str x, e => by
    simp only [gd, Bool.and_eq_true, decide_eq_true_eq] at e
    refine ⟨by simpa [PyData.canLay0] using e.1, rfl, by simp [PyData.depth], ?_⟩
    have := StrLaws.reprText_len x (sok_lt e.1)
    show (reprText x).length + 2 ≤ 1200 * 1
    omega
  | .tuple xs, e => by
    simp only [gd] at e
    obtain ⟨h1, h2, h3, h4⟩ := gds_rk hB xs e
    refine ⟨by simpa [PyData.canLay0] using h1, by simpa [PyData.showable] using h2, by simp [PyData.depth, sz]; omega, ?_⟩
    show rw8s xs + 2 + 2 ≤ 1200 * (szs xs + 1)
    omega
  | .list xs, e => by
    simp only [gd] at e
    obtain ⟨h1, h2, h3, h4⟩ := gds_rk hB xs e
    refine ⟨by simpa [PyData.canLay0] using h1, by simpa [PyData.showable] using h2, by simp [PyData.depth, sz]; omega, ?_⟩
    show rw8s xs + 2 + 2 ≤ 1200 * (szs xs + 1)
    omega
  | .dict _, e => by simp [gd] at e
theorem gds_rk {B : Nat} (hB : B < 10 ^ 100) : ∀ ds : List PyData, gds B ds = true → PyData.canLayAll0 ds = true ∧ PyData.showableAll ds = true ∧ PyData.depthAll ds ≤ szs ds ∧ rw8s ds ≤ 1200 * szs ds
  | [], _ => ⟨rfl, rfl, Nat.le_refl _, Nat.le_refl _⟩
  | d :: ds, e => by
    simp only [gds, Bool.and_eq_true] at e
    obtain ⟨h1, h2, h3, h4⟩ := gd_rk hB d e.1
    obtain ⟨k1, k2, k3, k4⟩ := gds_rk hB ds e.2
    refine ⟨by simp [PyData.canLayAll0, h1, k1], by simp [PyData.showableAll, h2, k2], ?_, ?_⟩
    · show max d.depth (PyData.depthAll ds) ≤ sz d + szs ds; omega
    · show rw8 d + 2 + rw8s ds ≤ 1200 * (sz d + szs ds); omega
end
/-- any value: numbers up to B, so deep, so great -/
structure Gd (B n m : Nat) (d : PyData) : Prop where
  gd : gd B d = true
  dep : d.depth ≤ n
  sz : sz d ≤ m
theorem Gd.mono {B n m B' n' m' : Nat} {d : PyData} (h : Gd B n m d) (a : B ≤ B') (b : n ≤ n') (c : m ≤ m') : Gd B' n' m' d := ⟨gd_mono a d h.gd, Nat.le_trans h.dep b, Nat.le_trans h.sz c⟩
theorem Gd.rk {B n m : Nat} {d : PyData} (h : Gd B n m d) (hB : B < 10 ^ 100) : Rk n (1200 * m) d := by
  obtain ⟨h1, h2, h3, h4⟩ := gd_rk hB d h.gd
  exact ⟨h1, h2, h.dep, by have := h.sz; omega⟩
theorem dep_all {n : Nat} : ∀ {ds : List PyData}, PyData.depthAll ds ≤ n ↔ ∀ d ∈ ds, d.depth ≤ n
  | [] => by simp [PyData.depthAll]
  | d :: ds => by
    have := dep_all (n := n) (ds := ds)
    simp only [List.mem_cons, forall_eq_or_imp, ← this]
    show max d.depth (PyData.depthAll ds) ≤ n ↔ _
    omega
theorem Gd.tup_iff {B n m : Nat} {xs : List PyData} : Gd B (n + 1) (m + 1) (.tuple xs) ↔ gds B xs = true ∧ (∀ d ∈ xs, d.depth ≤ n) ∧ szs xs ≤ m := by
  constructor
  · intro h
    exact ⟨by simpa [Q.gd] using h.gd, dep_all.mp (by have := h.dep; simp [PyData.depth] at this; omega), by have := h.sz; simp [Q.sz] at this; omega⟩
  · rintro ⟨h1, h2, h3⟩
    exact ⟨by simpa [Q.gd] using h1, by have := dep_all.mpr h2; simp [PyData.depth]; omega, by simp [Q.sz]; omega⟩
theorem Gd.len {B n m : Nat} {xs : List PyData} (h : Gd B n m (.tuple xs)) : xs.length < m := by
  have := h.sz
  have := szs_len xs
  simp [Q.sz] at *; omega
def btw (lo hi : Int) : PyData → Bool
  | .int i => decide (lo ≤ i) && decide (i ≤ hi)
  | _ => false
theorem isA_cases (d : PyData) : (∃ i, d = .int i) ∨ (∃ b, d = .bool b) ∨ isA .int d = false := by
  cases d with
  | int i => exact .inl ⟨i, rfl⟩
  | bool b => exact .inr (.inl ⟨b, rfl⟩)
  | _ => exact .inr (.inr rfl)
theorem q_iB (b : Bool) : isA .int (.bool b) = true := rfl
theorem q_bB (b : Bool) : isA .bool (.bool b) = true := rfl
theorem btwD (d : PyData) (lo hi : Int) : M_is_between [.fr d, .fr (.int lo), .fr (.int hi)] = .ok (.fr (.bool (btw lo hi d)), [.fr d, .fr (.int lo), .fr (.int hi)]) := by
  rcases isA_cases d with ⟨i, rfl⟩ | ⟨b, rfl⟩ | h
  · exact between_ok
  · simp [M_is_between, b_is_between, q_mulAI, q_mulAL, a_wb, q_divW, Function.comp_def, q_starI, q_starIT, a_wp, a_fz, a_fz0, a_fz1, a_ext, a_ins, a_insA, a_pop, a_parN, a_evO0, a_evO1, a_setO0, a_setO1, a_ix2, a_setII, a_zN, a_zC, a_lcO, d_oo, pEq_int, pNe_int, pIxL, pIxT, atI_nat, atI_0, atI_1, atI_2, atI_3, atI_m1, cutLo, cutHi, cutLo1, cutHi1, a_seq, a_ifS, a_B, a_op, a_ov, a_ev0, a_evv, a_evs, a_C, a_V, a_M, a_set, a_setI, a_app, a_ret, a_ex, a_skip, a_no, a_not, a_andT, a_orT, a_and, a_or, a_notV, a_if, a_par, a_call, a_forS, a_sq, a_r1, a_r2, a_en, a_zp, a_asT, a_chI, a_yes, a_lc, a_fn, okA, f_fr, bkA, rsvs, rsv, dvs, on1, on2, d_fr, d_ol, rsO, ndS, sl, putB, asT, setAll, ofO, Dy.ints1, Dy.ints2, nE, wipeE, unw, frO, q_addI, q_addL, q_addT, q_addS, q_sub, q_div, q_mod, q_pow, q_neg, q_cm, pIs, pIsn, q_isN, q_isI, q_isS, q_isT, q_isL, q_isB, q_lenL, q_lenT, pTup, pLst, q_tupL, q_tupT, q_lstL, q_lstT, q_revL, q_slL, q_slT, q_shL, q_shT, q_sqL, q_sqT, q_intI, q_max2, q_min2, q_aII, q_aBI, q_aTI, q_aTT, q_aLL, q_aTL, q_aIT, q_iB, q_bB, btw]
  · have hb : btw lo hi d = false := by cases d <;> first | rfl | (exact absurd h (by simp [isA]))
    simp [M_is_between, b_is_between, q_mulAI, q_mulAL, a_wb, q_divW, Function.comp_def, q_starI, q_starIT, a_wp, a_fz, a_fz0, a_fz1, a_ext, a_ins, a_insA, a_pop, a_parN, a_evO0, a_evO1, a_setO0, a_setO1, a_ix2, a_setII, a_zN, a_zC, a_lcO, d_oo, pEq_int, pNe_int, pIxL, pIxT, atI_nat, atI_0, atI_1, atI_2, atI_3, atI_m1, cutLo, cutHi, cutLo1, cutHi1, a_seq, a_ifS, a_B, a_op, a_ov, a_ev0, a_evv, a_evs, a_C, a_V, a_M, a_set, a_setI, a_app, a_ret, a_ex, a_skip, a_no, a_not, a_andT, a_orT, a_and, a_or, a_notV, a_if, a_par, a_call, a_forS, a_sq, a_r1, a_r2, a_en, a_zp, a_asT, a_chI, a_yes, a_lc, a_fn, okA, f_fr, bkA, rsvs, rsv, dvs, on1, on2, d_fr, d_ol, rsO, ndS, sl, putB, asT, setAll, ofO, Dy.ints1, Dy.ints2, nE, wipeE, unw, frO, q_addI, q_addL, q_addT, q_addS, q_sub, q_div, q_mod, q_pow, q_neg, q_cm, pIs, pIsn, q_isN, q_isI, q_isS, q_isT, q_isL, q_isB, q_lenL, q_lenT, pTup, pLst, q_tupL, q_tupT, q_lstL, q_lstT, q_revL, q_slL, q_slT, q_shL, q_shT, q_sqL, q_sqT, q_intI, q_max2, q_min2, q_aII, q_aBI, q_aTI, q_aTT, q_aLL, q_aTL, q_aIT, h, hb]
theorem tup_cases (d : PyData) : (∃ xs, d = .tuple xs) ∨ isA .tuple d = false := by
  cases d with
  | tuple xs => exact .inl ⟨xs, rfl⟩
  | _ => exact .inr rfl
/-- arities -/
def arD : PyData → Bool
  | .tuple xs => decide (1 ≤ xs.length) && decide (xs.length ≤ 6) && xs.all (btw 0 2)
  | _ => false
theorem lc_all {p : PyData → Bool} {elt : EF} {e : Dy.Env} {vs : List Nat} {t : Tg} (xs : List PyData) (hl : xs.length ≤ 100000) (hs : ∀ x ∈ xs, (asT t x e >>= fun e1 => elt e1 >>= fun r => Res.ok (r.1.data, wipeE r.2 vs)) = .ok (.bool (p x), e)) :
    lcL vs t fYes elt xs e [] = .ok ((xs.map p).map PyData.bool, e) := by
  rw [lc_tm (fun d : PyData => d) (fun d => .bool (p d)) xs (by simp) hs hl, List.map_map]; rfl
theorem pAll_map (p : PyData → Bool) (xs : List PyData) : pAll (.list ((xs.map p).map PyData.bool)) = some (.fr (.bool (xs.all p))) := by
  rw [pAll_B, List.all_map]; rfl
theorem aritiesD (d : PyData) : M_is_arities [.fr d] = .ok (.fr (.bool (arD d)), [.fr d]) := by
  rcases tup_cases d with ⟨xs, rfl⟩ | h
  · by_cases h1 : 1 ≤ xs.length
    · by_cases h2 : xs.length ≤ 6
      · have c1 : (1 : Int) ≤ xs.length := by omega
        have c2 : (xs.length : Int) ≤ 6 := by omega
        simp [M_is_arities, b_is_arities, q_mulAI, q_mulAL, a_wb, q_divW, Function.comp_def, q_starI, q_starIT, a_wp, a_fz, a_fz0, a_fz1, a_ext, a_ins, a_insA, a_pop, a_parN, a_evO0, a_evO1, a_setO0, a_setO1, a_ix2, a_setII, a_zN, a_zC, a_lcO, d_oo, pEq_int, pNe_int, pIxL, pIxT, atI_nat, atI_0, atI_1, atI_2, atI_3, atI_m1, cutLo, cutHi, cutLo1, cutHi1, a_seq, a_ifS, a_B, a_op, a_ov, a_ev0, a_evv, a_evs, a_C, a_V, a_M, a_set, a_setI, a_app, a_ret, a_ex, a_skip, a_no, a_not, a_andT, a_orT, a_and, a_or, a_notV, a_if, a_par, a_call, a_forS, a_sq, a_r1, a_r2, a_en, a_zp, a_asT, a_chI, a_yes, a_lc, a_fn, okA, f_fr, bkA, rsvs, rsv, dvs, on1, on2, d_fr, d_ol, rsO, ndS, sl, putB, asT, setAll, ofO, Dy.ints1, Dy.ints2, nE, wipeE, unw, frO, q_addI, q_addL, q_addT, q_addS, q_sub, q_div, q_mod, q_pow, q_neg, q_cm, pIs, pIsn, q_isN, q_isI, q_isS, q_isT, q_isL, q_isB, q_lenL, q_lenT, pTup, pLst, q_tupL, q_tupT, q_lstL, q_lstT, q_revL, q_slL, q_slT, q_shL, q_shT, q_sqL, q_sqT, q_intI, q_max2, q_min2, q_aII, q_aBI, q_aTI, q_aTT, q_aLL, q_aTL, q_aIT, c1, c2]
        rw [lc_all (p := btw 0 2) xs (by omega) (fun x hx => by simp [E1_is_arities, q_mulAI, q_mulAL, a_wb, q_divW, Function.comp_def, q_starI, q_starIT, a_wp, a_fz, a_fz0, a_fz1, a_ext, a_ins, a_insA, a_pop, a_parN, a_evO0, a_evO1, a_setO0, a_setO1, a_ix2, a_setII, a_zN, a_zC, a_lcO, d_oo, pEq_int, pNe_int, pIxL, pIxT, atI_nat, atI_0, atI_1, atI_2, atI_3, atI_m1, cutLo, cutHi, cutLo1, cutHi1, a_seq, a_ifS, a_B, a_op, a_ov, a_ev0, a_evv, a_evs, a_C, a_V, a_M, a_set, a_setI, a_app, a_ret, a_ex, a_skip, a_no, a_not, a_andT, a_orT, a_and, a_or, a_notV, a_if, a_par, a_call, a_forS, a_sq, a_r1, a_r2, a_en, a_zp, a_asT, a_chI, a_yes, a_lc, a_fn, okA, f_fr, bkA, rsvs, rsv, dvs, on1, on2, d_fr, d_ol, rsO, ndS, sl, putB, asT, setAll, ofO, Dy.ints1, Dy.ints2, nE, wipeE, unw, frO, q_addI, q_addL, q_addT, q_addS, q_sub, q_div, q_mod, q_pow, q_neg, q_cm, pIs, pIsn, q_isN, q_isI, q_isS, q_isT, q_isL, q_isB, q_lenL, q_lenT, pTup, pLst, q_tupL, q_tupT, q_lstL, q_lstT, q_revL, q_slL, q_slT, q_shL, q_shT, q_sqL, q_sqT, q_intI, q_max2, q_min2, q_aII, q_aBI, q_aTI, q_aTT, q_aLL, q_aTL, q_aIT, btwD])]
        have pa := pAll_map (btw 0 2) xs
        simp only [List.map_map, Function.comp_def] at pa
        simp [q_mulAI, q_mulAL, a_wb, q_divW, Function.comp_def, q_starI, q_starIT, a_wp, a_fz, a_fz0, a_fz1, a_ext, a_ins, a_insA, a_pop, a_parN, a_evO0, a_evO1, a_setO0, a_setO1, a_ix2, a_setII, a_zN, a_zC, a_lcO, d_oo, pEq_int, pNe_int, pIxL, pIxT, atI_nat, atI_0, atI_1, atI_2, atI_3, atI_m1, cutLo, cutHi, cutLo1, cutHi1, a_seq, a_ifS, a_B, a_op, a_ov, a_ev0, a_evv, a_evs, a_C, a_V, a_M, a_set, a_setI, a_app, a_ret, a_ex, a_skip, a_no, a_not, a_andT, a_orT, a_and, a_or, a_notV, a_if, a_par, a_call, a_forS, a_sq, a_r1, a_r2, a_en, a_zp, a_asT, a_chI, a_yes, a_lc, a_fn, okA, f_fr, bkA, rsvs, rsv, dvs, on1, on2, d_fr, d_ol, rsO, ndS, sl, putB, asT, setAll, ofO, Dy.ints1, Dy.ints2, nE, wipeE, unw, frO, q_addI, q_addL, q_addT, q_addS, q_sub, q_div, q_mod, q_pow, q_neg, q_cm, pIs, pIsn, q_isN, q_isI, q_isS, q_isT, q_isL, q_isB, q_lenL, q_lenT, pTup, pLst, q_tupL, q_tupT, q_lstL, q_lstT, q_revL, q_slL, q_slT, q_shL, q_shT, q_sqL, q_sqT, q_intI, q_max2, q_min2, q_aII, q_aBI, q_aTI, q_aTT, q_aLL, q_aTL, q_aIT, pa, arD, h1, h2]
      · have c1 : (1 : Int) ≤ xs.length := by omega
        have c2 : ¬ (xs.length : Int) ≤ 6 := by omega
        simp [M_is_arities, b_is_arities, q_mulAI, q_mulAL, a_wb, q_divW, Function.comp_def, q_starI, q_starIT, a_wp, a_fz, a_fz0, a_fz1, a_ext, a_ins, a_insA, a_pop, a_parN, a_evO0, a_evO1, a_setO0, a_setO1, a_ix2, a_setII, a_zN, a_zC, a_lcO, d_oo, pEq_int, pNe_int, pIxL, pIxT, atI_nat, atI_0, atI_1, atI_2, atI_3, atI_m1, cutLo, cutHi, cutLo1, cutHi1, a_seq, a_ifS, a_B, a_op, a_ov, a_ev0, a_evv, a_evs, a_C, a_V, a_M, a_set, a_setI, a_app, a_ret, a_ex, a_skip, a_no, a_not, a_andT, a_orT, a_and, a_or, a_notV, a_if, a_par, a_call, a_forS, a_sq, a_r1, a_r2, a_en, a_zp, a_asT, a_chI, a_yes, a_lc, a_fn, okA, f_fr, bkA, rsvs, rsv, dvs, on1, on2, d_fr, d_ol, rsO, ndS, sl, putB, asT, setAll, ofO, Dy.ints1, Dy.ints2, nE, wipeE, unw, frO, q_addI, q_addL, q_addT, q_addS, q_sub, q_div, q_mod, q_pow, q_neg, q_cm, pIs, pIsn, q_isN, q_isI, q_isS, q_isT, q_isL, q_isB, q_lenL, q_lenT, pTup, pLst, q_tupL, q_tupT, q_lstL, q_lstT, q_revL, q_slL, q_slT, q_shL, q_shT, q_sqL, q_sqT, q_intI, q_max2, q_min2, q_aII, q_aBI, q_aTI, q_aTT, q_aLL, q_aTL, q_aIT, c1, c2, arD, h2]
    · have c1 : ¬ (1 : Int) ≤ xs.length := by omega
      simp [M_is_arities, b_is_arities, q_mulAI, q_mulAL, a_wb, q_divW, Function.comp_def, q_starI, q_starIT, a_wp, a_fz, a_fz0, a_fz1, a_ext, a_ins, a_insA, a_pop, a_parN, a_evO0, a_evO1, a_setO0, a_setO1, a_ix2, a_setII, a_zN, a_zC, a_lcO, d_oo, pEq_int, pNe_int, pIxL, pIxT, atI_nat, atI_0, atI_1, atI_2, atI_3, atI_m1, cutLo, cutHi, cutLo1, cutHi1, a_seq, a_ifS, a_B, a_op, a_ov, a_ev0, a_evv, a_evs, a_C, a_V, a_M, a_set, a_setI, a_app, a_ret, a_ex, a_skip, a_no, a_not, a_andT, a_orT, a_and, a_or, a_notV, a_if, a_par, a_call, a_forS, a_sq, a_r1, a_r2, a_en, a_zp, a_asT, a_chI, a_yes, a_lc, a_fn, okA, f_fr, bkA, rsvs, rsv, dvs, on1, on2, d_fr, d_ol, rsO, ndS, sl, putB, asT, setAll, ofO, Dy.ints1, Dy.ints2, nE, wipeE, unw, frO, q_addI, q_addL, q_addT, q_addS, q_sub, q_div, q_mod, q_pow, q_neg, q_cm, pIs, pIsn, q_isN, q_isI, q_isS, q_isT, q_isL, q_isB, q_lenL, q_lenT, pTup, pLst, q_tupL, q_tupT, q_lstL, q_lstT, q_revL, q_slL, q_slT, q_shL, q_shT, q_sqL, q_sqT, q_intI, q_max2, q_min2, q_aII, q_aBI, q_aTI, q_aTT, q_aLL, q_aTL, q_aIT, c1, arD, h1]
  · have hb : arD d = false := by cases d <;> first | rfl | (exact absurd h (by simp [isA]))
    simp [M_is_arities, b_is_arities, q_mulAI, q_mulAL, a_wb, q_divW, Function.comp_def, q_starI, q_starIT, a_wp, a_fz, a_fz0, a_fz1, a_ext, a_ins, a_insA, a_pop, a_parN, a_evO0, a_evO1, a_setO0, a_setO1, a_ix2, a_setII, a_zN, a_zC, a_lcO, d_oo, pEq_int, pNe_int, pIxL, pIxT, atI_nat, atI_0, atI_1, atI_2, atI_3, atI_m1, cutLo, cutHi, cutLo1, cutHi1, a_seq, a_ifS, a_B, a_op, a_ov, a_ev0, a_evv, a_evs, a_C, a_V, a_M, a_set, a_setI, a_app, a_ret, a_ex, a_skip, a_no, a_not, a_andT, a_orT, a_and, a_or, a_notV, a_if, a_par, a_call, a_forS, a_sq, a_r1, a_r2, a_en, a_zp, a_asT, a_chI, a_yes, a_lc, a_fn, okA, f_fr, bkA, rsvs, rsv, dvs, on1, on2, d_fr, d_ol, rsO, ndS, sl, putB, asT, setAll, ofO, Dy.ints1, Dy.ints2, nE, wipeE, unw, frO, q_addI, q_addL, q_addT, q_addS, q_sub, q_div, q_mod, q_pow, q_neg, q_cm, pIs, pIsn, q_isN, q_isI, q_isS, q_isT, q_isL, q_isB, q_lenL, q_lenT, pTup, pLst, q_tupL, q_tupT, q_lstL, q_lstT, q_revL, q_slL, q_slT, q_shL, q_shT, q_sqL, q_sqT, q_intI, q_max2, q_min2, q_aII, q_aBI, q_aTI, q_aTT, q_aLL, q_aTL, q_aIT, h, hb]
theorem len4 {α : Type} {xs : List α} (h : xs.length = 4) : ∃ a b c d, xs = [a, b, c, d] := by
  match xs, h with
  | [a, b, c, d], _ => exact ⟨a, b, c, d, rfl⟩
theorem len3 {α : Type} {xs : List α} (h : xs.length = 3) : ∃ a b c, xs = [a, b, c] := by
  match xs, h with
  | [a, b, c], _ => exact ⟨a, b, c, rfl⟩
def argD (as : List PyData) (f : Int) (b c : PyData) : Bool := match b, c with
  | .int k, .tuple ys => (match as[k.toNat]? with
    | some (.int n) => decide ((ys.length : Int) = n)
    | _ => false) && ys.all (btw 0 (f - 1))
  | _, _ => false
def insD (as : List PyData) (f : Int) : PyData → Bool
  | .tuple [a, b, c, p] => btw 0 (f - 1) a && (btw 0 ((as.length : Int) - 1) b && (btw 0 20 p && argD as f b c))
  | _ => false
theorem insD_no {as : List PyData} {f : Int} {xs : List PyData} (h : xs.length ≠ 4) : insD as f (.tuple xs) = false := by
  unfold insD
  split
  · rename_i e
    injection e with e
    subst e
    simp at h
  · rfl
theorem btw_int {lo hi : Int} {d : PyData} (h : btw lo hi d = true) : ∃ i, d = .int i ∧ lo ≤ i ∧ i ≤ hi := by
  cases d with
  | int i => simp only [btw, Bool.and_eq_true, decide_eq_true_eq] at h; exact ⟨i, rfl, h.1, h.2⟩
  | _ => simp [btw] at h
theorem as_at {as : List PyData} {k : Int} (ha : as.all (btw 0 2) = true) (h0 : 0 ≤ k) (h1 : k ≤ (as.length : Int) - 1) : ∃ n : Int, as[k.toNat]? = some (.int n) ∧ atI as k = some (.int n) := by
  have hk : k.toNat < as.length := by omega
  obtain ⟨d, hd, hm⟩ := get_of_lt hk
  obtain ⟨n, rfl, _, _⟩ := btw_int (List.all_eq_true.mp ha d hm)
  refine ⟨n, hd, ?_⟩
  have : k = ((k.toNat : Nat) : Int) := by omega
  rw [this, atI_nat]; exact hd
theorem instrD {as : List PyData} (ha : as.all (btw 0 2) = true) (f : Int) (d : PyData) (hl : ∀ xs, d = .tuple xs → ∀ ys, .tuple ys ∈ xs → ys.length ≤ 100000) :
    M_is_instruction [.fr (.tuple as), .fr (.int f), .fr d] = .ok (.fr (.bool (insD as f d)), [.fr (.tuple as), .fr (.int f), .fr d]) := by
  rcases tup_cases d with ⟨xs, rfl⟩ | h
  · by_cases h4 : xs.length = 4
    · obtain ⟨a, b, c, p, rfl⟩ := len4 h4
      cases ba : btw 0 (f - 1) a with
      | false => simp [M_is_instruction, b_is_instruction, q_mulAI, q_mulAL, a_wb, q_divW, Function.comp_def, q_starI, q_starIT, a_wp, a_fz, a_fz0, a_fz1, a_ext, a_ins, a_insA, a_pop, a_parN, a_evO0, a_evO1, a_setO0, a_setO1, a_ix2, a_setII, a_zN, a_zC, a_lcO, d_oo, pEq_int, pNe_int, pIxL, pIxT, atI_nat, atI_0, atI_1, atI_2, atI_3, atI_m1, cutLo, cutHi, cutLo1, cutHi1, a_seq, a_ifS, a_B, a_op, a_ov, a_ev0, a_evv, a_evs, a_C, a_V, a_M, a_set, a_setI, a_app, a_ret, a_ex, a_skip, a_no, a_not, a_andT, a_orT, a_and, a_or, a_notV, a_if, a_par, a_call, a_forS, a_sq, a_r1, a_r2, a_en, a_zp, a_asT, a_chI, a_yes, a_lc, a_fn, okA, f_fr, bkA, rsvs, rsv, dvs, on1, on2, d_fr, d_ol, rsO, ndS, sl, putB, asT, setAll, ofO, Dy.ints1, Dy.ints2, nE, wipeE, unw, frO, q_addI, q_addL, q_addT, q_addS, q_sub, q_div, q_mod, q_pow, q_neg, q_cm, pIs, pIsn, q_isN, q_isI, q_isS, q_isT, q_isL, q_isB, q_lenL, q_lenT, pTup, pLst, q_tupL, q_tupT, q_lstL, q_lstT, q_revL, q_slL, q_slT, q_shL, q_shT, q_sqL, q_sqT, q_intI, q_max2, q_min2, q_aII, q_aBI, q_aTI, q_aTT, q_aLL, q_aTL, q_aIT, btwD, ba, insD]
      | true =>
        cases bb : btw 0 ((as.length : Int) - 1) b with
        | false => simp [M_is_instruction, b_is_instruction, q_mulAI, q_mulAL, a_wb, q_divW, Function.comp_def, q_starI, q_starIT, a_wp, a_fz, a_fz0, a_fz1, a_ext, a_ins, a_insA, a_pop, a_parN, a_evO0, a_evO1, a_setO0, a_setO1, a_ix2, a_setII, a_zN, a_zC, a_lcO, d_oo, pEq_int, pNe_int, pIxL, pIxT, atI_nat, atI_0, atI_1, atI_2, atI_3, atI_m1, cutLo, cutHi, cutLo1, cutHi1, a_seq, a_ifS, a_B, a_op, a_ov, a_ev0, a_evv, a_evs, a_C, a_V, a_M, a_set, a_setI, a_app, a_ret, a_ex, a_skip, a_no, a_not, a_andT, a_orT, a_and, a_or, a_notV, a_if, a_par, a_call, a_forS, a_sq, a_r1, a_r2, a_en, a_zp, a_asT, a_chI, a_yes, a_lc, a_fn, okA, f_fr, bkA, rsvs, rsv, dvs, on1, on2, d_fr, d_ol, rsO, ndS, sl, putB, asT, setAll, ofO, Dy.ints1, Dy.ints2, nE, wipeE, unw, frO, q_addI, q_addL, q_addT, q_addS, q_sub, q_div, q_mod, q_pow, q_neg, q_cm, pIs, pIsn, q_isN, q_isI, q_isS, q_isT, q_isL, q_isB, q_lenL, q_lenT, pTup, pLst, q_tupL, q_tupT, q_lstL, q_lstT, q_revL, q_slL, q_slT, q_shL, q_shT, q_sqL, q_sqT, q_intI, q_max2, q_min2, q_aII, q_aBI, q_aTI, q_aTT, q_aLL, q_aTL, q_aIT, btwD, ba, bb, insD]
        | true =>
          cases bp : btw 0 20 p with
          | false => simp [M_is_instruction, b_is_instruction, q_mulAI, q_mulAL, a_wb, q_divW, Function.comp_def, q_starI, q_starIT, a_wp, a_fz, a_fz0, a_fz1, a_ext, a_ins, a_insA, a_pop, a_parN, a_evO0, a_evO1, a_setO0, a_setO1, a_ix2, a_setII, a_zN, a_zC, a_lcO, d_oo, pEq_int, pNe_int, pIxL, pIxT, atI_nat, atI_0, atI_1, atI_2, atI_3, atI_m1, cutLo, cutHi, cutLo1, cutHi1, a_seq, a_ifS, a_B, a_op, a_ov, a_ev0, a_evv, a_evs, a_C, a_V, a_M, a_set, a_setI, a_app, a_ret, a_ex, a_skip, a_no, a_not, a_andT, a_orT, a_and, a_or, a_notV, a_if, a_par, a_call, a_forS, a_sq, a_r1, a_r2, a_en, a_zp, a_asT, a_chI, a_yes, a_lc, a_fn, okA, f_fr, bkA, rsvs, rsv, dvs, on1, on2, d_fr, d_ol, rsO, ndS, sl, putB, asT, setAll, ofO, Dy.ints1, Dy.ints2, nE, wipeE, unw, frO, q_addI, q_addL, q_addT, q_addS, q_sub, q_div, q_mod, q_pow, q_neg, q_cm, pIs, pIsn, q_isN, q_isI, q_isS, q_isT, q_isL, q_isB, q_lenL, q_lenT, pTup, pLst, q_tupL, q_tupT, q_lstL, q_lstT, q_revL, q_slL, q_slT, q_shL, q_shT, q_sqL, q_sqT, q_intI, q_max2, q_min2, q_aII, q_aBI, q_aTI, q_aTT, q_aLL, q_aTL, q_aIT, btwD, ba, bb, bp, insD]
          | true =>
            obtain ⟨k, rfl, k0, k1⟩ := btw_int bb
            obtain ⟨n, n1, n2⟩ := as_at ha k0 k1
            rcases tup_cases c with ⟨ys, rfl⟩ | hc
            · by_cases hn : (ys.length : Int) = n
              · have hy := hl _ rfl ys (by simp)
                simp [M_is_instruction, b_is_instruction, q_mulAI, q_mulAL, a_wb, q_divW, Function.comp_def, q_starI, q_starIT, a_wp, a_fz, a_fz0, a_fz1, a_ext, a_ins, a_insA, a_pop, a_parN, a_evO0, a_evO1, a_setO0, a_setO1, a_ix2, a_setII, a_zN, a_zC, a_lcO, d_oo, pEq_int, pNe_int, pIxL, pIxT, atI_nat, atI_0, atI_1, atI_2, atI_3, atI_m1, cutLo, cutHi, cutLo1, cutHi1, a_seq, a_ifS, a_B, a_op, a_ov, a_ev0, a_evv, a_evs, a_C, a_V, a_M, a_set, a_setI, a_app, a_ret, a_ex, a_skip, a_no, a_not, a_andT, a_orT, a_and, a_or, a_notV, a_if, a_par, a_call, a_forS, a_sq, a_r1, a_r2, a_en, a_zp, a_asT, a_chI, a_yes, a_lc, a_fn, okA, f_fr, bkA, rsvs, rsv, dvs, on1, on2, d_fr, d_ol, rsO, ndS, sl, putB, asT, setAll, ofO, Dy.ints1, Dy.ints2, nE, wipeE, unw, frO, q_addI, q_addL, q_addT, q_addS, q_sub, q_div, q_mod, q_pow, q_neg, q_cm, pIs, pIsn, q_isN, q_isI, q_isS, q_isT, q_isL, q_isB, q_lenL, q_lenT, pTup, pLst, q_tupL, q_tupT, q_lstL, q_lstT, q_revL, q_slL, q_slT, q_shL, q_shT, q_sqL, q_sqT, q_intI, q_max2, q_min2, q_aII, q_aBI, q_aTI, q_aTT, q_aLL, q_aTL, q_aIT, btwD, ba, bb, bp, n2, hn]
                rw [lc_all (p := btw 0 (f - 1)) ys hy (fun x hx => by simp [E1_is_instruction, q_mulAI, q_mulAL, a_wb, q_divW, Function.comp_def, q_starI, q_starIT, a_wp, a_fz, a_fz0, a_fz1, a_ext, a_ins, a_insA, a_pop, a_parN, a_evO0, a_evO1, a_setO0, a_setO1, a_ix2, a_setII, a_zN, a_zC, a_lcO, d_oo, pEq_int, pNe_int, pIxL, pIxT, atI_nat, atI_0, atI_1, atI_2, atI_3, atI_m1, cutLo, cutHi, cutLo1, cutHi1, a_seq, a_ifS, a_B, a_op, a_ov, a_ev0, a_evv, a_evs, a_C, a_V, a_M, a_set, a_setI, a_app, a_ret, a_ex, a_skip, a_no, a_not, a_andT, a_orT, a_and, a_or, a_notV, a_if, a_par, a_call, a_forS, a_sq, a_r1, a_r2, a_en, a_zp, a_asT, a_chI, a_yes, a_lc, a_fn, okA, f_fr, bkA, rsvs, rsv, dvs, on1, on2, d_fr, d_ol, rsO, ndS, sl, putB, asT, setAll, ofO, Dy.ints1, Dy.ints2, nE, wipeE, unw, frO, q_addI, q_addL, q_addT, q_addS, q_sub, q_div, q_mod, q_pow, q_neg, q_cm, pIs, pIsn, q_isN, q_isI, q_isS, q_isT, q_isL, q_isB, q_lenL, q_lenT, pTup, pLst, q_tupL, q_tupT, q_lstL, q_lstT, q_revL, q_slL, q_slT, q_shL, q_shT, q_sqL, q_sqT, q_intI, q_max2, q_min2, q_aII, q_aBI, q_aTI, q_aTT, q_aLL, q_aTL, q_aIT, btwD])]
                have pa := pAll_map (btw 0 (f - 1)) ys
                simp only [List.map_map, Function.comp_def] at pa
                simp [q_mulAI, q_mulAL, a_wb, q_divW, Function.comp_def, q_starI, q_starIT, a_wp, a_fz, a_fz0, a_fz1, a_ext, a_ins, a_insA, a_pop, a_parN, a_evO0, a_evO1, a_setO0, a_setO1, a_ix2, a_setII, a_zN, a_zC, a_lcO, d_oo, pEq_int, pNe_int, pIxL, pIxT, atI_nat, atI_0, atI_1, atI_2, atI_3, atI_m1, cutLo, cutHi, cutLo1, cutHi1, a_seq, a_ifS, a_B, a_op, a_ov, a_ev0, a_evv, a_evs, a_C, a_V, a_M, a_set, a_setI, a_app, a_ret, a_ex, a_skip, a_no, a_not, a_andT, a_orT, a_and, a_or, a_notV, a_if, a_par, a_call, a_forS, a_sq, a_r1, a_r2, a_en, a_zp, a_asT, a_chI, a_yes, a_lc, a_fn, okA, f_fr, bkA, rsvs, rsv, dvs, on1, on2, d_fr, d_ol, rsO, ndS, sl, putB, asT, setAll, ofO, Dy.ints1, Dy.ints2, nE, wipeE, unw, frO, q_addI, q_addL, q_addT, q_addS, q_sub, q_div, q_mod, q_pow, q_neg, q_cm, pIs, pIsn, q_isN, q_isI, q_isS, q_isT, q_isL, q_isB, q_lenL, q_lenT, pTup, pLst, q_tupL, q_tupT, q_lstL, q_lstT, q_revL, q_slL, q_slT, q_shL, q_shT, q_sqL, q_sqT, q_intI, q_max2, q_min2, q_aII, q_aBI, q_aTI, q_aTT, q_aLL, q_aTL, q_aIT, pa, insD, ba, bb, bp, argD, n1, hn]
              · simp [M_is_instruction, b_is_instruction, q_mulAI, q_mulAL, a_wb, q_divW, Function.comp_def, q_starI, q_starIT, a_wp, a_fz, a_fz0, a_fz1, a_ext, a_ins, a_insA, a_pop, a_parN, a_evO0, a_evO1, a_setO0, a_setO1, a_ix2, a_setII, a_zN, a_zC, a_lcO, d_oo, pEq_int, pNe_int, pIxL, pIxT, atI_nat, atI_0, atI_1, atI_2, atI_3, atI_m1, cutLo, cutHi, cutLo1, cutHi1, a_seq, a_ifS, a_B, a_op, a_ov, a_ev0, a_evv, a_evs, a_C, a_V, a_M, a_set, a_setI, a_app, a_ret, a_ex, a_skip, a_no, a_not, a_andT, a_orT, a_and, a_or, a_notV, a_if, a_par, a_call, a_forS, a_sq, a_r1, a_r2, a_en, a_zp, a_asT, a_chI, a_yes, a_lc, a_fn, okA, f_fr, bkA, rsvs, rsv, dvs, on1, on2, d_fr, d_ol, rsO, ndS, sl, putB, asT, setAll, ofO, Dy.ints1, Dy.ints2, nE, wipeE, unw, frO, q_addI, q_addL, q_addT, q_addS, q_sub, q_div, q_mod, q_pow, q_neg, q_cm, pIs, pIsn, q_isN, q_isI, q_isS, q_isT, q_isL, q_isB, q_lenL, q_lenT, pTup, pLst, q_tupL, q_tupT, q_lstL, q_lstT, q_revL, q_slL, q_slT, q_shL, q_shT, q_sqL, q_sqT, q_intI, q_max2, q_min2, q_aII, q_aBI, q_aTI, q_aTT, q_aLL, q_aTL, q_aIT, btwD, ba, bb, bp, n2, hn, insD, argD, n1]
            · have ht : argD as f (.int k) c = false := by cases c <;> first | rfl | (exact absurd hc (by simp [isA]))
              simp [M_is_instruction, b_is_instruction, q_mulAI, q_mulAL, a_wb, q_divW, Function.comp_def, q_starI, q_starIT, a_wp, a_fz, a_fz0, a_fz1, a_ext, a_ins, a_insA, a_pop, a_parN, a_evO0, a_evO1, a_setO0, a_setO1, a_ix2, a_setII, a_zN, a_zC, a_lcO, d_oo, pEq_int, pNe_int, pIxL, pIxT, atI_nat, atI_0, atI_1, atI_2, atI_3, atI_m1, cutLo, cutHi, cutLo1, cutHi1, a_seq, a_ifS, a_B, a_op, a_ov, a_ev0, a_evv, a_evs, a_C, a_V, a_M, a_set, a_setI, a_app, a_ret, a_ex, a_skip, a_no, a_not, a_andT, a_orT, a_and, a_or, a_notV, a_if, a_par, a_call, a_forS, a_sq, a_r1, a_r2, a_en, a_zp, a_asT, a_chI, a_yes, a_lc, a_fn, okA, f_fr, bkA, rsvs, rsv, dvs, on1, on2, d_fr, d_ol, rsO, ndS, sl, putB, asT, setAll, ofO, Dy.ints1, Dy.ints2, nE, wipeE, unw, frO, q_addI, q_addL, q_addT, q_addS, q_sub, q_div, q_mod, q_pow, q_neg, q_cm, pIs, pIsn, q_isN, q_isI, q_isS, q_isT, q_isL, q_isB, q_lenL, q_lenT, pTup, pLst, q_tupL, q_tupT, q_lstL, q_lstT, q_revL, q_slL, q_slT, q_shL, q_shT, q_sqL, q_sqT, q_intI, q_max2, q_min2, q_aII, q_aBI, q_aTI, q_aTT, q_aLL, q_aTL, q_aIT, btwD, ba, bb, bp, hc, insD, ht]
    · have hi : ¬ ((xs.length : Int) = 4) := by omega
      simp [M_is_instruction, b_is_instruction, q_mulAI, q_mulAL, a_wb, q_divW, Function.comp_def, q_starI, q_starIT, a_wp, a_fz, a_fz0, a_fz1, a_ext, a_ins, a_insA, a_pop, a_parN, a_evO0, a_evO1, a_setO0, a_setO1, a_ix2, a_setII, a_zN, a_zC, a_lcO, d_oo, pEq_int, pNe_int, pIxL, pIxT, atI_nat, atI_0, atI_1, atI_2, atI_3, atI_m1, cutLo, cutHi, cutLo1, cutHi1, a_seq, a_ifS, a_B, a_op, a_ov, a_ev0, a_evv, a_evs, a_C, a_V, a_M, a_set, a_setI, a_app, a_ret, a_ex, a_skip, a_no, a_not, a_andT, a_orT, a_and, a_or, a_notV, a_if, a_par, a_call, a_forS, a_sq, a_r1, a_r2, a_en, a_zp, a_asT, a_chI, a_yes, a_lc, a_fn, okA, f_fr, bkA, rsvs, rsv, dvs, on1, on2, d_fr, d_ol, rsO, ndS, sl, putB, asT, setAll, ofO, Dy.ints1, Dy.ints2, nE, wipeE, unw, frO, q_addI, q_addL, q_addT, q_addS, q_sub, q_div, q_mod, q_pow, q_neg, q_cm, pIs, pIsn, q_isN, q_isI, q_isS, q_isT, q_isL, q_isB, q_lenL, q_lenT, pTup, pLst, q_tupL, q_tupT, q_lstL, q_lstT, q_revL, q_slL, q_slT, q_shL, q_shT, q_sqL, q_sqT, q_intI, q_max2, q_min2, q_aII, q_aBI, q_aTI, q_aTT, q_aLL, q_aTL, q_aIT, hi, insD_no h4]
  · have ht : insD as f d = false := by cases d <;> first | rfl | (exact absurd h (by simp [isA]))
    simp [M_is_instruction, b_is_instruction, q_mulAI, q_mulAL, a_wb, q_divW, Function.comp_def, q_starI, q_starIT, a_wp, a_fz, a_fz0, a_fz1, a_ext, a_ins, a_insA, a_pop, a_parN, a_evO0, a_evO1, a_setO0, a_setO1, a_ix2, a_setII, a_zN, a_zC, a_lcO, d_oo, pEq_int, pNe_int, pIxL, pIxT, atI_nat, atI_0, atI_1, atI_2, atI_3, atI_m1, cutLo, cutHi, cutLo1, cutHi1, a_seq, a_ifS, a_B, a_op, a_ov, a_ev0, a_evv, a_evs, a_C, a_V, a_M, a_set, a_setI, a_app, a_ret, a_ex, a_skip, a_no, a_not, a_andT, a_orT, a_and, a_or, a_notV, a_if, a_par, a_call, a_forS, a_sq, a_r1, a_r2, a_en, a_zp, a_asT, a_chI, a_yes, a_lc, a_fn, okA, f_fr, bkA, rsvs, rsv, dvs, on1, on2, d_fr, d_ol, rsO, ndS, sl, putB, asT, setAll, ofO, Dy.ints1, Dy.ints2, nE, wipeE, unw, frO, q_addI, q_addL, q_addT, q_addS, q_sub, q_div, q_mod, q_pow, q_neg, q_cm, pIs, pIsn, q_isN, q_isI, q_isS, q_isT, q_isL, q_isB, q_lenL, q_lenT, pTup, pLst, q_tupL, q_tupT, q_lstL, q_lstT, q_revL, q_slL, q_slT, q_shL, q_shT, q_sqL, q_sqT, q_intI, q_max2, q_min2, q_aII, q_aBI, q_aTI, q_aTT, q_aLL, q_aTL, q_aIT, h, ht]
theorem lc_one {p : PyData → Bool} {test : TF} {elt : EF} {e : Dy.Env} {vs : List Nat} {t : Tg} (xs : List PyData) (hl : xs.length ≤ 100000)
    (hs : ∀ x ∈ xs, (asT t x e >>= fun e1 => test e1 >>= fun b => if b.1 = true then elt b.2 >>= fun r => Res.ok (some r.1.data, wipeE r.2 vs) else Res.ok (none, wipeE b.2 vs)) = .ok (if p x = true then none else some (.int 1), e)) :
    ∃ ys : List PyData, lcL vs t test elt xs e [] = .ok (ys, e) ∧ pEq (.list ys) (.list []) = some (.fr (.bool (xs.all p))) ∧ pNe (.list ys) (.list []) = some (.fr (.bool (!xs.all p))) := by
  refine ⟨xs.filterMap fun x => if p x = true then none else some (.int 1), lc_fl (fun d : PyData => d) _ xs (by simp) hs hl, ?_⟩
  have hz : ∀ d ∈ (xs.filterMap fun x => if p x = true then none else some (PyData.int 1)), Rk 0 1100 d := fun d hd => by
    obtain ⟨x, _, e⟩ := List.mem_filterMap.mp hd
    split at e
    · cases e
    · cases e; exact Rk.int (by decide)
  have hsh := (Rk.lst hz).shp (by decide)
  have he : (xs.filterMap fun x => if p x = true then none else some (PyData.int 1)).isEmpty = xs.all p := by
    induction xs with
    | nil => rfl
    | cons x xs ih =>
      have ih := ih (by simp at hl; omega) (fun y hy => hs y (by simp [hy])) (fun d hd => hz d (by
        rw [List.filterMap_cons]; split <;> simp [hd])) (Rk.shp (Rk.lst fun d hd => hz d (by rw [List.filterMap_cons]; split <;> simp [hd])) (by decide))
      rw [List.filterMap_cons, List.all_cons]
      cases hp : p x with
      | true => simp [hp]; simpa using ih
      | false => simp [hp]
  exact ⟨by rw [pEq_L0 hsh, he], by rw [pNe_L0 hsh, he]⟩
def neD (a b : PyData) : Bool := match a, b with
  | .int i, .int j => !decide (i = j)
  | _, _ => false
def conD (f : Int) : PyData → Bool
  | .tuple [a, b, p] => btw 0 20 p && (btw 0 (f - 1) a && (btw 0 (f - 1) b && neD a b))
  | _ => false
theorem conD_no {f : Int} {xs : List PyData} (h : xs.length ≠ 3) : conD f (.tuple xs) = false := by
  unfold conD
  split
  · rename_i e
    injection e with e
    subst e
    simp at h
  · rfl
theorem convD (f : Int) (d : PyData) : M_is_conversion [.fr (.int f), .fr d] = .ok (.fr (.bool (conD f d)), [.fr (.int f), .fr d]) := by
  rcases tup_cases d with ⟨xs, rfl⟩ | h
  · by_cases h4 : xs.length = 3
    · obtain ⟨a, b, p, rfl⟩ := len3 h4
      cases bp : btw 0 20 p with
      | false => simp [M_is_conversion, b_is_conversion, q_mulAI, q_mulAL, a_wb, q_divW, Function.comp_def, q_starI, q_starIT, a_wp, a_fz, a_fz0, a_fz1, a_ext, a_ins, a_insA, a_pop, a_parN, a_evO0, a_evO1, a_setO0, a_setO1, a_ix2, a_setII, a_zN, a_zC, a_lcO, d_oo, pEq_int, pNe_int, pIxL, pIxT, atI_nat, atI_0, atI_1, atI_2, atI_3, atI_m1, cutLo, cutHi, cutLo1, cutHi1, a_seq, a_ifS, a_B, a_op, a_ov, a_ev0, a_evv, a_evs, a_C, a_V, a_M, a_set, a_setI, a_app, a_ret, a_ex, a_skip, a_no, a_not, a_andT, a_orT, a_and, a_or, a_notV, a_if, a_par, a_call, a_forS, a_sq, a_r1, a_r2, a_en, a_zp, a_asT, a_chI, a_yes, a_lc, a_fn, okA, f_fr, bkA, rsvs, rsv, dvs, on1, on2, d_fr, d_ol, rsO, ndS, sl, putB, asT, setAll, ofO, Dy.ints1, Dy.ints2, nE, wipeE, unw, frO, q_addI, q_addL, q_addT, q_addS, q_sub, q_div, q_mod, q_pow, q_neg, q_cm, pIs, pIsn, q_isN, q_isI, q_isS, q_isT, q_isL, q_isB, q_lenL, q_lenT, pTup, pLst, q_tupL, q_tupT, q_lstL, q_lstT, q_revL, q_slL, q_slT, q_shL, q_shT, q_sqL, q_sqT, q_intI, q_max2, q_min2, q_aII, q_aBI, q_aTI, q_aTT, q_aLL, q_aTL, q_aIT, btwD, bp, conD]
      | true =>
        cases ba : btw 0 (f - 1) a with
        | false => simp [M_is_conversion, b_is_conversion, q_mulAI, q_mulAL, a_wb, q_divW, Function.comp_def, q_starI, q_starIT, a_wp, a_fz, a_fz0, a_fz1, a_ext, a_ins, a_insA, a_pop, a_parN, a_evO0, a_evO1, a_setO0, a_setO1, a_ix2, a_setII, a_zN, a_zC, a_lcO, d_oo, pEq_int, pNe_int, pIxL, pIxT, atI_nat, atI_0, atI_1, atI_2, atI_3, atI_m1, cutLo, cutHi, cutLo1, cutHi1, a_seq, a_ifS, a_B, a_op, a_ov, a_ev0, a_evv, a_evs, a_C, a_V, a_M, a_set, a_setI, a_app, a_ret, a_ex, a_skip, a_no, a_not, a_andT, a_orT, a_and, a_or, a_notV, a_if, a_par, a_call, a_forS, a_sq, a_r1, a_r2, a_en, a_zp, a_asT, a_chI, a_yes, a_lc, a_fn, okA, f_fr, bkA, rsvs, rsv, dvs, on1, on2, d_fr, d_ol, rsO, ndS, sl, putB, asT, setAll, ofO, Dy.ints1, Dy.ints2, nE, wipeE, unw, frO, q_addI, q_addL, q_addT, q_addS, q_sub, q_div, q_mod, q_pow, q_neg, q_cm, pIs, pIsn, q_isN, q_isI, q_isS, q_isT, q_isL, q_isB, q_lenL, q_lenT, pTup, pLst, q_tupL, q_tupT, q_lstL, q_lstT, q_revL, q_slL, q_slT, q_shL, q_shT, q_sqL, q_sqT, q_intI, q_max2, q_min2, q_aII, q_aBI, q_aTI, q_aTT, q_aLL, q_aTL, q_aIT, btwD, ba, bp, conD]
        | true =>
          cases bb : btw 0 (f - 1) b with
          | false => simp [M_is_conversion, b_is_conversion, q_mulAI, q_mulAL, a_wb, q_divW, Function.comp_def, q_starI, q_starIT, a_wp, a_fz, a_fz0, a_fz1, a_ext, a_ins, a_insA, a_pop, a_parN, a_evO0, a_evO1, a_setO0, a_setO1, a_ix2, a_setII, a_zN, a_zC, a_lcO, d_oo, pEq_int, pNe_int, pIxL, pIxT, atI_nat, atI_0, atI_1, atI_2, atI_3, atI_m1, cutLo, cutHi, cutLo1, cutHi1, a_seq, a_ifS, a_B, a_op, a_ov, a_ev0, a_evv, a_evs, a_C, a_V, a_M, a_set, a_setI, a_app, a_ret, a_ex, a_skip, a_no, a_not, a_andT, a_orT, a_and, a_or, a_notV, a_if, a_par, a_call, a_forS, a_sq, a_r1, a_r2, a_en, a_zp, a_asT, a_chI, a_yes, a_lc, a_fn, okA, f_fr, bkA, rsvs, rsv, dvs, on1, on2, d_fr, d_ol, rsO, ndS, sl, putB, asT, setAll, ofO, Dy.ints1, Dy.ints2, nE, wipeE, unw, frO, q_addI, q_addL, q_addT, q_addS, q_sub, q_div, q_mod, q_pow, q_neg, q_cm, pIs, pIsn, q_isN, q_isI, q_isS, q_isT, q_isL, q_isB, q_lenL, q_lenT, pTup, pLst, q_tupL, q_tupT, q_lstL, q_lstT, q_revL, q_slL, q_slT, q_shL, q_shT, q_sqL, q_sqT, q_intI, q_max2, q_min2, q_aII, q_aBI, q_aTI, q_aTT, q_aLL, q_aTL, q_aIT, btwD, ba, bb, bp, conD]
          | true =>
            obtain ⟨i, rfl, _, _⟩ := btw_int ba
            obtain ⟨j, rfl, _, _⟩ := btw_int bb
            simp [M_is_conversion, b_is_conversion, q_mulAI, q_mulAL, a_wb, q_divW, Function.comp_def, q_starI, q_starIT, a_wp, a_fz, a_fz0, a_fz1, a_ext, a_ins, a_insA, a_pop, a_parN, a_evO0, a_evO1, a_setO0, a_setO1, a_ix2, a_setII, a_zN, a_zC, a_lcO, d_oo, pEq_int, pNe_int, pIxL, pIxT, atI_nat, atI_0, atI_1, atI_2, atI_3, atI_m1, cutLo, cutHi, cutLo1, cutHi1, a_seq, a_ifS, a_B, a_op, a_ov, a_ev0, a_evv, a_evs, a_C, a_V, a_M, a_set, a_setI, a_app, a_ret, a_ex, a_skip, a_no, a_not, a_andT, a_orT, a_and, a_or, a_notV, a_if, a_par, a_call, a_forS, a_sq, a_r1, a_r2, a_en, a_zp, a_asT, a_chI, a_yes, a_lc, a_fn, okA, f_fr, bkA, rsvs, rsv, dvs, on1, on2, d_fr, d_ol, rsO, ndS, sl, putB, asT, setAll, ofO, Dy.ints1, Dy.ints2, nE, wipeE, unw, frO, q_addI, q_addL, q_addT, q_addS, q_sub, q_div, q_mod, q_pow, q_neg, q_cm, pIs, pIsn, q_isN, q_isI, q_isS, q_isT, q_isL, q_isB, q_lenL, q_lenT, pTup, pLst, q_tupL, q_tupT, q_lstL, q_lstT, q_revL, q_slL, q_slT, q_shL, q_shT, q_sqL, q_sqT, q_intI, q_max2, q_min2, q_aII, q_aBI, q_aTI, q_aTT, q_aLL, q_aTL, q_aIT, btwD, ba, bb, bp, conD, neD]
    · have hi : ¬ ((xs.length : Int) = 3) := by omega
      simp [M_is_conversion, b_is_conversion, q_mulAI, q_mulAL, a_wb, q_divW, Function.comp_def, q_starI, q_starIT, a_wp, a_fz, a_fz0, a_fz1, a_ext, a_ins, a_insA, a_pop, a_parN, a_evO0, a_evO1, a_setO0, a_setO1, a_ix2, a_setII, a_zN, a_zC, a_lcO, d_oo, pEq_int, pNe_int, pIxL, pIxT, atI_nat, atI_0, atI_1, atI_2, atI_3, atI_m1, cutLo, cutHi, cutLo1, cutHi1, a_seq, a_ifS, a_B, a_op, a_ov, a_ev0, a_evv, a_evs, a_C, a_V, a_M, a_set, a_setI, a_app, a_ret, a_ex, a_skip, a_no, a_not, a_andT, a_orT, a_and, a_or, a_notV, a_if, a_par, a_call, a_forS, a_sq, a_r1, a_r2, a_en, a_zp, a_asT, a_chI, a_yes, a_lc, a_fn, okA, f_fr, bkA, rsvs, rsv, dvs, on1, on2, d_fr, d_ol, rsO, ndS, sl, putB, asT, setAll, ofO, Dy.ints1, Dy.ints2, nE, wipeE, unw, frO, q_addI, q_addL, q_addT, q_addS, q_sub, q_div, q_mod, q_pow, q_neg, q_cm, pIs, pIsn, q_isN, q_isI, q_isS, q_isT, q_isL, q_isB, q_lenL, q_lenT, pTup, pLst, q_tupL, q_tupT, q_lstL, q_lstT, q_revL, q_slL, q_slT, q_shL, q_shT, q_sqL, q_sqT, q_intI, q_max2, q_min2, q_aII, q_aBI, q_aTI, q_aTT, q_aLL, q_aTL, q_aIT, hi, conD_no h4]
  · have ht : conD f d = false := by cases d <;> first | rfl | (exact absurd h (by simp [isA]))
    simp [M_is_conversion, b_is_conversion, q_mulAI, q_mulAL, a_wb, q_divW, Function.comp_def, q_starI, q_starIT, a_wp, a_fz, a_fz0, a_fz1, a_ext, a_ins, a_insA, a_pop, a_parN, a_evO0, a_evO1, a_setO0, a_setO1, a_ix2, a_setII, a_zN, a_zC, a_lcO, d_oo, pEq_int, pNe_int, pIxL, pIxT, atI_nat, atI_0, atI_1, atI_2, atI_3, atI_m1, cutLo, cutHi, cutLo1, cutHi1, a_seq, a_ifS, a_B, a_op, a_ov, a_ev0, a_evv, a_evs, a_C, a_V, a_M, a_set, a_setI, a_app, a_ret, a_ex, a_skip, a_no, a_not, a_andT, a_orT, a_and, a_or, a_notV, a_if, a_par, a_call, a_forS, a_sq, a_r1, a_r2, a_en, a_zp, a_asT, a_chI, a_yes, a_lc, a_fn, okA, f_fr, bkA, rsvs, rsv, dvs, on1, on2, d_fr, d_ol, rsO, ndS, sl, putB, asT, setAll, ofO, Dy.ints1, Dy.ints2, nE, wipeE, unw, frO, q_addI, q_addL, q_addT, q_addS, q_sub, q_div, q_mod, q_pow, q_neg, q_cm, pIs, pIsn, q_isN, q_isI, q_isS, q_isT, q_isL, q_isB, q_lenL, q_lenT, pTup, pLst, q_tupL, q_tupT, q_lstL, q_lstT, q_revL, q_slL, q_slT, q_shL, q_shT, q_sqL, q_sqT, q_intI, q_max2, q_min2, q_aII, q_aBI, q_aTI, q_aTT, q_aLL, q_aTL, q_aIT, h, ht]
def mcD : PyData → Bool
  | .tuple [a, .int f, .tuple is, .tuple cs] => arD a && (btw 1 4 (.int f) && (decide (is.length ≤ 24) && (decide (cs.length ≤ 12) && (is.all (insD (match a with | .tuple as => as | _ => []) f) && cs.all (conD f)))))
  | _ => false
theorem mcD_no {xs : List PyData} (h : xs.length ≠ 4) : mcD (.tuple xs) = false := by
  unfold mcD
  split
  · rename_i e
    injection e with e
    subst e
    simp at h
  · rfl
/-- no tuple in it is too long -/
def Fit (d : PyData) : Prop := ∀ xs, d = .tuple xs → ∀ is, .tuple is ∈ xs → ∀ one ∈ is, ∀ ys, one = .tuple ys → ∀ zs, .tuple zs ∈ ys → zs.length ≤ 100000
theorem szT {xs : List PyData} : sz (.tuple xs) = szs xs + 1 := rfl
theorem fit_of {d : PyData} (h : sz d ≤ 100000) : Fit d := by
  intro xs e is hi one ho ys e2 zs hz
  subst e e2
  have h1 := sz_mem hi
  have h2 := sz_mem ho
  have h3 := sz_mem hz
  have h4 := szs_len zs
  simp only [szT] at *
  omega
theorem machD (d : PyData) (hf : Fit d) : M_is_machine [.fr d] = .ok (.fr (.bool (mcD d)), [.fr d]) := by
  rcases tup_cases d with ⟨xs, rfl⟩ | h
  · by_cases h4 : xs.length = 4
    · obtain ⟨a, f, is, cs, rfl⟩ := len4 h4
      cases ba : arD a with
      | false =>
        have ht : mcD (.tuple [a, f, is, cs]) = false := by
          unfold mcD; split
          · rename_i e; injection e with e; injection e with e1 e2; subst e1; rw [ba]; rfl
          · rfl
        simp [M_is_machine, b_is_machine, q_mulAI, q_mulAL, a_wb, q_divW, Function.comp_def, q_starI, q_starIT, a_wp, a_fz, a_fz0, a_fz1, a_ext, a_ins, a_insA, a_pop, a_parN, a_evO0, a_evO1, a_setO0, a_setO1, a_ix2, a_setII, a_zN, a_zC, a_lcO, d_oo, pEq_int, pNe_int, pIxL, pIxT, atI_nat, atI_0, atI_1, atI_2, atI_3, atI_m1, cutLo, cutHi, cutLo1, cutHi1, a_seq, a_ifS, a_B, a_op, a_ov, a_ev0, a_evv, a_evs, a_C, a_V, a_M, a_set, a_setI, a_app, a_ret, a_ex, a_skip, a_no, a_not, a_andT, a_orT, a_and, a_or, a_notV, a_if, a_par, a_call, a_forS, a_sq, a_r1, a_r2, a_en, a_zp, a_asT, a_chI, a_yes, a_lc, a_fn, okA, f_fr, bkA, rsvs, rsv, dvs, on1, on2, d_fr, d_ol, rsO, ndS, sl, putB, asT, setAll, ofO, Dy.ints1, Dy.ints2, nE, wipeE, unw, frO, q_addI, q_addL, q_addT, q_addS, q_sub, q_div, q_mod, q_pow, q_neg, q_cm, pIs, pIsn, q_isN, q_isI, q_isS, q_isT, q_isL, q_isB, q_lenL, q_lenT, pTup, pLst, q_tupL, q_tupT, q_lstL, q_lstT, q_revL, q_slL, q_slT, q_shL, q_shT, q_sqL, q_sqT, q_intI, q_max2, q_min2, q_aII, q_aBI, q_aTI, q_aTT, q_aLL, q_aTL, q_aIT, aritiesD, ba, ht]
      | true =>
        obtain ⟨as, rfl⟩ : ∃ as, a = .tuple as := by cases a <;> first | exact ⟨_, rfl⟩ | simp [arD] at ba
        have ha2 : as.all (btw 0 2) = true := by
          simp only [arD, Bool.and_eq_true] at ba; exact ba.2
        cases bf : btw 1 4 f with
        | false =>
          have ht : mcD (.tuple [.tuple as, f, is, cs]) = false := by
            unfold mcD; split
            · rename_i e; injection e with e; injection e with e1 e2; injection e2 with e2 e3; subst e2; rw [bf]; simp
            · rfl
          simp [M_is_machine, b_is_machine, q_mulAI, q_mulAL, a_wb, q_divW, Function.comp_def, q_starI, q_starIT, a_wp, a_fz, a_fz0, a_fz1, a_ext, a_ins, a_insA, a_pop, a_parN, a_evO0, a_evO1, a_setO0, a_setO1, a_ix2, a_setII, a_zN, a_zC, a_lcO, d_oo, pEq_int, pNe_int, pIxL, pIxT, atI_nat, atI_0, atI_1, atI_2, atI_3, atI_m1, cutLo, cutHi, cutLo1, cutHi1, a_seq, a_ifS, a_B, a_op, a_ov, a_ev0, a_evv, a_evs, a_C, a_V, a_M, a_set, a_setI, a_app, a_ret, a_ex, a_skip, a_no, a_not, a_andT, a_orT, a_and, a_or, a_notV, a_if, a_par, a_call, a_forS, a_sq, a_r1, a_r2, a_en, a_zp, a_asT, a_chI, a_yes, a_lc, a_fn, okA, f_fr, bkA, rsvs, rsv, dvs, on1, on2, d_fr, d_ol, rsO, ndS, sl, putB, asT, setAll, ofO, Dy.ints1, Dy.ints2, nE, wipeE, unw, frO, q_addI, q_addL, q_addT, q_addS, q_sub, q_div, q_mod, q_pow, q_neg, q_cm, pIs, pIsn, q_isN, q_isI, q_isS, q_isT, q_isL, q_isB, q_lenL, q_lenT, pTup, pLst, q_tupL, q_tupT, q_lstL, q_lstT, q_revL, q_slL, q_slT, q_shL, q_shT, q_sqL, q_sqT, q_intI, q_max2, q_min2, q_aII, q_aBI, q_aTI, q_aTT, q_aLL, q_aTL, q_aIT, aritiesD, ba, btwD, bf, ht]
        | true =>
          obtain ⟨fi, rfl, f0, f1⟩ := btw_int bf
          rcases tup_cases is with ⟨is, rfl⟩ | hi
          · by_cases l1 : is.length ≤ 24
            · have l1' : ¬ ((24 : Int) < is.length) := by omega
              rcases tup_cases cs with ⟨cs, rfl⟩ | hc
              · by_cases l2 : cs.length ≤ 12
                · have l2' : ¬ ((12 : Int) < cs.length) := by omega
                  have e1 : ∀ e : Dy.Env, e = V_is_machine (thing := fr (.tuple [.tuple as, .int fi, .tuple is, .tuple cs])) (arities := fr (.tuple as)) (forms := fr (.int fi)) (instructions := fr (.tuple is)) (conversions := fr (.tuple cs)) → lcL [5] (.nm 5) fYes E1_is_machine is e [] = .ok ((is.map (insD as fi)).map PyData.bool, e) := fun e he => by
                    subst he
                    refine lc_all (p := insD as fi) is (by omega) (fun x hx => ?_)
                    have := instrD ha2 fi x (fun ys e zs hz => hf _ rfl is (by simp) x hx ys e zs hz)
                    simp [E1_is_machine, q_mulAI, q_mulAL, a_wb, q_divW, Function.comp_def, q_starI, q_starIT, a_wp, a_fz, a_fz0, a_fz1, a_ext, a_ins, a_insA, a_pop, a_parN, a_evO0, a_evO1, a_setO0, a_setO1, a_ix2, a_setII, a_zN, a_zC, a_lcO, d_oo, pEq_int, pNe_int, pIxL, pIxT, atI_nat, atI_0, atI_1, atI_2, atI_3, atI_m1, cutLo, cutHi, cutLo1, cutHi1, a_seq, a_ifS, a_B, a_op, a_ov, a_ev0, a_evv, a_evs, a_C, a_V, a_M, a_set, a_setI, a_app, a_ret, a_ex, a_skip, a_no, a_not, a_andT, a_orT, a_and, a_or, a_notV, a_if, a_par, a_call, a_forS, a_sq, a_r1, a_r2, a_en, a_zp, a_asT, a_chI, a_yes, a_lc, a_fn, okA, f_fr, bkA, rsvs, rsv, dvs, on1, on2, d_fr, d_ol, rsO, ndS, sl, putB, asT, setAll, ofO, Dy.ints1, Dy.ints2, nE, wipeE, unw, frO, q_addI, q_addL, q_addT, q_addS, q_sub, q_div, q_mod, q_pow, q_neg, q_cm, pIs, pIsn, q_isN, q_isI, q_isS, q_isT, q_isL, q_isB, q_lenL, q_lenT, pTup, pLst, q_tupL, q_tupT, q_lstL, q_lstT, q_revL, q_slL, q_slT, q_shL, q_shT, q_sqL, q_sqT, q_intI, q_max2, q_min2, q_aII, q_aBI, q_aTI, q_aTT, q_aLL, q_aTL, q_aIT, this]
                  have e2 : ∀ e : Dy.Env, e = V_is_machine (thing := fr (.tuple [.tuple as, .int fi, .tuple is, .tuple cs])) (arities := fr (.tuple as)) (forms := fr (.int fi)) (instructions := fr (.tuple is)) (conversions := fr (.tuple cs)) → lcL [5] (.nm 5) fYes E2_is_machine cs e [] = .ok ((cs.map (conD fi)).map PyData.bool, e) := fun e he => by
                    subst he
                    refine lc_all (p := conD fi) cs (by omega) (fun x hx => ?_)
                    simp [E2_is_machine, q_mulAI, q_mulAL, a_wb, q_divW, Function.comp_def, q_starI, q_starIT, a_wp, a_fz, a_fz0, a_fz1, a_ext, a_ins, a_insA, a_pop, a_parN, a_evO0, a_evO1, a_setO0, a_setO1, a_ix2, a_setII, a_zN, a_zC, a_lcO, d_oo, pEq_int, pNe_int, pIxL, pIxT, atI_nat, atI_0, atI_1, atI_2, atI_3, atI_m1, cutLo, cutHi, cutLo1, cutHi1, a_seq, a_ifS, a_B, a_op, a_ov, a_ev0, a_evv, a_evs, a_C, a_V, a_M, a_set, a_setI, a_app, a_ret, a_ex, a_skip, a_no, a_not, a_andT, a_orT, a_and, a_or, a_notV, a_if, a_par, a_call, a_forS, a_sq, a_r1, a_r2, a_en, a_zp, a_asT, a_chI, a_yes, a_lc, a_fn, okA, f_fr, bkA, rsvs, rsv, dvs, on1, on2, d_fr, d_ol, rsO, ndS, sl, putB, asT, setAll, ofO, Dy.ints1, Dy.ints2, nE, wipeE, unw, frO, q_addI, q_addL, q_addT, q_addS, q_sub, q_div, q_mod, q_pow, q_neg, q_cm, pIs, pIsn, q_isN, q_isI, q_isS, q_isT, q_isL, q_isB, q_lenL, q_lenT, pTup, pLst, q_tupL, q_tupT, q_lstL, q_lstT, q_revL, q_slL, q_slT, q_shL, q_shT, q_sqL, q_sqT, q_intI, q_max2, q_min2, q_aII, q_aBI, q_aTI, q_aTT, q_aLL, q_aTL, q_aIT, convD]
                  have e1 := e1 _ rfl
                  have e2 := e2 _ rfl
                  have p1 := pAll_map (insD as fi) is
                  have p2 := pAll_map (conD fi) cs
                  simp only [List.map_map, Function.comp_def] at e1 e2 p1 p2
                  cases b1 : is.all (insD as fi) with
                  | false =>
                    rw [b1] at p1
                    simp [M_is_machine, b_is_machine, q_mulAI, q_mulAL, a_wb, q_divW, Function.comp_def, q_starI, q_starIT, a_wp, a_fz, a_fz0, a_fz1, a_ext, a_ins, a_insA, a_pop, a_parN, a_evO0, a_evO1, a_setO0, a_setO1, a_ix2, a_setII, a_zN, a_zC, a_lcO, d_oo, pEq_int, pNe_int, pIxL, pIxT, atI_nat, atI_0, atI_1, atI_2, atI_3, atI_m1, cutLo, cutHi, cutLo1, cutHi1, a_seq, a_ifS, a_B, a_op, a_ov, a_ev0, a_evv, a_evs, a_C, a_V, a_M, a_set, a_setI, a_app, a_ret, a_ex, a_skip, a_no, a_not, a_andT, a_orT, a_and, a_or, a_notV, a_if, a_par, a_call, a_forS, a_sq, a_r1, a_r2, a_en, a_zp, a_asT, a_chI, a_yes, a_lc, a_fn, okA, f_fr, bkA, rsvs, rsv, dvs, on1, on2, d_fr, d_ol, rsO, ndS, sl, putB, asT, setAll, ofO, Dy.ints1, Dy.ints2, nE, wipeE, unw, frO, q_addI, q_addL, q_addT, q_addS, q_sub, q_div, q_mod, q_pow, q_neg, q_cm, pIs, pIsn, q_isN, q_isI, q_isS, q_isT, q_isL, q_isB, q_lenL, q_lenT, pTup, pLst, q_tupL, q_tupT, q_lstL, q_lstT, q_revL, q_slL, q_slT, q_shL, q_shT, q_sqL, q_sqT, q_intI, q_max2, q_min2, q_aII, q_aBI, q_aTI, q_aTT, q_aLL, q_aTL, q_aIT, aritiesD, ba, btwD, bf, l1', l2', e1, p1, mcD, b1]
                  | true =>
                    rw [b1] at p1
                    simp [M_is_machine, b_is_machine, q_mulAI, q_mulAL, a_wb, q_divW, Function.comp_def, q_starI, q_starIT, a_wp, a_fz, a_fz0, a_fz1, a_ext, a_ins, a_insA, a_pop, a_parN, a_evO0, a_evO1, a_setO0, a_setO1, a_ix2, a_setII, a_zN, a_zC, a_lcO, d_oo, pEq_int, pNe_int, pIxL, pIxT, atI_nat, atI_0, atI_1, atI_2, atI_3, atI_m1, cutLo, cutHi, cutLo1, cutHi1, a_seq, a_ifS, a_B, a_op, a_ov, a_ev0, a_evv, a_evs, a_C, a_V, a_M, a_set, a_setI, a_app, a_ret, a_ex, a_skip, a_no, a_not, a_andT, a_orT, a_and, a_or, a_notV, a_if, a_par, a_call, a_forS, a_sq, a_r1, a_r2, a_en, a_zp, a_asT, a_chI, a_yes, a_lc, a_fn, okA, f_fr, bkA, rsvs, rsv, dvs, on1, on2, d_fr, d_ol, rsO, ndS, sl, putB, asT, setAll, ofO, Dy.ints1, Dy.ints2, nE, wipeE, unw, frO, q_addI, q_addL, q_addT, q_addS, q_sub, q_div, q_mod, q_pow, q_neg, q_cm, pIs, pIsn, q_isN, q_isI, q_isS, q_isT, q_isL, q_isB, q_lenL, q_lenT, pTup, pLst, q_tupL, q_tupT, q_lstL, q_lstT, q_revL, q_slL, q_slT, q_shL, q_shT, q_sqL, q_sqT, q_intI, q_max2, q_min2, q_aII, q_aBI, q_aTI, q_aTT, q_aLL, q_aTL, q_aIT, aritiesD, ba, btwD, bf, l1', l2', e1, p1, e2, p2, mcD, b1, l1, l2]
                · have l2' : (12 : Int) < cs.length := by omega
                  simp [M_is_machine, b_is_machine, q_mulAI, q_mulAL, a_wb, q_divW, Function.comp_def, q_starI, q_starIT, a_wp, a_fz, a_fz0, a_fz1, a_ext, a_ins, a_insA, a_pop, a_parN, a_evO0, a_evO1, a_setO0, a_setO1, a_ix2, a_setII, a_zN, a_zC, a_lcO, d_oo, pEq_int, pNe_int, pIxL, pIxT, atI_nat, atI_0, atI_1, atI_2, atI_3, atI_m1, cutLo, cutHi, cutLo1, cutHi1, a_seq, a_ifS, a_B, a_op, a_ov, a_ev0, a_evv, a_evs, a_C, a_V, a_M, a_set, a_setI, a_app, a_ret, a_ex, a_skip, a_no, a_not, a_andT, a_orT, a_and, a_or, a_notV, a_if, a_par, a_call, a_forS, a_sq, a_r1, a_r2, a_en, a_zp, a_asT, a_chI, a_yes, a_lc, a_fn, okA, f_fr, bkA, rsvs, rsv, dvs, on1, on2, d_fr, d_ol, rsO, ndS, sl, putB, asT, setAll, ofO, Dy.ints1, Dy.ints2, nE, wipeE, unw, frO, q_addI, q_addL, q_addT, q_addS, q_sub, q_div, q_mod, q_pow, q_neg, q_cm, pIs, pIsn, q_isN, q_isI, q_isS, q_isT, q_isL, q_isB, q_lenL, q_lenT, pTup, pLst, q_tupL, q_tupT, q_lstL, q_lstT, q_revL, q_slL, q_slT, q_shL, q_shT, q_sqL, q_sqT, q_intI, q_max2, q_min2, q_aII, q_aBI, q_aTI, q_aTT, q_aLL, q_aTL, q_aIT, aritiesD, ba, btwD, bf, l1', l2', mcD, l2]
              · have ht : mcD (.tuple [.tuple as, .int fi, .tuple is, cs]) = false := by cases cs <;> first | rfl | (exact absurd hc (by simp [isA]))
                simp [M_is_machine, b_is_machine, q_mulAI, q_mulAL, a_wb, q_divW, Function.comp_def, q_starI, q_starIT, a_wp, a_fz, a_fz0, a_fz1, a_ext, a_ins, a_insA, a_pop, a_parN, a_evO0, a_evO1, a_setO0, a_setO1, a_ix2, a_setII, a_zN, a_zC, a_lcO, d_oo, pEq_int, pNe_int, pIxL, pIxT, atI_nat, atI_0, atI_1, atI_2, atI_3, atI_m1, cutLo, cutHi, cutLo1, cutHi1, a_seq, a_ifS, a_B, a_op, a_ov, a_ev0, a_evv, a_evs, a_C, a_V, a_M, a_set, a_setI, a_app, a_ret, a_ex, a_skip, a_no, a_not, a_andT, a_orT, a_and, a_or, a_notV, a_if, a_par, a_call, a_forS, a_sq, a_r1, a_r2, a_en, a_zp, a_asT, a_chI, a_yes, a_lc, a_fn, okA, f_fr, bkA, rsvs, rsv, dvs, on1, on2, d_fr, d_ol, rsO, ndS, sl, putB, asT, setAll, ofO, Dy.ints1, Dy.ints2, nE, wipeE, unw, frO, q_addI, q_addL, q_addT, q_addS, q_sub, q_div, q_mod, q_pow, q_neg, q_cm, pIs, pIsn, q_isN, q_isI, q_isS, q_isT, q_isL, q_isB, q_lenL, q_lenT, pTup, pLst, q_tupL, q_tupT, q_lstL, q_lstT, q_revL, q_slL, q_slT, q_shL, q_shT, q_sqL, q_sqT, q_intI, q_max2, q_min2, q_aII, q_aBI, q_aTI, q_aTT, q_aLL, q_aTL, q_aIT, aritiesD, ba, btwD, bf, l1', hc, ht]
            · have l1' : (24 : Int) < is.length := by omega
              have ht : mcD (.tuple [.tuple as, .int fi, .tuple is, cs]) = false := by cases cs <;> simp [mcD, l1]
              simp [M_is_machine, b_is_machine, q_mulAI, q_mulAL, a_wb, q_divW, Function.comp_def, q_starI, q_starIT, a_wp, a_fz, a_fz0, a_fz1, a_ext, a_ins, a_insA, a_pop, a_parN, a_evO0, a_evO1, a_setO0, a_setO1, a_ix2, a_setII, a_zN, a_zC, a_lcO, d_oo, pEq_int, pNe_int, pIxL, pIxT, atI_nat, atI_0, atI_1, atI_2, atI_3, atI_m1, cutLo, cutHi, cutLo1, cutHi1, a_seq, a_ifS, a_B, a_op, a_ov, a_ev0, a_evv, a_evs, a_C, a_V, a_M, a_set, a_setI, a_app, a_ret, a_ex, a_skip, a_no, a_not, a_andT, a_orT, a_and, a_or, a_notV, a_if, a_par, a_call, a_forS, a_sq, a_r1, a_r2, a_en, a_zp, a_asT, a_chI, a_yes, a_lc, a_fn, okA, f_fr, bkA, rsvs, rsv, dvs, on1, on2, d_fr, d_ol, rsO, ndS, sl, putB, asT, setAll, ofO, Dy.ints1, Dy.ints2, nE, wipeE, unw, frO, q_addI, q_addL, q_addT, q_addS, q_sub, q_div, q_mod, q_pow, q_neg, q_cm, pIs, pIsn, q_isN, q_isI, q_isS, q_isT, q_isL, q_isB, q_lenL, q_lenT, pTup, pLst, q_tupL, q_tupT, q_lstL, q_lstT, q_revL, q_slL, q_slT, q_shL, q_shT, q_sqL, q_sqT, q_intI, q_max2, q_min2, q_aII, q_aBI, q_aTI, q_aTT, q_aLL, q_aTL, q_aIT, aritiesD, ba, btwD, bf, l1', ht]
          · have ht : mcD (.tuple [.tuple as, .int fi, is, cs]) = false := by cases is <;> first | rfl | (exact absurd hi (by simp [isA]))
            simp [M_is_machine, b_is_machine, q_mulAI, q_mulAL, a_wb, q_divW, Function.comp_def, q_starI, q_starIT, a_wp, a_fz, a_fz0, a_fz1, a_ext, a_ins, a_insA, a_pop, a_parN, a_evO0, a_evO1, a_setO0, a_setO1, a_ix2, a_setII, a_zN, a_zC, a_lcO, d_oo, pEq_int, pNe_int, pIxL, pIxT, atI_nat, atI_0, atI_1, atI_2, atI_3, atI_m1, cutLo, cutHi, cutLo1, cutHi1, a_seq, a_ifS, a_B, a_op, a_ov, a_ev0, a_evv, a_evs, a_C, a_V, a_M, a_set, a_setI, a_app, a_ret, a_ex, a_skip, a_no, a_not, a_andT, a_orT, a_and, a_or, a_notV, a_if, a_par, a_call, a_forS, a_sq, a_r1, a_r2, a_en, a_zp, a_asT, a_chI, a_yes, a_lc, a_fn, okA, f_fr, bkA, rsvs, rsv, dvs, on1, on2, d_fr, d_ol, rsO, ndS, sl, putB, asT, setAll, ofO, Dy.ints1, Dy.ints2, nE, wipeE, unw, frO, q_addI, q_addL, q_addT, q_addS, q_sub, q_div, q_mod, q_pow, q_neg, q_cm, pIs, pIsn, q_isN, q_isI, q_isS, q_isT, q_isL, q_isB, q_lenL, q_lenT, pTup, pLst, q_tupL, q_tupT, q_lstL, q_lstT, q_revL, q_slL, q_slT, q_shL, q_shT, q_sqL, q_sqT, q_intI, q_max2, q_min2, q_aII, q_aBI, q_aTI, q_aTT, q_aLL, q_aTL, q_aIT, aritiesD, ba, btwD, bf, hi, ht]
    · have hi : ¬ ((xs.length : Int) = 4) := by omega
      simp [M_is_machine, b_is_machine, q_mulAI, q_mulAL, a_wb, q_divW, Function.comp_def, q_starI, q_starIT, a_wp, a_fz, a_fz0, a_fz1, a_ext, a_ins, a_insA, a_pop, a_parN, a_evO0, a_evO1, a_setO0, a_setO1, a_ix2, a_setII, a_zN, a_zC, a_lcO, d_oo, pEq_int, pNe_int, pIxL, pIxT, atI_nat, atI_0, atI_1, atI_2, atI_3, atI_m1, cutLo, cutHi, cutLo1, cutHi1, a_seq, a_ifS, a_B, a_op, a_ov, a_ev0, a_evv, a_evs, a_C, a_V, a_M, a_set, a_setI, a_app, a_ret, a_ex, a_skip, a_no, a_not, a_andT, a_orT, a_and, a_or, a_notV, a_if, a_par, a_call, a_forS, a_sq, a_r1, a_r2, a_en, a_zp, a_asT, a_chI, a_yes, a_lc, a_fn, okA, f_fr, bkA, rsvs, rsv, dvs, on1, on2, d_fr, d_ol, rsO, ndS, sl, putB, asT, setAll, ofO, Dy.ints1, Dy.ints2, nE, wipeE, unw, frO, q_addI, q_addL, q_addT, q_addS, q_sub, q_div, q_mod, q_pow, q_neg, q_cm, pIs, pIsn, q_isN, q_isI, q_isS, q_isT, q_isL, q_isB, q_lenL, q_lenT, pTup, pLst, q_tupL, q_tupT, q_lstL, q_lstT, q_revL, q_slL, q_slT, q_shL, q_shT, q_sqL, q_sqT, q_intI, q_max2, q_min2, q_aII, q_aBI, q_aTI, q_aTT, q_aLL, q_aTL, q_aIT, hi, mcD_no h4]
  · have ht : mcD d = false := by cases d <;> first | rfl | (exact absurd h (by simp [isA]))
    simp [M_is_machine, b_is_machine, q_mulAI, q_mulAL, a_wb, q_divW, Function.comp_def, q_starI, q_starIT, a_wp, a_fz, a_fz0, a_fz1, a_ext, a_ins, a_insA, a_pop, a_parN, a_evO0, a_evO1, a_setO0, a_setO1, a_ix2, a_setII, a_zN, a_zC, a_lcO, d_oo, pEq_int, pNe_int, pIxL, pIxT, atI_nat, atI_0, atI_1, atI_2, atI_3, atI_m1, cutLo, cutHi, cutLo1, cutHi1, a_seq, a_ifS, a_B, a_op, a_ov, a_ev0, a_evv, a_evs, a_C, a_V, a_M, a_set, a_setI, a_app, a_ret, a_ex, a_skip, a_no, a_not, a_andT, a_orT, a_and, a_or, a_notV, a_if, a_par, a_call, a_forS, a_sq, a_r1, a_r2, a_en, a_zp, a_asT, a_chI, a_yes, a_lc, a_fn, okA, f_fr, bkA, rsvs, rsv, dvs, on1, on2, d_fr, d_ol, rsO, ndS, sl, putB, asT, setAll, ofO, Dy.ints1, Dy.ints2, nE, wipeE, unw, frO, q_addI, q_addL, q_addT, q_addS, q_sub, q_div, q_mod, q_pow, q_neg, q_cm, pIs, pIsn, q_isN, q_isI, q_isS, q_isT, q_isL, q_isB, q_lenL, q_lenT, pTup, pLst, q_tupL, q_tupT, q_lstL, q_lstT, q_revL, q_slL, q_slT, q_shL, q_shT, q_sqL, q_sqT, q_intI, q_max2, q_min2, q_aII, q_aBI, q_aTI, q_aTT, q_aLL, q_aTL, q_aIT, h, ht]
end Q
namespace Q
open PySem Dy
end Q
namespace Q
open PySem Dy
def b_need_machine_2 : SF := fIfS (fNot (fB (fCall M_is_machine [.v (fV 0)]))) (fRaise "NoMachine") (fSkip)
def M_need_machine_2 : Fn := fnM 1 1 [] b_need_machine_2
end Q
namespace Q
open PySem Dy
end Q
namespace Q
open PySem Dy
end Q
namespace Q
open PySem Dy
end Q
namespace Q
open PySem Dy
end Q
namespace Q
open PySem Dy
end Q
namespace Q
open PySem Dy
end Q
namespace Q
open PySem Dy
end Q
namespace Q
open PySem Dy
end Q
namespace Q
open PySem Dy
end Q
namespace Q
open PySem Dy
end Q
namespace Q
open PySem Dy
end Q
namespace Q
open PySem Dy
end Q
namespace Q
open PySem Dy
end Q
namespace Q
open PySem Dy
end Q
namespace Q
open PySem Dy
end Q
namespace Q
open PySem Dy
end Q
namespace Q
open PySem Dy
end Q
namespace Q
open PySem Dy
end Q
namespace Q
open PySem Dy
end Q
namespace Q
open PySem Dy
end Q
namespace Q
open PySem Dy
end Q
namespace Q
open PySem Dy
end Q
namespace Q
open PySem Dy
end Q
namespace Q
open PySem Dy
end Q
namespace Q
open PySem Dy
end Q
namespace Q
open PySem Dy
def E1__law_number_in : EF := fV 1
def T1__law_number_in : TF := fB (fOp (on2 (pInS true)) [.s 1, .v (fC (.str "0123456789"))])
def b__law_number_in : SF := fSeq (fIfS (fOrT (fB (fOp (on2 pEq) [.s 0, .v (fC (.str ""))])) (fOrT (fB (fOp (on2 pNe) [.v (fLc (fSg (.s 0)) [1] (.nm 1) (T1__law_number_in) (E1__law_number_in)), .v (fOv pLst [])])) (fAndT (fB (fOp (on2 pEq) [.v (fOp (on2 pIx) [.s 0, .v (fC (.int 0))]), .v (fC (.str "0"))])) (fB (fOp (on2 pNe) [.s 0, .v (fC (.str "0"))]))))) (fRet (fC .none)) (fSkip))
  (fRet (fOp (on1 pIntT) [.s 0]))
def M__law_number_in : Fn := fnM 1 2 [] b__law_number_in
def E1_numbers_in : EF := fCall M__law_number_in [.v (fV 1)]
def b_numbers_in : SF := fRet (fLc (fSq (.v (fV 0))) [1] (.nm 1) (fYes) (E1_numbers_in))
def M_numbers_in : Fn := fnM 1 2 [] b_numbers_in
abbrev V_numbers_in (words : Option O := none) (word : Option O := none) : Dy.Env := [words, word]
def T1__law_arranged : TF := fB (fOp (on2 pNe) [.s 2, .v (fOv pLst [])])
def L1__law_arranged : SF := fApp 3 (fPopA 2 [.v (fCall M__law_draw_2 [.s 0, .v (fOp (on1 pLen) [.s 2])])])
def b__law_arranged : SF := fSeq (fWp [1] (fPar 2 3 (fOp (on1 pList) [.s 1]) (fOv pLst [])))
  (fSeq (fWp [2] (fWhile (T1__law_arranged) (L1__law_arranged) 100000))
  (fRet (fM 3)))
def M__law_arranged : Fn := fnM 2 4 [0] b__law_arranged
abbrev V__law_arranged (pen_here : Option O := none) (things : Option O := none) (bag : Option O := none) (found : Option O := none) : Dy.Env := [pen_here, things, bag, found]
def E1__law_kit : EF := fCall M__law_pick_2 [.s 0, .v (fOv pLst [.v (fC (.int 0)), .v (fC (.int 1)), .v (fC (.int 2)), .v (fC (.int 2))])]
def E2__law_kit : EF := fCall M__law_draw_2 [.s 0, .v (fV 4)]
def L1__law_kit : SF := fSeq (fSet 11 (fOp (on1 pTuple) [.v (fLc (fR1 (.s 9)) [13] (.nm 13) (fYes) (E2__law_kit))]))
  (fWp [3, 11] (fApp 6 (fOv pTup [.v (fCall M__law_draw_2 [.s 0, .v (fV 4)]), .v (fV 8), .v (fV 11), .v (fCall M__law_draw_2 [.s 0, .v (fV 5)])])))
def L2__law_kit : SF := fWp [3, 8, 9, 11] (fForS (fR1 (.v (fCall M__law_pick_2 [.s 0, .v (fOv pLst [.v (fC (.int 1)), .v (fC (.int 1)), .v (fC (.int 2)), .v (fC (.int 3)), .v (fC (.int 3)), .v (fC (.int 0))])]))) (.nm 3) (L1__law_kit))
def L3__law_kit : SF := fSeq (fSet 10 (fCall M__law_draw_2 [.s 0, .v (fV 4)]))
  (fWp [3, 10] (fApp 7 (fOv pTup [.v (fV 10), .v (fOp (on2 pMod) [.v (fOp (on2 pAdd) [.v (fOp (on2 pAdd) [.s 10, .v (fC (.int 1))]), .v (fCall M__law_draw_2 [.s 0, .v (fOp (on2 pSub) [.s 4, .v (fC (.int 1))])])]), .s 4]), .v (fCall M__law_draw_2 [.s 0, .v (fV 5)])])))
def b__law_kit : SF := fSeq (fFz [2] (fSet 2 (fOp (on2 pAdd) [.v (fOv pLst [.v (fC (.int 0))]), .v (fLc (fR1 (.v (fCall M__law_draw_2 [.s 0, .v (fC (.int 4))]))) [12] (.nm 12) (fYes) (E1__law_kit))])))
  (fSeq (fFz [2] (fParN [2, 4, 5] [fCall M__law_arranged [.s 0, .v (fV 2)], fOp (on2 pAdd) [.v (fC (.int 1)), .v (fCall M__law_draw_2 [.s 0, .v (fV 1)])], fCall M__law_pick_2 [.s 0, .v (fOv pLst [.v (fC (.int 3)), .v (fC (.int 6)), .v (fC (.int 21))])]]))
  (fSeq (fWp [1] (fPar 6 7 (fOv pLst []) (fOv pLst [])))
  (fSeq (fWp [3, 8, 9, 11] (fForS (fEn (.v (fV 2))) (.tu [8, 9]) (L2__law_kit)))
  (fSeq (fWp [3, 5, 10] (fForS (fR1 (.v (fOp (on2 pMulA) [.v (fCall M__law_draw_2 [.s 0, .v (fC (.int 4))]), .v (fOp (on1 pInt) [.v (fOp (on2 (cmI (fun i j => decide (j < i)))) [.s 4, .v (fC (.int 1))])])]))) (.nm 3) (L3__law_kit)))
  (fRet (fOv pTup [.v (fOp (on1 pTuple) [.s 2]), .v (fV 4), .v (fOp (on1 pTuple) [.v (fCall M__law_arranged [.s 0, .v (fV 6)])]), .v (fOp (on1 pTuple) [.s 7])]))))))
def M__law_kit : Fn := fnM 2 14 [0] b__law_kit
def E1_words_of : EF := fOp (on1 pStr) [.s 1]
def b_words_of : SF := fRet (fLc (fSq (.v (fV 0))) [1] (.nm 1) (fYes) (E1_words_of))
def M_words_of : Fn := fnM 1 2 [] b_words_of
abbrev V_words_of (some_ : Option O := none) (one : Option O := none) : Dy.Env := [some_, one]
end Q
namespace Q
open PySem Dy
open L2 (atI ixN)
def tx (x : Str) : List Nat := x.cps.toList
theorem tx_len (x : Str) : (tx x).length = x.length := by simp [tx, Str.length]
theorem tx_app (a b : Str) : tx (a ++ b) = tx a ++ tx b := by
  show (a.cps ++ b.cps).toList = _
  simp [tx]
theorem tx_mk (l : List Nat) : tx ⟨l.toArray⟩ = l := by simp [tx]
theorem tx_inj {a b : Str} (h : tx a = tx b) : a = b := by
  cases a with | mk a => cases b with | mk b => cases a with | mk a => cases b with | mk b => simp [tx] at h; subst h; rfl
def dgt (c : Nat) : Bool := decide (48 ≤ c ∧ c ≤ 57)
/-- every run of digits has at most L signs -/
def Good (L : Nat) (t : List Nat) : Prop := ∀ a w b, t = a ++ w ++ b → w.all dgt = true → w.length ≤ L
theorem Good.mono {L M : Nat} {t : List Nat} (h : Good L t) (l : L ≤ M) : Good M t := fun a w b e hw => Nat.le_trans (h a w b e hw) l
theorem Good.len {L : Nat} {t : List Nat} (h : t.length ≤ L) : Good L t := fun a w b e _ => by
  have := congrArg List.length e
  simp at this; omega
theorem Good.inf {L : Nat} {t u : List Nat} (h : Good L t) (i : u <:+: t) : Good L u := fun a w b e hw => by
  obtain ⟨p, q, hp⟩ := i
  refine h (p ++ a) w (b ++ q) ?_ hw
  rw [← hp, e]; simp
/-- a sign that is no digit parts the runs -/
theorem Good.sep {L : Nat} {t u : List Nat} {c : Nat} (h : Good L t) (h' : Good L u) (hc : dgt c = false) : Good L (t ++ c :: u) := fun a w b e hw => by
  rcases List.append_eq_append_iff.mp e with ⟨as, e1, e2⟩ | ⟨bs, e1, e2⟩
  · rcases List.append_eq_append_iff.mp e1 with ⟨cs, e3, e4⟩ | ⟨cs, e3, e4⟩
    · subst e4
      rw [List.all_append, Bool.and_eq_true] at hw
      cases as with
      | nil =>
        have h1 := h a cs [] (by rw [e3]; simp) hw.1
        rw [List.append_nil]; exact h1
      | cons x xs =>
        injection e2 with e5 e6
        subst e5
        rw [List.all_cons, hc] at hw
        cases hw.2
    · cases cs with
      | nil =>
        rw [List.nil_append] at e4
        subst e4
        cases as with
        | nil => simp
        | cons x xs =>
          injection e2 with e5 e6
          subst e5
          rw [List.all_cons, hc] at hw
          cases hw
      | cons x xs =>
        subst e4
        injection e2 with e5 e6
        exact h' xs w b e6 hw
  · exact h a w bs e1 hw
theorem Good.nil {L : Nat} : Good L [] := Good.len (Nat.zero_le _)
/-- a text of plain signs with short runs of digits -/
structure TOk (L : Nat) (x : Str) : Prop where
  asc : ∀ c ∈ tx x, c < 128
  run : Good L (tx x)
theorem TOk.mono {L M : Nat} {x : Str} (h : TOk L x) (l : L ≤ M) : TOk M x := ⟨h.asc, h.run.mono l⟩
theorem TOk.inf {L : Nat} {x y : Str} (h : TOk L x) (i : tx y <:+: tx x) : TOk L y := ⟨fun c hc => h.asc c (i.subset hc), h.run.inf i⟩
theorem TOk.sok {L : Nat} {x : Str} (h : TOk L x) : PyData.strOk x = true := by
  unfold PyData.strOk
  rw [Array.all_eq_true']
  intro c hc
  have := h.asc c (by rw [tx]; exact Array.mem_toList_iff.mpr hc)
  simp; omega
theorem spl_inf (S : List Nat) : ∀ (t : List Nat) (k : Nat) (acc p : List Nat), p ∈ TL.spl S k acc t → p <:+: acc ++ t.drop k ∨ p <:+: t
  | [], k, acc, p, h => by
    rw [TL.spl_nil] at h
    rw [List.mem_singleton.mp h]
    exact .inl ⟨[], [], by simp⟩
  | c :: r, 0, acc, p, h => by
    by_cases hp : TL.pre S (c :: r) = true
    · rw [TL.spl_hit hp] at h
      rcases List.mem_cons.mp h with rfl | h
      · exact .inl ⟨[], c :: r, by simp⟩
      · rcases spl_inf S r _ [] p h with h | h
        · rw [List.nil_append] at h
          exact .inr (h.trans ((List.drop_suffix _ _).isInfix.trans ⟨[c], [], by simp⟩))
        · exact .inr (h.trans ⟨[c], [], by simp⟩)
    · rw [TL.spl_miss (by simpa using hp)] at h
      rcases spl_inf S r 0 (acc ++ [c]) p h with h | h
      · refine .inl ?_
        simpa using h
      · exact .inr (h.trans ⟨[c], [], by simp⟩)
  | c :: r, k + 1, acc, p, h => by
    have h : p ∈ TL.spl S k acc r := h
    rcases spl_inf S r k acc p h with h | h
    · exact .inl (by simpa using h)
    · exact .inr (h.trans ⟨[c], [], by simp⟩)
theorem split_tx {x y : Str} (hy : tx y ≠ []) (h : ∀ c ∈ tx y, c < 256) : (Txt.split x y).map tx = TL.spl (tx y) 0 [] (tx x) :=
  TL.split_spl x y hy (TL.kind_ok (by rw [Array.all_eq_true']; intro c hc; have := h c (Array.mem_toList_iff.mpr hc); simpa using this))
theorem split_inf {x y p : Str} (hy : tx y ≠ []) (h : ∀ c ∈ tx y, c < 256) (hp : p ∈ Txt.split x y) : tx p <:+: tx x := by
  have : tx p ∈ TL.spl (tx y) 0 [] (tx x) := by rw [← split_tx hy h]; exact List.mem_map_of_mem hp
  rcases spl_inf _ _ _ _ _ this with h | h
  · simpa using h
  · exact h
theorem TOk.part {L : Nat} {x y p : Str} (h : TOk L x) (hy : tx y ≠ []) (hc : ∀ c ∈ tx y, c < 256) (hp : p ∈ Txt.split x y) : TOk L p := h.inf (split_inf hy hc hp)
theorem digs : (Str.ofString "0123456789").cps.toList = [48, 49, 50, 51, 52, 53, 54, 55, 56, 57] := by decide +kernel
theorem mem_digs (c : Nat) : decide (c ∈ (Str.ofString "0123456789").cps.toList) = dgt c := by
  rw [digs]
  unfold dgt
  congr 1
  simp
  omega
theorem mem_digs2 (c : Nat) : (c ∈ (Str.ofString "0123456789").cps) = (dgt c = true) := by
  rw [← mem_digs c]
  exact propext ⟨fun h => decide_eq_true (Array.mem_toList_iff.mpr h), fun h => Array.mem_toList_iff.mp (of_decide_eq_true h)⟩
theorem q_inS (no : Bool) (c : Nat) (z : Str) : pInS no (.str ⟨#[c]⟩) (.str z) = some (.fr (.bool (no != decide (c ∈ z.cps.toList)))) := rfl
theorem q_eqS (a b : Str) : pEq (.str a) (.str b) = some (.fr (.bool (decide (a = b)))) := rfl
theorem q_neS (a b : Str) : pNe (.str a) (.str b) = some (.fr (.bool (!decide (a = b)))) := rfl
theorem a_sg (x : AF) (env : Dy.Env) : fSg x env = evA [x] env >>= fun r => match rsvs r.2 r.1 with | some [d] => (match d with | .str x => .ok (sgns x, r.2) | _ => .no) | _ => .no := rfl
theorem a_m1 (f : Str → PyData → Option O) (fo : EF) (y : AF) (env : Dy.Env) : fM1 f fo y env = fo env >>= fun r => match r.1.data with | .str a => fOp (on1 (f a)) [y] r.2 | _ => .no := rfl
/-- what number_read returns -/
def nrd (x : Str) : PyData := if tx x = [] ∨ (tx x).all dgt = false ∨ ((tx x).head? = some 48 ∧ tx x ≠ [48]) then .none else .int ((NumText.digitsVal (tx x) : Nat) : Int)
theorem sgn_rk {c : Nat} (h : c < 128) : Rk 0 12 (.str ⟨#[c]⟩) := by
  refine ⟨?_, rfl, Nat.zero_le _, ?_⟩
  · show PyData.strOk ⟨#[c]⟩ = true
    unfold PyData.strOk; simp; omega
  · exact StrLaws.reprText_len ⟨#[c]⟩ (by intro d hd; simp at hd; omega)
theorem e_empty : Str.ofString "" = ⟨#[]⟩ := by decide +kernel
theorem e_0 : Str.ofString "0" = ⟨#[48]⟩ := by decide +kernel
theorem str_nil (x : Str) : decide (x = Str.ofString "") = decide (tx x = []) := by
  rw [e_empty]
  congr 1
  exact propext ⟨fun h => by subst h; rfl, fun h => tx_inj h⟩
theorem str_0 (x : Str) : decide (x = Str.ofString "0") = decide (tx x = [48]) := by
  rw [e_0]
  congr 1
  exact propext ⟨fun h => by subst h; rfl, fun h => tx_inj h⟩
theorem numread {L : Nat} {x : Str} (h : TOk L x) (hL : L ≤ 640) (hx : x.length ≤ 100000) : M__law_number_in [.fr (.str x)] = .ok (.fr (nrd x), [.fr (.str x)]) := by
  by_cases h0 : tx x = []
  · have e : nrd x = .none := by unfold nrd; rw [if_pos (.inl h0)]
    have e1 := str_nil x
    rw [decide_eq_true h0] at e1
    rw [e]
    simp [M__law_number_in, b__law_number_in, q_mulAI, q_mulAL, a_wb, q_divW, Function.comp_def, q_starI, q_starIT, a_wp, a_fz, a_fz0, a_fz1, a_ext, a_ins, a_insA, a_pop, a_parN, a_evO0, a_evO1, a_setO0, a_setO1, a_ix2, a_setII, a_zN, a_zC, a_lcO, d_oo, pEq_int, pNe_int, pIxL, pIxT, atI_nat, atI_0, atI_1, atI_2, atI_3, atI_m1, cutLo, cutHi, cutLo1, cutHi1, a_seq, a_ifS, a_B, a_op, a_ov, a_ev0, a_evv, a_evs, a_C, a_V, a_M, a_set, a_setI, a_app, a_ret, a_ex, a_skip, a_no, a_not, a_andT, a_orT, a_and, a_or, a_notV, a_if, a_par, a_call, a_forS, a_sq, a_r1, a_r2, a_en, a_zp, a_asT, a_chI, a_yes, a_lc, a_fn, okA, f_fr, bkA, rsvs, rsv, dvs, on1, on2, d_fr, d_ol, rsO, ndS, sl, putB, asT, setAll, ofO, Dy.ints1, Dy.ints2, nE, wipeE, unw, frO, q_addI, q_addL, q_addT, q_addS, q_sub, q_div, q_mod, q_pow, q_neg, q_cm, pIs, pIsn, q_isN, q_isI, q_isS, q_isT, q_isL, q_isB, q_lenL, q_lenT, pTup, pLst, q_tupL, q_tupT, q_lstL, q_lstT, q_revL, q_slL, q_slT, q_shL, q_shT, q_sqL, q_sqT, q_intI, q_max2, q_min2, q_aII, q_aBI, q_aTI, q_aTT, q_aLL, q_aTL, q_aIT, q_eqS, e1]
  · have e1 := str_nil x
    rw [decide_eq_false h0] at e1
    obtain ⟨ys, l1, -, l3⟩ : ∃ ys, lcL [1] (.nm 1) T1__law_number_in E1__law_number_in (sgns x) [some (.fr (.str x)), none] [] = .ok (ys, [some (.fr (.str x)), none]) ∧ True ∧ pNe (.list ys) (.list []) = some (.fr (.bool (!(tx x).all dgt))) := by
      refine ⟨_, lc_fl (fun c : Nat => .str ⟨#[c]⟩) (fun c => if dgt c = true then none else some (.str ⟨#[c]⟩)) (tx x) rfl (fun c hc => ?_) (by rw [tx_len]; exact hx), trivial, ?_⟩
      · cases hd : dgt c <;> simp [T1__law_number_in, E1__law_number_in, q_mulAI, q_mulAL, a_wb, q_divW, Function.comp_def, q_starI, q_starIT, a_wp, a_fz, a_fz0, a_fz1, a_ext, a_ins, a_insA, a_pop, a_parN, a_evO0, a_evO1, a_setO0, a_setO1, a_ix2, a_setII, a_zN, a_zC, a_lcO, d_oo, pEq_int, pNe_int, pIxL, pIxT, atI_nat, atI_0, atI_1, atI_2, atI_3, atI_m1, cutLo, cutHi, cutLo1, cutHi1, a_seq, a_ifS, a_B, a_op, a_ov, a_ev0, a_evv, a_evs, a_C, a_V, a_M, a_set, a_setI, a_app, a_ret, a_ex, a_skip, a_no, a_not, a_andT, a_orT, a_and, a_or, a_notV, a_if, a_par, a_call, a_forS, a_sq, a_r1, a_r2, a_en, a_zp, a_asT, a_chI, a_yes, a_lc, a_fn, okA, f_fr, bkA, rsvs, rsv, dvs, on1, on2, d_fr, d_ol, rsO, ndS, sl, putB, asT, setAll, ofO, Dy.ints1, Dy.ints2, nE, wipeE, unw, frO, q_addI, q_addL, q_addT, q_addS, q_sub, q_div, q_mod, q_pow, q_neg, q_cm, pIs, pIsn, q_isN, q_isI, q_isS, q_isT, q_isL, q_isB, q_lenL, q_lenT, pTup, pLst, q_tupL, q_tupT, q_lstL, q_lstT, q_revL, q_slL, q_slT, q_shL, q_shT, q_sqL, q_sqT, q_intI, q_max2, q_min2, q_aII, q_aBI, q_aTI, q_aTT, q_aLL, q_aTL, q_aIT, q_inS, mem_digs2, hd]
      · rw [pNe_L0 (Rk.shp (Rk.lst (n := 0) (w := 12) fun d hd => ?_) (by decide))]
        · congr 4
          generalize tx x = l
          induction l with
          | nil => rfl
          | cons c l ih =>
            rw [List.filterMap_cons, List.all_cons]
            cases hd : dgt c with
            | true => simpa [hd] using ih
            | false => simp [hd]
        · obtain ⟨c, hc, e⟩ := List.mem_filterMap.mp hd
          split at e
          · cases e
          · cases e; exact sgn_rk (h.asc c hc)
    cases hd : (tx x).all dgt with
    | false =>
      have e : nrd x = .none := by unfold nrd; rw [if_pos (.inr (.inl hd))]
      rw [e]
      rw [hd] at l3
      simp [M__law_number_in, b__law_number_in, q_mulAI, q_mulAL, a_wb, q_divW, Function.comp_def, q_starI, q_starIT, a_wp, a_fz, a_fz0, a_fz1, a_ext, a_ins, a_insA, a_pop, a_parN, a_evO0, a_evO1, a_setO0, a_setO1, a_ix2, a_setII, a_zN, a_zC, a_lcO, d_oo, pEq_int, pNe_int, pIxL, pIxT, atI_nat, atI_0, atI_1, atI_2, atI_3, atI_m1, cutLo, cutHi, cutLo1, cutHi1, a_seq, a_ifS, a_B, a_op, a_ov, a_ev0, a_evv, a_evs, a_C, a_V, a_M, a_set, a_setI, a_app, a_ret, a_ex, a_skip, a_no, a_not, a_andT, a_orT, a_and, a_or, a_notV, a_if, a_par, a_call, a_forS, a_sq, a_r1, a_r2, a_en, a_zp, a_asT, a_chI, a_yes, a_lc, a_fn, okA, f_fr, bkA, rsvs, rsv, dvs, on1, on2, d_fr, d_ol, rsO, ndS, sl, putB, asT, setAll, ofO, Dy.ints1, Dy.ints2, nE, wipeE, unw, frO, q_addI, q_addL, q_addT, q_addS, q_sub, q_div, q_mod, q_pow, q_neg, q_cm, pIs, pIsn, q_isN, q_isI, q_isS, q_isT, q_isL, q_isB, q_lenL, q_lenT, pTup, pLst, q_tupL, q_tupT, q_lstL, q_lstT, q_revL, q_slL, q_slT, q_shL, q_shT, q_sqL, q_sqT, q_intI, q_max2, q_min2, q_aII, q_aBI, q_aTI, q_aTT, q_aLL, q_aTL, q_aIT, q_eqS, e1, a_sg, l1, l3]
    | true =>
      rw [hd] at l3
      obtain ⟨c, r, hc⟩ : ∃ c r, tx x = c :: r := by
        cases q : tx x with
        | nil => exact absurd q h0
        | cons c r => exact ⟨c, r, rfl⟩
      have hl : x.length ≤ 640 := by
        have := h.run [] (tx x) [] (by simp) hd
        rw [tx_len] at this
        omega
      have h6 : x.length ≤ 1000000 := by omega
      have ix : pIx (.str x) (.int 0) = some (.fr (.str ⟨#[c]⟩)) := by
        show (if x.length ≤ 1000000 then (atI (tx x) 0).map fun c => O.fr (.str ⟨#[c]⟩) else none) = _
        rw [if_pos h6, hc, atI_0]; rfl
      have e2 : decide ((⟨#[c]⟩ : Str) = Str.ofString "0") = decide (c = 48) := by
        rw [e_0]; congr 1
        exact propext ⟨fun h => by injection h with h; simpa using h, fun h => by rw [h]⟩
      have e3 := str_0 x
      have hi : intText? x = some ((NumText.digitsVal (tx x) : Nat) : Int) := by
        refine PySem.intText_digits (fun d hd' => ?_) h0 (by omega)
        have := List.all_eq_true.mp hd d hd'
        exact of_decide_eq_true this
      have pi : pIntT (.str x) = some (.fr (.int ((NumText.digitsVal (tx x) : Nat) : Int))) := by
        show (if x.length ≤ 640 then (intText? x).map fun n => O.fr (.int n) else none) = _
        rw [if_pos hl, hi]; rfl
      by_cases hz : c = 48 ∧ tx x ≠ [48]
      · have e : nrd x = .none := by unfold nrd; rw [if_pos (.inr (.inr ⟨by rw [hc, hz.1]; rfl, hz.2⟩))]
        rw [e]
        rw [decide_eq_false hz.2] at e3
        rw [decide_eq_true hz.1] at e2
        simp [M__law_number_in, b__law_number_in, q_mulAI, q_mulAL, a_wb, q_divW, Function.comp_def, q_starI, q_starIT, a_wp, a_fz, a_fz0, a_fz1, a_ext, a_ins, a_insA, a_pop, a_parN, a_evO0, a_evO1, a_setO0, a_setO1, a_ix2, a_setII, a_zN, a_zC, a_lcO, d_oo, pEq_int, pNe_int, pIxL, pIxT, atI_nat, atI_0, atI_1, atI_2, atI_3, atI_m1, cutLo, cutHi, cutLo1, cutHi1, a_seq, a_ifS, a_B, a_op, a_ov, a_ev0, a_evv, a_evs, a_C, a_V, a_M, a_set, a_setI, a_app, a_ret, a_ex, a_skip, a_no, a_not, a_andT, a_orT, a_and, a_or, a_notV, a_if, a_par, a_call, a_forS, a_sq, a_r1, a_r2, a_en, a_zp, a_asT, a_chI, a_yes, a_lc, a_fn, okA, f_fr, bkA, rsvs, rsv, dvs, on1, on2, d_fr, d_ol, rsO, ndS, sl, putB, asT, setAll, ofO, Dy.ints1, Dy.ints2, nE, wipeE, unw, frO, q_addI, q_addL, q_addT, q_addS, q_sub, q_div, q_mod, q_pow, q_neg, q_cm, pIs, pIsn, q_isN, q_isI, q_isS, q_isT, q_isL, q_isB, q_lenL, q_lenT, pTup, pLst, q_tupL, q_tupT, q_lstL, q_lstT, q_revL, q_slL, q_slT, q_shL, q_shT, q_sqL, q_sqT, q_intI, q_max2, q_min2, q_aII, q_aBI, q_aTI, q_aTT, q_aLL, q_aTL, q_aIT, q_eqS, q_neS, e1, a_sg, l1, l3, ix, e2, e3]
      · have e : nrd x = .int ((NumText.digitsVal (tx x) : Nat) : Int) := by
          unfold nrd
          rw [if_neg]
          rintro (z | z | ⟨z1, z2⟩)
          · exact h0 z
          · rw [hd] at z; cases z
          · rw [hc] at z1
            exact hz ⟨by simpa using z1, z2⟩
        rw [e]
        by_cases h48 : c = 48
        · have h4 : tx x = [48] := by by_cases q : tx x = [48]; exact q; exact absurd ⟨h48, q⟩ hz
          rw [decide_eq_true h4] at e3
          rw [decide_eq_true h48] at e2
          simp [M__law_number_in, b__law_number_in, q_mulAI, q_mulAL, a_wb, q_divW, Function.comp_def, q_starI, q_starIT, a_wp, a_fz, a_fz0, a_fz1, a_ext, a_ins, a_insA, a_pop, a_parN, a_evO0, a_evO1, a_setO0, a_setO1, a_ix2, a_setII, a_zN, a_zC, a_lcO, d_oo, pEq_int, pNe_int, pIxL, pIxT, atI_nat, atI_0, atI_1, atI_2, atI_3, atI_m1, cutLo, cutHi, cutLo1, cutHi1, a_seq, a_ifS, a_B, a_op, a_ov, a_ev0, a_evv, a_evs, a_C, a_V, a_M, a_set, a_setI, a_app, a_ret, a_ex, a_skip, a_no, a_not, a_andT, a_orT, a_and, a_or, a_notV, a_if, a_par, a_call, a_forS, a_sq, a_r1, a_r2, a_en, a_zp, a_asT, a_chI, a_yes, a_lc, a_fn, okA, f_fr, bkA, rsvs, rsv, dvs, on1, on2, d_fr, d_ol, rsO, ndS, sl, putB, asT, setAll, ofO, Dy.ints1, Dy.ints2, nE, wipeE, unw, frO, q_addI, q_addL, q_addT, q_addS, q_sub, q_div, q_mod, q_pow, q_neg, q_cm, pIs, pIsn, q_isN, q_isI, q_isS, q_isT, q_isL, q_isB, q_lenL, q_lenT, pTup, pLst, q_tupL, q_tupT, q_lstL, q_lstT, q_revL, q_slL, q_slT, q_shL, q_shT, q_sqL, q_sqT, q_intI, q_max2, q_min2, q_aII, q_aBI, q_aTI, q_aTT, q_aLL, q_aTL, q_aIT, q_eqS, q_neS, e1, a_sg, l1, l3, ix, e2, e3, pi]
        · rw [decide_eq_false h48] at e2
          simp [M__law_number_in, b__law_number_in, q_mulAI, q_mulAL, a_wb, q_divW, Function.comp_def, q_starI, q_starIT, a_wp, a_fz, a_fz0, a_fz1, a_ext, a_ins, a_insA, a_pop, a_parN, a_evO0, a_evO1, a_setO0, a_setO1, a_ix2, a_setII, a_zN, a_zC, a_lcO, d_oo, pEq_int, pNe_int, pIxL, pIxT, atI_nat, atI_0, atI_1, atI_2, atI_3, atI_m1, cutLo, cutHi, cutLo1, cutHi1, a_seq, a_ifS, a_B, a_op, a_ov, a_ev0, a_evv, a_evs, a_C, a_V, a_M, a_set, a_setI, a_app, a_ret, a_ex, a_skip, a_no, a_not, a_andT, a_orT, a_and, a_or, a_notV, a_if, a_par, a_call, a_forS, a_sq, a_r1, a_r2, a_en, a_zp, a_asT, a_chI, a_yes, a_lc, a_fn, okA, f_fr, bkA, rsvs, rsv, dvs, on1, on2, d_fr, d_ol, rsO, ndS, sl, putB, asT, setAll, ofO, Dy.ints1, Dy.ints2, nE, wipeE, unw, frO, q_addI, q_addL, q_addT, q_addS, q_sub, q_div, q_mod, q_pow, q_neg, q_cm, pIs, pIsn, q_isN, q_isI, q_isS, q_isT, q_isL, q_isB, q_lenL, q_lenT, pTup, pLst, q_tupL, q_tupT, q_lstL, q_lstT, q_revL, q_slL, q_slT, q_shL, q_shT, q_sqL, q_sqT, q_intI, q_max2, q_min2, q_aII, q_aBI, q_aTI, q_aTT, q_aLL, q_aTL, q_aIT, q_eqS, q_neS, e1, a_sg, l1, l3, ix, e2, e3, pi]
end Q
namespace Q
open PySem Dy
open L2 (atI ixN)
end Q
namespace Q
open PySem Dy
open L2 (atI ixN)
theorem reprD_of {n w : Nat} {d : PyData} (h : Rk n w d) (hn : n ≤ 64) (hw : w ≤ 16777216) : pReprD d = some (.fr (.str d.shown)) := by
  unfold pReprD; rw [if_pos (h.rOk hn hw)]
theorem reprD_ofD {d : PyData} (h : rOkD d = true) : pReprD d = some (.fr (.str d.shown)) := by
  unfold pReprD; rw [if_pos h]; split <;> rfl
theorem Gd.tupI {B n m : Nat} {xs : List PyData} (h : ∀ d ∈ xs, Q.gd B d = true ∧ d.depth ≤ n) (hs : szs xs ≤ m) : Gd B (n + 1) (m + 1) (.tuple xs) :=
  Gd.tup_iff.mpr ⟨gds_iff.mpr fun d hd => (h d hd).1, fun d hd => (h d hd).2, hs⟩
def chkD (d : PyData) : Bool := decide (sz d ≤ 100000) && (rOk d || rOkD d)
theorem gd_nat {B n : Nat} (h : n ≤ B) : gd B (dN n) = true := by simp [gd, dN, h]
theorem gd_ns {B : Nat} {ns : List Nat} (h : ∀ n ∈ ns, n ≤ B) : gds B (ns.map dN) = true := gds_iff.mpr fun d hd => by
  obtain ⟨n, hn, rfl⟩ := List.mem_map.mp hd
  exact gd_nat (h n hn)
theorem szs_ns : ∀ ns : List Nat, szs (ns.map dN) = ns.length
  | [] => rfl
  | n :: ns => by simp [szs, szs_ns ns, sz, dN]; omega
theorem dep_ns : ∀ ns : List Nat, PyData.depthAll (ns.map dN) = 0
  | [] => rfl
  | n :: ns => by
    show max 0 (PyData.depthAll (ns.map dN)) = 0
    rw [dep_ns ns]; rfl
theorem szs_le {α : Type} (f : α → PyData) (c : Nat) : ∀ (xs : List α), (∀ x ∈ xs, sz (f x) ≤ c) → szs (xs.map f) ≤ c * xs.length
  | [], _ => by simp [szs]
  | x :: xs, h => by
    have := szs_le f c xs fun y hy => h y (by simp [hy])
    have := h x (by simp)
    simp only [List.map_cons, szs, List.length_cons, Nat.mul_succ]
    omega
theorem gdM {m : Mach} (h : MOk m) : Gd 25 4 300 (encM m) := by
  have hl := h.ar.len
  have i1 : ∀ i ∈ m.ins, Gd 25 2 8 (encI i) := fun i hi => by
    have io := h.ins i hi
    have a2 := h.ar.le2 _ (List.mem_of_getElem? io.ar)
    have f4 := h.f4
    have o1 := lt_of_get io.ar
    have o2 := io.form
    have o3 := io.pr
    refine ⟨?_, ?_, ?_⟩
    · simp only [gd, gds, gd_ns (B := 25) (ns := i.args) (fun a ha => by have := io.args a ha; omega), Bool.and_true, Bool.true_and, Bool.and_eq_true, decide_eq_true_eq, dN]
      omega
    · simp [PyData.depth, PyData.depthAll, dep_ns]
    · simp [sz, szs, szs_ns]; omega
  have c1 : ∀ c ∈ m.con, Gd 25 2 8 (encK c) := fun c hc => by
    have co := h.con c hc
    have f4 := h.f4
    have := co.a; have := co.b; have := co.pr
    refine ⟨?_, ?_, ?_⟩
    · simp only [gd, gds, Bool.and_true, Bool.and_eq_true, decide_eq_true_eq, dN]; omega
    · simp [PyData.depth, PyData.depthAll]
    · simp [sz, szs]
  have f4 := h.f4
  have il := h.il
  have cl := h.cl
  have s1 := szs_le encI 8 m.ins fun i hi => (i1 i hi).sz
  have s2 := szs_le encK 8 m.con fun c hc => (c1 c hc).sz
  refine Gd.tupI (n := 3) (m := 299) (fun d hd => ?_) ?_
  · simp only [List.mem_cons, List.not_mem_nil, or_false] at hd
    rcases hd with rfl | rfl | rfl | rfl
    · exact ⟨by simp only [gd]; exact gd_ns fun a ha => by have := h.ar.le2 a ha; omega, by simp [PyData.depth, dep_ns]⟩
    · exact ⟨gd_nat (by omega), by simp [PyData.depth]⟩
    · refine ⟨by simp only [gd]; exact gds_iff.mpr fun d hd => by obtain ⟨i, hi, rfl⟩ := List.mem_map.mp hd; exact (i1 i hi).gd, ?_⟩
      have : PyData.depthAll (m.ins.map encI) ≤ 2 := dep_all.mpr fun d hd => by obtain ⟨i, hi, rfl⟩ := List.mem_map.mp hd; exact (i1 i hi).dep
      simp only [PyData.depth]; omega
    · refine ⟨by simp only [gd]; exact gds_iff.mpr fun d hd => by obtain ⟨i, hi, rfl⟩ := List.mem_map.mp hd; exact (c1 i hi).gd, ?_⟩
      have : PyData.depthAll (m.con.map encK) ≤ 2 := dep_all.mpr fun d hd => by obtain ⟨i, hi, rfl⟩ := List.mem_map.mp hd; exact (c1 i hi).dep
      simp only [PyData.depth]; omega
  · simp only [szs, sz, szs_ns, Nat.add_zero]; omega
end Q
namespace Q
open PySem Dy
open L2 (atI ixN)
/-- a loop that says no at the first that is none -/
theorem for_chk {t : Tg} {body : SF} {p : PyData → Bool} {env : Dy.Env} {o : O} : ∀ {xs : List PyData}, (∀ x ∈ xs, p x = true → (asT t x env >>= body) = .ok (.nx, env)) → (∀ x ∈ xs, p x = false → ∃ e', (asT t x env >>= body) = .ok (.rt o, e')) →
    (xs.all p = true → fFor t body xs env = .ok (.nx, env)) ∧ (xs.all p = false → ∃ e', fFor t body xs env = .ok (.rt o, e'))
  | [], _, _ => ⟨fun _ => rfl, fun h => by cases h⟩
  | x :: xs, h1, h2 => by
    obtain ⟨i1, i2⟩ := for_chk (xs := xs) (fun y hy => h1 y (by simp [hy])) (fun y hy => h2 y (by simp [hy]))
    have un : fFor t body (x :: xs) env = (asT t x env >>= fun e => body e >>= fun r => match r.1 with | .nx => fFor t body xs r.2 | .ct => fFor t body xs r.2 | .bk => .ok (.nx, r.2) | .rt o => .ok (.rt o, r.2)) := rfl
    have go : ∀ {fl : Fl} {e' : Dy.Env}, (asT t x env >>= body) = .ok (fl, e') → fFor t body (x :: xs) env = (match fl with | .nx => fFor t body xs e' | .ct => fFor t body xs e' | .bk => .ok (.nx, e') | .rt o => .ok (.rt o, e')) := fun {fl e'} e => by
      rw [un]
      cases q : asT t x env with
      | no => rw [q] at e; cases e
      | er y => rw [q] at e; cases e
      | ok e1 =>
        rw [q, bind_ok] at e
        rw [bind_ok, e, bind_ok]
    cases hp : p x with
    | true =>
      have e := go (h1 x (by simp) hp)
      refine ⟨fun h => ?_, fun h => ?_⟩
      · rw [List.all_cons, hp, Bool.true_and] at h
        rw [e]; exact i1 h
      · rw [List.all_cons, hp, Bool.true_and] at h
        obtain ⟨e', q⟩ := i2 h
        exact ⟨e', by rw [e]; exact q⟩
    | false =>
      obtain ⟨e', q⟩ := h2 x (by simp) hp
      refine ⟨fun h => ?_, fun _ => ⟨e', go q⟩⟩
      rw [List.all_cons, hp] at h; cases h
end Q
namespace Q
open PySem Dy
open L2 (atI ixN)
end Q
namespace Q
open PySem Dy
open L2 (atI ixN)
section
variable (env : Dy.Env) (i : Nat) (f : EF) (y : AF) (as : List AF) (es : List (PyData × PyData)) (k d : PyData)
abbrev od (es : List (PyData × PyData)) : Option O := some (.od es)
end
section
variable {κ β : Type} [DecidableEq κ]
variable {f : κ → PyData} {g : β → PyData}
end
end Q
namespace Q
open PySem Dy
open L2 (atI ixN)
end Q
namespace Q
open PySem Dy
open L2 (atI ixN)
end Q
namespace Q
open PySem Dy
open L2 (atI ixN)
theorem reprD_chk {d : PyData} (h : chkD d = true) : pReprD d = some (.fr (.str d.shown)) := by
  unfold chkD at h
  simp only [Bool.and_eq_true, Bool.or_eq_true, decide_eq_true_eq] at h
  rcases h.2 with z | z
  · unfold pReprD; rw [if_pos z]
  · exact reprD_ofD z
theorem fSaid_er {n : Nat} {L : List Str} {caps ws : List Nat} {f : EF} {h : Exn → SF} {env env' e' : Dy.Env} {y : Exn} {o : O} (he : wipeE (frzE env caps) ws = env') (ha : allF env' = true) (hf : f env' = .er y) (hy : y.cls ∈ L ∧ y.args = []) (hh : h y (List.replicate n none) = .ok (.rt o, e')) :
    fSaid n L caps ws f h env = .ok (.fr o.data, frzE env caps) := by
  subst he
  unfold fSaid
  rw [if_pos ha, hf]
  simp only
  rw [if_pos hy, hh]
theorem fSaid_ok {n : Nat} {L : List Str} {caps ws : List Nat} {f : EF} {h : Exn → SF} {env env' : Dy.Env} {r : O × Dy.Env} {x : Str} (he : wipeE (frzE env caps) ws = env') (ha : allF env' = true) (hf : f env' = .ok r) (hr : pReprD r.1.data = some (.fr (.str x))) :
    fSaid n L caps ws f h env = .ok (.fr (.str x), frzE env caps) := by
  subst he
  unfold fSaid
  rw [if_pos ha, hf]
  simp only
  rw [hr]
end Q
namespace Q
open PySem Dy
open L2 (atI ixN)
abbrev BLK : Str := " "
theorem blk_tx : tx BLK = [32] := by decide +kernel
theorem blk_ne : tx BLK ≠ [] := by rw [blk_tx]; decide
theorem q_split (x : Str) (y : Str) (hy : tx y ≠ []) (hx : x.length ≤ 1000000) : pSplit x (.str y) = some (.ol ((Txt.split x y).map .str)) := by
  have : (y.length == 0) = false := by
    rw [← tx_len]
    cases h : tx y with
    | nil => exact absurd h hy
    | cons c r => rfl
  show (if (y.length == 0) = false ∧ x.length ≤ 1000000 then some (O.ol ((Txt.split x y).map PyData.str)) else none) = _
  rw [if_pos ⟨this, hx⟩]
theorem q_splB (x : Str) (hx : x.length ≤ 1000000) : pSplit x (.str " ") = some (.ol ((Txt.split x BLK).map .str)) := q_split x BLK blk_ne hx
end Q
namespace Q
open PySem Dy
open L2 (atI ixN)
end Q
namespace Q
open PySem Dy
open L2 (atI ixN)
theorem arD_of {as : List PyData} (ha : as.all (btw 0 2) = true) (h1 : 1 ≤ as.length) (h6 : as.length ≤ 6) : arD (.tuple as) = true := by simp [arD, h1, h6]; simpa using ha
theorem isA_sS (x : Str) : isA .str (.str x) = true := rfl
end Q
namespace Q
open PySem Dy
open L2 (atI ixN)
def ndg (c : Nat) : Bool := !dgt c && decide (c < 128)
theorem Good.gap {L : Nat} {r : List Nat} (h' : Good L r) : ∀ {s p : List Nat}, Good L p → s ≠ [] → s.all ndg = true → Good L (p ++ (s ++ r))
  | [], _, _, hn, _ => absurd rfl hn
  | [c], p, h, _, hs => by
    have hc : dgt c = false := by simp [ndg] at hs; simpa using hs.1
    exact h.sep h' hc
  | c :: d :: s, p, h, _, hs => by
    have hc : dgt c = false := by simp [ndg] at hs; simpa using hs.1.1
    have ih := Good.gap h' (s := d :: s) (p := []) Good.nil (by simp) (by simp at hs ⊢; exact hs.2)
    exact h.sep (t := p) (u := d :: s ++ r) ih hc
theorem TOk.empty {L : Nat} : TOk L Str.empty := ⟨by intro c hc; simp [tx, Str.empty] at hc, Good.nil⟩
theorem TOk.join {L : Nat} {y : Str} (hn : tx y ≠ []) (hs : (tx y).all ndg = true) : ∀ {ps : List Str}, (∀ p ∈ ps, TOk L p) → TOk L (Str.join y ps)
  | [], _ => TOk.empty
  | [p], h => h p (by simp)
  | p :: q :: r, h => by
    have ih := TOk.join hn hs (ps := q :: r) fun z hz => h z (List.mem_cons_of_mem _ hz)
    have hp := h p (by simp)
    show TOk L (p ++ y ++ Str.join y (q :: r))
    refine ⟨fun c hc => ?_, ?_⟩
    · rw [tx_app, tx_app] at hc
      rcases List.mem_append.mp hc with hc | hc
      · rcases List.mem_append.mp hc with hc | hc
        · exact hp.asc c hc
        · have := List.all_eq_true.mp hs c hc
          simp [ndg] at this; exact this.2
      · exact ih.asc c hc
    · rw [tx_app, tx_app, List.append_assoc]
      exact Good.gap ih.run hp.run hn hs
theorem sum_le {B : Nat} : ∀ {ys : List Str}, (∀ y ∈ ys, y.length ≤ B) → (ys.map (·.length)).sum ≤ ys.length * B
  | [], _ => by simp
  | y :: ys, h => by
    have h1 := h y (by simp)
    have h2 := sum_le (ys := ys) fun z hz => h z (by simp [hz])
    rw [List.map_cons, List.sum_cons, List.length_cons, Nat.succ_mul]; omega
theorem join_len {B : Nat} {x : Str} {ys : List Str} (h : ∀ y ∈ ys, y.length ≤ B) : (Txt.join x ys).length ≤ ys.length * (B + x.length) := by
  have h1 := StrLaws.join_length_le x ys
  have h2 := sum_le h
  rw [TL.join_eq, Nat.mul_add]; omega
theorem q_join {B : Nat} {x : Str} {ys : List Str} (h : ∀ y ∈ ys, y.length ≤ B) (hb : ys.length * (B + x.length) ≤ 1000000) : pJoin x (.list (ys.map .str)) = some (.fr (.str (Txt.join x ys))) := by
  have h2 := sum_le h
  have hk : joinOk x ys = true := by unfold joinOk; rw [Nat.mul_add] at hb; exact decide_eq_true (by omega)
  show (match strsQ (ys.map PyData.str) with | some ys => if joinOk x ys = true then some (O.fr (.str (Txt.join x ys))) else none | none => none) = _
  rw [strsQ_map]
  show (if joinOk x ys = true then some (O.fr (.str (Txt.join x ys))) else none) = _
  rw [if_pos hk]
theorem blk_len : BLK.length = 1 := by decide +kernel
def numS (n : Nat) : Str := Str.ofString (toString ((n : Nat) : Int))
theorem numS_tx (n : Nat) : tx (numS n) = TL.numL n := TL.tl_num n
theorem q_str {n : Nat} (h : n < 1000) : pStr (.int (n : Int)) = some (.fr (.str (numS n))) := by
  have hb : ((n : Nat) : Int).natAbs < 2 ^ 1900 := Nat.lt_of_lt_of_le (show ((n : Nat) : Int).natAbs < 2 ^ 10 by omega) (Nat.pow_le_pow_right (by decide) (by decide))
  show (if ((n : Nat) : Int).natAbs < 2 ^ 1900 then some (O.fr (.str (toString ((n : Nat) : Int)))) else none) = _
  rw [if_pos hb]; rfl
theorem numS_len {n : Nat} (h : n < 100) : (numS n).length ≤ 2 := by
  rw [← tx_len, numS_tx]
  exact TL.numL_len (by decide) h
theorem numS_ok {n : Nat} (h : n < 100) : TOk 2 (numS n) := by
  refine ⟨fun c hc => ?_, Good.len (by rw [tx_len]; exact numS_len h)⟩
  rw [numS_tx] at hc
  have := TL.numL_digits n c hc
  omega
end Q
namespace Q
open PySem Dy
open L2 (atI ixN)
theorem while_A {σ : Type} {t : TF} {body : SF} (S : σ → Dy.Env) (P Dn : σ → Prop) (meas : σ → Nat)
    (step : ∀ s, P s → (Dn s ∧ t (S s) = .ok (false, S s)) ∨ (t (S s) = .ok (true, S s) ∧ ∃ s', P s' ∧ meas s' < meas s ∧ body (S s) = .ok (.nx, S s'))) :
    ∀ (n : Nat) (s : σ), P s → meas s < n → ∃ s', P s' ∧ Dn s' ∧ fWhile t body n (S s) = .ok (.nx, S s') := by
  intro n
  induction n with
  | zero => intro s _ h; omega
  | succ n ih =>
    intro s hp hm
    have key : fWhile t body (n + 1) (S s) = t (S s) >>= fun b => if b.1 = true then body b.2 >>= fun r => match r.1 with
      | .nx => fWhile t body n r.2
      | .ct => fWhile t body n r.2
      | .bk => .ok (.nx, r.2)
      | .rt o => .ok (.rt o, r.2)
      else .ok (.nx, b.2) := rfl
    rcases step s hp with ⟨hd, e⟩ | ⟨e, s1, p1, m1, e1⟩
    · rw [key, e]
      exact ⟨s, hp, hd, rfl⟩
    · rw [key, e, bind_ok]
      dsimp only
      rw [if_pos rfl, e1]
      exact ih s1 p1 (by omega)
theorem popA86 {i j : Nat} {as : List AF} {env e' : Dy.Env} {X xs : List PyData} {vs : List AV} {k : Int} {d : PyData} (h0 : env[i]? = some (some (.ol X))) (ev : evA as env = .ok (vs, e')) (h1 : e'[i]? = some (some (.ol xs))) (hd : dvs vs = some [.int k]) (hb : -(2 ^ 63) ≤ k ∧ k < 2 ^ 63) (hj : ixN xs.length k = some j) (hx : xs[j]? = some d) : fPopA i as env = .ok (.fr d, e'.set i (some (.ol (xs.eraseIdx j)))) := by
  rw [a_popA, h0]
  dsimp only
  rw [ev, bind_ok]
  dsimp only
  rw [h1, hd]
  dsimp only
  rw [if_pos hb, hj]
  dsimp only
  rw [hx]
theorem arrangedA {α : Type} (enc : α → PyData) {xs : List α} {o : O} (h : PenA o) (hl : xs.length ≤ 1000) (hr : ∀ x ∈ xs, Rk 2 10000 (enc x)) :
    ∃ (ys : List α) (o' : O), ys.length = xs.length ∧ (∀ y ∈ ys, y ∈ xs) ∧ (∀ y ∈ xs, y ∈ ys) ∧ PenA o' ∧ M__law_arranged [o, .fr (.list (xs.map enc))] = .ok (.ol (ys.map enc), [o', .fr (.list (xs.map enc))]) := by
  obtain ⟨s, ⟨p1, p2, p3, p4, p6⟩, p5, e⟩ := while_A (t := T1__law_arranged) (body := L1__law_arranged) (fun s : O × List α × List α => V__law_arranged (pen_here := some s.1) (bag := ol (s.2.1.map enc)) (found := ol (s.2.2.map enc)))
    (fun s => PenA s.1 ∧ s.2.1.length + s.2.2.length = xs.length ∧ (∀ y ∈ s.2.1, y ∈ xs) ∧ (∀ y ∈ s.2.2, y ∈ xs) ∧ ∀ y ∈ xs, y ∈ s.2.1 ∨ y ∈ s.2.2) (fun s => s.2.1 = []) (fun s => s.2.1.length) (fun s hs => by
      obtain ⟨o1, L, F⟩ := s
      obtain ⟨h1, h2, h3, h4, h5⟩ := hs
      dsimp only at h1 h2 h3 h4 h5 ⊢
      have sh : shp (.list (L.map enc)) = true := (Rk.lst (n := 2) (w := 10000) fun d hd => by obtain ⟨x, hx, rfl⟩ := List.mem_map.mp hd; exact hr x (h3 x hx)).shp (by decide)
      have ne := pNe_L0 sh
      by_cases c : L = []
      · left
        subst c
        refine ⟨rfl, ?_⟩
        simp at ne
        simp [T1__law_arranged, q_mulAI, q_mulAL, a_wb, q_divW, Function.comp_def, q_starI, q_starIT, a_wp, a_fz, a_fz0, a_fz1, a_ext, a_ins, a_insA, a_pop, a_parN, a_evO0, a_evO1, a_setO0, a_setO1, a_ix2, a_setII, a_zN, a_zC, a_lcO, d_oo, pEq_int, pNe_int, pIxL, pIxT, atI_nat, atI_0, atI_1, atI_2, atI_3, atI_m1, cutLo, cutHi, cutLo1, cutHi1, a_seq, a_ifS, a_B, a_op, a_ov, a_ev0, a_evv, a_evs, a_C, a_V, a_M, a_set, a_setI, a_app, a_ret, a_ex, a_skip, a_no, a_not, a_andT, a_orT, a_and, a_or, a_notV, a_if, a_par, a_call, a_forS, a_sq, a_r1, a_r2, a_en, a_zp, a_asT, a_chI, a_yes, a_lc, a_fn, okA, f_fr, bkA, rsvs, rsv, dvs, on1, on2, d_fr, d_ol, rsO, ndS, sl, putB, asT, setAll, ofO, Dy.ints1, Dy.ints2, nE, wipeE, unw, frO, q_addI, q_addL, q_addT, q_addS, q_sub, q_div, q_mod, q_pow, q_neg, q_cm, pIs, pIsn, q_isN, q_isI, q_isS, q_isT, q_isL, q_isB, q_lenL, q_lenT, pTup, pLst, q_tupL, q_tupT, q_lstL, q_lstT, q_revL, q_slL, q_slT, q_shL, q_shT, q_sqL, q_sqT, q_intI, q_max2, q_min2, q_aII, q_aBI, q_aTI, q_aTT, q_aLL, q_aTL, q_aIT, ne]
      · right
        have l0 : 0 < L.length := List.length_pos_iff.mpr c
        have ne1 : (L.map enc).isEmpty = false := by cases L with
          | nil => exact absurd rfl c
          | cons _ _ => rfl
        rw [ne1] at ne
        obtain ⟨a, o2, a1, p2, e2⟩ := drawA_upto h1 L.length l0 (by omega)
        obtain ⟨x, hx, mx⟩ := get_of_lt a1
        refine ⟨?_, (o2, L.eraseIdx a, F ++ [x]), ⟨p2, ?_, fun y hy => h3 y (List.mem_of_mem_eraseIdx hy), fun y hy => ?_, fun y hy => ?_⟩, ?_, ?_⟩
        · generalize L.map enc = LL at *
          simp [T1__law_arranged, q_mulAI, q_mulAL, a_wb, q_divW, Function.comp_def, q_starI, q_starIT, a_wp, a_fz, a_fz0, a_fz1, a_ext, a_ins, a_insA, a_pop, a_parN, a_evO0, a_evO1, a_setO0, a_setO1, a_ix2, a_setII, a_zN, a_zC, a_lcO, d_oo, pEq_int, pNe_int, pIxL, pIxT, atI_nat, atI_0, atI_1, atI_2, atI_3, atI_m1, cutLo, cutHi, cutLo1, cutHi1, a_seq, a_ifS, a_B, a_op, a_ov, a_ev0, a_evv, a_evs, a_C, a_V, a_M, a_set, a_setI, a_app, a_ret, a_ex, a_skip, a_no, a_not, a_andT, a_orT, a_and, a_or, a_notV, a_if, a_par, a_call, a_forS, a_sq, a_r1, a_r2, a_en, a_zp, a_asT, a_chI, a_yes, a_lc, a_fn, okA, f_fr, bkA, rsvs, rsv, dvs, on1, on2, d_fr, d_ol, rsO, ndS, sl, putB, asT, setAll, ofO, Dy.ints1, Dy.ints2, nE, wipeE, unw, frO, q_addI, q_addL, q_addT, q_addS, q_sub, q_div, q_mod, q_pow, q_neg, q_cm, pIs, pIsn, q_isN, q_isI, q_isS, q_isT, q_isL, q_isB, q_lenL, q_lenT, pTup, pLst, q_tupL, q_tupT, q_lstL, q_lstT, q_revL, q_slL, q_slT, q_shL, q_shT, q_sqL, q_sqT, q_intI, q_max2, q_min2, q_aII, q_aBI, q_aTI, q_aTT, q_aLL, q_aTL, q_aIT, ne]
        · dsimp only
          rw [List.length_eraseIdx, if_pos a1, List.length_append, List.length_singleton]; omega
        · rcases List.mem_append.mp hy with z | z
          · exact h4 y z
          · simp at z; subst z; exact h3 _ mx
        · rcases h5 y hy with z | z
          · rcases List.mem_iff_getElem?.mp z with ⟨q, hq⟩
            by_cases c : q = a
            · subst c
              rw [hx] at hq; cases hq
              exact .inr (by simp)
            · refine .inl (List.mem_eraseIdx_iff_getElem?.mpr ⟨q, c, hq⟩)
          · exact .inr (List.mem_append_left _ z)
        · dsimp only
          rw [List.length_eraseIdx, if_pos a1]; omega
        · dsimp only
          have es : (L.eraseIdx a).map enc = (L.map enc).eraseIdx a := by rw [List.eraseIdx_eq_take_drop_succ, List.eraseIdx_eq_take_drop_succ, List.map_append, List.map_take, List.map_drop]
          have hx' : (L.map enc)[a]? = some (enc x) := by rw [List.getElem?_map, hx]; rfl
          have hlen : (L.map enc).length = L.length := List.length_map _
          have hix : ixN (L.map enc).length (a : Int) = some a := ixN_nat _ _ (by rw [hlen]; exact a1)
          have fl : (F.map enc).length < 1000000 := by rw [List.length_map]; omega
          have ef : (F ++ [x]).map enc = F.map enc ++ [enc x] := by simp
          rw [es, ef]
          rw [← hlen] at e2
          have ll : (L.map enc).length < 1000000 := by rw [hlen]; omega
          clear h2 h3 h5 hr sh ne ne1 es ef hx mx a1 hlen
          generalize L.map enc = LL at *
          generalize F.map enc = FF at *
          generalize enc x = d at *
          have ev : evA [.v (fCall M__law_draw_2 [.s 0, .v (fOp (on1 pLen) [.s 2])])] (V__law_arranged (pen_here := some o1) (bag := ol LL) (found := ol FF)) = .ok ([.d (dN a)], V__law_arranged (pen_here := some o2) (bag := ol LL) (found := ol FF)) := by
            simp [q_mulAI, q_mulAL, a_wb, q_divW, Function.comp_def, q_starI, q_starIT, a_wp, a_fz, a_fz0, a_fz1, a_ext, a_ins, a_insA, a_pop, a_parN, a_evO0, a_evO1, a_setO0, a_setO1, a_ix2, a_setII, a_zN, a_zC, a_lcO, d_oo, pEq_int, pNe_int, pIxL, pIxT, atI_nat, atI_0, atI_1, atI_2, atI_3, atI_m1, cutLo, cutHi, cutLo1, cutHi1, a_seq, a_ifS, a_B, a_op, a_ov, a_ev0, a_evv, a_evs, a_C, a_V, a_M, a_set, a_setI, a_app, a_ret, a_ex, a_skip, a_no, a_not, a_andT, a_orT, a_and, a_or, a_notV, a_if, a_par, a_call, a_forS, a_sq, a_r1, a_r2, a_en, a_zp, a_asT, a_chI, a_yes, a_lc, a_fn, okA, f_fr, bkA, rsvs, rsv, dvs, on1, on2, d_fr, d_ol, rsO, ndS, sl, putB, asT, setAll, ofO, Dy.ints1, Dy.ints2, nE, wipeE, unw, frO, q_addI, q_addL, q_addT, q_addS, q_sub, q_div, q_mod, q_pow, q_neg, q_cm, pIs, pIsn, q_isN, q_isI, q_isS, q_isT, q_isL, q_isB, q_lenL, q_lenT, pTup, pLst, q_tupL, q_tupT, q_lstL, q_lstT, q_revL, q_slL, q_slT, q_shL, q_shT, q_sqL, q_sqT, q_intI, q_max2, q_min2, q_aII, q_aBI, q_aTI, q_aTT, q_aLL, q_aTL, q_aIT, e2]
          have hab : a < 1000000 := by
            rcases Nat.lt_or_ge a LL.length with z | z
            · omega
            · rw [List.getElem?_eq_none z] at hx'; cases hx'
          have pop := popA86 (X := LL) (k := (a : Int)) (i := 2) rfl ev rfl rfl ⟨by omega, by omega⟩ hix hx'
          unfold L1__law_arranged
          generalize fPopA 2 [.v (fCall M__law_draw_2 [.s 0, .v (fOp (on1 pLen) [.s 2])])] = PP at pop
          simp [q_mulAI, q_mulAL, a_wb, q_divW, Function.comp_def, q_starI, q_starIT, a_wp, a_fz, a_fz0, a_fz1, a_ext, a_ins, a_insA, a_pop, a_parN, a_evO0, a_evO1, a_setO0, a_setO1, a_ix2, a_setII, a_zN, a_zC, a_lcO, d_oo, pEq_int, pNe_int, pIxL, pIxT, atI_nat, atI_0, atI_1, atI_2, atI_3, atI_m1, cutLo, cutHi, cutLo1, cutHi1, a_seq, a_ifS, a_B, a_op, a_ov, a_ev0, a_evv, a_evs, a_C, a_V, a_M, a_set, a_setI, a_app, a_ret, a_ex, a_skip, a_no, a_not, a_andT, a_orT, a_and, a_or, a_notV, a_if, a_par, a_call, a_forS, a_sq, a_r1, a_r2, a_en, a_zp, a_asT, a_chI, a_yes, a_lc, a_fn, okA, f_fr, bkA, rsvs, rsv, dvs, on1, on2, d_fr, d_ol, rsO, ndS, sl, putB, asT, setAll, ofO, Dy.ints1, Dy.ints2, nE, wipeE, unw, frO, q_addI, q_addL, q_addT, q_addS, q_sub, q_div, q_mod, q_pow, q_neg, q_cm, pIs, pIsn, q_isN, q_isI, q_isS, q_isT, q_isL, q_isB, q_lenL, q_lenT, pTup, pLst, q_tupL, q_tupT, q_lstL, q_lstT, q_revL, q_slL, q_slT, q_shL, q_shT, q_sqL, q_sqT, q_intI, q_max2, q_min2, q_aII, q_aBI, q_aTI, q_aTT, q_aLL, q_aTL, q_aIT, pop, fl]) 100000 (o, xs, []) ⟨h, by simp, fun y hy => hy, by simp, fun y hy => .inl hy⟩ (by dsimp only; omega)
  refine ⟨s.2.2, s.1, by rw [p5] at p2; simpa using p2, p4, fun y hy => by rcases p6 y hy with z | z; (rw [p5] at z; cases z); exact z, p1, ?_⟩
  rw [p5] at e
  have hL : pList (.list (xs.map enc)) = some (.ol (xs.map enc)) := by
    have : (xs.map enc).length ≤ 1000000 := by rw [List.length_map]; omega
    simp [pList, seqOf, this]
  dsimp only [List.map] at e
  generalize xs.map enc = XX at *
  generalize s.2.2.map enc = YY at *
  simp [M__law_arranged, b__law_arranged, q_mulAI, q_mulAL, a_wb, q_divW, Function.comp_def, q_starI, q_starIT, a_wp, a_fz, a_fz0, a_fz1, a_ext, a_ins, a_insA, a_pop, a_parN, a_evO0, a_evO1, a_setO0, a_setO1, a_ix2, a_setII, a_zN, a_zC, a_lcO, d_oo, pEq_int, pNe_int, pIxL, pIxT, atI_nat, atI_0, atI_1, atI_2, atI_3, atI_m1, cutLo, cutHi, cutLo1, cutHi1, a_seq, a_ifS, a_B, a_op, a_ov, a_ev0, a_evv, a_evs, a_C, a_V, a_M, a_set, a_setI, a_app, a_ret, a_ex, a_skip, a_no, a_not, a_andT, a_orT, a_and, a_or, a_notV, a_if, a_par, a_call, a_forS, a_sq, a_r1, a_r2, a_en, a_zp, a_asT, a_chI, a_yes, a_lc, a_fn, okA, f_fr, bkA, rsvs, rsv, dvs, on1, on2, d_fr, d_ol, rsO, ndS, sl, putB, asT, setAll, ofO, Dy.ints1, Dy.ints2, nE, wipeE, unw, frO, q_addI, q_addL, q_addT, q_addS, q_sub, q_div, q_mod, q_pow, q_neg, q_cm, pIs, pIsn, q_isN, q_isI, q_isS, q_isT, q_isL, q_isB, q_lenL, q_lenT, pTup, pLst, q_tupL, q_tupT, q_lstL, q_lstT, q_revL, q_slL, q_slT, q_shL, q_shT, q_sqL, q_sqT, q_intI, q_max2, q_min2, q_aII, q_aBI, q_aTI, q_aTT, q_aLL, q_aTL, q_aIT, hL, e]
end Q
namespace Q
open PySem Dy
open L2 (atI ixN)
theorem sq86 {a b : SF} {e e' : Dy.Env} (h : a e = .ok (.nx, e')) : fSeq a b e = b e' := by simp [a_seq, h]
theorem fn2_penA {N : Nat} {b : SF} {o o' : O} {d : PyData} {r : O} {e : Dy.Env} (h : b (some o :: some (.fr d) :: List.replicate N none) = .ok (.rt r, some o' :: e)) : fnM 2 (N + 2) [0] b [o, .fr d] = .ok (r, [o', .fr d]) := by
  show (b (some o :: some (.fr d) :: List.replicate (N + 2 - 2) none) >>= fun r => match bkA [0] r.2 0 [o, .fr d] with | none => .no | some os' => match r.1 with | .rt o => .ok (o, os') | .nx => .ok (.fr .none, os') | _ => .no) = _
  rw [show N + 2 - 2 = N from rfl, h]
  rfl
abbrev encZ (as : List Nat) : PyData := .list (as.map dN)
abbrev kV (o : O) (u : Option O) (ranks lap many steep rows turns op rank begin given turn part : Option O) : Dy.Env := [some o, u, ranks, lap, many, steep, rows, turns, op, rank, begin, given, turn, part]
theorem rulesK {o : O} {u : Option O} {as : List Nat} {fs st : Nat} (h : PenA o) (ha : ArOk as) (f1 : 1 ≤ fs) (f4 : fs ≤ 4) (s1 : 1 ≤ st) (hd : st ≤ 21) (al : as.length ≤ 4) :
    ∃ (is : List Ins) (o' : O), is.length ≤ 12 ∧ (∀ i ∈ is, InsOk as fs i) ∧ PenA o' ∧ (fWp [3, 8, 9, 11] (fForS (fEn (.v (fV 2))) (.tu [8, 9]) (L2__law_kit))) (kV o u (fr (encZ as)) none (fr (dN fs)) (fr (dN st)) (ol []) (ol []) none none none none none none) =
      .ok (.nx, kV o' u (fr (encZ as)) none (fr (dN fs)) (fr (dN st)) (ol (is.map encI)) (ol []) none none none none none none) := by
  obtain ⟨s, ⟨p1, p2, p3⟩, e⟩ := for_l (t := .tu [8, 9]) (body := L2__law_kit) (fun q : Nat × Nat => .tuple [.int (q.1 : Int), dN q.2]) (fun s : O × List Ins => kV s.1 u (fr (encZ as)) none (fr (dN fs)) (fr (dN st)) (ol (s.2.map encI)) (ol []) none none none none none none)
    (fun pre s => PenA s.1 ∧ (∀ i ∈ s.2, InsOk as fs i) ∧ s.2.length ≤ 3 * pre.length) (ens as) (s := (o, [])) ⟨h, by simp, by simp⟩ (fun pre q post s e hs => by
      obtain ⟨q1, q2, q3⟩ := hs
      have hq := ens_mem (show q ∈ ens as by rw [e]; simp)
      have hq2 := ha.le2 _ (List.mem_of_getElem? hq)
      have hpre : pre.length ≤ 6 := by have := congrArg List.length e; rw [ens_len] at this; simp at this; omega
      obtain ⟨d, o1, hm, r1, e1⟩ := pickA (xs := [.int 1, .int 1, .int 2, .int 3, .int 3, .int 0]) q1 (by simp) (by decide)
      obtain ⟨n, rfl, hn⟩ : ∃ n : Nat, d = dN n ∧ n ≤ 3 := by
        simp at hm
        rcases hm with rfl | rfl | rfl | rfl
        · exact ⟨1, rfl, by decide⟩
        · exact ⟨2, rfl, by decide⟩
        · exact ⟨3, rfl, by decide⟩
        · exact ⟨0, rfl, by decide⟩
      obtain ⟨s', ⟨t1, t2, t3⟩, e2⟩ := for_r (t := .nm 3) (body := L1__law_kit) (fun s : O × List Ins => kV s.1 u (fr (encZ as)) none (fr (dN fs)) (fr (dN st)) (ol (s.2.map encI)) (ol []) (fr (dN q.1)) (fr (dN q.2)) none none none none)
        (fun k u => PenA u.1 ∧ (∀ i ∈ u.2, InsOk as fs i) ∧ u.2.length = s.2.length + k) n (s := (o1, s.2)) ⟨r1, q2, rfl⟩ (fun k w hk hu => by
          obtain ⟨u1, u2, u3⟩ := hu
          obtain ⟨row, o2, v1, v2, v3, v4⟩ := lc_r (vs := [13]) (t := .nm 13) (elt := E2__law_kit) dN (fun o => kV o u (fr (encZ as)) (fr (dN k)) (fr (dN fs)) (fr (dN st)) (ol (w.2.map encI)) (ol []) (fr (dN q.1)) (fr (dN q.2)) none none none none) (fun _ o => PenA o) (fun x => x < fs) q.2 u1 (by omega) (fun j o hj hp => by
            obtain ⟨x, o', y1, y2, y3⟩ := drawA_upto hp fs (by omega) (by omega)
            exact ⟨x, o', y2, y1, by simp [E2__law_kit, q_mulAI, q_mulAL, a_wb, q_divW, Function.comp_def, q_starI, q_starIT, a_wp, a_fz, a_fz0, a_fz1, a_ext, a_ins, a_insA, a_pop, a_parN, a_evO0, a_evO1, a_setO0, a_setO1, a_ix2, a_setII, a_zN, a_zC, a_lcO, d_oo, pEq_int, pNe_int, pIxL, pIxT, atI_nat, atI_0, atI_1, atI_2, atI_3, atI_m1, cutLo, cutHi, cutLo1, cutHi1, a_seq, a_ifS, a_B, a_op, a_ov, a_ev0, a_evv, a_evs, a_C, a_V, a_M, a_set, a_setI, a_app, a_ret, a_ex, a_skip, a_no, a_not, a_andT, a_orT, a_and, a_or, a_notV, a_if, a_par, a_call, a_forS, a_sq, a_r1, a_r2, a_en, a_zp, a_asT, a_chI, a_yes, a_lc, a_fn, okA, f_fr, bkA, rsvs, rsv, dvs, on1, on2, d_fr, d_ol, rsO, ndS, sl, putB, asT, setAll, ofO, Dy.ints1, Dy.ints2, nE, wipeE, unw, frO, q_addI, q_addL, q_addT, q_addS, q_sub, q_div, q_mod, q_pow, q_neg, q_cm, pIs, pIsn, q_isN, q_isI, q_isS, q_isT, q_isL, q_isB, q_lenL, q_lenT, pTup, pLst, q_tupL, q_tupT, q_lstL, q_lstT, q_revL, q_slL, q_slT, q_shL, q_shT, q_sqL, q_sqT, q_intI, q_max2, q_min2, q_aII, q_aBI, q_aTI, q_aTT, q_aLL, q_aTL, q_aIT, y3]⟩)
          obtain ⟨f, o3, w1, w2, w3⟩ := drawA_upto v1 fs (by omega) (by omega)
          obtain ⟨pr, o4, x1, x2, x3⟩ := drawA_upto w2 st (by omega) (by omega)
          have c3 : w.2.length < 1000000 := by omega
          have c4 : (q.2 : Int) ≤ 1000000000 ∧ (-1000000000 : Int) ≤ q.2 := by omega
          refine ⟨(o4, w.2 ++ [⟨f, q.1, row, pr⟩]), ⟨x2, fun i hi => ?_, by simp [u3]; omega⟩, ?_⟩
          · rcases List.mem_append.mp hi with z | z
            · exact u2 i z
            · simp at z; subst z
              exact ⟨w1, by rw [hq, v2], v3, by dsimp only; omega⟩
          · simp [L1__law_kit, q_mulAI, q_mulAL, a_wb, q_divW, Function.comp_def, q_starI, q_starIT, a_wp, a_fz, a_fz0, a_fz1, a_ext, a_ins, a_insA, a_pop, a_parN, a_evO0, a_evO1, a_setO0, a_setO1, a_ix2, a_setII, a_zN, a_zC, a_lcO, d_oo, pEq_int, pNe_int, pIxL, pIxT, atI_nat, atI_0, atI_1, atI_2, atI_3, atI_m1, cutLo, cutHi, cutLo1, cutHi1, a_seq, a_ifS, a_B, a_op, a_ov, a_ev0, a_evv, a_evs, a_C, a_V, a_M, a_set, a_setI, a_app, a_ret, a_ex, a_skip, a_no, a_not, a_andT, a_orT, a_and, a_or, a_notV, a_if, a_par, a_call, a_forS, a_sq, a_r1, a_r2, a_en, a_zp, a_asT, a_chI, a_yes, a_lc, a_fn, okA, f_fr, bkA, rsvs, rsv, dvs, on1, on2, d_fr, d_ol, rsO, ndS, sl, putB, asT, setAll, ofO, Dy.ints1, Dy.ints2, nE, wipeE, unw, frO, q_addI, q_addL, q_addT, q_addS, q_sub, q_div, q_mod, q_pow, q_neg, q_cm, pIs, pIsn, q_isN, q_isI, q_isS, q_isT, q_isL, q_isB, q_lenL, q_lenT, pTup, pLst, q_tupL, q_tupT, q_lstL, q_lstT, q_revL, q_slL, q_slT, q_shL, q_shT, q_sqL, q_sqT, q_intI, q_max2, q_min2, q_aII, q_aBI, q_aTI, q_aTT, q_aLL, q_aTL, q_aIT, c4, v4, w3, x3, c3])
      refine ⟨s', ⟨t1, t2, by simp; omega⟩, ?_⟩
      have c6 : (n : Int) ≤ 1000000000 ∧ (-1000000000 : Int) ≤ n := by omega
      simp [L2__law_kit, q_mulAI, q_mulAL, a_wb, q_divW, Function.comp_def, q_starI, q_starIT, a_wp, a_fz, a_fz0, a_fz1, a_ext, a_ins, a_insA, a_pop, a_parN, a_evO0, a_evO1, a_setO0, a_setO1, a_ix2, a_setII, a_zN, a_zC, a_lcO, d_oo, pEq_int, pNe_int, pIxL, pIxT, atI_nat, atI_0, atI_1, atI_2, atI_3, atI_m1, cutLo, cutHi, cutLo1, cutHi1, a_seq, a_ifS, a_B, a_op, a_ov, a_ev0, a_evv, a_evs, a_C, a_V, a_M, a_set, a_setI, a_app, a_ret, a_ex, a_skip, a_no, a_not, a_andT, a_orT, a_and, a_or, a_notV, a_if, a_par, a_call, a_forS, a_sq, a_r1, a_r2, a_en, a_zp, a_asT, a_chI, a_yes, a_lc, a_fn, okA, f_fr, bkA, rsvs, rsv, dvs, on1, on2, d_fr, d_ol, rsO, ndS, sl, putB, asT, setAll, ofO, Dy.ints1, Dy.ints2, nE, wipeE, unw, frO, q_addI, q_addL, q_addT, q_addS, q_sub, q_div, q_mod, q_pow, q_neg, q_cm, pIs, pIsn, q_isN, q_isI, q_isS, q_isT, q_isL, q_isB, q_lenL, q_lenT, pTup, pLst, q_tupL, q_tupT, q_lstL, q_lstT, q_revL, q_slL, q_slT, q_shL, q_shT, q_sqL, q_sqT, q_intI, q_max2, q_min2, q_aII, q_aBI, q_aTI, q_aTT, q_aLL, q_aTL, q_aIT, e1, c6, e2])
  rw [← enumD_ens] at e
  refine ⟨s.2, s.1, by rw [ens_len] at p3; omega, p2, p1, ?_⟩
  dsimp only [List.map] at e
  simp [q_mulAI, q_mulAL, a_wb, q_divW, Function.comp_def, q_starI, q_starIT, a_wp, a_fz, a_fz0, a_fz1, a_ext, a_ins, a_insA, a_pop, a_parN, a_evO0, a_evO1, a_setO0, a_setO1, a_ix2, a_setII, a_zN, a_zC, a_lcO, d_oo, pEq_int, pNe_int, pIxL, pIxT, atI_nat, atI_0, atI_1, atI_2, atI_3, atI_m1, cutLo, cutHi, cutLo1, cutHi1, a_seq, a_ifS, a_B, a_op, a_ov, a_ev0, a_evv, a_evs, a_C, a_V, a_M, a_set, a_setI, a_app, a_ret, a_ex, a_skip, a_no, a_not, a_andT, a_orT, a_and, a_or, a_notV, a_if, a_par, a_call, a_forS, a_sq, a_r1, a_r2, a_en, a_zp, a_asT, a_chI, a_yes, a_lc, a_fn, okA, f_fr, bkA, rsvs, rsv, dvs, on1, on2, d_fr, d_ol, rsO, ndS, sl, putB, asT, setAll, ofO, Dy.ints1, Dy.ints2, nE, wipeE, unw, frO, q_addI, q_addL, q_addT, q_addS, q_sub, q_div, q_mod, q_pow, q_neg, q_cm, pIs, pIsn, q_isN, q_isI, q_isS, q_isT, q_isL, q_isB, q_lenL, q_lenT, pTup, pLst, q_tupL, q_tupT, q_lstL, q_lstT, q_revL, q_slL, q_slT, q_shL, q_shT, q_sqL, q_sqT, q_intI, q_max2, q_min2, q_aII, q_aBI, q_aTI, q_aTT, q_aLL, q_aTL, q_aIT, e]
theorem turnsK {o : O} {u : Option O} {R I : PyData} {fs st : Nat} (h : PenA o) (f1 : 1 ≤ fs) (f4 : fs ≤ 4) (s1 : 1 ≤ st) (hd : st ≤ 21) {L : List PyData} :
    ∃ (cs : List Con) (o' : O), cs.length ≤ 3 ∧ (∀ c ∈ cs, ConOk fs c) ∧ PenA o' ∧ (fWp [3, 5, 10] (fForS (fR1 (.v (fOp (on2 pMulA) [.v (fCall M__law_draw_2 [.s 0, .v (fC (.int 4))]), .v (fOp (on1 pInt) [.v (fOp (on2 (cmI (fun i j => decide (j < i)))) [.s 4, .v (fC (.int 1))])])]))) (.nm 3) (L3__law_kit)))
        (kV o u (fr R) none (fr (dN fs)) (fr (dN st)) (ol L) (ol []) none none none none none none) = .ok (.nx, kV o' u (fr R) none (fr (dN fs)) none (ol L) (ol (cs.map encK)) none none none none none none) := by
  obtain ⟨r, o1, r1, p1, e1⟩ := drawA_lit (mi := 4) 4 h (by decide) (by decide) rfl
  obtain ⟨n, hn, hz, em⟩ : ∃ n : Nat, n < 4 ∧ (fs = 1 → n = 0) ∧ ((1 < fs ∧ (1 : Int) < fs ∧ pMul (.int (r : Int)) (.int 1) = some (.fr (.int (n : Int)))) ∨ (¬ 1 < fs ∧ ¬ (1 : Int) < fs ∧ pMul (.int (r : Int)) (.int 0) = some (.fr (.int (n : Int))))) := by
    by_cases z : 1 < fs
    · exact ⟨r, r1, fun y => by omega, .inl ⟨z, by omega, by rw [mulA' _ _ (by decide)]; simp⟩⟩
    · exact ⟨0, by omega, fun _ => rfl, .inr ⟨z, by omega, by rw [mulA' _ _ (by decide)]; simp⟩⟩
  obtain ⟨s, ⟨p2, p3, p4⟩, e⟩ := for_r (t := .nm 3) (body := L3__law_kit) (fun s : O × List Con => kV s.1 u (fr R) none (fr (dN fs)) (fr (dN st)) (ol L) (ol (s.2.map encK)) none none none none none none)
    (fun k u => PenA u.1 ∧ (∀ c ∈ u.2, ConOk fs c) ∧ u.2.length = k) n (s := (o1, [])) ⟨p1, by simp, rfl⟩ (fun k w hk hu => by
      obtain ⟨u1, u2, u3⟩ := hu
      have f2 : 2 ≤ fs := by
        rcases (by omega : fs = 1 ∨ 2 ≤ fs) with z | z
        · have := hz z; omega
        · exact z
      obtain ⟨a, o2, a1, a2, a3⟩ := drawA_upto u1 fs (by omega) (by omega)
      obtain ⟨b, o3, b1, b2, b3⟩ := drawA_upto a2 (fs - 1) (by omega) (by omega)
      obtain ⟨pr, o4, x1, x2, x3⟩ := drawA_upto b2 st (by omega) (by omega)
      have c1 : ((fs - 1 : Nat) : Int) = (fs : Int) - 1 := by omega
      have c3 : ((a : Int) + 1 + b) % fs = (((a + 1 + b) % fs : Nat) : Int) := by simp
      have c4 : w.2.length < 1000000 := by omega
      have c5 : 0 < fs := by omega
      rw [c1] at b3
      have hne : a ≠ (a + 1 + b) % fs := by
        intro z
        by_cases y : a + 1 + b < fs
        · rw [Nat.mod_eq_of_lt y] at z; omega
        · rw [Nat.mod_eq_sub_mod (by omega), Nat.mod_eq_of_lt (by omega)] at z; omega
      refine ⟨(o4, w.2 ++ [⟨a, (a + 1 + b) % fs, pr⟩]), ⟨x2, fun c hc => ?_, by simp [u3]⟩, ?_⟩
      · rcases List.mem_append.mp hc with z | z
        · exact u2 c z
        · simp at z; subst z
          exact ⟨a1, Nat.mod_lt _ (by omega), hne, by dsimp only; omega⟩
      · simp [L3__law_kit, q_mulAI, q_mulAL, a_wb, q_divW, Function.comp_def, q_starI, q_starIT, a_wp, a_fz, a_fz0, a_fz1, a_ext, a_ins, a_insA, a_pop, a_parN, a_evO0, a_evO1, a_setO0, a_setO1, a_ix2, a_setII, a_zN, a_zC, a_lcO, d_oo, pEq_int, pNe_int, pIxL, pIxT, atI_nat, atI_0, atI_1, atI_2, atI_3, atI_m1, cutLo, cutHi, cutLo1, cutHi1, a_seq, a_ifS, a_B, a_op, a_ov, a_ev0, a_evv, a_evs, a_C, a_V, a_M, a_set, a_setI, a_app, a_ret, a_ex, a_skip, a_no, a_not, a_andT, a_orT, a_and, a_or, a_notV, a_if, a_par, a_call, a_forS, a_sq, a_r1, a_r2, a_en, a_zp, a_asT, a_chI, a_yes, a_lc, a_fn, okA, f_fr, bkA, rsvs, rsv, dvs, on1, on2, d_fr, d_ol, rsO, ndS, sl, putB, asT, setAll, ofO, Dy.ints1, Dy.ints2, nE, wipeE, unw, frO, q_addI, q_addL, q_addT, q_addS, q_sub, q_div, q_mod, q_pow, q_neg, q_cm, pIs, pIsn, q_isN, q_isI, q_isS, q_isT, q_isL, q_isB, q_lenL, q_lenT, pTup, pLst, q_tupL, q_tupT, q_lstL, q_lstT, q_revL, q_slL, q_slT, q_shL, q_shT, q_sqL, q_sqT, q_intI, q_max2, q_min2, q_aII, q_aBI, q_aTI, q_aTT, q_aLL, q_aTL, q_aIT, a3, b3, x3, c4, c5])
  have c6 : (n : Int) ≤ 1000000000 ∧ (-1000000000 : Int) ≤ n := by omega
  refine ⟨s.2, s.1, by omega, p3, p2, ?_⟩
  dsimp only [List.map] at e
  have hb : ∀ b : Bool, pInt (.bool b) = some (.fr (.int (if b then 1 else 0))) := fun b => rfl
  rcases em with ⟨z1, z2, em⟩ | ⟨z1, z2, em⟩
  · simp [q_mulAI, q_mulAL, a_wb, q_divW, Function.comp_def, q_starI, q_starIT, a_wp, a_fz, a_fz0, a_fz1, a_ext, a_ins, a_insA, a_pop, a_parN, a_evO0, a_evO1, a_setO0, a_setO1, a_ix2, a_setII, a_zN, a_zC, a_lcO, d_oo, pEq_int, pNe_int, pIxL, pIxT, atI_nat, atI_0, atI_1, atI_2, atI_3, atI_m1, cutLo, cutHi, cutLo1, cutHi1, a_seq, a_ifS, a_B, a_op, a_ov, a_ev0, a_evv, a_evs, a_C, a_V, a_M, a_set, a_setI, a_app, a_ret, a_ex, a_skip, a_no, a_not, a_andT, a_orT, a_and, a_or, a_notV, a_if, a_par, a_call, a_forS, a_sq, a_r1, a_r2, a_en, a_zp, a_asT, a_chI, a_yes, a_lc, a_fn, okA, f_fr, bkA, rsvs, rsv, dvs, on1, on2, d_fr, d_ol, rsO, ndS, sl, putB, asT, setAll, ofO, Dy.ints1, Dy.ints2, nE, wipeE, unw, frO, q_addI, q_addL, q_addT, q_addS, q_sub, q_div, q_mod, q_pow, q_neg, q_cm, pIs, pIsn, q_isN, q_isI, q_isS, q_isT, q_isL, q_isB, q_lenL, q_lenT, pTup, pLst, q_tupL, q_tupT, q_lstL, q_lstT, q_revL, q_slL, q_slT, q_shL, q_shT, q_sqL, q_sqT, q_intI, q_max2, q_min2, q_aII, q_aBI, q_aTI, q_aTT, q_aLL, q_aTL, q_aIT, e1, hb, z1, z2, em, c6, e]
  · simp [q_mulAI, q_mulAL, a_wb, q_divW, Function.comp_def, q_starI, q_starIT, a_wp, a_fz, a_fz0, a_fz1, a_ext, a_ins, a_insA, a_pop, a_parN, a_evO0, a_evO1, a_setO0, a_setO1, a_ix2, a_setII, a_zN, a_zC, a_lcO, d_oo, pEq_int, pNe_int, pIxL, pIxT, atI_nat, atI_0, atI_1, atI_2, atI_3, atI_m1, cutLo, cutHi, cutLo1, cutHi1, a_seq, a_ifS, a_B, a_op, a_ov, a_ev0, a_evv, a_evs, a_C, a_V, a_M, a_set, a_setI, a_app, a_ret, a_ex, a_skip, a_no, a_not, a_andT, a_orT, a_and, a_or, a_notV, a_if, a_par, a_call, a_forS, a_sq, a_r1, a_r2, a_en, a_zp, a_asT, a_chI, a_yes, a_lc, a_fn, okA, f_fr, bkA, rsvs, rsv, dvs, on1, on2, d_fr, d_ol, rsO, ndS, sl, putB, asT, setAll, ofO, Dy.ints1, Dy.ints2, nE, wipeE, unw, frO, q_addI, q_addL, q_addT, q_addS, q_sub, q_div, q_mod, q_pow, q_neg, q_cm, pIs, pIsn, q_isN, q_isI, q_isS, q_isT, q_isL, q_isB, q_lenL, q_lenT, pTup, pLst, q_tupL, q_tupT, q_lstL, q_lstT, q_revL, q_slL, q_slT, q_shL, q_shT, q_sqL, q_sqT, q_intI, q_max2, q_min2, q_aII, q_aBI, q_aTI, q_aTT, q_aLL, q_aTL, q_aIT, e1, hb, z1, z2, em, c6, e]
theorem rkI6 {m : Nat} {as : List Nat} {fs : Nat} (ha : ArOk as) (f4 : fs ≤ 4) {i : Ins} (h : InsOk as fs i) : Rk 2 10000 (encI i) := by
  have h6 := ha.len
  have h1 := lt_of_get h.ar
  have h2 := ha.le2 _ (List.mem_of_getElem? h.ar)
  have big : ∀ k : Nat, k < 1000 → Rk 1 2300 (dN k) := fun k hk => (Rk.nat (Nat.lt_trans hk (by decide +kernel))).mono (by decide) (by decide)
  have ht : Rk 1 2300 (.tuple (i.args.map dN)) := (Rk.tup (n := 0) (w := 1100) fun d hd => by
    obtain ⟨k, hk, rfl⟩ := List.mem_map.mp hd
    have := h.args k hk
    exact Rk.nat (Nat.lt_trans (show k < 1000 by omega) (by decide +kernel))).mono (Nat.le_refl _) (by rw [List.length_map]; omega)
  refine (Rk.tup (n := 1) (w := 2300) fun d hd => ?_).mono (Nat.le_refl _) (by simp)
  simp only [List.mem_cons, List.not_mem_nil, or_false] at hd
  have := h.form
  have := h.pr
  rcases hd with rfl | rfl | rfl | rfl
  · exact big _ (by omega)
  · exact big _ (by omega)
  · exact ht
  · exact big _ (by omega)
theorem kitA {o : O} {mi : Int} (up : Nat) (h : PenA o) (u1 : 1 ≤ up) (u4 : up ≤ 4) (hm : mi = up) : ∃ (m : Mach) (o' : O), MOk m ∧ m.fs ≤ up ∧ 0 ∈ m.ar ∧ m.ar.length ≤ 4 ∧ PenA o' ∧ M__law_kit [o, .fr (.int mi)] = .ok (.fr (encM m), [o', .fr (.int mi)]) := by
  subst hm
  obtain ⟨r, o1, r1, p1, e1⟩ := drawA_lit (mi := 4) 4 h (by decide) (by decide) rfl
  obtain ⟨xs, o2, p2, l2, q2, e2⟩ := lc_r (vs := [12]) (t := .nm 12) (elt := E1__law_kit) dN (fun o => kV o (fr (dN up)) none none none none none none none none none none none none) (fun _ o => PenA o) (fun x => x ≤ 2) r p1 (by omega) (fun k o hk hp => by
    obtain ⟨d, o', hm, hp', e⟩ := pickA (xs := [.int 0, .int 1, .int 2, .int 2]) hp (by simp) (by decide)
    have hd : ∃ x : Nat, d = dN x ∧ x ≤ 2 := by
      simp at hm
      rcases hm with rfl | rfl | rfl
      · exact ⟨0, rfl, by decide⟩
      · exact ⟨1, rfl, by decide⟩
      · exact ⟨2, rfl, by decide⟩
    obtain ⟨x, rfl, hx⟩ := hd
    exact ⟨x, o', hp', hx, by simp [E1__law_kit, q_mulAI, q_mulAL, a_wb, q_divW, Function.comp_def, q_starI, q_starIT, a_wp, a_fz, a_fz0, a_fz1, a_ext, a_ins, a_insA, a_pop, a_parN, a_evO0, a_evO1, a_setO0, a_setO1, a_ix2, a_setII, a_zN, a_zC, a_lcO, d_oo, pEq_int, pNe_int, pIxL, pIxT, atI_nat, atI_0, atI_1, atI_2, atI_3, atI_m1, cutLo, cutHi, cutLo1, cutHi1, a_seq, a_ifS, a_B, a_op, a_ov, a_ev0, a_evv, a_evs, a_C, a_V, a_M, a_set, a_setI, a_app, a_ret, a_ex, a_skip, a_no, a_not, a_andT, a_orT, a_and, a_or, a_notV, a_if, a_par, a_call, a_forS, a_sq, a_r1, a_r2, a_en, a_zp, a_asT, a_chI, a_yes, a_lc, a_fn, okA, f_fr, bkA, rsvs, rsv, dvs, on1, on2, d_fr, d_ol, rsO, ndS, sl, putB, asT, setAll, ofO, Dy.ints1, Dy.ints2, nE, wipeE, unw, frO, q_addI, q_addL, q_addT, q_addS, q_sub, q_div, q_mod, q_pow, q_neg, q_cm, pIs, pIsn, q_isN, q_isI, q_isS, q_isT, q_isL, q_isB, q_lenL, q_lenT, pTup, pLst, q_tupL, q_tupT, q_lstL, q_lstT, q_revL, q_slL, q_slT, q_shL, q_shT, q_sqL, q_sqT, q_intI, q_max2, q_min2, q_aII, q_aBI, q_aTI, q_aTT, q_aLL, q_aTL, q_aIT, e]⟩)
  have c1 : (r : Int) ≤ 1000000000 ∧ (-1000000000 : Int) ≤ r := by omega
  have c2 : 1 + xs.length ≤ 1000000 := by omega
  have h1 : (fFz [2] (fSet 2 (fOp (on2 pAdd) [.v (fOv pLst [.v (fC (.int 0))]), .v (fLc (fR1 (.v (fCall M__law_draw_2 [.s 0, .v (fC (.int 4))]))) [12] (.nm 12) (fYes) (E1__law_kit))]))) (kV o (fr (dN up)) none none none none none none none none none none none none) =
      .ok (.nx, kV o2 (fr (dN up)) (fr (encZ (0 :: xs))) none none none none none none none none none none none) := by
    simp [q_mulAI, q_mulAL, a_wb, q_divW, Function.comp_def, q_starI, q_starIT, a_wp, a_fz, a_fz0, a_fz1, a_ext, a_ins, a_insA, a_pop, a_parN, a_evO0, a_evO1, a_setO0, a_setO1, a_ix2, a_setII, a_zN, a_zC, a_lcO, d_oo, pEq_int, pNe_int, pIxL, pIxT, atI_nat, atI_0, atI_1, atI_2, atI_3, atI_m1, cutLo, cutHi, cutLo1, cutHi1, a_seq, a_ifS, a_B, a_op, a_ov, a_ev0, a_evv, a_evs, a_C, a_V, a_M, a_set, a_setI, a_app, a_ret, a_ex, a_skip, a_no, a_not, a_andT, a_orT, a_and, a_or, a_notV, a_if, a_par, a_call, a_forS, a_sq, a_r1, a_r2, a_en, a_zp, a_asT, a_chI, a_yes, a_lc, a_fn, okA, f_fr, bkA, rsvs, rsv, dvs, on1, on2, d_fr, d_ol, rsO, ndS, sl, putB, asT, setAll, ofO, Dy.ints1, Dy.ints2, nE, wipeE, unw, frO, q_addI, q_addL, q_addT, q_addS, q_sub, q_div, q_mod, q_pow, q_neg, q_cm, pIs, pIsn, q_isN, q_isI, q_isS, q_isT, q_isL, q_isB, q_lenL, q_lenT, pTup, pLst, q_tupL, q_tupT, q_lstL, q_lstT, q_revL, q_slL, q_slT, q_shL, q_shT, q_sqL, q_sqT, q_intI, q_max2, q_min2, q_aII, q_aBI, q_aTI, q_aTT, q_aLL, q_aTL, q_aIT, e1, c1, e2, c2]
  have hys : ∀ a ∈ 0 :: xs, a ≤ 2 := fun a ha => by
    rcases List.mem_cons.mp ha with rfl | ha
    · omega
    · exact q2 a ha
  obtain ⟨as, o3, al, am, an, p3, e3⟩ := arrangedA (xs := 0 :: xs) dN p2 (by simp; omega) (fun a ha => (Rk.nat (Nat.lt_trans (show a < 1000 by have := hys a ha; omega) (by decide +kernel))).mono (by decide) (by decide))
  have hlen : as.length ≤ 4 := by rw [al]; simp; omega
  have ha : ArOk as := ⟨fun a h => hys a (am a h), by omega, by rw [al]; simp⟩
  obtain ⟨r2, o4, s2, p4, e4⟩ := drawA_upto p3 up (by omega) (by omega)
  obtain ⟨d, o5, hm, p5, e5⟩ := pickA (xs := [.int 3, .int 6, .int 21]) p4 (by simp) (by decide)
  obtain ⟨st, rfl, t1, t2⟩ : ∃ st : Nat, d = dN st ∧ 1 ≤ st ∧ st ≤ 21 := by
    simp at hm
    rcases hm with rfl | rfl | rfl
    · exact ⟨3, rfl, by decide, by decide⟩
    · exact ⟨6, rfl, by decide, by decide⟩
    · exact ⟨21, rfl, by decide, by decide⟩
  have hi : PyData.int (1 + (r2 : Int)) = dN (1 + r2) := by
    show _ = PyData.int ((1 + r2 : Nat) : Int)
    congr 1
  have h2 : (fFz [2] (fParN [2, 4, 5] [fCall M__law_arranged [.s 0, .v (fV 2)], fOp (on2 pAdd) [.v (fC (.int 1)), .v (fCall M__law_draw_2 [.s 0, .v (fV 1)])], fCall M__law_pick_2 [.s 0, .v (fOv pLst [.v (fC (.int 3)), .v (fC (.int 6)), .v (fC (.int 21))])]])) (kV o2 (fr (dN up)) (fr (encZ (0 :: xs))) none none none none none none none none none none none) =
      .ok (.nx, kV o5 (fr (dN up)) (fr (encZ as)) none (fr (dN (1 + r2))) (fr (dN st)) none none none none none none none none) := by
    rw [← hi]
    dsimp only [encZ]
    generalize (0 :: xs).map dN = XX at *
    generalize as.map dN = AA at *
    simp [q_mulAI, q_mulAL, a_wb, q_divW, Function.comp_def, q_starI, q_starIT, a_wp, a_fz, a_fz0, a_fz1, a_ext, a_ins, a_insA, a_pop, a_parN, a_evO0, a_evO1, a_setO0, a_setO1, a_ix2, a_setII, a_zN, a_zC, a_lcO, d_oo, pEq_int, pNe_int, pIxL, pIxT, atI_nat, atI_0, atI_1, atI_2, atI_3, atI_m1, cutLo, cutHi, cutLo1, cutHi1, a_seq, a_ifS, a_B, a_op, a_ov, a_ev0, a_evv, a_evs, a_C, a_V, a_M, a_set, a_setI, a_app, a_ret, a_ex, a_skip, a_no, a_not, a_andT, a_orT, a_and, a_or, a_notV, a_if, a_par, a_call, a_forS, a_sq, a_r1, a_r2, a_en, a_zp, a_asT, a_chI, a_yes, a_lc, a_fn, okA, f_fr, bkA, rsvs, rsv, dvs, on1, on2, d_fr, d_ol, rsO, ndS, sl, putB, asT, setAll, ofO, Dy.ints1, Dy.ints2, nE, wipeE, unw, frO, q_addI, q_addL, q_addT, q_addS, q_sub, q_div, q_mod, q_pow, q_neg, q_cm, pIs, pIsn, q_isN, q_isI, q_isS, q_isT, q_isL, q_isB, q_lenL, q_lenT, pTup, pLst, q_tupL, q_tupT, q_lstL, q_lstT, q_revL, q_slL, q_slT, q_shL, q_shT, q_sqL, q_sqT, q_intI, q_max2, q_min2, q_aII, q_aBI, q_aTI, q_aTT, q_aLL, q_aTL, q_aIT, e3, e4, e5]
  have h3 : (fWp [1] (fPar 6 7 (fOv pLst []) (fOv pLst []))) (kV o5 (fr (dN up)) (fr (encZ as)) none (fr (dN (1 + r2))) (fr (dN st)) none none none none none none none none) =
      .ok (.nx, kV o5 none (fr (encZ as)) none (fr (dN (1 + r2))) (fr (dN st)) (ol []) (ol []) none none none none none none) := by simp [q_mulAI, q_mulAL, a_wb, q_divW, Function.comp_def, q_starI, q_starIT, a_wp, a_fz, a_fz0, a_fz1, a_ext, a_ins, a_insA, a_pop, a_parN, a_evO0, a_evO1, a_setO0, a_setO1, a_ix2, a_setII, a_zN, a_zC, a_lcO, d_oo, pEq_int, pNe_int, pIxL, pIxT, atI_nat, atI_0, atI_1, atI_2, atI_3, atI_m1, cutLo, cutHi, cutLo1, cutHi1, a_seq, a_ifS, a_B, a_op, a_ov, a_ev0, a_evv, a_evs, a_C, a_V, a_M, a_set, a_setI, a_app, a_ret, a_ex, a_skip, a_no, a_not, a_andT, a_orT, a_and, a_or, a_notV, a_if, a_par, a_call, a_forS, a_sq, a_r1, a_r2, a_en, a_zp, a_asT, a_chI, a_yes, a_lc, a_fn, okA, f_fr, bkA, rsvs, rsv, dvs, on1, on2, d_fr, d_ol, rsO, ndS, sl, putB, asT, setAll, ofO, Dy.ints1, Dy.ints2, nE, wipeE, unw, frO, q_addI, q_addL, q_addT, q_addS, q_sub, q_div, q_mod, q_pow, q_neg, q_cm, pIs, pIsn, q_isN, q_isI, q_isS, q_isT, q_isL, q_isB, q_lenL, q_lenT, pTup, pLst, q_tupL, q_tupT, q_lstL, q_lstT, q_revL, q_slL, q_slT, q_shL, q_shT, q_sqL, q_sqT, q_intI, q_max2, q_min2, q_aII, q_aBI, q_aTI, q_aTT, q_aLL, q_aTL, q_aIT]
  obtain ⟨is, o6, il, io, p6, e6⟩ := rulesK (u := none) (fs := 1 + r2) p5 ha (by omega) (by omega) t1 t2 hlen
  obtain ⟨cs, o7, cl, co, p7, e7⟩ := turnsK (u := none) (R := encZ as) (I := .none) (L := is.map encI) (fs := 1 + r2) p6 (by omega) (by omega) t1 t2
  obtain ⟨js, o8, jl, jm, jn, p8, e8⟩ := arrangedA (xs := is) encI p7 (by omega) (fun i hi => rkI6 (m := 0) ha (by omega) (io i hi))
  refine ⟨⟨as, 1 + r2, js, cs⟩, o8, ⟨ha, by dsimp only; omega, by dsimp only; omega, by dsimp only; omega, by dsimp only; omega, fun i hi => io i (jm i hi), co⟩, by dsimp only; omega, an 0 (by simp), hlen, p8, ?_⟩
  refine fn2_penA (N := 12) (e := kV o8 none (fr (encZ as)) none (fr (dN (1 + r2))) none (fr (.list (is.map encI))) (ol (cs.map encK)) none none none none none none |>.tail) ?_
  unfold b__law_kit
  refine (sq86 h1).trans ((sq86 h2).trans ((sq86 h3).trans ((sq86 e6).trans ((sq86 e7).trans ?_))))
  dsimp only [encZ]
  generalize is.map encI = XX at *
  generalize hY : js.map encI = YY at *
  generalize hZ : cs.map encK = ZZ at *
  generalize hA : as.map dN = AA at *
  simp [q_mulAI, q_mulAL, a_wb, q_divW, Function.comp_def, q_starI, q_starIT, a_wp, a_fz, a_fz0, a_fz1, a_ext, a_ins, a_insA, a_pop, a_parN, a_evO0, a_evO1, a_setO0, a_setO1, a_ix2, a_setII, a_zN, a_zC, a_lcO, d_oo, pEq_int, pNe_int, pIxL, pIxT, atI_nat, atI_0, atI_1, atI_2, atI_3, atI_m1, cutLo, cutHi, cutLo1, cutHi1, a_seq, a_ifS, a_B, a_op, a_ov, a_ev0, a_evv, a_evs, a_C, a_V, a_M, a_set, a_setI, a_app, a_ret, a_ex, a_skip, a_no, a_not, a_andT, a_orT, a_and, a_or, a_notV, a_if, a_par, a_call, a_forS, a_sq, a_r1, a_r2, a_en, a_zp, a_asT, a_chI, a_yes, a_lc, a_fn, okA, f_fr, bkA, rsvs, rsv, dvs, on1, on2, d_fr, d_ol, rsO, ndS, sl, putB, asT, setAll, ofO, Dy.ints1, Dy.ints2, nE, wipeE, unw, frO, q_addI, q_addL, q_addT, q_addS, q_sub, q_div, q_mod, q_pow, q_neg, q_cm, pIs, pIsn, q_isN, q_isI, q_isS, q_isT, q_isL, q_isB, q_lenL, q_lenT, pTup, pLst, q_tupL, q_tupT, q_lstL, q_lstT, q_revL, q_slL, q_slT, q_shL, q_shT, q_sqL, q_sqT, q_intI, q_max2, q_min2, q_aII, q_aBI, q_aTI, q_aTT, q_aLL, q_aTL, q_aIT, e8, hY, hZ, hA]
end Q
namespace Q
open PySem Dy
open L2 (atI ixN)
end Q
namespace Q
open PySem Dy
open L2 (atI ixN)
def wt (ws : List Str) : Nat := (ws.map (·.length)).sum + ws.length
theorem wt_nil : wt [] = 0 := rfl
theorem wt_cons (w : Str) (ws : List Str) : wt (w :: ws) = w.length + 1 + wt ws := by simp [wt]; omega
theorem wt_app : ∀ (a b : List Str), wt (a ++ b) = wt a + wt b
  | [], b => by simp [wt_nil]
  | x :: a, b => by rw [List.cons_append, wt_cons, wt_cons, wt_app a b]; omega
theorem joinB_len (ws : List Str) : (Txt.join BLK ws).length ≤ wt ws := by
  rw [TL.join_eq]
  refine Nat.le_trans (StrLaws.join_length_le BLK ws) ?_
  rw [blk_len]; unfold wt; omega
theorem q_joinB {ws : List Str} (h : wt ws ≤ 1000000) : pJoin BLK (.list (ws.map .str)) = some (.fr (.str (Txt.join BLK ws))) := by
  have hk : joinOk BLK ws = true := by unfold joinOk; rw [blk_len]; unfold wt at h; exact decide_eq_true (by omega)
  show (match strsQ (ws.map PyData.str) with | some ys => if joinOk BLK ys = true then some (O.fr (.str (Txt.join BLK ys))) else none | none => none) = _
  rw [strsQ_map]
  show (if joinOk BLK ws = true then some (O.fr (.str (Txt.join BLK ws))) else none) = _
  rw [if_pos hk]
theorem q_slS (x : Str) (i : Int) (h : x.length ≤ 1000000) : pSl2l (.str x) (.int i) = some (.fr (.str (L2.cutS x (some i) none))) := by
  show (if x.length ≤ 1000000 then some (O.fr (.str (L2.cutS x (some i) none))) else none) = _
  rw [if_pos h]
theorem q_shS (x : Str) (i : Int) (h : x.length ≤ 1000000) : pSl2h (.str x) (.int i) = some (.fr (.str (L2.cutS x none (some i)))) := by
  show (if x.length ≤ 1000000 then some (O.fr (.str (L2.cutS x none (some i)))) else none) = _
  rw [if_pos h]
theorem str_app_len (a b : Str) : (a ++ b).length = a.length + b.length := Str.length_append a b
end Q
namespace Q
open PySem Dy
open L2 (atI ixN)
theorem fn2_rt86 {N : Nat} {b : SF} {d d' : PyData} {o : O} {e : Dy.Env} (h : b (some (.fr d) :: some (.fr d') :: List.replicate N none) = .ok (.rt o, e)) : fnM 2 (N + 2) [] b [.fr d, .fr d'] = .ok (o, [.fr d, .fr d']) := by
  show (b (some (.fr d) :: some (.fr d') :: List.replicate (N + 2 - 2) none) >>= fun r => match bkA [] r.2 0 [.fr d, .fr d'] with | none => .no | some os' => match r.1 with | .rt o => .ok (o, os') | .nx => .ok (.fr .none, os') | _ => .no) = _
  rw [show N + 2 - 2 = N from rfl, h]
  rfl
theorem dod0 : (O.od []).data = PyData.dict [] := rfl
theorem for_all {t : Tg} {body : SF} {env : Dy.Env} {xs : List PyData} (h : ∀ x ∈ xs, (asT t x env >>= body) = .ok (.nx, env)) : fFor t body xs env = .ok (.nx, env) :=
  (for_chk (p := fun _ => true) (o := .fr .none) (fun x hx _ => h x hx) (fun x hx hp => by cases hp)).1 (List.all_eq_true.mpr fun _ _ => rfl)
end Q
namespace Q
open PySem Dy
open L2 (atI ixN)
theorem rc_ok : ((List.range 128).all fun c => (Builtin.Str.reprChar 39 c).all (fun d => decide (d < 0x110000)) && (Builtin.Str.reprChar 34 c).all (fun d => decide (d < 0x110000))) = true := by decide +kernel
theorem rc_foldl (q : Nat) : ∀ (l : List Nat) (acc : Array Nat), (l.foldl (fun out c => out ++ (Builtin.Str.reprChar q c).toArray) acc).toList = acc.toList ++ l.flatMap (Builtin.Str.reprChar q)
  | [], acc => by simp
  | c :: l, acc => by
    rw [List.foldl_cons, rc_foldl q l]
    simp
theorem repr_tx (x : Str) : tx (reprText x) = reprQuote x :: ((tx x).flatMap (Builtin.Str.reprChar (reprQuote x)) ++ [reprQuote x]) := by
  unfold reprText tx
  rw [Array.toList_push, ← Array.foldl_toList, rc_foldl]
  simp
theorem sok_repr {x : Str} (h : ∀ c ∈ tx x, c < 128) : PyData.strOk (reprText x) = true := by
  have hq : reprQuote x = 39 ∨ reprQuote x = 34 := by unfold reprQuote; split <;> simp
  have key : ∀ c ∈ tx (reprText x), c < 0x110000 := fun c hc => by
    rw [repr_tx] at hc
    have hq2 : reprQuote x < 0x110000 := by rcases hq with h | h <;> rw [h] <;> decide
    rcases List.mem_cons.mp hc with rfl | hc
    · exact hq2
    · rcases List.mem_append.mp hc with hc | hc
      · obtain ⟨b, hb, hm⟩ := List.mem_flatMap.mp hc
        have := List.all_eq_true.mp rc_ok b (List.mem_range.mpr (h b hb))
        rw [Bool.and_eq_true] at this
        rcases hq with e | e
        · rw [e] at hm; exact of_decide_eq_true (List.all_eq_true.mp this.1 c hm)
        · rw [e] at hm; exact of_decide_eq_true (List.all_eq_true.mp this.2 c hm)
      · simp at hc; rw [hc]; exact hq2
  unfold PyData.strOk
  rw [Array.all_eq_true']
  intro c hc
  have := key c (by rw [tx]; exact Array.mem_toList_iff.mpr hc)
  simpa using this
theorem rk_str {x : Str} {N : Nat} {L : Nat} (h : TOk L x) (hl : x.length ≤ N) : Rk 0 (10 * N + 2) (.str x) := by
  refine ⟨h.sok, rfl, Nat.zero_le _, ?_⟩
  have := StrLaws.reprText_len x (fun c hc => Nat.lt_trans (h.asc c hc) (by decide))
  show (reprText x).length ≤ _
  omega
end Q
namespace Q
open PySem Dy
def E1__law_kit_text : EF := fOp (on1 pStr) [.s 13]
def E2__law_kit_text : EF := fOp (on1 pStr) [.s 14]
def L1__law_kit_text : SF := fWp [6, 7, 8, 9] (fApp 1 (fOp (on2 pAdd) [.v (fOp (on2 pAdd) [.v (fOp (on1 pStr) [.s 6]), .v (fC (.str " <- "))]), .v (fM1 pJoin (fC (.str " ")) (.v (fOp (on2 pAdd) [.v (fOp (on2 pAdd) [.v (fOv pLst [.v (fOp (on2 pAdd) [.v (fOp (on1 pStr) [.s 7]), .v (fC (.str ":"))])]), .v (fLc (fSq (.v (fV 8))) [14] (.nm 14) (fYes) (E2__law_kit_text))]), .v (fOv pLst [.v (fC (.str "at")), .v (fOp (on1 pStr) [.s 9])])])))]))
def L2__law_kit_text : SF := fWp [9, 10, 11] (fApp 1 (fOp (on2 pAdd) [.v (fOp (on2 pAdd) [.v (fOp (on2 pAdd) [.v (fOp (on2 pAdd) [.v (fOp (on1 pStr) [.s 11]), .v (fC (.str " <- "))]), .v (fOp (on1 pStr) [.s 10])]), .v (fC (.str " at "))]), .v (fOp (on1 pStr) [.s 9])]))
def E3__law_kit_text : EF := fOp (on2 pAdd) [.s 12, .v (fC (.str "\n"))]
def b__law_kit_text : SF := fSeq (fAsT (.tu [2, 3, 4, 5]) (fV 0))
  (fSeq (fWp [0, 2, 3] (fSet 1 (fOv pLst [.v (fOp (on2 pAdd) [.v (fC (.str "forms ")), .v (fOp (on1 pStr) [.s 3])]), .v (fOp (on2 pAdd) [.v (fC (.str "operators ")), .v (fM1 pJoin (fC (.str " ")) (.v (fLc (fSq (.v (fV 2))) [13] (.nm 13) (fYes) (E1__law_kit_text))))])])))
  (fSeq (fWp [4, 6, 7, 8, 9] (fForS (fSq (.v (fV 4))) (.tu [6, 7, 8, 9]) (L1__law_kit_text)))
  (fSeq (fWp [5, 9, 10, 11] (fForS (fSq (.v (fV 5))) (.tu [10, 11, 9]) (L2__law_kit_text)))
  (fRet (fM1 pJoin (fC (.str "")) (.v (fLc (fSq (.v (fV 1))) [12] (.nm 12) (fYes) (E3__law_kit_text))))))))
def M__law_kit_text : Fn := fnM 1 15 [] b__law_kit_text
def L1__law_bent_kits : SF := fWp [8] (fApp 2 (fOv pTup [.v (fV 4), .v (fV 5), .v (fOv pTup [.v (fV 8)]), .v (fOv pTup [])]))
def L2__law_bent_kits : SF := fSeq (fWp [8] (fForS (fSq (.v (fOv pLst [.v (fOp (on2 pAdd) [.v (fOv pTup [.v (fV 5)]), .v (fOp (on2 pSl2l) [.s 3, .v (fC (.int 1))])]), .v (fOp (on2 pAdd) [.v (fOp (on2 pSl2h) [.s 3, .v (fC (.int 3))]), .v (fOv pTup [.v (fC (.int 21))])]), .v (fOp (on2 pAdd) [.v (fOp (on2 pSl2h) [.s 3, .v (fC (.int 3))]), .v (fOv pTup [.v (fOp (on1 pNeg) [.v (fC (.int 1))])])]), .v (fOp (on2 pAdd) [.v (fOp (on2 pAdd) [.v (fOp (on2 pSl2h) [.s 3, .v (fC (.int 2))]), .v (fOv pTup [.v (fOp (on1 pList) [.v (fOp (on2 pIx) [.s 3, .v (fC (.int 2))])])])]), .v (fOp (on2 pSl2l) [.s 3, .v (fC (.int 3))])])]))) (.nm 8) (L1__law_bent_kits)))
  (fSeq (fSet 2 (fOp (on2 pAdd) [.s 2, .v (fOv pLst [.v (fOv pTup [.v (fV 4), .v (fV 5), .v (fOv pTup [.v (fOp (on2 pAdd) [.v (fOp (on2 pAdd) [.v (fOp (on2 pSl2h) [.s 3, .v (fC (.int 2))]), .v (fOv pTup [.v (fOp (on2 pAdd) [.v (fOp (on2 pIx) [.s 3, .v (fC (.int 2))]), .v (fOv pTup [.v (fC (.int 0))])])])]), .v (fOp (on2 pSl2l) [.s 3, .v (fC (.int 3))])])]), .v (fOv pTup [])]), .v (fOv pTup [.v (fV 4), .v (fV 5), .v (fOv pTup [.v (fOp (on2 pSl2h) [.s 3, .v (fC (.int 3))])]), .v (fOv pTup [])])])]))
  (fWp [3] (fApp 2 (fOv pTup [.v (fV 4), .v (fV 5), .v (fOv pTup [.v (fOp (on2 pAdd) [.v (fOp (on2 pSl2h) [.s 3, .v (fC (.int 3))]), .v (fOv pTup [.v (fC (.bool true))])])]), .v (fOv pTup [])]))))
def b__law_bent_kits : SF := fSeq (fAsT (.tu [4, 5, 6, 7]) (fV 1))
  (fSeq (fSet 2 (fOv pLst [.v (fOp (on1 pList) [.s 1]), .v (fOp (on2 pSl2h) [.s 1, .v (fC (.int 3))]), .v (fOp (on2 pAdd) [.s 1, .v (fOv pTup [.v (fC (.int 0))])]), .v (fOp (on2 pAdd) [.v (fOv pTup [.v (fOp (on1 pList) [.s 4])]), .v (fOp (on2 pSl2l) [.s 1, .v (fC (.int 1))])]), .v (fOp (on2 pAdd) [.v (fOv pTup [.v (fOp (on2 pAdd) [.s 4, .v (fOv pTup [.v (fC (.int 3))])])]), .v (fOp (on2 pSl2l) [.s 1, .v (fC (.int 1))])]), .v (fOp (on2 pAdd) [.v (fOv pTup [.v (fOv pTup [])]), .v (fOp (on2 pSl2l) [.s 1, .v (fC (.int 1))])])]))
  (fSeq (fSet 2 (fOp (on2 pAdd) [.s 2, .v (fOv pLst [.v (fOv pTup [.v (fV 4), .v (fC (.int 0)), .v (fOv pTup []), .v (fOv pTup [])]), .v (fOp (on2 pAdd) [.v (fOv pTup [.v (fV 4), .v (fC (.int 5))]), .v (fOp (on2 pSl2l) [.s 1, .v (fC (.int 2))])]), .v (fOp (on2 pAdd) [.v (fOv pTup [.v (fV 4), .v (fC .none)]), .v (fOp (on2 pSl2l) [.s 1, .v (fC (.int 2))])]), .v (fOv pTup [.v (fV 4), .v (fV 5), .v (fOp (on1 pList) [.s 6]), .v (fOv pTup [])])])]))
  (fSeq (fSet 2 (fOp (on2 pAdd) [.s 2, .v (fOv pLst [.v (fOv pTup [.v (fV 4), .v (fV 5), .v (fV 6), .v (fOv pTup [.v (fC .none)])]), .v (fOv pTup [.v (fV 4), .v (fV 5), .v (fOv pTup [.v (fOv pTup [.v (fC (.int 0)), .v (fC (.int 0))])]), .v (fOv pTup [])])])]))
  (fSeq (fApp 2 (fOv pTup [.v (fV 4), .v (fV 5), .v (fOp (on2 pSl2h) [.v (fOp (on2 pMulE) [.s 6, .v (fC (.int 30))]), .v (fC (.int 60))]), .v (fV 7)]))
  (fSeq (fSet 2 (fOp (on2 pAdd) [.s 2, .v (fOv pLst [.v (fOv pTup [.v (fV 4), .v (fV 5), .v (fV 6), .v (fOv pTup [.v (fOv pTup [.v (fC (.int 0)), .v (fC (.int 0)), .v (fC (.int 1))])])]), .v (fOv pTup [.v (fV 4), .v (fV 5), .v (fV 6), .v (fOv pTup [.v (fOv pTup [.v (fC (.int 0)), .v (fV 5), .v (fC (.int 1))])])])])]))
  (fSeq (fWp [0, 7] (fSet 2 (fOp (on2 pAdd) [.s 2, .v (fOv pLst [.v (fOv pTup [.v (fV 4), .v (fV 5), .v (fOv pTup []), .v (fOv pTup [.v (fOv pTup [.v (fC (.int 0)), .v (fC (.int 1)), .v (fC (.int 21))])])])])])))
  (fSeq (fWp [3, 5, 6, 8] (fForS (fSq (.v (fOp (on2 pSl2h) [.s 6, .v (fC (.int 2))]))) (.nm 3) (L2__law_bent_kits)))
  (fRet (fOp (on2 pAdd) [.s 2, .v (fOv pLst [.v (fC .none), .v (fC (.int 0)), .v (fC (.str "")), .v (fOv pTup []), .v (fOv pLst []), .v (fNewD), .v (fCall M__law_kit_text [.v (fV 1)]), .v (fOv pTup [.v (fV 1)]), .v (fV 4), .v (fC (.bool true))])])))))))))
def M__law_bent_kits : Fn := fnM 2 9 [] b__law_bent_kits
def E1__law_great_kit : EF := fCall M__law_draw_2 [.s 0, .v (fC (.int 4))]
def L1__law_great_kit : SF := fSeq (fSet 5 (fCall M__law_draw_2 [.s 0, .v (fC (.int 6))]))
  (fSeq (fSet 6 (fOp (on1 pTuple) [.v (fLc (fR1 (.v (fOp (on2 pIx) [.s 2, .s 5]))) [8] (.nm 8) (fYes) (E1__law_great_kit))]))
  (fWp [1, 5, 6] (fApp 3 (fOv pTup [.v (fCall M__law_draw_2 [.s 0, .v (fC (.int 4))]), .v (fV 5), .v (fV 6), .v (fCall M__law_draw_2 [.s 0, .v (fC (.int 21))])]))))
def L2__law_great_kit : SF := fSeq (fSet 7 (fCall M__law_draw_2 [.s 0, .v (fC (.int 4))]))
  (fWp [1, 7] (fApp 4 (fOv pTup [.v (fV 7), .v (fOp (on2 pMod) [.v (fOp (on2 pAdd) [.v (fOp (on2 pAdd) [.s 7, .v (fC (.int 1))]), .v (fCall M__law_draw_2 [.s 0, .v (fC (.int 3))])]), .v (fC (.int 4))]), .v (fCall M__law_draw_2 [.s 0, .v (fC (.int 21))])])))
def b__law_great_kit : SF := fSeq (fParN [2, 3, 4] [fOv pTup [.v (fC (.int 0)), .v (fC (.int 1)), .v (fC (.int 2)), .v (fC (.int 0)), .v (fC (.int 1)), .v (fC (.int 2))], fOv pLst [], fOv pLst []])
  (fSeq (fWp [1, 5, 6] (fForS (fR1 (.v (fC (.int 24)))) (.nm 1) (L1__law_great_kit)))
  (fSeq (fWp [1, 7] (fForS (fR1 (.v (fC (.int 12)))) (.nm 1) (L2__law_great_kit)))
  (fRet (fOv pTup [.v (fV 2), .v (fC (.int 4)), .v (fOp (on1 pTuple) [.s 3]), .v (fOp (on1 pTuple) [.s 4])]))))
def M__law_great_kit : Fn := fnM 1 9 [0] b__law_great_kit
def b__law_kind_3 (c : Str) : SF := fSeq (fFz [1] (fSet 1 (fOv pLst [.v (fC (.bool (decide (c = "NoMachine")))), .v (fC (.bool (decide (c = "NoText"))))])))
  (fSeq (fIfS (fOrT (fB (fOp (on2 pNe) [.v (fMt pCount 1 (.v (fC (.bool true)))), .v (fC (.int 1))])) (fNot (fB (fC (.bool true))))) (fRet (fC (.str "other"))) (fSkip))
  (fRet (fOp (on2 pIx) [.v (fOv pLst [.v (fC (.str "machine")), .v (fC (.str "text"))]), .v (fMt pIndex 1 (.v (fC (.bool true))))])))
def b__law_said_6 (y : Exn) : SF := fSeq (fSet 2 (fKind 2 (b__law_kind_3 y.cls)))
  (fRet (fOp (on2 pAdd) [.v (fC (.str "! ")), .s 2]))
def b_instruction_text : SF := fSeq (fAsT (.tu [1, 2, 3, 4]) (fV 0))
  (fRet (fM1 pJoin (fC (.str " ")) (.v (fOp (on2 pAdd) [.v (fOp (on2 pAdd) [.v (fOv pLst [.v (fOp (on2 pAdd) [.v (fOp (on2 pAdd) [.v (fOp (on2 pAdd) [.v (fOp (on1 pStr) [.s 1]), .v (fC (.str " <- "))]), .v (fOp (on1 pStr) [.s 2])]), .v (fC (.str ":"))])]), .v (fCall M_words_of [.v (fV 3)])]), .v (fOv pLst [.v (fC (.str "at")), .v (fOp (on1 pStr) [.s 4])])]))))
def M_instruction_text : Fn := fnM 1 5 [] b_instruction_text
def b_conversion_text : SF := fSeq (fAsT (.tu [1, 2, 3]) (fV 0))
  (fRet (fOp (on2 pAdd) [.v (fOp (on2 pAdd) [.v (fOp (on2 pAdd) [.v (fOp (on2 pAdd) [.v (fOp (on2 pAdd) [.v (fOp (on2 pAdd) [.v (fOp (on1 pStr) [.s 2]), .v (fC (.str " <- "))]), .v (fOp (on1 pStr) [.s 1])]), .v (fC (.str " "))]), .v (fC (.str "at"))]), .v (fC (.str " "))]), .v (fOp (on1 pStr) [.s 3])]))
def M_conversion_text : Fn := fnM 1 4 [] b_conversion_text
def E1_machine_text_of : EF := fCall M_instruction_text [.v (fV 6)]
def E2_machine_text_of : EF := fCall M_conversion_text [.v (fV 6)]
def E3_machine_text_of : EF := fOp (on2 pAdd) [.s 7, .v (fC (.str "\n"))]
def b_machine_text_of : SF := fSeq (fAsT (.tu [2, 3, 4, 5]) (fV 0))
  (fSeq (fFz [1] (fSet 1 (fOv pLst [.v (fOp (on2 pAdd) [.v (fC (.str "forms ")), .v (fOp (on1 pStr) [.s 3])]), .v (fOp (on2 pAdd) [.v (fC (.str "operators ")), .v (fM1 pJoin (fC (.str " ")) (.v (fCall M_words_of [.v (fV 2)])))])])))
  (fSeq (fFz [1] (fSet 1 (fOp (on2 pAdd) [.s 1, .v (fLc (fSq (.v (fV 4))) [6] (.nm 6) (fYes) (E1_machine_text_of))])))
  (fSeq (fFz [1] (fSet 1 (fOp (on2 pAdd) [.s 1, .v (fLc (fSq (.v (fV 5))) [6] (.nm 6) (fYes) (E2_machine_text_of))])))
  (fRet (fM1 pJoin (fC (.str "")) (.v (fLc (fSq (.v (fV 1))) [7] (.nm 7) (fYes) (E3_machine_text_of))))))))
def M_machine_text_of : Fn := fnM 1 8 [] b_machine_text_of
def b_machine_text : SF := fSeq (fEx (fCall M_need_machine_2 [.v (fV 0)]))
  (fRet (fCall M_machine_text_of [.v (fV 0)]))
def M_machine_text : Fn := fnM 1 1 [] b_machine_text
def b_instruction_in : SF := fSeq (fFz [1] (fSet 1 (fCall M_numbers_in [.v (fOp (on2 pAdd) [.v (fOp (on2 pAdd) [.v (fOv pLst [.v (fOp (on2 pIx) [.s 0, .v (fC (.int 0))]), .v (fOp (on2 pSl2h) [.v (fOp (on2 pIx) [.s 0, .v (fC (.int 2))]), .v (fOp (on1 pNeg) [.v (fC (.int 1))])])]), .v (fOp (on1 fun d => pSl d (some 3) (some (-2))) [.s 0])]), .v (fOv pLst [.v (fOp (on2 pIx) [.s 0, .v (fOp (on1 pNeg) [.v (fC (.int 1))])])])])])))
  (fRet (fOv pTup [.v (fOp (on2 pIx) [.s 1, .v (fC (.int 0))]), .v (fOp (on2 pIx) [.s 1, .v (fC (.int 1))]), .v (fOp (on1 pTuple) [.v (fOp (on1 fun d => pSl d (some 2) (some (-1))) [.s 1])]), .v (fOp (on2 pIx) [.s 1, .v (fOp (on1 pNeg) [.v (fC (.int 1))])])]))
def M_instruction_in : Fn := fnM 1 2 [] b_instruction_in
def b_conversion_in : SF := fSeq (fFz [1] (fSet 1 (fCall M_numbers_in [.v (fOv pLst [.v (fOp (on2 pIx) [.s 0, .v (fC (.int 2))]), .v (fOp (on2 pIx) [.s 0, .v (fC (.int 0))]), .v (fOp (on2 pIx) [.s 0, .v (fOp (on1 pNeg) [.v (fC (.int 1))])])])])))
  (fRet (fOp (on1 pTuple) [.s 1]))
def M_conversion_in : Fn := fnM 1 2 [] b_conversion_in
def E1_machine_read : EF := fM1 pSplit (fV 7) (.v (fC (.str " ")))
def E2_machine_read : EF := fV 8
def T1_machine_read : TF := fB (fOp (on2 (cmI (fun i j => decide (i < j)))) [.v (fOp (on1 pLen) [.s 8]), .v (fC (.int 5))])
def E3_machine_read : EF := fCall M_instruction_in [.v (fV 8)]
def T2_machine_read : TF := fB (fOp (on2 (pInS false)) [.v (fC (.str ":")), .v (fOp (on2 pIx) [.s 8, .v (fC (.int 2))])])
def E4_machine_read : EF := fCall M_conversion_in [.v (fV 8)]
def T3_machine_read : TF := fB (fOp (on2 (pInS true)) [.v (fC (.str ":")), .v (fOp (on2 pIx) [.s 8, .v (fC (.int 2))])])
def b_machine_read : SF := fSeq (fFz [1] (fSet 1 (fM1 pSplit (fV 0) (.v (fC (.str "\n"))))))
  (fSeq (fIfS (fOrT (fB (fOp (on2 (cmI (fun i j => decide (i < j)))) [.v (fOp (on1 pLen) [.s 1]), .v (fC (.int 3))])) (fB (fOp (on2 pNe) [.v (fOp (on2 pIx) [.s 1, .v (fOp (on1 pNeg) [.v (fC (.int 1))])]), .v (fC (.str ""))]))) (fRet (fC .none)) (fSkip))
  (fSeq (fFz [2] (fSet 2 (fLc (fSq (.v (fOp (on1 fun d => pSl d (some 2) (some (-1))) [.s 1]))) [7] (.nm 7) (fYes) (E1_machine_read))))
  (fSeq (fIfS (fB (fOp (on2 pNe) [.v (fLc (fSq (.v (fV 2))) [8] (.nm 8) (T1_machine_read) (E2_machine_read)), .v (fOv pLst [])])) (fRet (fC .none)) (fSkip))
  (fSeq (fSet 3 (fOp (on1 pTuple) [.v (fLc (fSq (.v (fV 2))) [8] (.nm 8) (T2_machine_read) (E3_machine_read))]))
  (fSeq (fSet 4 (fOp (on1 pTuple) [.v (fLc (fSq (.v (fV 2))) [8] (.nm 8) (T3_machine_read) (E4_machine_read))]))
  (fSeq (fSet 5 (fOp (on1 pTuple) [.v (fCall M_numbers_in [.v (fM1 pSplit (fOp (on2 pSl2l) [.v (fOp (on2 pIx) [.s 1, .v (fC (.int 1))]), .v (fOp (on1 pLen) [.v (fC (.str "operators "))])]) (.v (fC (.str " "))))])]))
  (fSeq (fSet 6 (fOv pTup [.v (fV 5), .v (fCall M__law_number_in [.v (fOp (on2 pSl2l) [.v (fOp (on2 pIx) [.s 1, .v (fC (.int 0))]), .v (fOp (on1 pLen) [.v (fC (.str "forms "))])])]), .v (fV 3), .v (fV 4)]))
  (fRet (fIf (fAndT (fB (fCall M_is_machine [.v (fV 6)])) (fB (fOp (on2 pEq) [.v (fCall M_machine_text_of [.v (fV 6)]), .s 0]))) (fV 6) (fC .none))))))))))
def M_machine_read : Fn := fnM 1 9 [] b_machine_read
def b_read_machine : SF := fSeq (fSet 1 (fIf (fB (fOp (on1 fun d => some (.fr (.bool (isA .str d)))) [.s 0])) (fCall M_machine_read [.v (fV 0)]) (fC .none)))
  (fSeq (fIfS (fB (fOp (on2 pIs) [.s 1, .v (fC .none)])) (fRaise "NoText") (fSkip))
  (fRet (fM 1)))
def M_read_machine : Fn := fnM 1 2 [] b_read_machine
def F1__law_right_16 : EF := fCall M_machine_text [.v (fV 0)]
def F2__law_right_16 : EF := fCall M_read_machine [.v (fV 3)]
def L1__law_right_16 : SF := fSeq (fSet 4 (fOv pLst [.v (fSaid 3 ["NoMachine", "NoText"] [0] [1, 2, 3, 4] F1__law_right_16 b__law_said_6)]))
  (fSeq (fApp 4 (fSaid 3 ["NoMachine", "NoText"] [3] [0, 1, 2, 4] F2__law_right_16 b__law_said_6))
  (fWp [1, 4] (fIfS (fB (fOp (on2 pNe) [.s 4, .v (fOv pLst [.v (fOp (on1 pRepr) [.s 3]), .v (fV 2)])])) (fRet (fC (.bool false))) (fSkip))))
def b__law_right_16 : SF := fSeq (fPar 2 3 (fOp (on1 pRepr) [.s 0]) (fCall M__law_kit_text [.v (fV 0)]))
  (fSeq (fWp [1, 3, 4] (fForS (fR1 (.v (fC (.int 2)))) (.nm 1) (L1__law_right_16)))
  (fRet (fOp (on2 pEq) [.v (fOp (on1 pRepr) [.s 0]), .s 2])))
def M__law_right_16 : Fn := fnM 1 5 [] b__law_right_16
def E1__law_is_deal : EF := fC (.int 1)
def T1__law_is_deal : TF := fNot (fB (fCall M_is_between [.v (fV 3), .v (fC (.int 0)), .v (fOp (on2 pSub) [.s 1, .v (fC (.int 1))])]))
def b__law_is_deal : SF := fSeq (fIfS (fOrT (fNot (fB (fOp (on1 fun d => some (.fr (.bool (isA .tuple d)))) [.s 2]))) (fOrT (fB (fOp (on2 pNe) [.v (fOp (on1 pLen) [.s 2]), .v (fC (.int 4))])) (fNot (fB (fCall M_is_between [.v (fOp (on2 pIx) [.s 2, .v (fC (.int 0))]), .v (fC (.int 0)), .v (fOp (on2 pSub) [.s 1, .v (fC (.int 1))])]))))) (fRet (fC (.bool false))) (fSkip))
  (fSeq (fIfS (fOrT (fNot (fB (fCall M_is_between [.v (fOp (on2 pIx) [.s 2, .v (fC (.int 1))]), .v (fC (.int 0)), .v (fOp (on2 pSub) [.v (fOp (on1 pLen) [.s 0]), .v (fC (.int 1))])]))) (fNot (fB (fCall M_is_between [.v (fOp (on2 pIx) [.s 2, .v (fC (.int 3))]), .v (fC (.int 0)), .v (fC (.int 20))])))) (fRet (fC (.bool false))) (fSkip))
  (fSeq (fIfS (fOrT (fNot (fB (fOp (on1 fun d => some (.fr (.bool (isA .tuple d)))) [.v (fOp (on2 pIx) [.s 2, .v (fC (.int 2))])]))) (fB (fOp (on2 pNe) [.v (fOp (on1 pLen) [.v (fOp (on2 pIx) [.s 2, .v (fC (.int 2))])]), .v (fOp (on2 pIx) [.s 0, .v (fOp (on2 pIx) [.s 2, .v (fC (.int 1))])])]))) (fRet (fC (.bool false))) (fSkip))
  (fRet (fOp (on2 pEq) [.v (fLc (fSq (.v (fOp (on2 pIx) [.s 2, .v (fC (.int 2))]))) [3] (.nm 3) (T1__law_is_deal) (E1__law_is_deal)), .v (fOv pLst [])]))))
def M__law_is_deal : Fn := fnM 3 4 [] b__law_is_deal
abbrev V__law_is_deal (ranks : Option O := none) (many : Option O := none) (row : Option O := none) (form : Option O := none) : Dy.Env := [ranks, many, row, form]
def E1__law_is_kit : EF := fC (.int 1)
def T1__law_is_kit : TF := fNot (fB (fCall M_is_between [.v (fV 6), .v (fC (.int 0)), .v (fC (.int 2))]))
def E2__law_is_kit : EF := fC (.int 1)
def T2__law_is_kit : TF := fNot (fB (fCall M__law_is_deal [.v (fV 2), .v (fV 3), .v (fV 1)]))
def E3__law_is_kit : EF := fC (.int 1)
def T3__law_is_kit : TF := fNot (fB (fCall M_is_between [.v (fV 7), .v (fC (.int 0)), .v (fOp (on2 pSub) [.s 3, .v (fC (.int 1))])]))
def L1__law_is_kit : SF := fSeq (fIfS (fOrT (fNot (fB (fOp (on1 fun d => some (.fr (.bool (isA .tuple d)))) [.s 1]))) (fOrT (fB (fOp (on2 pNe) [.v (fOp (on1 pLen) [.s 1]), .v (fC (.int 3))])) (fNot (fB (fCall M_is_between [.v (fOp (on2 pIx) [.s 1, .v (fC (.int 2))]), .v (fC (.int 0)), .v (fC (.int 20))]))))) (fRet (fC (.bool false))) (fSkip))
  (fWp [1] (fIfS (fOrT (fB (fOp (on2 pNe) [.v (fLc (fSq (.v (fOp (on2 pSl2h) [.s 1, .v (fC (.int 2))]))) [7] (.nm 7) (T3__law_is_kit) (E3__law_is_kit)), .v (fOv pLst [])])) (fB (fOp (on2 pEq) [.v (fOp (on2 pIx) [.s 1, .v (fC (.int 0))]), .v (fOp (on2 pIx) [.s 1, .v (fC (.int 1))])]))) (fRet (fC (.bool false))) (fSkip)))
def b__law_is_kit : SF := fSeq (fIfS (fOrT (fNot (fB (fOp (on1 fun d => some (.fr (.bool (isA .tuple d)))) [.s 0]))) (fOrT (fB (fOp (on2 pNe) [.v (fOp (on1 pLen) [.s 0]), .v (fC (.int 4))])) (fNot (fB (fCall M_is_between [.v (fOp (on2 pIx) [.s 0, .v (fC (.int 1))]), .v (fC (.int 1)), .v (fC (.int 4))]))))) (fRet (fC (.bool false))) (fSkip))
  (fSeq (fAsT (.tu [2, 3, 4, 5]) (fV 0))
  (fSeq (fIfS (fOrT (fNot (fB (fOp (on1 fun d => some (.fr (.bool (isA .tuple d)))) [.s 2]))) (fOrT (fNot (fB (fChI (fun i j => decide (i ≤ j)) (fun i j => decide (i ≤ j)) (.v (fC (.int 1))) (.v (fOp (on1 pLen) [.s 2])) (.v (fC (.int 6)))))) (fOrT (fNot (fB (fOp (on1 fun d => some (.fr (.bool (isA .tuple d)))) [.s 4]))) (fB (fOp (on2 (cmI (fun i j => decide (j < i)))) [.v (fOp (on1 pLen) [.s 4]), .v (fC (.int 24))]))))) (fRet (fC (.bool false))) (fSkip))
  (fSeq (fIfS (fOrT (fB (fOp (on2 pNe) [.v (fLc (fSq (.v (fV 2))) [6] (.nm 6) (T1__law_is_kit) (E1__law_is_kit)), .v (fOv pLst [])])) (fNot (fB (fOp (on1 fun d => some (.fr (.bool (isA .tuple d)))) [.s 5])))) (fRet (fC (.bool false))) (fSkip))
  (fSeq (fWp [0, 2, 4] (fIfS (fOrT (fB (fOp (on2 (cmI (fun i j => decide (j < i)))) [.v (fOp (on1 pLen) [.s 5]), .v (fC (.int 12))])) (fB (fOp (on2 pNe) [.v (fLc (fSq (.v (fV 4))) [1] (.nm 1) (T2__law_is_kit) (E2__law_is_kit)), .v (fOv pLst [])]))) (fRet (fC (.bool false))) (fSkip)))
  (fSeq (fWp [1, 3, 5] (fForS (fSq (.v (fV 5))) (.nm 1) (L1__law_is_kit)))
  (fRet (fC (.bool true))))))))
def M__law_is_kit : Fn := fnM 1 8 [] b__law_is_kit
def E1_law_50 : EF := fCall M__law_kit [.s 2, .v (fC (.int 4))]
def F1_law_50 : EF := fCall M_machine_text [.v (fV 5)]
def L1_law_50 : SF := fSeq (fSet 6 (fOp (on1 pReprD) [.s 5]))
  (fWp [5, 6] (fIfS (fAndT (fNot (fB (fCall M__law_is_kit [.v (fV 5)]))) (fOrT (fB (fOp (on2 pNe) [.v (fSaid 3 ["NoMachine", "NoText"] [5] [0, 1, 2, 3, 4, 6, 7] F1_law_50 b__law_said_6), .v (fC (.str "! machine"))])) (fB (fOp (on2 pNe) [.v (fOp (on1 pReprD) [.s 5]), .s 6])))) (fRet (fC (.bool false))) (fSkip)))
def L2_law_50 : SF := fSeq (fIfS (fNot (fB (fCall M__law_right_16 [.v (fV 4)]))) (fRet (fC (.bool false))) (fSkip))
  (fWp [4, 5, 6] (fForS (fSq (.v (fCall M__law_bent_kits [.v (fV 2), .v (fV 4)]))) (.nm 5) (L1_law_50)))
def L3_law_50 : SF := fSeq (fSet 2 (fCall M__law_pen_2 [.v (fCall M__law_cell [.v (fV 0), .v (fV 1)])]))
  (fSeq (fWp [1] (fFz [3] (fSet 3 (fLc (fR1 (.v (fC (.int 6)))) [7] (.nm 7) (fYes) (E1_law_50)))))
  (fWp [2, 3, 4, 5, 6] (fForS (fSq (.v (fOp (on2 pAdd) [.s 3, .v (fOv pLst [.v (fCall M__law_great_kit [.s 2]), .v (fOv pTup [.v (fOv pTup [.v (fC (.int 0))]), .v (fC (.int 1)), .v (fOv pTup []), .v (fOv pTup [])]), .v (fOv pTup [.v (fOv pTup [.v (fC (.int 2))]), .v (fC (.int 4)), .v (fOv pTup []), .v (fOv pTup [])])])]))) (.nm 4) (L2_law_50))))
def b_law_50 : SF := fSeq (fWp [0, 1, 2, 3, 4, 5, 6] (fForS (fR1 (.v (fOp (pMax) [.v (fC (.int 1)), .v (fOp (pMin) [.v (fOp (on1 pLen) [.s 0]), .v (fC (.int 3))])]))) (.nm 1) (L3_law_50)))
  (fRet (fC (.bool true)))
def M_law_50 : Fn := fnM 1 8 [] b_law_50
end Q
namespace Q
open PySem Dy
open L2 (atI ixN)
theorem app_assoc (a b c : Str) : a ++ b ++ c = a ++ (b ++ c) := tx_inj (by simp only [tx_app, List.append_assoc])
theorem join_cons_app (y a x : Str) (r : List Str) : Str.join y ((a ++ x) :: r) = a ++ Str.join y (x :: r) := by
  cases r with
  | nil => rfl
  | cons z r =>
    show a ++ x ++ y ++ Str.join y (z :: r) = a ++ (x ++ y ++ Str.join y (z :: r))
    simp only [app_assoc]
theorem join_two (y x z : Str) (r : List Str) : Str.join y (x :: z :: r) = x ++ (y ++ Str.join y (z :: r)) := by
  show x ++ y ++ Str.join y (z :: r) = _
  rw [app_assoc]
abbrev NL : Str := "\n"
abbrev ARW : Str := " <- "
abbrev ARR : Str := "<-"
abbrev COL : Str := ":"
abbrev ATS : Str := "at"
abbrev ATB : Str := " at "
theorem arw_eq : ARW = BLK ++ (ARR ++ BLK) := by decide +kernel
theorem atb_eq : ATB = BLK ++ (ATS ++ BLK) := by decide +kernel
def wI (i : Ins) : List Str := numS i.form :: ARR :: (numS i.op ++ COL) :: (i.args.map numS ++ [ATS, numS i.pr])
def wC (c : Con) : List Str := [numS c.b, ARR, numS c.a, ATS, numS c.pr]
def lineI (i : Ins) : Str := Txt.join BLK (wI i)
def lineC (c : Con) : Str := Txt.join BLK (wC c)
def line0 (m : Mach) : Str := "forms " ++ numS m.fs
def line1 (m : Mach) : Str := "operators " ++ Txt.join BLK (m.ar.map numS)
def linesM (m : Mach) : List Str := line0 m :: line1 m :: (m.ins.map lineI ++ m.con.map lineC)
def textM (m : Mach) : Str := Txt.join Str.empty ((linesM m).map fun l => l ++ NL)
theorem lineI_prog (i : Ins) : lineI i = Txt.join BLK ((((numS i.form ++ ARW) ++ numS i.op) ++ COL) :: (i.args.map numS ++ [ATS, numS i.pr])) := by
  unfold lineI wI
  rw [TL.join_eq, TL.join_eq, app_assoc, app_assoc, join_cons_app, join_cons_app, join_two, join_two, arw_eq]
  simp only [app_assoc]
theorem lineI_law (i : Ins) : lineI i = (numS i.form ++ ARW) ++ Txt.join BLK ((numS i.op ++ COL) :: (i.args.map numS ++ [ATS, numS i.pr])) := by
  unfold lineI wI
  rw [TL.join_eq, TL.join_eq, join_two, join_two, arw_eq]
  simp only [app_assoc]
theorem lineC_law (c : Con) : lineC c = (((numS c.b ++ ARW) ++ numS c.a) ++ ATB) ++ numS c.pr := by
  unfold lineC wC
  rw [TL.join_eq, join_two, join_two, join_two, join_two, arw_eq, atb_eq]
  show numS c.b ++ (BLK ++ (ARR ++ (BLK ++ (numS c.a ++ (BLK ++ (ATS ++ (BLK ++ numS c.pr))))))) = _
  simp only [app_assoc]
theorem lineC_prog (c : Con) : lineC c = (((((numS c.b ++ ARW) ++ numS c.a) ++ BLK) ++ ATS) ++ BLK) ++ numS c.pr := by
  rw [lineC_law, atb_eq]
  simp only [app_assoc]
theorem addS {a b : Str} (h : a.length ≤ 100000) (h' : b.length ≤ 100000) : pAdd (.str a) (.str b) = some (.fr (.str (a ++ b))) := by rw [q_addS, if_pos (by omega)]
theorem cl1 : ARW.length = 4 ∧ ARR.length = 2 ∧ COL.length = 1 ∧ ATS.length = 2 ∧ ATB.length = 4 ∧ NL.length = 1 ∧ ("forms " : Str).length = 6 ∧ ("operators " : Str).length = 10 := by decide +kernel
structure ISm (i : Ins) : Prop where
  f : i.form < 100
  o : i.op < 100
  a : ∀ k ∈ i.args, k < 100
  l : i.args.length ≤ 2
  p : i.pr < 100
structure CSm (c : Con) : Prop where
  a : c.a < 100
  b : c.b < 100
  p : c.pr < 100
theorem ism {m : Mach} (h : MOk m) {i : Ins} (hi : i ∈ m.ins) : ISm i := by
  have q := h.ins i hi
  have h1 := lt_of_get q.ar
  have h2 := h.ar.len
  have h3 := h.ar.le2 _ (List.mem_of_getElem? q.ar)
  have h4 := h.f4
  have h5 := q.form
  have h6 := q.pr
  exact ⟨by omega, by omega, fun k hk => by have := q.args k hk; omega, h3, by omega⟩
theorem csm {m : Mach} (h : MOk m) {c : Con} (hc : c ∈ m.con) : CSm c := by
  have q := h.con c hc
  have h4 := h.f4
  have h5 := q.a
  have h6 := q.b
  have h7 := q.pr
  exact ⟨by omega, by omega, by omega⟩
theorem wI_len {i : Ins} (h : ISm i) : ∀ w ∈ wI i, w.length ≤ 3 := fun w hw => by
  obtain ⟨c1, c2, c3, c4, c5, c6, c7, c8⟩ := cl1
  simp only [wI, List.mem_cons, List.mem_append, List.mem_map, List.not_mem_nil, or_false] at hw
  rcases hw with rfl | rfl | rfl | ⟨k, hk, rfl⟩ | rfl | rfl
  · have := numS_len h.f; omega
  · omega
  · have := numS_len h.o; rw [str_app_len]; omega
  · have := numS_len (h.a k hk); omega
  · omega
  · have := numS_len h.p; omega
theorem wt_le {B : Nat} {ws : List Str} (h : ∀ w ∈ ws, w.length ≤ B) : wt ws ≤ ws.length * (B + 1) := by
  have := sum_le h
  unfold wt; rw [Nat.mul_add]; omega
theorem wI_wt {i : Ins} (h : ISm i) : wt (wI i) ≤ 28 := by
  have h1 := wt_le (wI_len h)
  have h2 : (wI i).length ≤ 7 := by have := h.l; simp [wI]; omega
  omega
theorem lineI_len {i : Ins} (h : ISm i) : (lineI i).length ≤ 28 := Nat.le_trans (joinB_len _) (wI_wt h)
theorem wC_wt {c : Con} (h : CSm c) : wt (wC c) ≤ 15 := by
  obtain ⟨c1, c2, c3, c4, c5, c6, c7, c8⟩ := cl1
  have h1 := numS_len h.a
  have h2 := numS_len h.b
  have h3 := numS_len h.p
  simp only [wC, wt_cons, wt_nil]
  omega
theorem lineC_len {c : Con} (h : CSm c) : (lineC c).length ≤ 15 := Nat.le_trans (joinB_len _) (wC_wt h)
theorem words_gen {ns : List Nat} (h : ∀ k ∈ ns, k < 1000) (hl : ns.length ≤ 1000) : M_words_of [.fr (.tuple (ns.map dN))] = .ok (.ol (ns.map fun k => .str (numS k)), [.fr (.tuple (ns.map dN))]) := by
  have e1 := lc_tm (vs := [1]) (t := .nm 1) (elt := E1_words_of) (e := V_words_of (some (.fr (.tuple (ns.map dN))))) dN (fun k => .str (numS k)) ns rfl (fun k hk => by
      have := q_str (h k hk)
      simp [E1_words_of, q_mulAI, q_mulAL, a_wb, q_divW, Function.comp_def, q_starI, q_starIT, a_wp, a_fz, a_fz0, a_fz1, a_ext, a_ins, a_insA, a_pop, a_parN, a_evO0, a_evO1, a_setO0, a_setO1, a_ix2, a_setII, a_zN, a_zC, a_lcO, d_oo, pEq_int, pNe_int, pIxL, pIxT, atI_nat, atI_0, atI_1, atI_2, atI_3, atI_m1, cutLo, cutHi, cutLo1, cutHi1, a_seq, a_ifS, a_B, a_op, a_ov, a_ev0, a_evv, a_evs, a_C, a_V, a_M, a_set, a_setI, a_app, a_ret, a_ex, a_skip, a_no, a_not, a_andT, a_orT, a_and, a_or, a_notV, a_if, a_par, a_call, a_forS, a_sq, a_r1, a_r2, a_en, a_zp, a_asT, a_chI, a_yes, a_lc, a_fn, okA, f_fr, bkA, rsvs, rsv, dvs, on1, on2, d_fr, d_ol, rsO, ndS, sl, putB, asT, setAll, ofO, Dy.ints1, Dy.ints2, nE, wipeE, unw, frO, q_addI, q_addL, q_addT, q_addS, q_sub, q_div, q_mod, q_pow, q_neg, q_cm, pIs, pIsn, q_isN, q_isI, q_isS, q_isT, q_isL, q_isB, q_lenL, q_lenT, pTup, pLst, q_tupL, q_tupT, q_lstL, q_lstT, q_revL, q_slL, q_slT, q_shL, q_shT, q_sqL, q_sqT, q_intI, q_max2, q_min2, q_aII, q_aBI, q_aTI, q_aTT, q_aLL, q_aTL, q_aIT, this]) (by omega)
  simp [M_words_of, b_words_of, q_mulAI, q_mulAL, a_wb, q_divW, Function.comp_def, q_starI, q_starIT, a_wp, a_fz, a_fz0, a_fz1, a_ext, a_ins, a_insA, a_pop, a_parN, a_evO0, a_evO1, a_setO0, a_setO1, a_ix2, a_setII, a_zN, a_zC, a_lcO, d_oo, pEq_int, pNe_int, pIxL, pIxT, atI_nat, atI_0, atI_1, atI_2, atI_3, atI_m1, cutLo, cutHi, cutLo1, cutHi1, a_seq, a_ifS, a_B, a_op, a_ov, a_ev0, a_evv, a_evs, a_C, a_V, a_M, a_set, a_setI, a_app, a_ret, a_ex, a_skip, a_no, a_not, a_andT, a_orT, a_and, a_or, a_notV, a_if, a_par, a_call, a_forS, a_sq, a_r1, a_r2, a_en, a_zp, a_asT, a_chI, a_yes, a_lc, a_fn, okA, f_fr, bkA, rsvs, rsv, dvs, on1, on2, d_fr, d_ol, rsO, ndS, sl, putB, asT, setAll, ofO, Dy.ints1, Dy.ints2, nE, wipeE, unw, frO, q_addI, q_addL, q_addT, q_addS, q_sub, q_div, q_mod, q_pow, q_neg, q_cm, pIs, pIsn, q_isN, q_isI, q_isS, q_isT, q_isL, q_isB, q_lenL, q_lenT, pTup, pLst, q_tupL, q_tupT, q_lstL, q_lstT, q_revL, q_slL, q_slT, q_shL, q_shT, q_sqL, q_sqT, q_intI, q_max2, q_min2, q_aII, q_aBI, q_aTI, q_aTT, q_aLL, q_aTL, q_aIT, e1]
theorem insText {i : Ins} (h : ISm i) : M_instruction_text [.fr (encI i)] = .ok (.fr (.str (lineI i)), [.fr (encI i)]) := by
  obtain ⟨c1, c2, c3, c4, c5, c6, c7, c8⟩ := cl1
  have n1 := numS_len h.f
  have n2 := numS_len h.o
  have n3 := numS_len h.p
  have s1 := q_str (show i.form < 1000 by have := h.f; omega)
  have s2 := q_str (show i.op < 1000 by have := h.o; omega)
  have s3 := q_str (show i.pr < 1000 by have := h.p; omega)
  have w := words_gen (ns := i.args) (fun k hk => by have := h.a k hk; omega) (by have := h.l; omega)
  have p1 := addS (a := numS i.form) (b := ARW) (by omega) (by omega)
  have p2 := addS (a := numS i.form ++ ARW) (b := numS i.op) (by rw [str_app_len]; omega) (by omega)
  have p3 := addS (a := numS i.form ++ ARW ++ numS i.op) (b := COL) (by rw [str_app_len, str_app_len]; omega) (by omega)
  have hw : ∀ x ∈ i.args.map numS, x.length ≤ 2 := fun x hx => by
    obtain ⟨k, hk, rfl⟩ := List.mem_map.mp hx
    exact numS_len (h.a k hk)
  have ww : wt ((((numS i.form ++ ARW) ++ numS i.op) ++ COL) :: (i.args.map numS ++ [ATS, numS i.pr])) ≤ 1000 := by
    have h1 := wt_le hw
    have h2 := h.l
    rw [List.length_map] at h1
    have h3 : i.args.length * (2 + 1) ≤ 6 := by omega
    rw [wt_cons, wt_app, wt_cons, wt_cons, wt_nil, str_app_len, str_app_len, str_app_len]
    omega
  have pj := q_joinB (Nat.le_trans ww (by decide))
  rw [← lineI_prog, List.map_cons, List.map_append, List.map_map] at pj
  have l1 : 1 + i.args.length ≤ 1000000 := by have := h.l; omega
  have l2 : i.args.length + 1 + 2 ≤ 1000000 := by have := h.l; omega
  simp only [Function.comp_def, List.map_cons, List.map_nil] at pj
  generalize lineI i = LI at *
  simp [M_instruction_text, b_instruction_text, q_mulAI, q_mulAL, a_wb, q_divW, Function.comp_def, q_starI, q_starIT, a_wp, a_fz, a_fz0, a_fz1, a_ext, a_ins, a_insA, a_pop, a_parN, a_evO0, a_evO1, a_setO0, a_setO1, a_ix2, a_setII, a_zN, a_zC, a_lcO, d_oo, pEq_int, pNe_int, pIxL, pIxT, atI_nat, atI_0, atI_1, atI_2, atI_3, atI_m1, cutLo, cutHi, cutLo1, cutHi1, a_seq, a_ifS, a_B, a_op, a_ov, a_ev0, a_evv, a_evs, a_C, a_V, a_M, a_set, a_setI, a_app, a_ret, a_ex, a_skip, a_no, a_not, a_andT, a_orT, a_and, a_or, a_notV, a_if, a_par, a_call, a_forS, a_sq, a_r1, a_r2, a_en, a_zp, a_asT, a_chI, a_yes, a_lc, a_fn, okA, f_fr, bkA, rsvs, rsv, dvs, on1, on2, d_fr, d_ol, rsO, ndS, sl, putB, asT, setAll, ofO, Dy.ints1, Dy.ints2, nE, wipeE, unw, frO, q_addI, q_addL, q_addT, q_sub, q_div, q_mod, q_pow, q_neg, q_cm, pIs, pIsn, q_isN, q_isI, q_isS, q_isT, q_isL, q_isB, q_lenL, q_lenT, pTup, pLst, q_tupL, q_tupT, q_lstL, q_lstT, q_revL, q_slL, q_slT, q_shL, q_shT, q_sqL, q_sqT, q_intI, q_max2, q_min2, q_aII, q_aBI, q_aTI, q_aTT, q_aLL, q_aTL, q_aIT, a_m1, s1, s2, s3, w, p1, p2, p3, l1, l2, pj]
end Q
namespace Q
open PySem Dy
open L2 (atI ixN)
theorem fn1_rt84 {N : Nat} {b : SF} {d : PyData} {o : O} {e : Dy.Env} (h : b (some (.fr d) :: List.replicate N none) = .ok (.rt o, e)) : fnM 1 (N + 1) [] b [.fr d] = .ok (o, [.fr d]) := by
  show (b (some (.fr d) :: List.replicate (N + 1 - 1) none) >>= fun r => match bkA [] r.2 0 [.fr d] with | none => .no | some os' => match r.1 with | .rt o => .ok (o, os') | .nx => .ok (.fr .none, os') | _ => .no) = _
  rw [show N + 1 - 1 = N from rfl, h]
  rfl
theorem conText {c : Con} (h : CSm c) : M_conversion_text [.fr (encK c)] = .ok (.fr (.str (lineC c)), [.fr (encK c)]) := by
  obtain ⟨c1, c2, c3, c4, c5, c6, c7, c8⟩ := cl1
  have cb := blk_len
  have n1 := numS_len h.a
  have n2 := numS_len h.b
  have n3 := numS_len h.p
  have s1 := q_str (show c.a < 1000 by have := h.a; omega)
  have s2 := q_str (show c.b < 1000 by have := h.b; omega)
  have s3 := q_str (show c.pr < 1000 by have := h.p; omega)
  have p1 := addS (a := numS c.b) (b := ARW) (by omega) (by omega)
  have p2 := addS (a := numS c.b ++ ARW) (b := numS c.a) (by rw [str_app_len]; omega) (by omega)
  have p3 := addS (a := numS c.b ++ ARW ++ numS c.a) (b := BLK) (by simp only [str_app_len]; omega) (by omega)
  have p4 := addS (a := numS c.b ++ ARW ++ numS c.a ++ BLK) (b := ATS) (by simp only [str_app_len]; omega) (by omega)
  have p5 := addS (a := numS c.b ++ ARW ++ numS c.a ++ BLK ++ ATS) (b := BLK) (by simp only [str_app_len]; omega) (by omega)
  have p6 := addS (a := numS c.b ++ ARW ++ numS c.a ++ BLK ++ ATS ++ BLK) (b := numS c.pr) (by simp only [str_app_len]; omega) (by omega)
  rw [← lineC_prog] at p6
  generalize lineC c = LC at *
  simp [M_conversion_text, b_conversion_text, q_mulAI, q_mulAL, a_wb, q_divW, Function.comp_def, q_starI, q_starIT, a_wp, a_fz, a_fz0, a_fz1, a_ext, a_ins, a_insA, a_pop, a_parN, a_evO0, a_evO1, a_setO0, a_setO1, a_ix2, a_setII, a_zN, a_zC, a_lcO, d_oo, pEq_int, pNe_int, pIxL, pIxT, atI_nat, atI_0, atI_1, atI_2, atI_3, atI_m1, cutLo, cutHi, cutLo1, cutHi1, a_seq, a_ifS, a_B, a_op, a_ov, a_ev0, a_evv, a_evs, a_C, a_V, a_M, a_set, a_setI, a_app, a_ret, a_ex, a_skip, a_no, a_not, a_andT, a_orT, a_and, a_or, a_notV, a_if, a_par, a_call, a_forS, a_sq, a_r1, a_r2, a_en, a_zp, a_asT, a_chI, a_yes, a_lc, a_fn, okA, f_fr, bkA, rsvs, rsv, dvs, on1, on2, d_fr, d_ol, rsO, ndS, sl, putB, asT, setAll, ofO, Dy.ints1, Dy.ints2, nE, wipeE, unw, frO, q_addI, q_addL, q_addT, q_sub, q_div, q_mod, q_pow, q_neg, q_cm, pIs, pIsn, q_isN, q_isI, q_isS, q_isT, q_isL, q_isB, q_lenL, q_lenT, pTup, pLst, q_tupL, q_tupT, q_lstL, q_lstT, q_revL, q_slL, q_slT, q_shL, q_shT, q_sqL, q_sqT, q_intI, q_max2, q_min2, q_aII, q_aBI, q_aTI, q_aTT, q_aLL, q_aTL, q_aIT, s1, s2, s3, p1, p2, p3, p4, p5, p6]
theorem ar_wt {m : Mach} (h : MOk m) : wt (m.ar.map numS) ≤ 18 := by
  have hw : ∀ x ∈ m.ar.map numS, x.length ≤ 2 := fun x hx => by
    obtain ⟨k, hk, rfl⟩ := List.mem_map.mp hx
    exact numS_len (by have := h.ar.le2 k hk; omega)
  have h1 := wt_le hw
  have h2 := h.ar.len
  rw [List.length_map] at h1
  omega
theorem line0_len {m : Mach} (h : MOk m) : (line0 m).length ≤ 8 := by
  obtain ⟨c1, c2, c3, c4, c5, c6, c7, c8⟩ := cl1
  have := numS_len (n := m.fs) (by have := h.f4; omega)
  unfold line0; rw [str_app_len]; omega
theorem line1_len {m : Mach} (h : MOk m) : (line1 m).length ≤ 28 := by
  obtain ⟨c1, c2, c3, c4, c5, c6, c7, c8⟩ := cl1
  have h1 := joinB_len (m.ar.map numS)
  have h2 := ar_wt h
  unfold line1; rw [str_app_len]; omega
theorem lines_len {m : Mach} (h : MOk m) : ∀ l ∈ linesM m, l.length ≤ 28 := fun l hl => by
  simp only [linesM, List.mem_cons, List.mem_append, List.mem_map] at hl
  rcases hl with rfl | rfl | ⟨i, hi, rfl⟩ | ⟨c, hc, rfl⟩
  · have := line0_len h; omega
  · exact line1_len h
  · exact lineI_len (ism h hi)
  · have := lineC_len (csm h hc); omega
theorem lines_many {m : Mach} (h : MOk m) : (linesM m).length ≤ 38 := by
  have := h.il
  have := h.cl
  simp [linesM]; omega
theorem em_len : Str.empty.length = 0 := rfl
theorem emp_eq : (Str.ofString "") = Str.empty := by decide +kernel
theorem textM_len {m : Mach} (h : MOk m) : (textM m).length ≤ 1102 ∧ pJoin Str.empty (.list (((linesM m).map fun l => l ++ NL).map .str)) = some (.fr (.str (textM m))) := by
  obtain ⟨c1, c2, c3, c4, c5, c6, c7, c8⟩ := cl1
  have h1 : ∀ y ∈ (linesM m).map fun l => l ++ NL, y.length ≤ 29 := fun y hy => by
    obtain ⟨l, hl, rfl⟩ := List.mem_map.mp hy
    have := lines_len h l hl
    rw [str_app_len]; omega
  have h2 : ((linesM m).map fun l => l ++ NL).length * (29 + Str.empty.length) ≤ 1102 := by
    rw [List.length_map, em_len]
    have := lines_many h
    omega
  exact ⟨Nat.le_trans (join_len h1) h2, q_join h1 (by omega)⟩
theorem opLine {m : Mach} (h : MOk m) : pJoin BLK (.list (m.ar.map fun k => .str (numS k))) = some (.fr (.str (Txt.join BLK (m.ar.map numS)))) ∧ pAdd (.str "operators ") (.str (Txt.join BLK (m.ar.map numS))) = some (.fr (.str (line1 m))) := by
  obtain ⟨c1, c2, c3, c4, c5, c6, c7, c8⟩ := cl1
  have h2 := ar_wt h
  have pj := q_joinB (ws := m.ar.map numS) (by omega)
  rw [List.map_map] at pj
  have h1 := joinB_len (m.ar.map numS)
  exact ⟨pj, addS (by omega) (by omega)⟩
theorem foLine {m : Mach} (h : MOk m) : pStr (.int (m.fs : Int)) = some (.fr (.str (numS m.fs))) ∧ pAdd (.str "forms ") (.str (numS m.fs)) = some (.fr (.str (line0 m))) := by
  obtain ⟨c1, c2, c3, c4, c5, c6, c7, c8⟩ := cl1
  have h4 := h.f4
  have := numS_len (n := m.fs) (by omega)
  exact ⟨q_str (by omega), addS (by omega) (by omega)⟩
theorem nlLines {m : Mach} (h : MOk m) : ∀ l ∈ linesM m, pAdd (.str l) (.str NL) = some (.fr (.str (l ++ NL))) := fun l hl => by
  obtain ⟨c1, c2, c3, c4, c5, c6, c7, c8⟩ := cl1
  have := lines_len h l hl
  exact addS (by omega) (by omega)
theorem machText {m : Mach} (h : MOk m) : M_machine_text_of [.fr (encM m)] = .ok (.fr (.str (textM m)), [.fr (encM m)]) := by
  have il := h.il
  have cl := h.cl
  have al := h.ar.len
  obtain ⟨f1, f2⟩ := foLine h
  obtain ⟨o1, o2⟩ := opLine h
  have w := words_gen (ns := m.ar) (fun k hk => by have := h.ar.le2 k hk; omega) (by omega)
  have tj := (textM_len h).2
  have hnl := nlLines h
  have E1 : ∀ X : PyData, ∀ A F I C : PyData, lcL [6] (.nm 6) fYes E1_machine_text_of (m.ins.map encI) [fr (encM m), fr X, fr A, fr F, fr I, fr C, none, none] [] = .ok (m.ins.map fun i => .str (lineI i), [fr (encM m), fr X, fr A, fr F, fr I, fr C, none, none]) := fun X A F I C =>
    lc_tm encI (fun i => .str (lineI i)) m.ins rfl (fun i hi => by
      have e := insText (ism h hi)
      unfold encI at e ⊢
      simp [E1_machine_text_of, q_mulAI, q_mulAL, a_wb, q_divW, Function.comp_def, q_starI, q_starIT, a_wp, a_fz, a_fz0, a_fz1, a_ext, a_ins, a_insA, a_pop, a_parN, a_evO0, a_evO1, a_setO0, a_setO1, a_ix2, a_setII, a_zN, a_zC, a_lcO, d_oo, pEq_int, pNe_int, pIxL, pIxT, atI_nat, atI_0, atI_1, atI_2, atI_3, atI_m1, cutLo, cutHi, cutLo1, cutHi1, a_seq, a_ifS, a_B, a_op, a_ov, a_ev0, a_evv, a_evs, a_C, a_V, a_M, a_set, a_setI, a_app, a_ret, a_ex, a_skip, a_no, a_not, a_andT, a_orT, a_and, a_or, a_notV, a_if, a_par, a_call, a_forS, a_sq, a_r1, a_r2, a_en, a_zp, a_asT, a_chI, a_yes, a_lc, a_fn, okA, f_fr, bkA, rsvs, rsv, dvs, on1, on2, d_fr, d_ol, rsO, ndS, sl, putB, asT, setAll, ofO, Dy.ints1, Dy.ints2, nE, wipeE, unw, frO, q_addI, q_addL, q_addT, q_addS, q_sub, q_div, q_mod, q_pow, q_neg, q_cm, pIs, pIsn, q_isN, q_isI, q_isS, q_isT, q_isL, q_isB, q_lenL, q_lenT, pTup, pLst, q_tupL, q_tupT, q_lstL, q_lstT, q_revL, q_slL, q_slT, q_shL, q_shT, q_sqL, q_sqT, q_intI, q_max2, q_min2, q_aII, q_aBI, q_aTI, q_aTT, q_aLL, q_aTL, q_aIT, e]) (by omega)
  have E2 : ∀ X : PyData, ∀ A F I C : PyData, lcL [6] (.nm 6) fYes E2_machine_text_of (m.con.map encK) [fr (encM m), fr X, fr A, fr F, fr I, fr C, none, none] [] = .ok (m.con.map fun i => .str (lineC i), [fr (encM m), fr X, fr A, fr F, fr I, fr C, none, none]) := fun X A F I C =>
    lc_tm encK (fun i => .str (lineC i)) m.con rfl (fun i hi => by
      have e := conText (csm h hi)
      unfold encK at e ⊢
      simp [E2_machine_text_of, q_mulAI, q_mulAL, a_wb, q_divW, Function.comp_def, q_starI, q_starIT, a_wp, a_fz, a_fz0, a_fz1, a_ext, a_ins, a_insA, a_pop, a_parN, a_evO0, a_evO1, a_setO0, a_setO1, a_ix2, a_setII, a_zN, a_zC, a_lcO, d_oo, pEq_int, pNe_int, pIxL, pIxT, atI_nat, atI_0, atI_1, atI_2, atI_3, atI_m1, cutLo, cutHi, cutLo1, cutHi1, a_seq, a_ifS, a_B, a_op, a_ov, a_ev0, a_evv, a_evs, a_C, a_V, a_M, a_set, a_setI, a_app, a_ret, a_ex, a_skip, a_no, a_not, a_andT, a_orT, a_and, a_or, a_notV, a_if, a_par, a_call, a_forS, a_sq, a_r1, a_r2, a_en, a_zp, a_asT, a_chI, a_yes, a_lc, a_fn, okA, f_fr, bkA, rsvs, rsv, dvs, on1, on2, d_fr, d_ol, rsO, ndS, sl, putB, asT, setAll, ofO, Dy.ints1, Dy.ints2, nE, wipeE, unw, frO, q_addI, q_addL, q_addT, q_addS, q_sub, q_div, q_mod, q_pow, q_neg, q_cm, pIs, pIsn, q_isN, q_isI, q_isS, q_isT, q_isL, q_isB, q_lenL, q_lenT, pTup, pLst, q_tupL, q_tupT, q_lstL, q_lstT, q_revL, q_slL, q_slT, q_shL, q_shT, q_sqL, q_sqT, q_intI, q_max2, q_min2, q_aII, q_aBI, q_aTI, q_aTT, q_aLL, q_aTL, q_aIT, e]) (by omega)
  have E3 : ∀ A F I C : PyData, lcL [7] (.nm 7) fYes E3_machine_text_of ((linesM m).map .str) [fr (encM m), fr (.list ((linesM m).map .str)), fr A, fr F, fr I, fr C, none, none] [] = .ok ((linesM m).map fun l => .str (l ++ NL), [fr (encM m), fr (.list ((linesM m).map .str)), fr A, fr F, fr I, fr C, none, none]) := fun A F I C =>
    lc_tm PyData.str (fun l => .str (l ++ NL)) (linesM m) rfl (fun l hl => by
      have e := hnl l hl
      simp [E3_machine_text_of, q_mulAI, q_mulAL, a_wb, q_divW, Function.comp_def, q_starI, q_starIT, a_wp, a_fz, a_fz0, a_fz1, a_ext, a_ins, a_insA, a_pop, a_parN, a_evO0, a_evO1, a_setO0, a_setO1, a_ix2, a_setII, a_zN, a_zC, a_lcO, d_oo, pEq_int, pNe_int, pIxL, pIxT, atI_nat, atI_0, atI_1, atI_2, atI_3, atI_m1, cutLo, cutHi, cutLo1, cutHi1, a_seq, a_ifS, a_B, a_op, a_ov, a_ev0, a_evv, a_evs, a_C, a_V, a_M, a_set, a_setI, a_app, a_ret, a_ex, a_skip, a_no, a_not, a_andT, a_orT, a_and, a_or, a_notV, a_if, a_par, a_call, a_forS, a_sq, a_r1, a_r2, a_en, a_zp, a_asT, a_chI, a_yes, a_lc, a_fn, okA, f_fr, bkA, rsvs, rsv, dvs, on1, on2, d_fr, d_ol, rsO, ndS, sl, putB, asT, setAll, ofO, Dy.ints1, Dy.ints2, nE, wipeE, unw, frO, q_addI, q_addL, q_addT, q_sub, q_div, q_mod, q_pow, q_neg, q_cm, pIs, pIsn, q_isN, q_isI, q_isS, q_isT, q_isL, q_isB, q_lenL, q_lenT, pTup, pLst, q_tupL, q_tupT, q_lstL, q_lstT, q_revL, q_slL, q_slT, q_shL, q_shT, q_sqL, q_sqT, q_intI, q_max2, q_min2, q_aII, q_aBI, q_aTI, q_aTT, q_aLL, q_aTL, q_aIT, e]) (by have := lines_many h; omega)
  rw [List.map_map] at tj
  have hlm : (linesM m).map PyData.str = .str (line0 m) :: .str (line1 m) :: ((m.ins.map fun i => .str (lineI i)) ++ m.con.map fun i => .str (lineC i)) := by
    simp [linesM, List.map_map, Function.comp_def]
  have sub : (fAsT (.tu [2, 3, 4, 5]) (fV 0)) (some (.fr (encM m)) :: List.replicate 7 none) = .ok (.nx, [fr (encM m), none, fr (encA m.ar), fr (dN m.fs), fr (.tuple (m.ins.map encI)), fr (.tuple (m.con.map encK)), none, none]) := by
    simp [q_mulAI, q_mulAL, a_wb, q_divW, Function.comp_def, q_starI, q_starIT, a_wp, a_fz, a_fz0, a_fz1, a_ext, a_ins, a_insA, a_pop, a_parN, a_evO0, a_evO1, a_setO0, a_setO1, a_ix2, a_setII, a_zN, a_zC, a_lcO, d_oo, pEq_int, pNe_int, pIxL, pIxT, atI_nat, atI_0, atI_1, atI_2, atI_3, atI_m1, cutLo, cutHi, cutLo1, cutHi1, a_seq, a_ifS, a_B, a_op, a_ov, a_ev0, a_evv, a_evs, a_C, a_V, a_M, a_set, a_setI, a_app, a_ret, a_ex, a_skip, a_no, a_not, a_andT, a_orT, a_and, a_or, a_notV, a_if, a_par, a_call, a_forS, a_sq, a_r1, a_r2, a_en, a_zp, a_asT, a_chI, a_yes, a_lc, a_fn, okA, f_fr, bkA, rsvs, rsv, dvs, on1, on2, d_fr, d_ol, rsO, ndS, sl, putB, asT, setAll, ofO, Dy.ints1, Dy.ints2, nE, wipeE, unw, frO, q_addI, q_addL, q_addT, q_addS, q_sub, q_div, q_mod, q_pow, q_neg, q_cm, pIs, pIsn, q_isN, q_isI, q_isS, q_isT, q_isL, q_isB, q_lenL, q_lenT, pTup, pLst, q_tupL, q_tupT, q_lstL, q_lstT, q_revL, q_slL, q_slT, q_shL, q_shT, q_sqL, q_sqT, q_intI, q_max2, q_min2, q_aII, q_aBI, q_aTI, q_aTT, q_aLL, q_aTL, q_aIT]
  have l1 : 2 + m.ins.length ≤ 1000000 := by omega
  have l2 : m.ins.length + 2 + m.con.length ≤ 1000000 := by omega
  rw [hlm] at E3
  simp only [Function.comp_def] at tj
  refine fn1_rt84 (N := 7) (e := [fr (encM m), fr (.list (.str (line0 m) :: .str (line1 m) :: ((m.ins.map fun i => .str (lineI i)) ++ m.con.map fun i => .str (lineC i)))), fr (encA m.ar), fr (dN m.fs), fr (.tuple (m.ins.map encI)), fr (.tuple (m.con.map encK)), none, none]) ?_
  unfold b_machine_text_of
  refine (sq86 sub).trans ?_
  clear sub hnl hlm
  unfold encA at *
  generalize encM m = MM at *
  generalize m.ar.map dN = XA at *
  generalize (m.ar.map fun k => PyData.str (numS k)) = XW at *
  have li : (m.ins.map fun i => PyData.str (lineI i)).length = m.ins.length := List.length_map _
  have lc : (m.con.map fun i => PyData.str (lineC i)).length = m.con.length := List.length_map _
  rw [← li] at l1
  rw [← li, ← lc] at l2
  generalize (m.ins.map fun i => PyData.str (lineI i)) = XL at *
  generalize (m.con.map fun i => PyData.str (lineC i)) = XC at *
  generalize m.ins.map encI = XI at *
  generalize m.con.map encK = XK at *
  generalize ((linesM m).map fun l => PyData.str (l ++ NL)) = XN at *
  generalize textM m = TM at *
  generalize line0 m = L0 at *
  generalize line1 m = L1 at *
  generalize Txt.join BLK (m.ar.map numS) = OJ at *
  generalize numS m.fs = FJ at *
  have s1 : (fFz [1] (fSet 1 (fOv pLst [.v (fOp (on2 pAdd) [.v (fC (.str "forms ")), .v (fOp (on1 pStr) [.s 3])]), .v (fOp (on2 pAdd) [.v (fC (.str "operators ")), .v (fM1 pJoin (fC (.str " ")) (.v (fCall M_words_of [.v (fV 2)])))])]))) [fr MM, none, fr (.tuple XA), fr (dN m.fs), fr (.tuple XI), fr (.tuple XK), none, none] =
      .ok (.nx, [fr MM, fr (.list [.str L0, .str L1]), fr (.tuple XA), fr (dN m.fs), fr (.tuple XI), fr (.tuple XK), none, none]) := by
    simp [q_mulAI, q_mulAL, a_wb, q_divW, Function.comp_def, q_starI, q_starIT, a_wp, a_fz, a_fz0, a_fz1, a_ext, a_ins, a_insA, a_pop, a_parN, a_evO0, a_evO1, a_setO0, a_setO1, a_ix2, a_setII, a_zN, a_zC, a_lcO, d_oo, pEq_int, pNe_int, pIxL, pIxT, atI_nat, atI_0, atI_1, atI_2, atI_3, atI_m1, cutLo, cutHi, cutLo1, cutHi1, a_seq, a_ifS, a_B, a_op, a_ov, a_ev0, a_evv, a_evs, a_C, a_V, a_M, a_set, a_setI, a_app, a_ret, a_ex, a_skip, a_no, a_not, a_andT, a_orT, a_and, a_or, a_notV, a_if, a_par, a_call, a_forS, a_sq, a_r1, a_r2, a_en, a_zp, a_asT, a_chI, a_yes, a_lc, a_fn, okA, f_fr, bkA, rsvs, rsv, dvs, on1, on2, d_fr, d_ol, rsO, ndS, sl, putB, asT, setAll, ofO, Dy.ints1, Dy.ints2, nE, wipeE, unw, frO, q_addI, q_addL, q_addT, q_sub, q_div, q_mod, q_pow, q_neg, q_cm, pIs, pIsn, q_isN, q_isI, q_isS, q_isT, q_isL, q_isB, q_lenL, q_lenT, pTup, pLst, q_tupL, q_tupT, q_lstL, q_lstT, q_revL, q_slL, q_slT, q_shL, q_shT, q_sqL, q_sqT, q_intI, q_max2, q_min2, q_aII, q_aBI, q_aTI, q_aTT, q_aLL, q_aTL, q_aIT, a_m1, f1, f2, w, o1, o2]
  have s2 : (fFz [1] (fSet 1 (fOp (on2 pAdd) [.s 1, .v (fLc (fSq (.v (fV 4))) [6] (.nm 6) (fYes) (E1_machine_text_of))]))) [fr MM, fr (.list [.str L0, .str L1]), fr (.tuple XA), fr (dN m.fs), fr (.tuple XI), fr (.tuple XK), none, none] =
      .ok (.nx, [fr MM, fr (.list (.str L0 :: .str L1 :: XL)), fr (.tuple XA), fr (dN m.fs), fr (.tuple XI), fr (.tuple XK), none, none]) := by
    have := E1 (.list [.str L0, .str L1]) (.tuple XA) (dN m.fs) (.tuple XI) (.tuple XK)
    simp [q_mulAI, q_mulAL, a_wb, q_divW, Function.comp_def, q_starI, q_starIT, a_wp, a_fz, a_fz0, a_fz1, a_ext, a_ins, a_insA, a_pop, a_parN, a_evO0, a_evO1, a_setO0, a_setO1, a_ix2, a_setII, a_zN, a_zC, a_lcO, d_oo, pEq_int, pNe_int, pIxL, pIxT, atI_nat, atI_0, atI_1, atI_2, atI_3, atI_m1, cutLo, cutHi, cutLo1, cutHi1, a_seq, a_ifS, a_B, a_op, a_ov, a_ev0, a_evv, a_evs, a_C, a_V, a_M, a_set, a_setI, a_app, a_ret, a_ex, a_skip, a_no, a_not, a_andT, a_orT, a_and, a_or, a_notV, a_if, a_par, a_call, a_forS, a_sq, a_r1, a_r2, a_en, a_zp, a_asT, a_chI, a_yes, a_lc, a_fn, okA, f_fr, bkA, rsvs, rsv, dvs, on1, on2, d_fr, d_ol, rsO, ndS, sl, putB, asT, setAll, ofO, Dy.ints1, Dy.ints2, nE, wipeE, unw, frO, q_addI, q_addL, q_addT, q_sub, q_div, q_mod, q_pow, q_neg, q_cm, pIs, pIsn, q_isN, q_isI, q_isS, q_isT, q_isL, q_isB, q_lenL, q_lenT, pTup, pLst, q_tupL, q_tupT, q_lstL, q_lstT, q_revL, q_slL, q_slT, q_shL, q_shT, q_sqL, q_sqT, q_intI, q_max2, q_min2, q_aII, q_aBI, q_aTI, q_aTT, q_aLL, q_aTL, q_aIT, this, l1]
  have s3 : (fFz [1] (fSet 1 (fOp (on2 pAdd) [.s 1, .v (fLc (fSq (.v (fV 5))) [6] (.nm 6) (fYes) (E2_machine_text_of))]))) [fr MM, fr (.list (.str L0 :: .str L1 :: XL)), fr (.tuple XA), fr (dN m.fs), fr (.tuple XI), fr (.tuple XK), none, none] =
      .ok (.nx, [fr MM, fr (.list (.str L0 :: .str L1 :: (XL ++ XC))), fr (.tuple XA), fr (dN m.fs), fr (.tuple XI), fr (.tuple XK), none, none]) := by
    have := E2 (.list (.str L0 :: .str L1 :: XL)) (.tuple XA) (dN m.fs) (.tuple XI) (.tuple XK)
    have l3 : XL.length + 1 + 1 + XC.length ≤ 1000000 := by omega
    simp [q_mulAI, q_mulAL, a_wb, q_divW, Function.comp_def, q_starI, q_starIT, a_wp, a_fz, a_fz0, a_fz1, a_ext, a_ins, a_insA, a_pop, a_parN, a_evO0, a_evO1, a_setO0, a_setO1, a_ix2, a_setII, a_zN, a_zC, a_lcO, d_oo, pEq_int, pNe_int, pIxL, pIxT, atI_nat, atI_0, atI_1, atI_2, atI_3, atI_m1, cutLo, cutHi, cutLo1, cutHi1, a_seq, a_ifS, a_B, a_op, a_ov, a_ev0, a_evv, a_evs, a_C, a_V, a_M, a_set, a_setI, a_app, a_ret, a_ex, a_skip, a_no, a_not, a_andT, a_orT, a_and, a_or, a_notV, a_if, a_par, a_call, a_forS, a_sq, a_r1, a_r2, a_en, a_zp, a_asT, a_chI, a_yes, a_lc, a_fn, okA, f_fr, bkA, rsvs, rsv, dvs, on1, on2, d_fr, d_ol, rsO, ndS, sl, putB, asT, setAll, ofO, Dy.ints1, Dy.ints2, nE, wipeE, unw, frO, q_addI, q_addL, q_addT, q_sub, q_div, q_mod, q_pow, q_neg, q_cm, pIs, pIsn, q_isN, q_isI, q_isS, q_isT, q_isL, q_isB, q_lenL, q_lenT, pTup, pLst, q_tupL, q_tupT, q_lstL, q_lstT, q_revL, q_slL, q_slT, q_shL, q_shT, q_sqL, q_sqT, q_intI, q_max2, q_min2, q_aII, q_aBI, q_aTI, q_aTT, q_aLL, q_aTL, q_aIT, this, l3]
  refine (sq86 s1).trans ((sq86 s2).trans ((sq86 s3).trans ?_))
  have := E3 (.tuple XA) (dN m.fs) (.tuple XI) (.tuple XK)
  simp [q_mulAI, q_mulAL, a_wb, q_divW, Function.comp_def, q_starI, q_starIT, a_wp, a_fz, a_fz0, a_fz1, a_ext, a_ins, a_insA, a_pop, a_parN, a_evO0, a_evO1, a_setO0, a_setO1, a_ix2, a_setII, a_zN, a_zC, a_lcO, d_oo, pEq_int, pNe_int, pIxL, pIxT, atI_nat, atI_0, atI_1, atI_2, atI_3, atI_m1, cutLo, cutHi, cutLo1, cutHi1, a_seq, a_ifS, a_B, a_op, a_ov, a_ev0, a_evv, a_evs, a_C, a_V, a_M, a_set, a_setI, a_app, a_ret, a_ex, a_skip, a_no, a_not, a_andT, a_orT, a_and, a_or, a_notV, a_if, a_par, a_call, a_forS, a_sq, a_r1, a_r2, a_en, a_zp, a_asT, a_chI, a_yes, a_lc, a_fn, okA, f_fr, bkA, rsvs, rsv, dvs, on1, on2, d_fr, d_ol, rsO, ndS, sl, putB, asT, setAll, ofO, Dy.ints1, Dy.ints2, nE, wipeE, unw, frO, q_addI, q_addL, q_addT, q_sub, q_div, q_mod, q_pow, q_neg, q_cm, pIs, pIsn, q_isN, q_isI, q_isS, q_isT, q_isL, q_isB, q_lenL, q_lenT, pTup, pLst, q_tupL, q_tupT, q_lstL, q_lstT, q_revL, q_slL, q_slT, q_shL, q_shT, q_sqL, q_sqT, q_intI, q_max2, q_min2, q_aII, q_aBI, q_aTI, q_aTT, q_aLL, q_aTL, q_aIT, a_m1, emp_eq, this, tj]
end Q
namespace Q
open PySem Dy
open L2 (atI ixN)
theorem kitIns {L : List PyData} {S T : Option O} {i : Ins} (h : ISm i) (hL : L.length < 1000000) :
    (asT (.tu [6, 7, 8, 9]) (encI i) [none, ol L, none, none, S, T, none, none, none, none, none, none, none, none, none] >>= L1__law_kit_text) = .ok (.nx, [none, ol (L ++ [.str (lineI i)]), none, none, S, T, none, none, none, none, none, none, none, none, none]) := by
  obtain ⟨c1, c2, c3, c4, c5, c6, c7, c8⟩ := cl1
  have n1 := numS_len h.f
  have n2 := numS_len h.o
  have n3 := numS_len h.p
  have s1 := q_str (show i.form < 1000 by have := h.f; omega)
  have s2 := q_str (show i.op < 1000 by have := h.o; omega)
  have s3 := q_str (show i.pr < 1000 by have := h.p; omega)
  have p1 := addS (a := numS i.form) (b := ARW) (by omega) (by omega)
  have p2 := addS (a := numS i.op) (b := COL) (by omega) (by omega)
  have hw : ∀ x ∈ i.args.map numS, x.length ≤ 2 := fun x hx => by
    obtain ⟨k, hk, rfl⟩ := List.mem_map.mp hx
    exact numS_len (h.a k hk)
  have ww : wt ((numS i.op ++ COL) :: (i.args.map numS ++ [ATS, numS i.pr])) ≤ 1000 := by
    have h1 := wt_le hw
    have h2 := h.l
    rw [List.length_map] at h1
    have h3 : i.args.length * (2 + 1) ≤ 6 := by omega
    rw [wt_cons, wt_app, wt_cons, wt_cons, wt_nil, str_app_len]
    omega
  have pj := q_joinB (Nat.le_trans ww (by decide))
  have jl := joinB_len ((numS i.op ++ COL) :: (i.args.map numS ++ [ATS, numS i.pr]))
  have p3 := addS (a := numS i.form ++ ARW) (b := Txt.join BLK ((numS i.op ++ COL) :: (i.args.map numS ++ [ATS, numS i.pr]))) (by rw [str_app_len]; omega) (by omega)
  rw [← lineI_law] at p3
  rw [List.map_cons, List.map_append, List.map_map] at pj
  simp only [Function.comp_def, List.map_cons, List.map_nil] at pj
  have e := lc_tm (vs := [14]) (t := .nm 14) (elt := E2__law_kit_text) (e := [none, ol L, none, none, S, T, fr (dN i.form), fr (dN i.op), fr (.tuple (i.args.map dN)), fr (dN i.pr), none, none, none, none, none]) dN (fun k => .str (numS k)) i.args rfl (fun k hk => by
    have := q_str (show k < 1000 by have := h.a k hk; omega)
    simp [E2__law_kit_text, q_mulAI, q_mulAL, a_wb, q_divW, Function.comp_def, q_starI, q_starIT, a_wp, a_fz, a_fz0, a_fz1, a_ext, a_ins, a_insA, a_pop, a_parN, a_evO0, a_evO1, a_setO0, a_setO1, a_ix2, a_setII, a_zN, a_zC, a_lcO, d_oo, pEq_int, pNe_int, pIxL, pIxT, atI_nat, atI_0, atI_1, atI_2, atI_3, atI_m1, cutLo, cutHi, cutLo1, cutHi1, a_seq, a_ifS, a_B, a_op, a_ov, a_ev0, a_evv, a_evs, a_C, a_V, a_M, a_set, a_setI, a_app, a_ret, a_ex, a_skip, a_no, a_not, a_andT, a_orT, a_and, a_or, a_notV, a_if, a_par, a_call, a_forS, a_sq, a_r1, a_r2, a_en, a_zp, a_asT, a_chI, a_yes, a_lc, a_fn, okA, f_fr, bkA, rsvs, rsv, dvs, on1, on2, d_fr, d_ol, rsO, ndS, sl, putB, asT, setAll, ofO, Dy.ints1, Dy.ints2, nE, wipeE, unw, frO, q_addI, q_addL, q_addT, q_sub, q_div, q_mod, q_pow, q_neg, q_cm, pIs, pIsn, q_isN, q_isI, q_isS, q_isT, q_isL, q_isB, q_lenL, q_lenT, pTup, pLst, q_tupL, q_tupT, q_lstL, q_lstT, q_revL, q_slL, q_slT, q_shL, q_shT, q_sqL, q_sqT, q_intI, q_max2, q_min2, q_aII, q_aBI, q_aTI, q_aTT, q_aLL, q_aTL, q_aIT, this]) (by have := h.l; omega)
  have l1 : 1 + i.args.length ≤ 1000000 := by have := h.l; omega
  have l2 : i.args.length + 1 + 2 ≤ 1000000 := by have := h.l; omega
  generalize Txt.join BLK ((numS i.op ++ COL) :: (i.args.map numS ++ [ATS, numS i.pr])) = JJ at *
  generalize lineI i = LI at *
  simp [L1__law_kit_text, q_mulAI, q_mulAL, a_wb, q_divW, Function.comp_def, q_starI, q_starIT, a_wp, a_fz, a_fz0, a_fz1, a_ext, a_ins, a_insA, a_pop, a_parN, a_evO0, a_evO1, a_setO0, a_setO1, a_ix2, a_setII, a_zN, a_zC, a_lcO, d_oo, pEq_int, pNe_int, pIxL, pIxT, atI_nat, atI_0, atI_1, atI_2, atI_3, atI_m1, cutLo, cutHi, cutLo1, cutHi1, a_seq, a_ifS, a_B, a_op, a_ov, a_ev0, a_evv, a_evs, a_C, a_V, a_M, a_set, a_setI, a_app, a_ret, a_ex, a_skip, a_no, a_not, a_andT, a_orT, a_and, a_or, a_notV, a_if, a_par, a_call, a_forS, a_sq, a_r1, a_r2, a_en, a_zp, a_asT, a_chI, a_yes, a_lc, a_fn, okA, f_fr, bkA, rsvs, rsv, dvs, on1, on2, d_fr, d_ol, rsO, ndS, sl, putB, asT, setAll, ofO, Dy.ints1, Dy.ints2, nE, wipeE, unw, frO, q_addI, q_addL, q_addT, q_sub, q_div, q_mod, q_pow, q_neg, q_cm, pIs, pIsn, q_isN, q_isI, q_isS, q_isT, q_isL, q_isB, q_lenL, q_lenT, pTup, pLst, q_tupL, q_tupT, q_lstL, q_lstT, q_revL, q_slL, q_slT, q_shL, q_shT, q_sqL, q_sqT, q_intI, q_max2, q_min2, q_aII, q_aBI, q_aTI, q_aTT, q_aLL, q_aTL, q_aIT, a_m1, s1, s2, s3, p1, p2, e, l1, l2, pj, p3, hL]
theorem kitCon {L : List PyData} {T : Option O} {c : Con} (h : CSm c) (hL : L.length < 1000000) :
    (asT (.tu [10, 11, 9]) (encK c) [none, ol L, none, none, none, T, none, none, none, none, none, none, none, none, none] >>= L2__law_kit_text) = .ok (.nx, [none, ol (L ++ [.str (lineC c)]), none, none, none, T, none, none, none, none, none, none, none, none, none]) := by
  obtain ⟨c1, c2, c3, c4, c5, c6, c7, c8⟩ := cl1
  have n1 := numS_len h.a
  have n2 := numS_len h.b
  have n3 := numS_len h.p
  have s1 := q_str (show c.a < 1000 by have := h.a; omega)
  have s2 := q_str (show c.b < 1000 by have := h.b; omega)
  have s3 := q_str (show c.pr < 1000 by have := h.p; omega)
  have p1 := addS (a := numS c.b) (b := ARW) (by omega) (by omega)
  have p2 := addS (a := numS c.b ++ ARW) (b := numS c.a) (by rw [str_app_len]; omega) (by omega)
  have p3 := addS (a := numS c.b ++ ARW ++ numS c.a) (b := ATB) (by simp only [str_app_len]; omega) (by omega)
  have p4 := addS (a := numS c.b ++ ARW ++ numS c.a ++ ATB) (b := numS c.pr) (by simp only [str_app_len]; omega) (by omega)
  rw [← lineC_law] at p4
  generalize lineC c = LC at *
  simp [L2__law_kit_text, q_mulAI, q_mulAL, a_wb, q_divW, Function.comp_def, q_starI, q_starIT, a_wp, a_fz, a_fz0, a_fz1, a_ext, a_ins, a_insA, a_pop, a_parN, a_evO0, a_evO1, a_setO0, a_setO1, a_ix2, a_setII, a_zN, a_zC, a_lcO, d_oo, pEq_int, pNe_int, pIxL, pIxT, atI_nat, atI_0, atI_1, atI_2, atI_3, atI_m1, cutLo, cutHi, cutLo1, cutHi1, a_seq, a_ifS, a_B, a_op, a_ov, a_ev0, a_evv, a_evs, a_C, a_V, a_M, a_set, a_setI, a_app, a_ret, a_ex, a_skip, a_no, a_not, a_andT, a_orT, a_and, a_or, a_notV, a_if, a_par, a_call, a_forS, a_sq, a_r1, a_r2, a_en, a_zp, a_asT, a_chI, a_yes, a_lc, a_fn, okA, f_fr, bkA, rsvs, rsv, dvs, on1, on2, d_fr, d_ol, rsO, ndS, sl, putB, asT, setAll, ofO, Dy.ints1, Dy.ints2, nE, wipeE, unw, frO, q_addI, q_addL, q_addT, q_sub, q_div, q_mod, q_pow, q_neg, q_cm, pIs, pIsn, q_isN, q_isI, q_isS, q_isT, q_isL, q_isB, q_lenL, q_lenT, pTup, pLst, q_tupL, q_tupT, q_lstL, q_lstT, q_revL, q_slL, q_slT, q_shL, q_shT, q_sqL, q_sqT, q_intI, q_max2, q_min2, q_aII, q_aBI, q_aTI, q_aTT, q_aLL, q_aTL, q_aIT, s1, s2, s3, p1, p2, p3, p4, hL]
theorem kitText {m : Mach} (h : MOk m) : M__law_kit_text [.fr (encM m)] = .ok (.fr (.str (textM m)), [.fr (encM m)]) := by
  have il := h.il
  have cl := h.cl
  have al := h.ar.len
  obtain ⟨f1, f2⟩ := foLine h
  obtain ⟨o1, o2⟩ := opLine h
  have tj := (textM_len h).2
  have hnl := nlLines h
  have E1 := lc_tm (vs := [13]) (t := .nm 13) (elt := E1__law_kit_text) (e := [fr (encM m), none, fr (encA m.ar), fr (dN m.fs), fr (.tuple (m.ins.map encI)), fr (.tuple (m.con.map encK)), none, none, none, none, none, none, none, none, none]) dN (fun k => .str (numS k)) m.ar rfl (fun k hk => by
    have := q_str (show k < 1000 by have := h.ar.le2 k hk; omega)
    simp [E1__law_kit_text, q_mulAI, q_mulAL, a_wb, q_divW, Function.comp_def, q_starI, q_starIT, a_wp, a_fz, a_fz0, a_fz1, a_ext, a_ins, a_insA, a_pop, a_parN, a_evO0, a_evO1, a_setO0, a_setO1, a_ix2, a_setII, a_zN, a_zC, a_lcO, d_oo, pEq_int, pNe_int, pIxL, pIxT, atI_nat, atI_0, atI_1, atI_2, atI_3, atI_m1, cutLo, cutHi, cutLo1, cutHi1, a_seq, a_ifS, a_B, a_op, a_ov, a_ev0, a_evv, a_evs, a_C, a_V, a_M, a_set, a_setI, a_app, a_ret, a_ex, a_skip, a_no, a_not, a_andT, a_orT, a_and, a_or, a_notV, a_if, a_par, a_call, a_forS, a_sq, a_r1, a_r2, a_en, a_zp, a_asT, a_chI, a_yes, a_lc, a_fn, okA, f_fr, bkA, rsvs, rsv, dvs, on1, on2, d_fr, d_ol, rsO, ndS, sl, putB, asT, setAll, ofO, Dy.ints1, Dy.ints2, nE, wipeE, unw, frO, q_addI, q_addL, q_addT, q_sub, q_div, q_mod, q_pow, q_neg, q_cm, pIs, pIsn, q_isN, q_isI, q_isS, q_isT, q_isL, q_isB, q_lenL, q_lenT, pTup, pLst, q_tupL, q_tupT, q_lstL, q_lstT, q_revL, q_slL, q_slT, q_shL, q_shT, q_sqL, q_sqT, q_intI, q_max2, q_min2, q_aII, q_aBI, q_aTI, q_aTT, q_aLL, q_aTL, q_aIT, this]) (by omega)
  obtain ⟨a1, q1, F1⟩ := for_l (t := .tu [6, 7, 8, 9]) (body := L1__law_kit_text) encI (fun L : List PyData => [none, ol L, none, none, fr (.tuple (m.ins.map encI)), fr (.tuple (m.con.map encK)), none, none, none, none, none, none, none, none, none]) (fun pre L => L = .str (line0 m) :: .str (line1 m) :: pre.map fun i => .str (lineI i)) m.ins (s := [.str (line0 m), .str (line1 m)]) rfl (fun pre i post L e hp => by
    have hi : i ∈ m.ins := by rw [e]; simp
    have hl := congrArg List.length e
    simp at hl
    exact ⟨_, by rw [hp]; simp, kitIns (ism h hi) (by rw [hp]; simp; omega)⟩)
  obtain ⟨a2, q2, F2⟩ := for_l (t := .tu [10, 11, 9]) (body := L2__law_kit_text) encK (fun L : List PyData => [none, ol L, none, none, none, fr (.tuple (m.con.map encK)), none, none, none, none, none, none, none, none, none]) (fun pre L => L = a1 ++ pre.map fun i => .str (lineC i)) m.con (s := a1) (by simp) (fun pre i post L e hp => by
    have hi : i ∈ m.con := by rw [e]; simp
    have hl := congrArg List.length e
    simp at hl
    have h1 : a1.length = m.ins.length + 2 := by rw [q1]; simp
    exact ⟨_, by rw [hp]; simp, kitCon (csm h hi) (by rw [hp]; simp [h1]; omega)⟩)
  have hlm : a2 = (linesM m).map PyData.str := by rw [q2, q1]; simp [linesM, List.map_map, Function.comp_def]
  have E3 := lc_tm (vs := [12]) (t := .nm 12) (elt := E3__law_kit_text) (e := [none, fr (.list a2), none, none, none, none, none, none, none, none, none, none, none, none, none]) PyData.str (fun l => .str (l ++ NL)) (linesM m) hlm (fun l hl => by
      have e := hnl l hl
      simp [E3__law_kit_text, q_mulAI, q_mulAL, a_wb, q_divW, Function.comp_def, q_starI, q_starIT, a_wp, a_fz, a_fz0, a_fz1, a_ext, a_ins, a_insA, a_pop, a_parN, a_evO0, a_evO1, a_setO0, a_setO1, a_ix2, a_setII, a_zN, a_zC, a_lcO, d_oo, pEq_int, pNe_int, pIxL, pIxT, atI_nat, atI_0, atI_1, atI_2, atI_3, atI_m1, cutLo, cutHi, cutLo1, cutHi1, a_seq, a_ifS, a_B, a_op, a_ov, a_ev0, a_evv, a_evs, a_C, a_V, a_M, a_set, a_setI, a_app, a_ret, a_ex, a_skip, a_no, a_not, a_andT, a_orT, a_and, a_or, a_notV, a_if, a_par, a_call, a_forS, a_sq, a_r1, a_r2, a_en, a_zp, a_asT, a_chI, a_yes, a_lc, a_fn, okA, f_fr, bkA, rsvs, rsv, dvs, on1, on2, d_fr, d_ol, rsO, ndS, sl, putB, asT, setAll, ofO, Dy.ints1, Dy.ints2, nE, wipeE, unw, frO, q_addI, q_addL, q_addT, q_sub, q_div, q_mod, q_pow, q_neg, q_cm, pIs, pIsn, q_isN, q_isI, q_isS, q_isT, q_isL, q_isB, q_lenL, q_lenT, pTup, pLst, q_tupL, q_tupT, q_lstL, q_lstT, q_revL, q_slL, q_slT, q_shL, q_shT, q_sqL, q_sqT, q_intI, q_max2, q_min2, q_aII, q_aBI, q_aTI, q_aTT, q_aLL, q_aTL, q_aIT, e]) (by have := lines_many h; omega)
  rw [List.map_map] at tj
  simp only [Function.comp_def] at tj
  have sub : (fAsT (.tu [2, 3, 4, 5]) (fV 0)) (some (.fr (encM m)) :: List.replicate 14 none) = .ok (.nx, [fr (encM m), none, fr (encA m.ar), fr (dN m.fs), fr (.tuple (m.ins.map encI)), fr (.tuple (m.con.map encK)), none, none, none, none, none, none, none, none, none]) := by
    simp [q_mulAI, q_mulAL, a_wb, q_divW, Function.comp_def, q_starI, q_starIT, a_wp, a_fz, a_fz0, a_fz1, a_ext, a_ins, a_insA, a_pop, a_parN, a_evO0, a_evO1, a_setO0, a_setO1, a_ix2, a_setII, a_zN, a_zC, a_lcO, d_oo, pEq_int, pNe_int, pIxL, pIxT, atI_nat, atI_0, atI_1, atI_2, atI_3, atI_m1, cutLo, cutHi, cutLo1, cutHi1, a_seq, a_ifS, a_B, a_op, a_ov, a_ev0, a_evv, a_evs, a_C, a_V, a_M, a_set, a_setI, a_app, a_ret, a_ex, a_skip, a_no, a_not, a_andT, a_orT, a_and, a_or, a_notV, a_if, a_par, a_call, a_forS, a_sq, a_r1, a_r2, a_en, a_zp, a_asT, a_chI, a_yes, a_lc, a_fn, okA, f_fr, bkA, rsvs, rsv, dvs, on1, on2, d_fr, d_ol, rsO, ndS, sl, putB, asT, setAll, ofO, Dy.ints1, Dy.ints2, nE, wipeE, unw, frO, q_addI, q_addL, q_addT, q_addS, q_sub, q_div, q_mod, q_pow, q_neg, q_cm, pIs, pIsn, q_isN, q_isI, q_isS, q_isT, q_isL, q_isB, q_lenL, q_lenT, pTup, pLst, q_tupL, q_tupT, q_lstL, q_lstT, q_revL, q_slL, q_slT, q_shL, q_shT, q_sqL, q_sqT, q_intI, q_max2, q_min2, q_aII, q_aBI, q_aTI, q_aTT, q_aLL, q_aTL, q_aIT]
  clear hlm q2 q1 hnl
  refine fn1_rt84 (N := 14) (e := [none, fr (.list a2), none, none, none, none, none, none, none, none, none, none, none, none, none]) ?_
  unfold b__law_kit_text
  refine (sq86 sub).trans ?_
  clear sub
  unfold encA at *
  generalize encM m = MM at *
  generalize m.ar.map dN = XA at *
  generalize (m.ar.map fun k => PyData.str (numS k)) = XW at *
  generalize m.ins.map encI = XI at *
  generalize m.con.map encK = XK at *
  generalize ((linesM m).map fun l => PyData.str (l ++ NL)) = XN at *
  generalize textM m = TM at *
  generalize line0 m = L0 at *
  generalize line1 m = L1 at *
  generalize Txt.join BLK (m.ar.map numS) = OJ at *
  generalize numS m.fs = FJ at *
  have s1 : (fWp [0, 2, 3] (fSet 1 (fOv pLst [.v (fOp (on2 pAdd) [.v (fC (.str "forms ")), .v (fOp (on1 pStr) [.s 3])]), .v (fOp (on2 pAdd) [.v (fC (.str "operators ")), .v (fM1 pJoin (fC (.str " ")) (.v (fLc (fSq (.v (fV 2))) [13] (.nm 13) (fYes) (E1__law_kit_text))))])]))) [fr MM, none, fr (.tuple XA), fr (dN m.fs), fr (.tuple XI), fr (.tuple XK), none, none, none, none, none, none, none, none, none] =
      .ok (.nx, [none, ol [.str L0, .str L1], none, none, fr (.tuple XI), fr (.tuple XK), none, none, none, none, none, none, none, none, none]) := by
    simp [q_mulAI, q_mulAL, a_wb, q_divW, Function.comp_def, q_starI, q_starIT, a_wp, a_fz, a_fz0, a_fz1, a_ext, a_ins, a_insA, a_pop, a_parN, a_evO0, a_evO1, a_setO0, a_setO1, a_ix2, a_setII, a_zN, a_zC, a_lcO, d_oo, pEq_int, pNe_int, pIxL, pIxT, atI_nat, atI_0, atI_1, atI_2, atI_3, atI_m1, cutLo, cutHi, cutLo1, cutHi1, a_seq, a_ifS, a_B, a_op, a_ov, a_ev0, a_evv, a_evs, a_C, a_V, a_M, a_set, a_setI, a_app, a_ret, a_ex, a_skip, a_no, a_not, a_andT, a_orT, a_and, a_or, a_notV, a_if, a_par, a_call, a_forS, a_sq, a_r1, a_r2, a_en, a_zp, a_asT, a_chI, a_yes, a_lc, a_fn, okA, f_fr, bkA, rsvs, rsv, dvs, on1, on2, d_fr, d_ol, rsO, ndS, sl, putB, asT, setAll, ofO, Dy.ints1, Dy.ints2, nE, wipeE, unw, frO, q_addI, q_addL, q_addT, q_sub, q_div, q_mod, q_pow, q_neg, q_cm, pIs, pIsn, q_isN, q_isI, q_isS, q_isT, q_isL, q_isB, q_lenL, q_lenT, pTup, pLst, q_tupL, q_tupT, q_lstL, q_lstT, q_revL, q_slL, q_slT, q_shL, q_shT, q_sqL, q_sqT, q_intI, q_max2, q_min2, q_aII, q_aBI, q_aTI, q_aTT, q_aLL, q_aTL, q_aIT, a_m1, f1, f2, E1, o1, o2]
  have s2 : (fWp [4, 6, 7, 8, 9] (fForS (fSq (.v (fV 4))) (.tu [6, 7, 8, 9]) (L1__law_kit_text))) [none, ol [.str L0, .str L1], none, none, fr (.tuple XI), fr (.tuple XK), none, none, none, none, none, none, none, none, none] =
      .ok (.nx, [none, ol a1, none, none, none, fr (.tuple XK), none, none, none, none, none, none, none, none, none]) := by
    simp [q_mulAI, q_mulAL, a_wb, q_divW, Function.comp_def, q_starI, q_starIT, a_wp, a_fz, a_fz0, a_fz1, a_ext, a_ins, a_insA, a_pop, a_parN, a_evO0, a_evO1, a_setO0, a_setO1, a_ix2, a_setII, a_zN, a_zC, a_lcO, d_oo, pEq_int, pNe_int, pIxL, pIxT, atI_nat, atI_0, atI_1, atI_2, atI_3, atI_m1, cutLo, cutHi, cutLo1, cutHi1, a_seq, a_ifS, a_B, a_op, a_ov, a_ev0, a_evv, a_evs, a_C, a_V, a_M, a_set, a_setI, a_app, a_ret, a_ex, a_skip, a_no, a_not, a_andT, a_orT, a_and, a_or, a_notV, a_if, a_par, a_call, a_forS, a_sq, a_r1, a_r2, a_en, a_zp, a_asT, a_chI, a_yes, a_lc, a_fn, okA, f_fr, bkA, rsvs, rsv, dvs, on1, on2, d_fr, d_ol, rsO, ndS, sl, putB, asT, setAll, ofO, Dy.ints1, Dy.ints2, nE, wipeE, unw, frO, q_addI, q_addL, q_addT, q_sub, q_div, q_mod, q_pow, q_neg, q_cm, pIs, pIsn, q_isN, q_isI, q_isS, q_isT, q_isL, q_isB, q_lenL, q_lenT, pTup, pLst, q_tupL, q_tupT, q_lstL, q_lstT, q_revL, q_slL, q_slT, q_shL, q_shT, q_sqL, q_sqT, q_intI, q_max2, q_min2, q_aII, q_aBI, q_aTI, q_aTT, q_aLL, q_aTL, q_aIT, F1]
  have s3 : (fWp [5, 9, 10, 11] (fForS (fSq (.v (fV 5))) (.tu [10, 11, 9]) (L2__law_kit_text))) [none, ol a1, none, none, none, fr (.tuple XK), none, none, none, none, none, none, none, none, none] =
      .ok (.nx, [none, ol a2, none, none, none, none, none, none, none, none, none, none, none, none, none]) := by
    simp [q_mulAI, q_mulAL, a_wb, q_divW, Function.comp_def, q_starI, q_starIT, a_wp, a_fz, a_fz0, a_fz1, a_ext, a_ins, a_insA, a_pop, a_parN, a_evO0, a_evO1, a_setO0, a_setO1, a_ix2, a_setII, a_zN, a_zC, a_lcO, d_oo, pEq_int, pNe_int, pIxL, pIxT, atI_nat, atI_0, atI_1, atI_2, atI_3, atI_m1, cutLo, cutHi, cutLo1, cutHi1, a_seq, a_ifS, a_B, a_op, a_ov, a_ev0, a_evv, a_evs, a_C, a_V, a_M, a_set, a_setI, a_app, a_ret, a_ex, a_skip, a_no, a_not, a_andT, a_orT, a_and, a_or, a_notV, a_if, a_par, a_call, a_forS, a_sq, a_r1, a_r2, a_en, a_zp, a_asT, a_chI, a_yes, a_lc, a_fn, okA, f_fr, bkA, rsvs, rsv, dvs, on1, on2, d_fr, d_ol, rsO, ndS, sl, putB, asT, setAll, ofO, Dy.ints1, Dy.ints2, nE, wipeE, unw, frO, q_addI, q_addL, q_addT, q_sub, q_div, q_mod, q_pow, q_neg, q_cm, pIs, pIsn, q_isN, q_isI, q_isS, q_isT, q_isL, q_isB, q_lenL, q_lenT, pTup, pLst, q_tupL, q_tupT, q_lstL, q_lstT, q_revL, q_slL, q_slT, q_shL, q_shT, q_sqL, q_sqT, q_intI, q_max2, q_min2, q_aII, q_aBI, q_aTI, q_aTT, q_aLL, q_aTL, q_aIT, F2]
  refine (sq86 s1).trans ((sq86 s2).trans ((sq86 s3).trans ?_))
  simp [q_mulAI, q_mulAL, a_wb, q_divW, Function.comp_def, q_starI, q_starIT, a_wp, a_fz, a_fz0, a_fz1, a_ext, a_ins, a_insA, a_pop, a_parN, a_evO0, a_evO1, a_setO0, a_setO1, a_ix2, a_setII, a_zN, a_zC, a_lcO, d_oo, pEq_int, pNe_int, pIxL, pIxT, atI_nat, atI_0, atI_1, atI_2, atI_3, atI_m1, cutLo, cutHi, cutLo1, cutHi1, a_seq, a_ifS, a_B, a_op, a_ov, a_ev0, a_evv, a_evs, a_C, a_V, a_M, a_set, a_setI, a_app, a_ret, a_ex, a_skip, a_no, a_not, a_andT, a_orT, a_and, a_or, a_notV, a_if, a_par, a_call, a_forS, a_sq, a_r1, a_r2, a_en, a_zp, a_asT, a_chI, a_yes, a_lc, a_fn, okA, f_fr, bkA, rsvs, rsv, dvs, on1, on2, d_fr, d_ol, rsO, ndS, sl, putB, asT, setAll, ofO, Dy.ints1, Dy.ints2, nE, wipeE, unw, frO, q_addI, q_addL, q_addT, q_sub, q_div, q_mod, q_pow, q_neg, q_cm, pIs, pIsn, q_isN, q_isI, q_isS, q_isT, q_isL, q_isB, q_lenL, q_lenT, pTup, pLst, q_tupL, q_tupT, q_lstL, q_lstT, q_revL, q_slL, q_slT, q_shL, q_shT, q_sqL, q_sqT, q_intI, q_max2, q_min2, q_aII, q_aBI, q_aTI, q_aTT, q_aLL, q_aTL, q_aIT, a_m1, emp_eq, E3, tj]
end Q
namespace Q
open PySem Dy
open L2 (atI ixN)
theorem cutS_tx (z : Str) (lo hi : Option Int) : tx (L2.cutS z lo hi) = cutD (tx z) lo hi := by
  unfold L2.cutS cutD
  rw [tx_mk, tx_len]
  rfl
theorem cut_mid {α : Type} (a b c : List α) (hc : c ≠ []) : cutD (a ++ (b ++ c)) (some (a.length : Int)) (some (-(c.length : Int))) = b := by
  have h0 : 0 < c.length := List.length_pos_iff.mpr hc
  unfold cutD HT.sIx
  have h1 : ¬ ((a.length : Int) < 0) := by omega
  have h2 : (-(c.length : Int)) < 0 := by omega
  simp only [h1, h2, if_true, if_false]
  have e1 : min ((a.length : Int).toNat) (a ++ (b ++ c)).length = a.length := by simp
  have e2 : ((-(c.length : Int)) + ((a ++ (b ++ c)).length : Int)).toNat = a.length + b.length := by simp; omega
  rw [e1, e2, List.drop_left]
  have e3 : a.length + b.length - a.length = b.length := by omega
  rw [e3, List.take_left]
theorem cut_init {α : Type} (b c : List α) (hc : c ≠ []) : cutD (b ++ c) none (some (-(c.length : Int))) = b := by
  have h0 : 0 < c.length := List.length_pos_iff.mpr hc
  unfold cutD HT.sIx
  have h2 : (-(c.length : Int)) < 0 := by omega
  simp only [h2, if_true, if_false]
  have e2 : ((-(c.length : Int)) + ((b ++ c).length : Int)).toNat = b.length := by simp; omega
  rw [e2, List.drop_zero, Nat.sub_zero, List.take_left]
theorem cutS_drop (a b : Str) : L2.cutS (a ++ b) (some (a.length : Int)) none = b := tx_inj (by
  rw [cutS_tx, tx_app, ← tx_len a, cutLo, List.drop_left])
theorem cutS_init (b c : Str) (h : tx c ≠ []) : L2.cutS (b ++ c) none (some (-(c.length : Int))) = b := tx_inj (by
  rw [cutS_tx, tx_app, ← tx_len c, cut_init _ _ h])
theorem nc_join {s : Nat} {y : Str} (hy : s ∉ tx y) : ∀ {ps : List Str}, (∀ p ∈ ps, s ∉ tx p) → s ∉ tx (Str.join y ps)
  | [], _ => by simp [Str.join, tx, Str.empty]
  | [p], h => h p (by simp)
  | p :: q :: r, h => by
    have ih := nc_join hy (ps := q :: r) fun z hz => h z (List.mem_cons_of_mem _ hz)
    show s ∉ tx (p ++ y ++ Str.join y (q :: r))
    rw [tx_app, tx_app, List.mem_append, List.mem_append]
    rintro ((z | z) | z)
    · exact h p (by simp) z
    · exact hy z
    · exact ih z
theorem nc_num {s n : Nat} (h : s < 48 ∨ 57 < s) : s ∉ tx (numS n) := by rw [numS_tx]; exact TL.numL_free h
theorem nc_app {s : Nat} {a b : Str} (h : s ∉ tx a) (h' : s ∉ tx b) : s ∉ tx (a ++ b) := by rw [tx_app, List.mem_append]; rintro (z | z); exact h z; exact h' z
theorem cs10 : 10 ∉ tx BLK ∧ 10 ∉ tx ARR ∧ 10 ∉ tx COL ∧ 10 ∉ tx ATS ∧ 10 ∉ tx ("forms " : Str) ∧ 10 ∉ tx ("operators " : Str) := by decide +kernel
theorem cs32 : 32 ∉ tx ARR ∧ 32 ∉ tx COL ∧ 32 ∉ tx ATS := by decide +kernel
theorem wI_nc {s : Nat} (hs : s < 48 ∨ 57 < s) (h1 : s ∉ tx ARR) (h2 : s ∉ tx COL) (h3 : s ∉ tx ATS) (i : Ins) : ∀ w ∈ wI i, s ∉ tx w := fun w hw => by
  simp only [wI, List.mem_cons, List.mem_append, List.mem_map, List.not_mem_nil, or_false] at hw
  rcases hw with rfl | rfl | rfl | ⟨k, hk, rfl⟩ | rfl | rfl
  · exact nc_num hs
  · exact h1
  · exact nc_app (nc_num hs) h2
  · exact nc_num hs
  · exact h3
  · exact nc_num hs
theorem wC_nc {s : Nat} (hs : s < 48 ∨ 57 < s) (h1 : s ∉ tx ARR) (h3 : s ∉ tx ATS) (c : Con) : ∀ w ∈ wC c, s ∉ tx w := fun w hw => by
  simp only [wC, List.mem_cons, List.not_mem_nil, or_false] at hw
  rcases hw with rfl | rfl | rfl | rfl | rfl
  · exact nc_num hs
  · exact h1
  · exact nc_num hs
  · exact h3
  · exact nc_num hs
theorem lines_nc (m : Mach) : ∀ l ∈ linesM m, 10 ∉ tx l := fun l hl => by
  obtain ⟨a1, a2, a3, a4, a5, a6⟩ := cs10
  simp only [linesM, List.mem_cons, List.mem_append, List.mem_map] at hl
  rcases hl with rfl | rfl | ⟨i, hi, rfl⟩ | ⟨c, hc, rfl⟩
  · exact nc_app a5 (nc_num (by decide))
  · refine nc_app a6 ?_
    rw [TL.join_eq]
    refine nc_join a1 fun p hp => ?_
    obtain ⟨k, hk, rfl⟩ := List.mem_map.mp hp
    exact nc_num (by decide)
  · unfold lineI; rw [TL.join_eq]; exact nc_join a1 (wI_nc (by decide) a2 a3 a4 i)
  · unfold lineC; rw [TL.join_eq]; exact nc_join a1 (wC_nc (by decide) a2 a4 c)
theorem nl_tx : tx NL = [10] := by decide +kernel
theorem nl_ne : tx NL ≠ [] := by rw [nl_tx]; decide
theorem nl_asc : ∀ c ∈ tx NL, c < 256 := by rw [nl_tx]; decide
theorem join0_tx : ∀ ps : List Str, tx (Str.join Str.empty ps) = (ps.map tx).flatten
  | [] => rfl
  | [p] => by show tx p = _; simp
  | p :: q :: r => by
    show tx (p ++ Str.empty ++ Str.join Str.empty (q :: r)) = _
    rw [tx_app, tx_app, join0_tx (q :: r)]
    have : tx Str.empty = [] := rfl
    rw [this]; simp
theorem spl_lines : ∀ ls : List (List Nat), (∀ l ∈ ls, 10 ∉ l) → TL.spl [10] 0 [] ((ls.map fun l => l ++ [10]).flatten) = ls ++ [[]]
  | [], _ => by simp [TL.spl_nil]
  | l :: ls, h => by
    rw [List.map_cons, List.flatten_cons, List.append_assoc]
    show TL.spl [10] 0 [] (l ++ ([10] ++ _)) = _
    rw [TL.spl_part1 (S := []) (h l (by simp)), spl_lines ls fun z hz => h z (by simp [hz])]
    simp
theorem map_tx_inj : ∀ {a b : List Str}, a.map tx = b.map tx → a = b
  | [], [], _ => rfl
  | x :: a, y :: b, h => by
    rw [List.map_cons, List.map_cons] at h
    injection h with h1 h2
    rw [tx_inj h1, map_tx_inj h2]
  | [], y :: b, h => by simp at h
  | x :: a, [], h => by simp at h
theorem split_lines (m : Mach) : Txt.split (textM m) NL = linesM m ++ [Str.empty] := by
  refine map_tx_inj ?_
  rw [split_tx nl_ne nl_asc, nl_tx]
  unfold textM
  rw [TL.join_eq, join0_tx, List.map_map]
  have e : (tx ∘ fun l : Str => l ++ NL) = (fun l => l ++ [10]) ∘ tx := by
    funext l
    show tx (l ++ NL) = tx l ++ [10]
    rw [tx_app, nl_tx]
  rw [e, ← List.map_map, spl_lines _ (fun l hl => by
    obtain ⟨z, hz, rfl⟩ := List.mem_map.mp hl
    exact lines_nc m z hz)]
  rw [List.map_append]
  rfl
theorem splitB {ws : List Str} (hne : ws ≠ []) (h : ∀ w ∈ ws, 32 ∉ tx w) : Txt.split (Txt.join BLK ws) BLK = ws :=
  TL.split_join (s := 32) (S := []) blk_tx (by decide +kernel) hne h
theorem split_I (i : Ins) : Txt.split (lineI i) BLK = wI i := by
  obtain ⟨a2, a3, a4⟩ := cs32
  exact splitB (by simp [wI]) (wI_nc (by decide) a2 a3 a4 i)
theorem split_C (c : Con) : Txt.split (lineC c) BLK = wC c := by
  obtain ⟨a2, a3, a4⟩ := cs32
  exact splitB (by simp [wC]) (wC_nc (by decide) a2 a4 c)
theorem split_A {m : Mach} (h : MOk m) : Txt.split (Txt.join BLK (m.ar.map numS)) BLK = m.ar.map numS := by
  refine splitB (fun z => ?_) fun w hw => ?_
  · have := h.ar.pos
    have e := congrArg List.length z
    rw [List.length_map, List.length_nil] at e; omega
  · obtain ⟨k, hk, rfl⟩ := List.mem_map.mp hw
    exact nc_num (by decide)
theorem nrd_num {n : Nat} (h : n < 100) : nrd (numS n) = dN n := by
  unfold nrd
  rw [numS_tx, if_neg, TL.numL_val]
  rintro (z | z | ⟨z1, z2⟩)
  · exact TL.numL_ne n z
  · have : (TL.numL n).all dgt = true := List.all_eq_true.mpr fun c hc => by
      have := TL.numL_digits n c hc
      exact decide_eq_true this
    rw [this] at z; cases z
  · by_cases c : n < 10
    · rw [TL.numL_lt c] at z1 z2
      simp at z1
      subst z1
      exact z2 rfl
    · rw [TL.numL_step (by omega), TL.numL_lt (n := n / 10) (by omega)] at z1
      simp at z1
      omega
end Q
namespace Q
open PySem Dy
open L2 (atI ixN)
theorem nums_gen {ws : List Str} (h : ∀ w ∈ ws, TOk 90 w ∧ w.length ≤ 1000) (hl : ws.length ≤ 100000) : M_numbers_in [.fr (.list (ws.map .str))] = .ok (.ol (ws.map nrd), [.fr (.list (ws.map .str))]) := by
  have e := lc_tm (vs := [1]) (t := .nm 1) (elt := E1_numbers_in) (e := V_numbers_in (some (.fr (.list (ws.map .str))))) PyData.str nrd ws rfl (fun w hw => by
    obtain ⟨h1, h2⟩ := h w hw
    have e1 := numread (h1.mono (show 90 ≤ 640 by decide)) (by decide) (by omega)
    simp [E1_numbers_in, q_mulAI, q_mulAL, a_wb, q_divW, Function.comp_def, q_starI, q_starIT, a_wp, a_fz, a_fz0, a_fz1, a_ext, a_ins, a_insA, a_pop, a_parN, a_evO0, a_evO1, a_setO0, a_setO1, a_ix2, a_setII, a_zN, a_zC, a_lcO, d_oo, pEq_int, pNe_int, pIxL, pIxT, atI_nat, atI_0, atI_1, atI_2, atI_3, atI_m1, cutLo, cutHi, cutLo1, cutHi1, a_seq, a_ifS, a_B, a_op, a_ov, a_ev0, a_evv, a_evs, a_C, a_V, a_M, a_set, a_setI, a_app, a_ret, a_ex, a_skip, a_no, a_not, a_andT, a_orT, a_and, a_or, a_notV, a_if, a_par, a_call, a_forS, a_sq, a_r1, a_r2, a_en, a_zp, a_asT, a_chI, a_yes, a_lc, a_fn, okA, f_fr, bkA, rsvs, rsv, dvs, on1, on2, d_fr, d_ol, rsO, ndS, sl, putB, asT, setAll, ofO, Dy.ints1, Dy.ints2, nE, wipeE, unw, frO, q_addI, q_addL, q_addT, q_addS, q_sub, q_div, q_mod, q_pow, q_neg, q_cm, pIs, pIsn, q_isN, q_isI, q_isS, q_isT, q_isL, q_isB, q_lenL, q_lenT, pTup, pLst, q_tupL, q_tupT, q_lstL, q_lstT, q_revL, q_slL, q_slT, q_shL, q_shT, q_sqL, q_sqT, q_intI, q_max2, q_min2, q_aII, q_aBI, q_aTI, q_aTT, q_aLL, q_aTL, q_aIT, e1]) hl
  simp [M_numbers_in, b_numbers_in, q_mulAI, q_mulAL, a_wb, q_divW, Function.comp_def, q_starI, q_starIT, a_wp, a_fz, a_fz0, a_fz1, a_ext, a_ins, a_insA, a_pop, a_parN, a_evO0, a_evO1, a_setO0, a_setO1, a_ix2, a_setII, a_zN, a_zC, a_lcO, d_oo, pEq_int, pNe_int, pIxL, pIxT, atI_nat, atI_0, atI_1, atI_2, atI_3, atI_m1, cutLo, cutHi, cutLo1, cutHi1, a_seq, a_ifS, a_B, a_op, a_ov, a_ev0, a_evv, a_evs, a_C, a_V, a_M, a_set, a_setI, a_app, a_ret, a_ex, a_skip, a_no, a_not, a_andT, a_orT, a_and, a_or, a_notV, a_if, a_par, a_call, a_forS, a_sq, a_r1, a_r2, a_en, a_zp, a_asT, a_chI, a_yes, a_lc, a_fn, okA, f_fr, bkA, rsvs, rsv, dvs, on1, on2, d_fr, d_ol, rsO, ndS, sl, putB, asT, setAll, ofO, Dy.ints1, Dy.ints2, nE, wipeE, unw, frO, q_addI, q_addL, q_addT, q_addS, q_sub, q_div, q_mod, q_pow, q_neg, q_cm, pIs, pIsn, q_isN, q_isI, q_isS, q_isT, q_isL, q_isB, q_lenL, q_lenT, pTup, pLst, q_tupL, q_tupT, q_lstL, q_lstT, q_revL, q_slL, q_slT, q_shL, q_shT, q_sqL, q_sqT, q_intI, q_max2, q_min2, q_aII, q_aBI, q_aTI, q_aTT, q_aLL, q_aTL, q_aIT, e]
theorem nums_num {ns : List Nat} (h : ∀ k ∈ ns, k < 100) (hl : ns.length ≤ 1000) : M_numbers_in [.fr (.list (ns.map fun k => .str (numS k)))] = .ok (.ol (ns.map dN), [.fr (.list (ns.map fun k => .str (numS k)))]) := by
  have e := nums_gen (ws := ns.map numS) (fun w hw => by
    obtain ⟨k, hk, rfl⟩ := List.mem_map.mp hw
    exact ⟨(numS_ok (h k hk)).mono (by decide), by have := numS_len (h k hk); omega⟩) (by rw [List.length_map]; omega)
  rw [List.map_map, List.map_map] at e
  have e2 : ns.map (nrd ∘ numS) = ns.map dN := List.map_congr_left fun k hk => nrd_num (h k hk)
  rw [e2] at e
  exact e
theorem ix_last {l : List PyData} {x : PyData} : pIx (.list (l ++ [x])) (.int (-1)) = some (.fr x) := by
  rw [pIxL, atI_m1, List.getLast?_concat]; rfl
theorem insIn {i : Ins} (h : ISm i) : M_instruction_in [.fr (.list ((wI i).map .str))] = .ok (.fr (encI i), [.fr (.list ((wI i).map .str))]) := by
  have e := nums_num (ns := i.form :: i.op :: (i.args ++ [i.pr])) (fun k hk => by
    simp only [List.mem_cons, List.mem_append, List.not_mem_nil, or_false] at hk
    rcases hk with rfl | rfl | hk | rfl
    · exact h.f
    · exact h.o
    · exact h.a k hk
    · exact h.p) (by have := h.l; simp; omega)
  have hW : (wI i).map PyData.str = .str (numS i.form) :: .str ARR :: .str (numS i.op ++ COL) :: ((i.args.map fun k => .str (numS k)) ++ [.str ATS, .str (numS i.pr)]) := by simp [wI, List.map_map, Function.comp_def]
  have hl := h.l
  have n2 := numS_len h.o
  obtain ⟨c1, c2, c3, c4, c5, c6, c7, c8⟩ := cl1
  have k1 : pSl2h (.str (numS i.op ++ COL)) (.int (-1)) = some (.fr (.str (numS i.op))) := by
    rw [q_shS _ _ (by rw [str_app_len]; omega)]
    have := cutS_init (numS i.op) COL (by decide +kernel)
    rw [c3] at this
    have e : (-((1 : Nat) : Int)) = (-1 : Int) := rfl
    rw [e] at this
    rw [this]
  have k2 : cutD ((wI i).map PyData.str) (some 3) (some (-2)) = i.args.map fun k => .str (numS k) := by
    rw [hW]
    exact cut_mid [PyData.str (numS i.form), .str ARR, .str (numS i.op ++ COL)] (i.args.map fun k => PyData.str (numS k)) [.str ATS, .str (numS i.pr)] (by simp)
  have k3 : cutD ((i.form :: i.op :: (i.args ++ [i.pr])).map dN) (some 2) (some (-1)) = i.args.map dN := by
    have := cut_mid [dN i.form, dN i.op] (i.args.map dN) [dN i.pr] (by simp)
    simpa using this
  have j0 : pIx (.list ((wI i).map PyData.str)) (.int 0) = some (.fr (.str (numS i.form))) := by rw [hW]; simp [pIxL, atI_0]
  have j2 : pIx (.list ((wI i).map PyData.str)) (.int 2) = some (.fr (.str (numS i.op ++ COL))) := by rw [hW]; simp [pIxL, atI_2]
  have jm : pIx (.list ((wI i).map PyData.str)) (.int (-1)) = some (.fr (.str (numS i.pr))) := by
    rw [hW]
    exact ix_last (l := .str (numS i.form) :: .str ARR :: .str (numS i.op ++ COL) :: ((i.args.map fun k => .str (numS k)) ++ [.str ATS])) |> fun z => by simpa using z
  have t0 : pIx (.list ((i.form :: i.op :: (i.args ++ [i.pr])).map dN)) (.int 0) = some (.fr (dN i.form)) := by simp [pIxL, atI_0]
  have t1 : pIx (.list ((i.form :: i.op :: (i.args ++ [i.pr])).map dN)) (.int 1) = some (.fr (dN i.op)) := by simp [pIxL, atI_1]
  have tm : pIx (.list ((i.form :: i.op :: (i.args ++ [i.pr])).map dN)) (.int (-1)) = some (.fr (dN i.pr)) := by
    have := ix_last (l := dN i.form :: dN i.op :: i.args.map dN) (x := dN i.pr)
    simpa using this
  have u1 : pSl (.list ((wI i).map PyData.str)) (some 3) (some (-2)) = some (.ol (i.args.map fun k => .str (numS k))) := by rw [← k2]; rfl
  have u2 : pSl (.list ((i.form :: i.op :: (i.args ++ [i.pr])).map dN)) (some 2) (some (-1)) = some (.ol (i.args.map dN)) := by rw [← k3]; rfl
  have e' : M_numbers_in [.fr (.list (.str (numS i.form) :: .str (numS i.op) :: ((i.args.map fun k => .str (numS k)) ++ [.str (numS i.pr)])))] = .ok (.ol ((i.form :: i.op :: (i.args ++ [i.pr])).map dN), [.fr (.list (.str (numS i.form) :: .str (numS i.op) :: ((i.args.map fun k => .str (numS k)) ++ [.str (numS i.pr)])))]) := by
    simpa using e
  have l1 : 2 + i.args.length ≤ 1000000 := by omega
  have l2 : i.args.length + 2 + 1 ≤ 1000000 := by omega
  clear e k1 k2 k3 hW
  have k1 : pSl2h (.str (numS i.op ++ COL)) (.int (-1)) = some (.fr (.str (numS i.op))) := by
    rw [q_shS _ _ (by rw [str_app_len]; omega)]
    have := cutS_init (numS i.op) COL (by decide +kernel)
    rw [c3] at this
    have e : (-((1 : Nat) : Int)) = (-1 : Int) := rfl
    rw [e] at this
    rw [this]
  have la : (i.args.map fun k => PyData.str (numS k)).length = i.args.length := List.length_map _
  rw [← la] at l1 l2
  unfold encI
  generalize (wI i).map PyData.str = W at *
  generalize (i.form :: i.op :: (i.args ++ [i.pr])).map dN = NN at *
  generalize (i.args.map fun k => PyData.str (numS k)) = AA at *
  generalize numS i.op ++ COL = OC at *
  generalize i.args.map dN = AN at *
  have ng : pNeg (.int 1) = some (.fr (.int (-1))) := rfl
  simp [M_instruction_in, b_instruction_in, q_mulAI, q_mulAL, a_wb, q_divW, Function.comp_def, q_starI, q_starIT, a_wp, a_fz, a_fz0, a_fz1, a_ext, a_ins, a_insA, a_pop, a_parN, a_evO0, a_evO1, a_setO0, a_setO1, a_ix2, a_setII, a_zN, a_zC, a_lcO, d_oo, pEq_int, pNe_int, pIxT, atI_nat, atI_0, atI_1, atI_2, atI_3, atI_m1, cutLo, cutHi, cutLo1, cutHi1, a_seq, a_ifS, a_B, a_op, a_ov, a_ev0, a_evv, a_evs, a_C, a_V, a_M, a_set, a_setI, a_app, a_ret, a_ex, a_skip, a_no, a_not, a_andT, a_orT, a_and, a_or, a_notV, a_if, a_par, a_call, a_forS, a_sq, a_r1, a_r2, a_en, a_zp, a_asT, a_chI, a_yes, a_lc, a_fn, okA, f_fr, bkA, rsvs, rsv, dvs, on1, on2, d_fr, d_ol, rsO, ndS, sl, putB, asT, setAll, ofO, Dy.ints1, Dy.ints2, nE, wipeE, unw, frO, q_addI, q_addL, q_addT, q_addS, q_sub, q_div, q_mod, q_pow, q_cm, pIs, pIsn, q_isN, q_isI, q_isS, q_isT, q_isL, q_isB, q_lenL, q_lenT, pTup, pLst, q_tupL, q_tupT, q_lstL, q_lstT, q_revL, q_slL, q_slT, q_shL, q_shT, q_sqL, q_sqT, q_intI, q_max2, q_min2, q_aII, q_aBI, q_aTI, q_aTT, q_aLL, q_aTL, q_aIT, ng, j0, j2, jm, k1, u1, l1, l2, e', t0, t1, tm, u2]
theorem conIn {c : Con} (h : CSm c) : M_conversion_in [.fr (.list ((wC c).map .str))] = .ok (.fr (encK c), [.fr (.list ((wC c).map .str))]) := by
  have e := nums_num (ns := [c.a, c.b, c.pr]) (fun k hk => by
    simp only [List.mem_cons, List.not_mem_nil, or_false] at hk
    rcases hk with rfl | rfl | rfl
    · exact h.a
    · exact h.b
    · exact h.p) (by simp)
  simp only [List.map_cons, List.map_nil] at e
  have hW : (wC c).map PyData.str = [.str (numS c.b), .str ARR, .str (numS c.a), .str ATS, .str (numS c.pr)] := rfl
  rw [hW]
  have ng : pNeg (.int 1) = some (.fr (.int (-1))) := rfl
  simp [M_conversion_in, b_conversion_in, q_mulAI, q_mulAL, a_wb, q_divW, Function.comp_def, q_starI, q_starIT, a_wp, a_fz, a_fz0, a_fz1, a_ext, a_ins, a_insA, a_pop, a_parN, a_evO0, a_evO1, a_setO0, a_setO1, a_ix2, a_setII, a_zN, a_zC, a_lcO, d_oo, pEq_int, pNe_int, pIxL, pIxT, atI_nat, atI_0, atI_1, atI_2, atI_3, atI_m1, cutLo, cutHi, cutLo1, cutHi1, a_seq, a_ifS, a_B, a_op, a_ov, a_ev0, a_evv, a_evs, a_C, a_V, a_M, a_set, a_setI, a_app, a_ret, a_ex, a_skip, a_no, a_not, a_andT, a_orT, a_and, a_or, a_notV, a_if, a_par, a_call, a_forS, a_sq, a_r1, a_r2, a_en, a_zp, a_asT, a_chI, a_yes, a_lc, a_fn, okA, f_fr, bkA, rsvs, rsv, dvs, on1, on2, d_fr, d_ol, rsO, ndS, sl, putB, asT, setAll, ofO, Dy.ints1, Dy.ints2, nE, wipeE, unw, frO, q_addI, q_addL, q_addT, q_addS, q_sub, q_div, q_mod, q_pow, q_cm, pIs, pIsn, q_isN, q_isI, q_isS, q_isT, q_isL, q_isB, q_lenL, q_lenT, pTup, pLst, q_tupL, q_tupT, q_lstL, q_lstT, q_revL, q_slL, q_slT, q_shL, q_shT, q_sqL, q_sqT, q_intI, q_max2, q_min2, q_aII, q_aBI, q_aTI, q_aTT, q_aLL, q_aTL, q_aIT, ng, e]
end Q
namespace Q
open PySem Dy
open L2 (atI ixN)
abbrev IC := Sum Ins Con
def icL : IC → PyData
  | .inl i => .str (lineI i)
  | .inr c => .str (lineC c)
def icW : IC → PyData
  | .inl i => .list ((wI i).map .str)
  | .inr c => .list ((wC c).map .str)
def ics (m : Mach) : List IC := m.ins.map .inl ++ m.con.map .inr
theorem ics_len {m : Mach} (h : MOk m) : (ics m).length ≤ 36 := by
  have := h.il
  have := h.cl
  simp [ics]; omega
theorem ic_ind {m : Mach} (h : MOk m) {P : IC → Prop} (h1 : ∀ i, ISm i → P (.inl i)) (h2 : ∀ c, CSm c → P (.inr c)) : ∀ x ∈ ics m, P x := fun x hx => by
  simp only [ics, List.mem_append, List.mem_map] at hx
  rcases hx with ⟨i, hi, rfl⟩ | ⟨c, hc, rfl⟩
  · exact h1 i (ism h hi)
  · exact h2 c (csm h hc)
theorem q_col (no : Bool) (w : Str) : pInS no (.str ":") (.str w) = some (.fr (.bool (no != decide (58 ∈ w.cps.toList)))) := by
  have : sgn1 ":" = some 58 := by decide +kernel
  show ((sgn1 ":").map fun c => O.fr (.bool (no != decide (c ∈ w.cps.toList)))) = _
  rw [this]; rfl
theorem col_I (i : Ins) : decide (58 ∈ (numS i.op ++ COL).cps.toList) = true := by
  have : 58 ∈ tx (numS i.op ++ COL) := by
    rw [tx_app]
    exact List.mem_append_right _ (by decide +kernel)
  exact decide_eq_true this
theorem col_C (c : Con) : decide (58 ∈ (numS c.a).cps.toList) = false := decide_eq_false (nc_num (s := 58) (by decide))
theorem pLenS {x : Str} (h : x.length ≤ 1000000) : pLen (.str x) = some (.fr (.int (x.length : Int))) := by
  show (if x.length ≤ 1000000 then some (O.fr (.int (x.length : Int))) else none) = _
  rw [if_pos h]
abbrev rV84 (T LS : PyData) (rows first last ar found : Option O) : Dy.Env := [fr T, fr LS, rows, first, last, ar, found, none, none]
theorem machRead {m : Mach} (h : MOk m) : M_machine_read [.fr (.str (textM m))] = .ok (.fr (encM m), [.fr (.str (textM m))]) := by
  obtain ⟨c1, c2, c3, c4, c5, c6, c7, c8⟩ := cl1
  have tl := (textM_len h).1
  have il := ics_len h
  have sp := q_split (textM m) NL nl_ne (by omega)
  rw [split_lines] at sp
  have mt := machText h
  have mo := machine_ok h
  -- the lines
  have hLS : (linesM m ++ [Str.empty]).map PyData.str = [.str (line0 m), .str (line1 m)] ++ ((ics m).map icL ++ [.str Str.empty]) := by
    simp [linesM, ics, List.map_map, Function.comp_def, icL]
  have k2 : pSl (.list ((linesM m ++ [Str.empty]).map PyData.str)) (some 2) (some (-1)) = some (.ol ((ics m).map icL)) := by
    have := cut_mid [PyData.str (line0 m), .str (line1 m)] ((ics m).map icL) [PyData.str Str.empty] (by simp)
    rw [← hLS] at this
    show some (O.ol (cutD ((linesM m ++ [Str.empty]).map PyData.str) (some 2) (some (-1)))) = _
    rw [← this]; rfl
  have jl : pIx (.list ((linesM m ++ [Str.empty]).map PyData.str)) (.int (-1)) = some (.fr (.str Str.empty)) := by
    rw [List.map_append]; exact ix_last
  have j0 : pIx (.list ((linesM m ++ [Str.empty]).map PyData.str)) (.int 0) = some (.fr (.str (line0 m))) := by rw [hLS]; simp [pIxL, atI_0]
  have j1 : pIx (.list ((linesM m ++ [Str.empty]).map PyData.str)) (.int 1) = some (.fr (.str (line1 m))) := by rw [hLS]; simp [pIxL, atI_1]
  have ll : ((linesM m ++ [Str.empty]).map PyData.str).length = (ics m).length + 3 := by rw [hLS]; simp
  have ne0 : pNe (.str Str.empty) (.str "") = some (.fr (.bool false)) := by rw [q_neS, emp_eq]; simp
  -- the comprehensions
  have E1 : ∀ LS : PyData, lcL [7] (.nm 7) fYes E1_machine_read ((ics m).map icL) (rV84 (.str (textM m)) LS none none none none none) [] = .ok ((ics m).map icW, rV84 (.str (textM m)) LS none none none none none) := fun LS =>
    lc_tm icL icW (ics m) rfl (ic_ind h (fun i hi => by
      have e := q_splB (lineI i) (by have := lineI_len hi; omega)
      rw [split_I] at e
      simp only [icL, icW]
      simp [E1_machine_read, q_mulAI, q_mulAL, a_wb, q_divW, Function.comp_def, q_starI, q_starIT, a_wp, a_fz, a_fz0, a_fz1, a_ext, a_ins, a_insA, a_pop, a_parN, a_evO0, a_evO1, a_setO0, a_setO1, a_ix2, a_setII, a_zN, a_zC, a_lcO, d_oo, pEq_int, pNe_int, pIxL, pIxT, atI_nat, atI_0, atI_1, atI_2, atI_3, atI_m1, cutLo, cutHi, cutLo1, cutHi1, a_seq, a_ifS, a_B, a_op, a_ov, a_ev0, a_evv, a_evs, a_C, a_V, a_M, a_set, a_setI, a_app, a_ret, a_ex, a_skip, a_no, a_not, a_andT, a_orT, a_and, a_or, a_notV, a_if, a_par, a_call, a_forS, a_sq, a_r1, a_r2, a_en, a_zp, a_asT, a_chI, a_yes, a_lc, a_fn, okA, f_fr, bkA, rsvs, rsv, dvs, on1, on2, d_fr, d_ol, rsO, ndS, sl, putB, asT, setAll, ofO, Dy.ints1, Dy.ints2, nE, wipeE, unw, frO, q_addI, q_addL, q_addT, q_addS, q_sub, q_div, q_mod, q_pow, q_neg, q_cm, pIs, pIsn, q_isN, q_isI, q_isS, q_isT, q_isL, q_isB, q_lenL, q_lenT, pTup, pLst, q_tupL, q_tupT, q_lstL, q_lstT, q_revL, q_slL, q_slT, q_shL, q_shT, q_sqL, q_sqT, q_intI, q_max2, q_min2, q_aII, q_aBI, q_aTI, q_aTT, q_aLL, q_aTL, q_aIT, a_m1, e]) (fun c hc => by
      have e := q_splB (lineC c) (by have := lineC_len hc; omega)
      rw [split_C] at e
      simp only [icL, icW]
      simp [E1_machine_read, q_mulAI, q_mulAL, a_wb, q_divW, Function.comp_def, q_starI, q_starIT, a_wp, a_fz, a_fz0, a_fz1, a_ext, a_ins, a_insA, a_pop, a_parN, a_evO0, a_evO1, a_setO0, a_setO1, a_ix2, a_setII, a_zN, a_zC, a_lcO, d_oo, pEq_int, pNe_int, pIxL, pIxT, atI_nat, atI_0, atI_1, atI_2, atI_3, atI_m1, cutLo, cutHi, cutLo1, cutHi1, a_seq, a_ifS, a_B, a_op, a_ov, a_ev0, a_evv, a_evs, a_C, a_V, a_M, a_set, a_setI, a_app, a_ret, a_ex, a_skip, a_no, a_not, a_andT, a_orT, a_and, a_or, a_notV, a_if, a_par, a_call, a_forS, a_sq, a_r1, a_r2, a_en, a_zp, a_asT, a_chI, a_yes, a_lc, a_fn, okA, f_fr, bkA, rsvs, rsv, dvs, on1, on2, d_fr, d_ol, rsO, ndS, sl, putB, asT, setAll, ofO, Dy.ints1, Dy.ints2, nE, wipeE, unw, frO, q_addI, q_addL, q_addT, q_addS, q_sub, q_div, q_mod, q_pow, q_neg, q_cm, pIs, pIsn, q_isN, q_isI, q_isS, q_isT, q_isL, q_isB, q_lenL, q_lenT, pTup, pLst, q_tupL, q_tupT, q_lstL, q_lstT, q_revL, q_slL, q_slT, q_shL, q_shT, q_sqL, q_sqT, q_intI, q_max2, q_min2, q_aII, q_aBI, q_aTI, q_aTT, q_aLL, q_aTL, q_aIT, a_m1, e])) (by omega)
  have E2 : ∀ LS RS : PyData, lcL [8] (.nm 8) T1_machine_read E2_machine_read ((ics m).map icW) (rV84 (.str (textM m)) LS (fr RS) none none none none) [] = .ok ([], rV84 (.str (textM m)) LS (fr RS) none none none none) := fun LS RS => by
    rw [lc_fl icW (fun _ => none) (ics m) rfl (ic_ind h (fun i hi => by
      have hl : ((wI i).map PyData.str).length = i.args.length + 5 := by simp [wI]
      simp only [icW]
      generalize (wI i).map PyData.str = W at *
      have : ¬ ((W.length : Int) < 5) := by omega
      simp [T1_machine_read, E2_machine_read, q_mulAI, q_mulAL, a_wb, q_divW, Function.comp_def, q_starI, q_starIT, a_wp, a_fz, a_fz0, a_fz1, a_ext, a_ins, a_insA, a_pop, a_parN, a_evO0, a_evO1, a_setO0, a_setO1, a_ix2, a_setII, a_zN, a_zC, a_lcO, d_oo, pEq_int, pNe_int, pIxL, pIxT, atI_nat, atI_0, atI_1, atI_2, atI_3, atI_m1, cutLo, cutHi, cutLo1, cutHi1, a_seq, a_ifS, a_B, a_op, a_ov, a_ev0, a_evv, a_evs, a_C, a_V, a_M, a_set, a_setI, a_app, a_ret, a_ex, a_skip, a_no, a_not, a_andT, a_orT, a_and, a_or, a_notV, a_if, a_par, a_call, a_forS, a_sq, a_r1, a_r2, a_en, a_zp, a_asT, a_chI, a_yes, a_lc, a_fn, okA, f_fr, bkA, rsvs, rsv, dvs, on1, on2, d_fr, d_ol, rsO, ndS, sl, putB, asT, setAll, ofO, Dy.ints1, Dy.ints2, nE, wipeE, unw, frO, q_addI, q_addL, q_addT, q_addS, q_sub, q_div, q_mod, q_pow, q_neg, q_cm, pIs, pIsn, q_isN, q_isI, q_isS, q_isT, q_isL, q_isB, q_lenL, q_lenT, pTup, pLst, q_tupL, q_tupT, q_lstL, q_lstT, q_revL, q_slL, q_slT, q_shL, q_shT, q_sqL, q_sqT, q_intI, q_max2, q_min2, q_aII, q_aBI, q_aTI, q_aTT, q_aLL, q_aTL, q_aIT, this]) (fun c hc => by
      simp only [icW]
      simp [T1_machine_read, E2_machine_read, q_mulAI, q_mulAL, a_wb, q_divW, Function.comp_def, q_starI, q_starIT, a_wp, a_fz, a_fz0, a_fz1, a_ext, a_ins, a_insA, a_pop, a_parN, a_evO0, a_evO1, a_setO0, a_setO1, a_ix2, a_setII, a_zN, a_zC, a_lcO, d_oo, pEq_int, pNe_int, pIxL, pIxT, atI_nat, atI_0, atI_1, atI_2, atI_3, atI_m1, cutLo, cutHi, cutLo1, cutHi1, a_seq, a_ifS, a_B, a_op, a_ov, a_ev0, a_evv, a_evs, a_C, a_V, a_M, a_set, a_setI, a_app, a_ret, a_ex, a_skip, a_no, a_not, a_andT, a_orT, a_and, a_or, a_notV, a_if, a_par, a_call, a_forS, a_sq, a_r1, a_r2, a_en, a_zp, a_asT, a_chI, a_yes, a_lc, a_fn, okA, f_fr, bkA, rsvs, rsv, dvs, on1, on2, d_fr, d_ol, rsO, ndS, sl, putB, asT, setAll, ofO, Dy.ints1, Dy.ints2, nE, wipeE, unw, frO, q_addI, q_addL, q_addT, q_addS, q_sub, q_div, q_mod, q_pow, q_neg, q_cm, pIs, pIsn, q_isN, q_isI, q_isS, q_isT, q_isL, q_isB, q_lenL, q_lenT, pTup, pLst, q_tupL, q_tupT, q_lstL, q_lstT, q_revL, q_slL, q_slT, q_shL, q_shT, q_sqL, q_sqT, q_intI, q_max2, q_min2, q_aII, q_aBI, q_aTI, q_aTT, q_aLL, q_aTL, q_aIT, wC])) (by omega)]
    congr 1
    congr 1
    generalize ics m = L
    induction L with
    | nil => rfl
    | cons x L ih => simpa using ih
  have E3 : ∀ LS RS : PyData, lcL [8] (.nm 8) T2_machine_read E3_machine_read ((ics m).map icW) (rV84 (.str (textM m)) LS (fr RS) none none none none) [] = .ok (m.ins.map encI, rV84 (.str (textM m)) LS (fr RS) none none none none) := fun LS RS => by
    rw [lc_fl icW (fun x => match x with | .inl i => some (encI i) | .inr _ => none) (ics m) rfl (ic_ind h (fun i hi => by
      have e := insIn hi
      have j2 : pIx (.list ((wI i).map PyData.str)) (.int 2) = some (.fr (.str (numS i.op ++ COL))) := by simp [wI, pIxL, atI_2]
      have qc := q_col false (numS i.op ++ COL)
      rw [col_I] at qc
      simp only [icW]
      unfold encI at e ⊢
      generalize (wI i).map PyData.str = W at *
      simp [T2_machine_read, E3_machine_read, q_mulAI, q_mulAL, a_wb, q_divW, Function.comp_def, q_starI, q_starIT, a_wp, a_fz, a_fz0, a_fz1, a_ext, a_ins, a_insA, a_pop, a_parN, a_evO0, a_evO1, a_setO0, a_setO1, a_ix2, a_setII, a_zN, a_zC, a_lcO, d_oo, pEq_int, pNe_int, pIxT, atI_nat, atI_0, atI_1, atI_2, atI_3, atI_m1, cutLo, cutHi, cutLo1, cutHi1, a_seq, a_ifS, a_B, a_op, a_ov, a_ev0, a_evv, a_evs, a_C, a_V, a_M, a_set, a_setI, a_app, a_ret, a_ex, a_skip, a_no, a_not, a_andT, a_orT, a_and, a_or, a_notV, a_if, a_par, a_call, a_forS, a_sq, a_r1, a_r2, a_en, a_zp, a_asT, a_chI, a_yes, a_lc, a_fn, okA, f_fr, bkA, rsvs, rsv, dvs, on1, on2, d_fr, d_ol, rsO, ndS, sl, putB, asT, setAll, ofO, Dy.ints1, Dy.ints2, nE, wipeE, unw, frO, q_addI, q_addL, q_addT, q_addS, q_sub, q_div, q_mod, q_pow, q_neg, q_cm, pIs, pIsn, q_isN, q_isI, q_isS, q_isT, q_isL, q_isB, q_lenL, q_lenT, pTup, pLst, q_tupL, q_tupT, q_lstL, q_lstT, q_revL, q_slL, q_slT, q_shL, q_shT, q_sqL, q_sqT, q_intI, q_max2, q_min2, q_aII, q_aBI, q_aTI, q_aTT, q_aLL, q_aTL, q_aIT, e, j2, qc]) (fun c hc => by
      have j2 : pIx (.list ((wC c).map PyData.str)) (.int 2) = some (.fr (.str (numS c.a))) := by simp [wC, pIxL, atI_2]
      have qc := q_col false (numS c.a)
      rw [col_C] at qc
      simp only [icW]
      generalize (wC c).map PyData.str = W at *
      simp [T2_machine_read, E3_machine_read, q_mulAI, q_mulAL, a_wb, q_divW, Function.comp_def, q_starI, q_starIT, a_wp, a_fz, a_fz0, a_fz1, a_ext, a_ins, a_insA, a_pop, a_parN, a_evO0, a_evO1, a_setO0, a_setO1, a_ix2, a_setII, a_zN, a_zC, a_lcO, d_oo, pEq_int, pNe_int, pIxT, atI_nat, atI_0, atI_1, atI_2, atI_3, atI_m1, cutLo, cutHi, cutLo1, cutHi1, a_seq, a_ifS, a_B, a_op, a_ov, a_ev0, a_evv, a_evs, a_C, a_V, a_M, a_set, a_setI, a_app, a_ret, a_ex, a_skip, a_no, a_not, a_andT, a_orT, a_and, a_or, a_notV, a_if, a_par, a_call, a_forS, a_sq, a_r1, a_r2, a_en, a_zp, a_asT, a_chI, a_yes, a_lc, a_fn, okA, f_fr, bkA, rsvs, rsv, dvs, on1, on2, d_fr, d_ol, rsO, ndS, sl, putB, asT, setAll, ofO, Dy.ints1, Dy.ints2, nE, wipeE, unw, frO, q_addI, q_addL, q_addT, q_addS, q_sub, q_div, q_mod, q_pow, q_neg, q_cm, pIs, pIsn, q_isN, q_isI, q_isS, q_isT, q_isL, q_isB, q_lenL, q_lenT, pTup, pLst, q_tupL, q_tupT, q_lstL, q_lstT, q_revL, q_slL, q_slT, q_shL, q_shT, q_sqL, q_sqT, q_intI, q_max2, q_min2, q_aII, q_aBI, q_aTI, q_aTT, q_aLL, q_aTL, q_aIT, j2, qc])) (by omega)]
    congr 1
    congr 1
    unfold ics
    rw [List.filterMap_append, List.filterMap_map, List.filterMap_map]
    have a1 : m.ins.filterMap ((fun x : IC => match x with | .inl i => some (encI i) | .inr _ => none) ∘ Sum.inl) = m.ins.map encI := by
      rw [← List.filterMap_eq_map]; rfl
    have a2 : m.con.filterMap ((fun x : IC => match x with | .inl i => some (encI i) | .inr _ => none) ∘ Sum.inr) = [] := by
      rw [List.filterMap_eq_nil_iff]; intro a _; rfl
    rw [a1, a2, List.append_nil]
  have E4 : ∀ LS RS F : PyData, lcL [8] (.nm 8) T3_machine_read E4_machine_read ((ics m).map icW) (rV84 (.str (textM m)) LS (fr RS) (fr F) none none none) [] = .ok (m.con.map encK, rV84 (.str (textM m)) LS (fr RS) (fr F) none none none) := fun LS RS F => by
    rw [lc_fl icW (fun x => match x with | .inl _ => none | .inr c => some (encK c)) (ics m) rfl (ic_ind h (fun i hi => by
      have j2 : pIx (.list ((wI i).map PyData.str)) (.int 2) = some (.fr (.str (numS i.op ++ COL))) := by simp [wI, pIxL, atI_2]
      have qc := q_col true (numS i.op ++ COL)
      rw [col_I] at qc
      simp only [icW]
      generalize (wI i).map PyData.str = W at *
      simp [T3_machine_read, E4_machine_read, q_mulAI, q_mulAL, a_wb, q_divW, Function.comp_def, q_starI, q_starIT, a_wp, a_fz, a_fz0, a_fz1, a_ext, a_ins, a_insA, a_pop, a_parN, a_evO0, a_evO1, a_setO0, a_setO1, a_ix2, a_setII, a_zN, a_zC, a_lcO, d_oo, pEq_int, pNe_int, pIxT, atI_nat, atI_0, atI_1, atI_2, atI_3, atI_m1, cutLo, cutHi, cutLo1, cutHi1, a_seq, a_ifS, a_B, a_op, a_ov, a_ev0, a_evv, a_evs, a_C, a_V, a_M, a_set, a_setI, a_app, a_ret, a_ex, a_skip, a_no, a_not, a_andT, a_orT, a_and, a_or, a_notV, a_if, a_par, a_call, a_forS, a_sq, a_r1, a_r2, a_en, a_zp, a_asT, a_chI, a_yes, a_lc, a_fn, okA, f_fr, bkA, rsvs, rsv, dvs, on1, on2, d_fr, d_ol, rsO, ndS, sl, putB, asT, setAll, ofO, Dy.ints1, Dy.ints2, nE, wipeE, unw, frO, q_addI, q_addL, q_addT, q_addS, q_sub, q_div, q_mod, q_pow, q_neg, q_cm, pIs, pIsn, q_isN, q_isI, q_isS, q_isT, q_isL, q_isB, q_lenL, q_lenT, pTup, pLst, q_tupL, q_tupT, q_lstL, q_lstT, q_revL, q_slL, q_slT, q_shL, q_shT, q_sqL, q_sqT, q_intI, q_max2, q_min2, q_aII, q_aBI, q_aTI, q_aTT, q_aLL, q_aTL, q_aIT, j2, qc]) (fun c hc => by
      have e := conIn hc
      have j2 : pIx (.list ((wC c).map PyData.str)) (.int 2) = some (.fr (.str (numS c.a))) := by simp [wC, pIxL, atI_2]
      have qc := q_col true (numS c.a)
      rw [col_C] at qc
      simp only [icW]
      unfold encK at e ⊢
      generalize (wC c).map PyData.str = W at *
      simp [T3_machine_read, E4_machine_read, q_mulAI, q_mulAL, a_wb, q_divW, Function.comp_def, q_starI, q_starIT, a_wp, a_fz, a_fz0, a_fz1, a_ext, a_ins, a_insA, a_pop, a_parN, a_evO0, a_evO1, a_setO0, a_setO1, a_ix2, a_setII, a_zN, a_zC, a_lcO, d_oo, pEq_int, pNe_int, pIxT, atI_nat, atI_0, atI_1, atI_2, atI_3, atI_m1, cutLo, cutHi, cutLo1, cutHi1, a_seq, a_ifS, a_B, a_op, a_ov, a_ev0, a_evv, a_evs, a_C, a_V, a_M, a_set, a_setI, a_app, a_ret, a_ex, a_skip, a_no, a_not, a_andT, a_orT, a_and, a_or, a_notV, a_if, a_par, a_call, a_forS, a_sq, a_r1, a_r2, a_en, a_zp, a_asT, a_chI, a_yes, a_lc, a_fn, okA, f_fr, bkA, rsvs, rsv, dvs, on1, on2, d_fr, d_ol, rsO, ndS, sl, putB, asT, setAll, ofO, Dy.ints1, Dy.ints2, nE, wipeE, unw, frO, q_addI, q_addL, q_addT, q_addS, q_sub, q_div, q_mod, q_pow, q_neg, q_cm, pIs, pIsn, q_isN, q_isI, q_isS, q_isT, q_isL, q_isB, q_lenL, q_lenT, pTup, pLst, q_tupL, q_tupT, q_lstL, q_lstT, q_revL, q_slL, q_slT, q_shL, q_shT, q_sqL, q_sqT, q_intI, q_max2, q_min2, q_aII, q_aBI, q_aTI, q_aTT, q_aLL, q_aTL, q_aIT, e, j2, qc])) (by omega)]
    congr 1
    congr 1
    unfold ics
    rw [List.filterMap_append, List.filterMap_map, List.filterMap_map]
    have a1 : m.con.filterMap ((fun x : IC => match x with | .inl _ => none | .inr c => some (encK c)) ∘ Sum.inr) = m.con.map encK := by
      rw [← List.filterMap_eq_map]; rfl
    have a2 : m.ins.filterMap ((fun x : IC => match x with | .inl _ => none | .inr c => some (encK c)) ∘ Sum.inl) = [] := by
      rw [List.filterMap_eq_nil_iff]; intro a _; rfl
    rw [a1, a2, List.nil_append]
  -- the first two lines
  have d0 : pSl2l (.str (line0 m)) (.int (("forms " : Str).length : Int)) = some (.fr (.str (numS m.fs))) := by
    rw [q_slS _ _ (by have := line0_len h; omega)]
    unfold line0
    rw [cutS_drop]
  have d1 : pSl2l (.str (line1 m)) (.int (("operators " : Str).length : Int)) = some (.fr (.str (Txt.join BLK (m.ar.map numS)))) := by
    rw [q_slS _ _ (by have := line1_len h; omega)]
    unfold line1
    rw [cutS_drop]
  have p0 := pLenS (x := ("forms " : Str)) (by omega)
  have p1 := pLenS (x := ("operators " : Str)) (by omega)
  have nf := numread (numS_ok (n := m.fs) (by have := h.f4; omega)) (by decide) (by have := numS_len (n := m.fs) (by have := h.f4; omega); omega)
  rw [nrd_num (by have := h.f4; omega)] at nf
  have sA := q_splB (Txt.join BLK (m.ar.map numS)) (by have h1 := joinB_len (m.ar.map numS); have h2 := ar_wt h; omega)
  rw [split_A h, List.map_map] at sA
  have nA := nums_num (ns := m.ar) (fun k hk => by have := h.ar.le2 k hk; omega) (by have := h.ar.len; omega)
  have pe : pEq (.str (textM m)) (.str (textM m)) = some (.fr (.bool true)) := by rw [q_eqS]; simp
  simp only [Function.comp_def] at sA
  have el : (ics m).map icW = (ics m).map icW := rfl
  have lN : ((linesM m ++ [Str.empty]).map PyData.str).length ≤ 1000000 := by omega
  clear tl hLS
  refine fn1_rt84 (N := 8) (e := [fr (.str (textM m)), fr (.list ((linesM m ++ [Str.empty]).map PyData.str)), fr (.list ((ics m).map icW)), fr (.tuple (m.ins.map encI)), fr (.tuple (m.con.map encK)), fr (encA m.ar), fr (encM m), none, none]) ?_
  unfold b_machine_read
  unfold rV84 encM encA at *
  generalize (linesM m ++ [Str.empty]).map PyData.str = LS at *
  generalize (ics m).map icL = CL at *
  generalize (ics m).map icW = CW at *
  generalize textM m = TM at *
  generalize line0 m = L0 at *
  generalize line1 m = L1 at *
  generalize (m.ar.map fun k => PyData.str (numS k)) = AS at *
  generalize Txt.join BLK (m.ar.map numS) = AJ at *
  generalize m.ar.map dN = AR at *
  generalize m.ins.map encI = II at *
  generalize m.con.map encK = KK at *
  generalize numS m.fs = FJ at *
  have s1 : (fFz [1] (fSet 1 (fM1 pSplit (fV 0) (.v (fC (.str "\n")))))) (some (.fr (.str TM)) :: List.replicate 8 none) = .ok (.nx, [fr (.str TM), fr (.list LS), none, none, none, none, none, none, none]) := by
    simp [q_mulAI, q_mulAL, a_wb, q_divW, Function.comp_def, q_starI, q_starIT, a_wp, a_fz, a_fz0, a_fz1, a_ext, a_ins, a_insA, a_pop, a_parN, a_evO0, a_evO1, a_setO0, a_setO1, a_ix2, a_setII, a_zN, a_zC, a_lcO, d_oo, pEq_int, pNe_int, pIxL, pIxT, atI_nat, atI_0, atI_1, atI_2, atI_3, atI_m1, cutLo, cutHi, cutLo1, cutHi1, a_seq, a_ifS, a_B, a_op, a_ov, a_ev0, a_evv, a_evs, a_C, a_V, a_M, a_set, a_setI, a_app, a_ret, a_ex, a_skip, a_no, a_not, a_andT, a_orT, a_and, a_or, a_notV, a_if, a_par, a_call, a_forS, a_sq, a_r1, a_r2, a_en, a_zp, a_asT, a_chI, a_yes, a_lc, a_fn, okA, f_fr, bkA, rsvs, rsv, dvs, on1, on2, d_fr, d_ol, rsO, ndS, sl, putB, asT, setAll, ofO, Dy.ints1, Dy.ints2, nE, wipeE, unw, frO, q_addI, q_addL, q_addT, q_addS, q_sub, q_div, q_mod, q_pow, q_neg, q_cm, pIs, pIsn, q_isN, q_isI, q_isS, q_isT, q_isL, q_isB, q_lenL, q_lenT, pTup, pLst, q_tupL, q_tupT, q_lstL, q_lstT, q_revL, q_slL, q_slT, q_shL, q_shT, q_sqL, q_sqT, q_intI, q_max2, q_min2, q_aII, q_aBI, q_aTI, q_aTT, q_aLL, q_aTL, q_aIT, a_m1, sp]
  have lg : ¬ ((LS.length : Int) < 3) := by omega
  have ng : pNeg (.int 1) = some (.fr (.int (-1))) := rfl
  have s2 : (fIfS (fOrT (fB (fOp (on2 (cmI (fun i j => decide (i < j)))) [.v (fOp (on1 pLen) [.s 1]), .v (fC (.int 3))])) (fB (fOp (on2 pNe) [.v (fOp (on2 pIx) [.s 1, .v (fOp (on1 pNeg) [.v (fC (.int 1))])]), .v (fC (.str ""))]))) (fRet (fC .none)) (fSkip)) [fr (.str TM), fr (.list LS), none, none, none, none, none, none, none] = .ok (.nx, [fr (.str TM), fr (.list LS), none, none, none, none, none, none, none]) := by
    simp [q_mulAI, q_mulAL, a_wb, q_divW, Function.comp_def, q_starI, q_starIT, a_wp, a_fz, a_fz0, a_fz1, a_ext, a_ins, a_insA, a_pop, a_parN, a_evO0, a_evO1, a_setO0, a_setO1, a_ix2, a_setII, a_zN, a_zC, a_lcO, d_oo, pEq_int, pNe_int, pIxT, atI_nat, atI_0, atI_1, atI_2, atI_3, atI_m1, cutLo, cutHi, cutLo1, cutHi1, a_seq, a_ifS, a_B, a_op, a_ov, a_ev0, a_evv, a_evs, a_C, a_V, a_M, a_set, a_setI, a_app, a_ret, a_ex, a_skip, a_no, a_not, a_andT, a_orT, a_and, a_or, a_notV, a_if, a_par, a_call, a_forS, a_sq, a_r1, a_r2, a_en, a_zp, a_asT, a_chI, a_yes, a_lc, a_fn, okA, f_fr, bkA, rsvs, rsv, dvs, on1, on2, d_fr, d_ol, rsO, ndS, sl, putB, asT, setAll, ofO, Dy.ints1, Dy.ints2, nE, wipeE, unw, frO, q_addI, q_addL, q_addT, q_addS, q_sub, q_div, q_mod, q_pow, q_cm, pIs, pIsn, q_isN, q_isI, q_isS, q_isT, q_isL, q_isB, q_lenL, q_lenT, pTup, pLst, q_tupL, q_tupT, q_lstL, q_lstT, q_revL, q_slL, q_slT, q_shL, q_shT, q_sqL, q_sqT, q_intI, q_max2, q_min2, q_aII, q_aBI, q_aTI, q_aTT, q_aLL, q_aTL, q_aIT, ng, lg, jl, ne0]
  have s3 : (fFz [2] (fSet 2 (fLc (fSq (.v (fOp (on1 fun d => pSl d (some 2) (some (-1))) [.s 1]))) [7] (.nm 7) (fYes) (E1_machine_read)))) [fr (.str TM), fr (.list LS), none, none, none, none, none, none, none] = .ok (.nx, [fr (.str TM), fr (.list LS), fr (.list CW), none, none, none, none, none, none]) := by
    simp [q_mulAI, q_mulAL, a_wb, q_divW, Function.comp_def, q_starI, q_starIT, a_wp, a_fz, a_fz0, a_fz1, a_ext, a_ins, a_insA, a_pop, a_parN, a_evO0, a_evO1, a_setO0, a_setO1, a_ix2, a_setII, a_zN, a_zC, a_lcO, d_oo, pEq_int, pNe_int, pIxL, pIxT, atI_nat, atI_0, atI_1, atI_2, atI_3, atI_m1, cutLo, cutHi, cutLo1, cutHi1, a_seq, a_ifS, a_B, a_op, a_ov, a_ev0, a_evv, a_evs, a_C, a_V, a_M, a_set, a_setI, a_app, a_ret, a_ex, a_skip, a_no, a_not, a_andT, a_orT, a_and, a_or, a_notV, a_if, a_par, a_call, a_forS, a_sq, a_r1, a_r2, a_en, a_zp, a_asT, a_chI, a_yes, a_lc, a_fn, okA, f_fr, bkA, rsvs, rsv, dvs, on1, on2, d_fr, d_ol, rsO, ndS, sl, putB, asT, setAll, ofO, Dy.ints1, Dy.ints2, nE, wipeE, unw, frO, q_addI, q_addL, q_addT, q_addS, q_sub, q_div, q_mod, q_pow, q_neg, q_cm, pIs, pIsn, q_isN, q_isI, q_isS, q_isT, q_isL, q_isB, q_lenL, q_lenT, pTup, pLst, q_tupL, q_tupT, q_lstL, q_lstT, q_revL, q_slL, q_slT, q_shL, q_shT, q_sqL, q_sqT, q_intI, q_max2, q_min2, q_aII, q_aBI, q_aTI, q_aTT, q_aLL, q_aTL, q_aIT, k2, E1]
  have n0 : pNe (.list []) (.list []) = some (.fr (.bool false)) := by rw [pNe_L0 (by decide +kernel)]; rfl
  have s4 : (fIfS (fB (fOp (on2 pNe) [.v (fLc (fSq (.v (fV 2))) [8] (.nm 8) (T1_machine_read) (E2_machine_read)), .v (fOv pLst [])])) (fRet (fC .none)) (fSkip)) [fr (.str TM), fr (.list LS), fr (.list CW), none, none, none, none, none, none] = .ok (.nx, [fr (.str TM), fr (.list LS), fr (.list CW), none, none, none, none, none, none]) := by
    simp [q_mulAI, q_mulAL, a_wb, q_divW, Function.comp_def, q_starI, q_starIT, a_wp, a_fz, a_fz0, a_fz1, a_ext, a_ins, a_insA, a_pop, a_parN, a_evO0, a_evO1, a_setO0, a_setO1, a_ix2, a_setII, a_zN, a_zC, a_lcO, d_oo, pEq_int, pNe_int, pIxL, pIxT, atI_nat, atI_0, atI_1, atI_2, atI_3, atI_m1, cutLo, cutHi, cutLo1, cutHi1, a_seq, a_ifS, a_B, a_op, a_ov, a_ev0, a_evv, a_evs, a_C, a_V, a_M, a_set, a_setI, a_app, a_ret, a_ex, a_skip, a_no, a_not, a_andT, a_orT, a_and, a_or, a_notV, a_if, a_par, a_call, a_forS, a_sq, a_r1, a_r2, a_en, a_zp, a_asT, a_chI, a_yes, a_lc, a_fn, okA, f_fr, bkA, rsvs, rsv, dvs, on1, on2, d_fr, d_ol, rsO, ndS, sl, putB, asT, setAll, ofO, Dy.ints1, Dy.ints2, nE, wipeE, unw, frO, q_addI, q_addL, q_addT, q_addS, q_sub, q_div, q_mod, q_pow, q_neg, q_cm, pIs, pIsn, q_isN, q_isI, q_isS, q_isT, q_isL, q_isB, q_lenL, q_lenT, pTup, pLst, q_tupL, q_tupT, q_lstL, q_lstT, q_revL, q_slL, q_slT, q_shL, q_shT, q_sqL, q_sqT, q_intI, q_max2, q_min2, q_aII, q_aBI, q_aTI, q_aTT, q_aLL, q_aTL, q_aIT, E2, n0]
  have s5 : (fSet 3 (fOp (on1 pTuple) [.v (fLc (fSq (.v (fV 2))) [8] (.nm 8) (T2_machine_read) (E3_machine_read))])) [fr (.str TM), fr (.list LS), fr (.list CW), none, none, none, none, none, none] = .ok (.nx, [fr (.str TM), fr (.list LS), fr (.list CW), fr (.tuple II), none, none, none, none, none]) := by
    simp [q_mulAI, q_mulAL, a_wb, q_divW, Function.comp_def, q_starI, q_starIT, a_wp, a_fz, a_fz0, a_fz1, a_ext, a_ins, a_insA, a_pop, a_parN, a_evO0, a_evO1, a_setO0, a_setO1, a_ix2, a_setII, a_zN, a_zC, a_lcO, d_oo, pEq_int, pNe_int, pIxL, pIxT, atI_nat, atI_0, atI_1, atI_2, atI_3, atI_m1, cutLo, cutHi, cutLo1, cutHi1, a_seq, a_ifS, a_B, a_op, a_ov, a_ev0, a_evv, a_evs, a_C, a_V, a_M, a_set, a_setI, a_app, a_ret, a_ex, a_skip, a_no, a_not, a_andT, a_orT, a_and, a_or, a_notV, a_if, a_par, a_call, a_forS, a_sq, a_r1, a_r2, a_en, a_zp, a_asT, a_chI, a_yes, a_lc, a_fn, okA, f_fr, bkA, rsvs, rsv, dvs, on1, on2, d_fr, d_ol, rsO, ndS, sl, putB, asT, setAll, ofO, Dy.ints1, Dy.ints2, nE, wipeE, unw, frO, q_addI, q_addL, q_addT, q_addS, q_sub, q_div, q_mod, q_pow, q_neg, q_cm, pIs, pIsn, q_isN, q_isI, q_isS, q_isT, q_isL, q_isB, q_lenL, q_lenT, pTup, pLst, q_tupL, q_tupT, q_lstL, q_lstT, q_revL, q_slL, q_slT, q_shL, q_shT, q_sqL, q_sqT, q_intI, q_max2, q_min2, q_aII, q_aBI, q_aTI, q_aTT, q_aLL, q_aTL, q_aIT, E3]
  have s6 : (fSet 4 (fOp (on1 pTuple) [.v (fLc (fSq (.v (fV 2))) [8] (.nm 8) (T3_machine_read) (E4_machine_read))])) [fr (.str TM), fr (.list LS), fr (.list CW), fr (.tuple II), none, none, none, none, none] = .ok (.nx, [fr (.str TM), fr (.list LS), fr (.list CW), fr (.tuple II), fr (.tuple KK), none, none, none, none]) := by
    simp [q_mulAI, q_mulAL, a_wb, q_divW, Function.comp_def, q_starI, q_starIT, a_wp, a_fz, a_fz0, a_fz1, a_ext, a_ins, a_insA, a_pop, a_parN, a_evO0, a_evO1, a_setO0, a_setO1, a_ix2, a_setII, a_zN, a_zC, a_lcO, d_oo, pEq_int, pNe_int, pIxL, pIxT, atI_nat, atI_0, atI_1, atI_2, atI_3, atI_m1, cutLo, cutHi, cutLo1, cutHi1, a_seq, a_ifS, a_B, a_op, a_ov, a_ev0, a_evv, a_evs, a_C, a_V, a_M, a_set, a_setI, a_app, a_ret, a_ex, a_skip, a_no, a_not, a_andT, a_orT, a_and, a_or, a_notV, a_if, a_par, a_call, a_forS, a_sq, a_r1, a_r2, a_en, a_zp, a_asT, a_chI, a_yes, a_lc, a_fn, okA, f_fr, bkA, rsvs, rsv, dvs, on1, on2, d_fr, d_ol, rsO, ndS, sl, putB, asT, setAll, ofO, Dy.ints1, Dy.ints2, nE, wipeE, unw, frO, q_addI, q_addL, q_addT, q_addS, q_sub, q_div, q_mod, q_pow, q_neg, q_cm, pIs, pIsn, q_isN, q_isI, q_isS, q_isT, q_isL, q_isB, q_lenL, q_lenT, pTup, pLst, q_tupL, q_tupT, q_lstL, q_lstT, q_revL, q_slL, q_slT, q_shL, q_shT, q_sqL, q_sqT, q_intI, q_max2, q_min2, q_aII, q_aBI, q_aTI, q_aTT, q_aLL, q_aTL, q_aIT, E4]
  have s7 : (fSet 5 (fOp (on1 pTuple) [.v (fCall M_numbers_in [.v (fM1 pSplit (fOp (on2 pSl2l) [.v (fOp (on2 pIx) [.s 1, .v (fC (.int 1))]), .v (fOp (on1 pLen) [.v (fC (.str "operators "))])]) (.v (fC (.str " "))))])])) [fr (.str TM), fr (.list LS), fr (.list CW), fr (.tuple II), fr (.tuple KK), none, none, none, none] = .ok (.nx, [fr (.str TM), fr (.list LS), fr (.list CW), fr (.tuple II), fr (.tuple KK), fr (.tuple AR), none, none, none]) := by
    simp [q_mulAI, q_mulAL, a_wb, q_divW, Function.comp_def, q_starI, q_starIT, a_wp, a_fz, a_fz0, a_fz1, a_ext, a_ins, a_insA, a_pop, a_parN, a_evO0, a_evO1, a_setO0, a_setO1, a_ix2, a_setII, a_zN, a_zC, a_lcO, d_oo, pEq_int, pNe_int, pIxT, atI_nat, atI_0, atI_1, atI_2, atI_3, atI_m1, cutLo, cutHi, cutLo1, cutHi1, a_seq, a_ifS, a_B, a_op, a_ov, a_ev0, a_evv, a_evs, a_C, a_V, a_M, a_set, a_setI, a_app, a_ret, a_ex, a_skip, a_no, a_not, a_andT, a_orT, a_and, a_or, a_notV, a_if, a_par, a_call, a_forS, a_sq, a_r1, a_r2, a_en, a_zp, a_asT, a_chI, a_yes, a_lc, a_fn, okA, f_fr, bkA, rsvs, rsv, dvs, on1, on2, d_fr, d_ol, rsO, ndS, sl, putB, asT, setAll, ofO, Dy.ints1, Dy.ints2, nE, wipeE, unw, frO, q_addI, q_addL, q_addT, q_addS, q_sub, q_div, q_mod, q_pow, q_neg, q_cm, pIs, pIsn, q_isN, q_isI, q_isS, q_isT, q_isL, q_isB, q_lenL, q_lenT, pTup, pLst, q_tupL, q_tupT, q_lstL, q_lstT, q_revL, q_slL, q_slT, q_shL, q_shT, q_sqL, q_sqT, q_intI, q_max2, q_min2, q_aII, q_aBI, q_aTI, q_aTT, q_aLL, q_aTL, q_aIT, a_m1, j1, p1, d1, sA, nA]
  have s8 : (fSet 6 (fOv pTup [.v (fV 5), .v (fCall M__law_number_in [.v (fOp (on2 pSl2l) [.v (fOp (on2 pIx) [.s 1, .v (fC (.int 0))]), .v (fOp (on1 pLen) [.v (fC (.str "forms "))])])]), .v (fV 3), .v (fV 4)])) [fr (.str TM), fr (.list LS), fr (.list CW), fr (.tuple II), fr (.tuple KK), fr (.tuple AR), none, none, none] = .ok (.nx, [fr (.str TM), fr (.list LS), fr (.list CW), fr (.tuple II), fr (.tuple KK), fr (.tuple AR), fr (.tuple [.tuple AR, dN m.fs, .tuple II, .tuple KK]), none, none]) := by
    simp [q_mulAI, q_mulAL, a_wb, q_divW, Function.comp_def, q_starI, q_starIT, a_wp, a_fz, a_fz0, a_fz1, a_ext, a_ins, a_insA, a_pop, a_parN, a_evO0, a_evO1, a_setO0, a_setO1, a_ix2, a_setII, a_zN, a_zC, a_lcO, d_oo, pEq_int, pNe_int, pIxT, atI_nat, atI_0, atI_1, atI_2, atI_3, atI_m1, cutLo, cutHi, cutLo1, cutHi1, a_seq, a_ifS, a_B, a_op, a_ov, a_ev0, a_evv, a_evs, a_C, a_V, a_M, a_set, a_setI, a_app, a_ret, a_ex, a_skip, a_no, a_not, a_andT, a_orT, a_and, a_or, a_notV, a_if, a_par, a_call, a_forS, a_sq, a_r1, a_r2, a_en, a_zp, a_asT, a_chI, a_yes, a_lc, a_fn, okA, f_fr, bkA, rsvs, rsv, dvs, on1, on2, d_fr, d_ol, rsO, ndS, sl, putB, asT, setAll, ofO, Dy.ints1, Dy.ints2, nE, wipeE, unw, frO, q_addI, q_addL, q_addT, q_addS, q_sub, q_div, q_mod, q_pow, q_neg, q_cm, pIs, pIsn, q_isN, q_isI, q_isS, q_isT, q_isL, q_isB, q_lenL, q_lenT, pTup, pLst, q_tupL, q_tupT, q_lstL, q_lstT, q_revL, q_slL, q_slT, q_shL, q_shT, q_sqL, q_sqT, q_intI, q_max2, q_min2, q_aII, q_aBI, q_aTI, q_aTT, q_aLL, q_aTL, q_aIT, j0, p0, d0, nf]
  refine (sq86 s1).trans ((sq86 s2).trans ((sq86 s3).trans ((sq86 s4).trans ((sq86 s5).trans ((sq86 s6).trans ((sq86 s7).trans ((sq86 s8).trans ?_)))))))
  simp [q_mulAI, q_mulAL, a_wb, q_divW, Function.comp_def, q_starI, q_starIT, a_wp, a_fz, a_fz0, a_fz1, a_ext, a_ins, a_insA, a_pop, a_parN, a_evO0, a_evO1, a_setO0, a_setO1, a_ix2, a_setII, a_zN, a_zC, a_lcO, d_oo, pEq_int, pNe_int, pIxL, pIxT, atI_nat, atI_0, atI_1, atI_2, atI_3, atI_m1, cutLo, cutHi, cutLo1, cutHi1, a_seq, a_ifS, a_B, a_op, a_ov, a_ev0, a_evv, a_evs, a_C, a_V, a_M, a_set, a_setI, a_app, a_ret, a_ex, a_skip, a_no, a_not, a_andT, a_orT, a_and, a_or, a_notV, a_if, a_par, a_call, a_forS, a_sq, a_r1, a_r2, a_en, a_zp, a_asT, a_chI, a_yes, a_lc, a_fn, okA, f_fr, bkA, rsvs, rsv, dvs, on1, on2, d_fr, d_ol, rsO, ndS, sl, putB, asT, setAll, ofO, Dy.ints1, Dy.ints2, nE, wipeE, unw, frO, q_addI, q_addL, q_addT, q_addS, q_sub, q_div, q_mod, q_pow, q_neg, q_cm, pIs, pIsn, q_isN, q_isI, q_isS, q_isT, q_isL, q_isB, q_lenL, q_lenT, pTup, pLst, q_tupL, q_tupT, q_lstL, q_lstT, q_revL, q_slL, q_slT, q_shL, q_shT, q_sqL, q_sqT, q_intI, q_max2, q_min2, q_aII, q_aBI, q_aTI, q_aTT, q_aLL, q_aTL, q_aIT, mo, mt, pe]
theorem readMach {m : Mach} (h : MOk m) : M_read_machine [.fr (.str (textM m))] = .ok (.fr (encM m), [.fr (.str (textM m))]) := by
  have e := machRead h
  simp [M_read_machine, b_read_machine, q_mulAI, q_mulAL, a_wb, q_divW, Function.comp_def, q_starI, q_starIT, a_wp, a_fz, a_fz0, a_fz1, a_ext, a_ins, a_insA, a_pop, a_parN, a_evO0, a_evO1, a_setO0, a_setO1, a_ix2, a_setII, a_zN, a_zC, a_lcO, d_oo, pEq_int, pNe_int, pIxL, pIxT, atI_nat, atI_0, atI_1, atI_2, atI_3, atI_m1, cutLo, cutHi, cutLo1, cutHi1, a_seq, a_ifS, a_B, a_op, a_ov, a_ev0, a_evv, a_evs, a_C, a_V, a_M, a_set, a_setI, a_app, a_ret, a_ex, a_skip, a_no, a_not, a_andT, a_orT, a_and, a_or, a_notV, a_if, a_par, a_call, a_forS, a_sq, a_r1, a_r2, a_en, a_zp, a_asT, a_chI, a_yes, a_lc, a_fn, okA, f_fr, bkA, rsvs, rsv, dvs, on1, on2, d_fr, d_ol, rsO, ndS, sl, putB, asT, setAll, ofO, Dy.ints1, Dy.ints2, nE, wipeE, unw, frO, q_addI, q_addL, q_addT, q_addS, q_sub, q_div, q_mod, q_pow, q_neg, q_cm, pIs, pIsn, q_isN, q_isI, q_isS, q_isT, q_isL, q_isB, q_lenL, q_lenT, pTup, pLst, q_tupL, q_tupT, q_lstL, q_lstT, q_revL, q_slL, q_slT, q_shL, q_shT, q_sqL, q_sqT, q_intI, q_max2, q_min2, q_aII, q_aBI, q_aTI, q_aTT, q_aLL, q_aTL, q_aIT, isA_sS, e]
theorem machineText {m : Mach} (h : MOk m) : M_machine_text [.fr (encM m)] = .ok (.fr (.str (textM m)), [.fr (encM m)]) := by
  have e := machText h
  have mo := machine_ok h
  simp [M_machine_text, b_machine_text, M_need_machine_2, b_need_machine_2, q_mulAI, q_mulAL, a_wb, q_divW, Function.comp_def, q_starI, q_starIT, a_wp, a_fz, a_fz0, a_fz1, a_ext, a_ins, a_insA, a_pop, a_parN, a_evO0, a_evO1, a_setO0, a_setO1, a_ix2, a_setII, a_zN, a_zC, a_lcO, d_oo, pEq_int, pNe_int, pIxL, pIxT, atI_nat, atI_0, atI_1, atI_2, atI_3, atI_m1, cutLo, cutHi, cutLo1, cutHi1, a_seq, a_ifS, a_B, a_op, a_ov, a_ev0, a_evv, a_evs, a_C, a_V, a_M, a_set, a_setI, a_app, a_ret, a_ex, a_skip, a_no, a_not, a_andT, a_orT, a_and, a_or, a_notV, a_if, a_par, a_call, a_forS, a_sq, a_r1, a_r2, a_en, a_zp, a_asT, a_chI, a_yes, a_lc, a_fn, okA, f_fr, bkA, rsvs, rsv, dvs, on1, on2, d_fr, d_ol, rsO, ndS, sl, putB, asT, setAll, ofO, Dy.ints1, Dy.ints2, nE, wipeE, unw, frO, q_addI, q_addL, q_addT, q_addS, q_sub, q_div, q_mod, q_pow, q_neg, q_cm, pIs, pIsn, q_isN, q_isI, q_isS, q_isT, q_isL, q_isB, q_lenL, q_lenT, pTup, pLst, q_tupL, q_tupT, q_lstL, q_lstT, q_revL, q_slL, q_slT, q_shL, q_shT, q_sqL, q_sqT, q_intI, q_max2, q_min2, q_aII, q_aBI, q_aTI, q_aTT, q_aLL, q_aTL, q_aIT, mo, e]
end Q
namespace Q
open PySem Dy
open L2 (atI ixN)
theorem dealD {as : List PyData} (ha : as.all (btw 0 2) = true) (f : Int) (d : PyData) (hl : ∀ xs, d = .tuple xs → ∀ ys, .tuple ys ∈ xs → ys.length ≤ 100000) :
    M__law_is_deal [.fr (.tuple as), .fr (.int f), .fr d] = .ok (.fr (.bool (insD as f d)), [.fr (.tuple as), .fr (.int f), .fr d]) := by
  rcases tup_cases d with ⟨xs, rfl⟩ | h
  · by_cases h4 : xs.length = 4
    · obtain ⟨a, b, c, p, rfl⟩ := len4 h4
      cases ba : btw 0 (f - 1) a with
      | false => simp [M__law_is_deal, b__law_is_deal, q_mulAI, q_mulAL, a_wb, q_divW, Function.comp_def, q_starI, q_starIT, a_wp, a_fz, a_fz0, a_fz1, a_ext, a_ins, a_insA, a_pop, a_parN, a_evO0, a_evO1, a_setO0, a_setO1, a_ix2, a_setII, a_zN, a_zC, a_lcO, d_oo, pEq_int, pNe_int, pIxL, pIxT, atI_nat, atI_0, atI_1, atI_2, atI_3, atI_m1, cutLo, cutHi, cutLo1, cutHi1, a_seq, a_ifS, a_B, a_op, a_ov, a_ev0, a_evv, a_evs, a_C, a_V, a_M, a_set, a_setI, a_app, a_ret, a_ex, a_skip, a_no, a_not, a_andT, a_orT, a_and, a_or, a_notV, a_if, a_par, a_call, a_forS, a_sq, a_r1, a_r2, a_en, a_zp, a_asT, a_chI, a_yes, a_lc, a_fn, okA, f_fr, bkA, rsvs, rsv, dvs, on1, on2, d_fr, d_ol, rsO, ndS, sl, putB, asT, setAll, ofO, Dy.ints1, Dy.ints2, nE, wipeE, unw, frO, q_addI, q_addL, q_addT, q_addS, q_sub, q_div, q_mod, q_pow, q_neg, q_cm, pIs, pIsn, q_isN, q_isI, q_isS, q_isT, q_isL, q_isB, q_lenL, q_lenT, pTup, pLst, q_tupL, q_tupT, q_lstL, q_lstT, q_revL, q_slL, q_slT, q_shL, q_shT, q_sqL, q_sqT, q_intI, q_max2, q_min2, q_aII, q_aBI, q_aTI, q_aTT, q_aLL, q_aTL, q_aIT, btwD, ba, insD]
      | true =>
        cases bb : btw 0 ((as.length : Int) - 1) b with
        | false => simp [M__law_is_deal, b__law_is_deal, q_mulAI, q_mulAL, a_wb, q_divW, Function.comp_def, q_starI, q_starIT, a_wp, a_fz, a_fz0, a_fz1, a_ext, a_ins, a_insA, a_pop, a_parN, a_evO0, a_evO1, a_setO0, a_setO1, a_ix2, a_setII, a_zN, a_zC, a_lcO, d_oo, pEq_int, pNe_int, pIxL, pIxT, atI_nat, atI_0, atI_1, atI_2, atI_3, atI_m1, cutLo, cutHi, cutLo1, cutHi1, a_seq, a_ifS, a_B, a_op, a_ov, a_ev0, a_evv, a_evs, a_C, a_V, a_M, a_set, a_setI, a_app, a_ret, a_ex, a_skip, a_no, a_not, a_andT, a_orT, a_and, a_or, a_notV, a_if, a_par, a_call, a_forS, a_sq, a_r1, a_r2, a_en, a_zp, a_asT, a_chI, a_yes, a_lc, a_fn, okA, f_fr, bkA, rsvs, rsv, dvs, on1, on2, d_fr, d_ol, rsO, ndS, sl, putB, asT, setAll, ofO, Dy.ints1, Dy.ints2, nE, wipeE, unw, frO, q_addI, q_addL, q_addT, q_addS, q_sub, q_div, q_mod, q_pow, q_neg, q_cm, pIs, pIsn, q_isN, q_isI, q_isS, q_isT, q_isL, q_isB, q_lenL, q_lenT, pTup, pLst, q_tupL, q_tupT, q_lstL, q_lstT, q_revL, q_slL, q_slT, q_shL, q_shT, q_sqL, q_sqT, q_intI, q_max2, q_min2, q_aII, q_aBI, q_aTI, q_aTT, q_aLL, q_aTL, q_aIT, btwD, ba, bb, insD]
        | true =>
          cases bp : btw 0 20 p with
          | false => simp [M__law_is_deal, b__law_is_deal, q_mulAI, q_mulAL, a_wb, q_divW, Function.comp_def, q_starI, q_starIT, a_wp, a_fz, a_fz0, a_fz1, a_ext, a_ins, a_insA, a_pop, a_parN, a_evO0, a_evO1, a_setO0, a_setO1, a_ix2, a_setII, a_zN, a_zC, a_lcO, d_oo, pEq_int, pNe_int, pIxL, pIxT, atI_nat, atI_0, atI_1, atI_2, atI_3, atI_m1, cutLo, cutHi, cutLo1, cutHi1, a_seq, a_ifS, a_B, a_op, a_ov, a_ev0, a_evv, a_evs, a_C, a_V, a_M, a_set, a_setI, a_app, a_ret, a_ex, a_skip, a_no, a_not, a_andT, a_orT, a_and, a_or, a_notV, a_if, a_par, a_call, a_forS, a_sq, a_r1, a_r2, a_en, a_zp, a_asT, a_chI, a_yes, a_lc, a_fn, okA, f_fr, bkA, rsvs, rsv, dvs, on1, on2, d_fr, d_ol, rsO, ndS, sl, putB, asT, setAll, ofO, Dy.ints1, Dy.ints2, nE, wipeE, unw, frO, q_addI, q_addL, q_addT, q_addS, q_sub, q_div, q_mod, q_pow, q_neg, q_cm, pIs, pIsn, q_isN, q_isI, q_isS, q_isT, q_isL, q_isB, q_lenL, q_lenT, pTup, pLst, q_tupL, q_tupT, q_lstL, q_lstT, q_revL, q_slL, q_slT, q_shL, q_shT, q_sqL, q_sqT, q_intI, q_max2, q_min2, q_aII, q_aBI, q_aTI, q_aTT, q_aLL, q_aTL, q_aIT, btwD, ba, bb, bp, insD]
          | true =>
            obtain ⟨k, rfl, k0, k1⟩ := btw_int bb
            obtain ⟨n, n1, n2⟩ := as_at ha k0 k1
            rcases tup_cases c with ⟨ys, rfl⟩ | hc
            · by_cases hn : (ys.length : Int) = n
              · have hy := hl _ rfl ys (by simp)
                obtain ⟨zs, e1, e2, _⟩ := lc_one (p := btw 0 (f - 1)) (test := T1__law_is_deal) (elt := E1__law_is_deal) (e := V__law_is_deal (ranks := fr (.tuple as)) (many := fr (.int f)) (row := fr (.tuple [a, .int k, .tuple ys, p]))) (vs := [3]) (t := .nm 3) ys hy (fun x hx => by
                  cases hx : btw 0 (f - 1) x <;> simp [T1__law_is_deal, E1__law_is_deal, q_mulAI, q_mulAL, a_wb, q_divW, Function.comp_def, q_starI, q_starIT, a_wp, a_fz, a_fz0, a_fz1, a_ext, a_ins, a_insA, a_pop, a_parN, a_evO0, a_evO1, a_setO0, a_setO1, a_ix2, a_setII, a_zN, a_zC, a_lcO, d_oo, pEq_int, pNe_int, pIxL, pIxT, atI_nat, atI_0, atI_1, atI_2, atI_3, atI_m1, cutLo, cutHi, cutLo1, cutHi1, a_seq, a_ifS, a_B, a_op, a_ov, a_ev0, a_evv, a_evs, a_C, a_V, a_M, a_set, a_setI, a_app, a_ret, a_ex, a_skip, a_no, a_not, a_andT, a_orT, a_and, a_or, a_notV, a_if, a_par, a_call, a_forS, a_sq, a_r1, a_r2, a_en, a_zp, a_asT, a_chI, a_yes, a_lc, a_fn, okA, f_fr, bkA, rsvs, rsv, dvs, on1, on2, d_fr, d_ol, rsO, ndS, sl, putB, asT, setAll, ofO, Dy.ints1, Dy.ints2, nE, wipeE, unw, frO, q_addI, q_addL, q_addT, q_addS, q_sub, q_div, q_mod, q_pow, q_neg, q_cm, pIs, pIsn, q_isN, q_isI, q_isS, q_isT, q_isL, q_isB, q_lenL, q_lenT, pTup, pLst, q_tupL, q_tupT, q_lstL, q_lstT, q_revL, q_slL, q_slT, q_shL, q_shT, q_sqL, q_sqT, q_intI, q_max2, q_min2, q_aII, q_aBI, q_aTI, q_aTT, q_aLL, q_aTL, q_aIT, btwD, hx])
                simp [M__law_is_deal, b__law_is_deal, q_mulAI, q_mulAL, a_wb, q_divW, Function.comp_def, q_starI, q_starIT, a_wp, a_fz, a_fz0, a_fz1, a_ext, a_ins, a_insA, a_pop, a_parN, a_evO0, a_evO1, a_setO0, a_setO1, a_ix2, a_setII, a_zN, a_zC, a_lcO, d_oo, pEq_int, pNe_int, pIxL, pIxT, atI_nat, atI_0, atI_1, atI_2, atI_3, atI_m1, cutLo, cutHi, cutLo1, cutHi1, a_seq, a_ifS, a_B, a_op, a_ov, a_ev0, a_evv, a_evs, a_C, a_V, a_M, a_set, a_setI, a_app, a_ret, a_ex, a_skip, a_no, a_not, a_andT, a_orT, a_and, a_or, a_notV, a_if, a_par, a_call, a_forS, a_sq, a_r1, a_r2, a_en, a_zp, a_asT, a_chI, a_yes, a_lc, a_fn, okA, f_fr, bkA, rsvs, rsv, dvs, on1, on2, d_fr, d_ol, rsO, ndS, sl, putB, asT, setAll, ofO, Dy.ints1, Dy.ints2, nE, wipeE, unw, frO, q_addI, q_addL, q_addT, q_addS, q_sub, q_div, q_mod, q_pow, q_neg, q_cm, pIs, pIsn, q_isN, q_isI, q_isS, q_isT, q_isL, q_isB, q_lenL, q_lenT, pTup, pLst, q_tupL, q_tupT, q_lstL, q_lstT, q_revL, q_slL, q_slT, q_shL, q_shT, q_sqL, q_sqT, q_intI, q_max2, q_min2, q_aII, q_aBI, q_aTI, q_aTT, q_aLL, q_aTL, q_aIT, btwD, ba, bb, bp, n2, hn, e1, e2, insD, argD, n1]
              · simp [M__law_is_deal, b__law_is_deal, q_mulAI, q_mulAL, a_wb, q_divW, Function.comp_def, q_starI, q_starIT, a_wp, a_fz, a_fz0, a_fz1, a_ext, a_ins, a_insA, a_pop, a_parN, a_evO0, a_evO1, a_setO0, a_setO1, a_ix2, a_setII, a_zN, a_zC, a_lcO, d_oo, pEq_int, pNe_int, pIxL, pIxT, atI_nat, atI_0, atI_1, atI_2, atI_3, atI_m1, cutLo, cutHi, cutLo1, cutHi1, a_seq, a_ifS, a_B, a_op, a_ov, a_ev0, a_evv, a_evs, a_C, a_V, a_M, a_set, a_setI, a_app, a_ret, a_ex, a_skip, a_no, a_not, a_andT, a_orT, a_and, a_or, a_notV, a_if, a_par, a_call, a_forS, a_sq, a_r1, a_r2, a_en, a_zp, a_asT, a_chI, a_yes, a_lc, a_fn, okA, f_fr, bkA, rsvs, rsv, dvs, on1, on2, d_fr, d_ol, rsO, ndS, sl, putB, asT, setAll, ofO, Dy.ints1, Dy.ints2, nE, wipeE, unw, frO, q_addI, q_addL, q_addT, q_addS, q_sub, q_div, q_mod, q_pow, q_neg, q_cm, pIs, pIsn, q_isN, q_isI, q_isS, q_isT, q_isL, q_isB, q_lenL, q_lenT, pTup, pLst, q_tupL, q_tupT, q_lstL, q_lstT, q_revL, q_slL, q_slT, q_shL, q_shT, q_sqL, q_sqT, q_intI, q_max2, q_min2, q_aII, q_aBI, q_aTI, q_aTT, q_aLL, q_aTL, q_aIT, btwD, ba, bb, bp, n2, hn, insD, argD, n1]
            · have ht : argD as f (.int k) c = false := by cases c <;> first | rfl | (exact absurd hc (by simp [isA]))
              simp [M__law_is_deal, b__law_is_deal, q_mulAI, q_mulAL, a_wb, q_divW, Function.comp_def, q_starI, q_starIT, a_wp, a_fz, a_fz0, a_fz1, a_ext, a_ins, a_insA, a_pop, a_parN, a_evO0, a_evO1, a_setO0, a_setO1, a_ix2, a_setII, a_zN, a_zC, a_lcO, d_oo, pEq_int, pNe_int, pIxL, pIxT, atI_nat, atI_0, atI_1, atI_2, atI_3, atI_m1, cutLo, cutHi, cutLo1, cutHi1, a_seq, a_ifS, a_B, a_op, a_ov, a_ev0, a_evv, a_evs, a_C, a_V, a_M, a_set, a_setI, a_app, a_ret, a_ex, a_skip, a_no, a_not, a_andT, a_orT, a_and, a_or, a_notV, a_if, a_par, a_call, a_forS, a_sq, a_r1, a_r2, a_en, a_zp, a_asT, a_chI, a_yes, a_lc, a_fn, okA, f_fr, bkA, rsvs, rsv, dvs, on1, on2, d_fr, d_ol, rsO, ndS, sl, putB, asT, setAll, ofO, Dy.ints1, Dy.ints2, nE, wipeE, unw, frO, q_addI, q_addL, q_addT, q_addS, q_sub, q_div, q_mod, q_pow, q_neg, q_cm, pIs, pIsn, q_isN, q_isI, q_isS, q_isT, q_isL, q_isB, q_lenL, q_lenT, pTup, pLst, q_tupL, q_tupT, q_lstL, q_lstT, q_revL, q_slL, q_slT, q_shL, q_shT, q_sqL, q_sqT, q_intI, q_max2, q_min2, q_aII, q_aBI, q_aTI, q_aTT, q_aLL, q_aTL, q_aIT, btwD, ba, bb, bp, hc, insD, ht]
    · have hi : ¬ ((xs.length : Int) = 4) := by omega
      simp [M__law_is_deal, b__law_is_deal, q_mulAI, q_mulAL, a_wb, q_divW, Function.comp_def, q_starI, q_starIT, a_wp, a_fz, a_fz0, a_fz1, a_ext, a_ins, a_insA, a_pop, a_parN, a_evO0, a_evO1, a_setO0, a_setO1, a_ix2, a_setII, a_zN, a_zC, a_lcO, d_oo, pEq_int, pNe_int, pIxL, pIxT, atI_nat, atI_0, atI_1, atI_2, atI_3, atI_m1, cutLo, cutHi, cutLo1, cutHi1, a_seq, a_ifS, a_B, a_op, a_ov, a_ev0, a_evv, a_evs, a_C, a_V, a_M, a_set, a_setI, a_app, a_ret, a_ex, a_skip, a_no, a_not, a_andT, a_orT, a_and, a_or, a_notV, a_if, a_par, a_call, a_forS, a_sq, a_r1, a_r2, a_en, a_zp, a_asT, a_chI, a_yes, a_lc, a_fn, okA, f_fr, bkA, rsvs, rsv, dvs, on1, on2, d_fr, d_ol, rsO, ndS, sl, putB, asT, setAll, ofO, Dy.ints1, Dy.ints2, nE, wipeE, unw, frO, q_addI, q_addL, q_addT, q_addS, q_sub, q_div, q_mod, q_pow, q_neg, q_cm, pIs, pIsn, q_isN, q_isI, q_isS, q_isT, q_isL, q_isB, q_lenL, q_lenT, pTup, pLst, q_tupL, q_tupT, q_lstL, q_lstT, q_revL, q_slL, q_slT, q_shL, q_shT, q_sqL, q_sqT, q_intI, q_max2, q_min2, q_aII, q_aBI, q_aTI, q_aTT, q_aLL, q_aTL, q_aIT, hi, insD_no h4]
  · have ht : insD as f d = false := by cases d <;> first | rfl | (exact absurd h (by simp [isA]))
    simp [M__law_is_deal, b__law_is_deal, q_mulAI, q_mulAL, a_wb, q_divW, Function.comp_def, q_starI, q_starIT, a_wp, a_fz, a_fz0, a_fz1, a_ext, a_ins, a_insA, a_pop, a_parN, a_evO0, a_evO1, a_setO0, a_setO1, a_ix2, a_setII, a_zN, a_zC, a_lcO, d_oo, pEq_int, pNe_int, pIxL, pIxT, atI_nat, atI_0, atI_1, atI_2, atI_3, atI_m1, cutLo, cutHi, cutLo1, cutHi1, a_seq, a_ifS, a_B, a_op, a_ov, a_ev0, a_evv, a_evs, a_C, a_V, a_M, a_set, a_setI, a_app, a_ret, a_ex, a_skip, a_no, a_not, a_andT, a_orT, a_and, a_or, a_notV, a_if, a_par, a_call, a_forS, a_sq, a_r1, a_r2, a_en, a_zp, a_asT, a_chI, a_yes, a_lc, a_fn, okA, f_fr, bkA, rsvs, rsv, dvs, on1, on2, d_fr, d_ol, rsO, ndS, sl, putB, asT, setAll, ofO, Dy.ints1, Dy.ints2, nE, wipeE, unw, frO, q_addI, q_addL, q_addT, q_addS, q_sub, q_div, q_mod, q_pow, q_neg, q_cm, pIs, pIsn, q_isN, q_isI, q_isS, q_isT, q_isL, q_isB, q_lenL, q_lenT, pTup, pLst, q_tupL, q_tupT, q_lstL, q_lstT, q_revL, q_slL, q_slT, q_shL, q_shT, q_sqL, q_sqT, q_intI, q_max2, q_min2, q_aII, q_aBI, q_aTI, q_aTT, q_aLL, q_aTL, q_aIT, h, ht]
abbrev kE (f cs : PyData) : Dy.Env := [none, none, none, fr f, none, fr cs, none, none]
theorem turnK {f : Int} {cs x : PyData} : (conD f x = true → (asT (.nm 1) x (kE (.int f) cs) >>= L1__law_is_kit) = .ok (.nx, kE (.int f) cs)) ∧ (conD f x = false → ∃ e', (asT (.nm 1) x (kE (.int f) cs) >>= L1__law_is_kit) = .ok (.rt (.fr (.bool false)), e')) := by
  rcases tup_cases x with ⟨xs, rfl⟩ | h
  · by_cases h3 : xs.length = 3
    · obtain ⟨a, b, p, rfl⟩ := len3 h3
      cases bp : btw 0 20 p with
      | false => exact ⟨fun z => by simp [conD, bp] at z, fun _ => ⟨_, by simp [L1__law_is_kit, q_mulAI, q_mulAL, a_wb, q_divW, Function.comp_def, q_starI, q_starIT, a_wp, a_fz, a_fz0, a_fz1, a_ext, a_ins, a_insA, a_pop, a_parN, a_evO0, a_evO1, a_setO0, a_setO1, a_ix2, a_setII, a_zN, a_zC, a_lcO, d_oo, pEq_int, pNe_int, pIxL, pIxT, atI_nat, atI_0, atI_1, atI_2, atI_3, atI_m1, cutLo, cutHi, cutLo1, cutHi1, a_seq, a_ifS, a_B, a_op, a_ov, a_ev0, a_evv, a_evs, a_C, a_V, a_M, a_set, a_setI, a_app, a_ret, a_ex, a_skip, a_no, a_not, a_andT, a_orT, a_and, a_or, a_notV, a_if, a_par, a_call, a_forS, a_sq, a_r1, a_r2, a_en, a_zp, a_asT, a_chI, a_yes, a_lc, a_fn, okA, f_fr, bkA, rsvs, rsv, dvs, on1, on2, d_fr, d_ol, rsO, ndS, sl, putB, asT, setAll, ofO, Dy.ints1, Dy.ints2, nE, wipeE, unw, frO, q_addI, q_addL, q_addT, q_addS, q_sub, q_div, q_mod, q_pow, q_neg, q_cm, pIs, pIsn, q_isN, q_isI, q_isS, q_isT, q_isL, q_isB, q_lenL, q_lenT, pTup, pLst, q_tupL, q_tupT, q_lstL, q_lstT, q_revL, q_slL, q_slT, q_shL, q_shT, q_sqL, q_sqT, q_intI, q_max2, q_min2, q_aII, q_aBI, q_aTI, q_aTT, q_aLL, q_aTL, q_aIT, btwD, bp]; rfl⟩⟩
      | true =>
        have hc : cutD [a, b, p] none (some 2) = [a, b] := rfl
        obtain ⟨zs, e1, _, e2⟩ := lc_one (p := btw 0 (f - 1)) (test := T3__law_is_kit) (elt := E3__law_is_kit) (e := [none, fr (.tuple [a, b, p]), none, fr (.int f), none, fr cs, none, none]) (vs := [7]) (t := .nm 7) [a, b] (by simp) (fun x hx => by
          cases hx : btw 0 (f - 1) x <;> simp [T3__law_is_kit, E3__law_is_kit, q_mulAI, q_mulAL, a_wb, q_divW, Function.comp_def, q_starI, q_starIT, a_wp, a_fz, a_fz0, a_fz1, a_ext, a_ins, a_insA, a_pop, a_parN, a_evO0, a_evO1, a_setO0, a_setO1, a_ix2, a_setII, a_zN, a_zC, a_lcO, d_oo, pEq_int, pNe_int, pIxL, pIxT, atI_nat, atI_0, atI_1, atI_2, atI_3, atI_m1, cutLo, cutHi, cutLo1, cutHi1, a_seq, a_ifS, a_B, a_op, a_ov, a_ev0, a_evv, a_evs, a_C, a_V, a_M, a_set, a_setI, a_app, a_ret, a_ex, a_skip, a_no, a_not, a_andT, a_orT, a_and, a_or, a_notV, a_if, a_par, a_call, a_forS, a_sq, a_r1, a_r2, a_en, a_zp, a_asT, a_chI, a_yes, a_lc, a_fn, okA, f_fr, bkA, rsvs, rsv, dvs, on1, on2, d_fr, d_ol, rsO, ndS, sl, putB, asT, setAll, ofO, Dy.ints1, Dy.ints2, nE, wipeE, unw, frO, q_addI, q_addL, q_addT, q_addS, q_sub, q_div, q_mod, q_pow, q_neg, q_cm, pIs, pIsn, q_isN, q_isI, q_isS, q_isT, q_isL, q_isB, q_lenL, q_lenT, pTup, pLst, q_tupL, q_tupT, q_lstL, q_lstT, q_revL, q_slL, q_slT, q_shL, q_shT, q_sqL, q_sqT, q_intI, q_max2, q_min2, q_aII, q_aBI, q_aTI, q_aTT, q_aLL, q_aTL, q_aIT, btwD, hx])
        cases ba : btw 0 (f - 1) a with
        | false =>
          rw [show [a, b].all (btw 0 (f - 1)) = false by simp [ba]] at e2
          refine ⟨fun z => by simp [conD, bp, ba] at z, fun _ => ⟨[none, none, none, fr (.int f), none, fr cs, none, none], ?_⟩⟩
          simp [L1__law_is_kit, q_mulAI, q_mulAL, a_wb, q_divW, Function.comp_def, q_starI, q_starIT, a_wp, a_fz, a_fz0, a_fz1, a_ext, a_ins, a_insA, a_pop, a_parN, a_evO0, a_evO1, a_setO0, a_setO1, a_ix2, a_setII, a_zN, a_zC, a_lcO, d_oo, pEq_int, pNe_int, pIxL, pIxT, atI_nat, atI_0, atI_1, atI_2, atI_3, atI_m1, cutLo, cutLo1, cutHi1, a_seq, a_ifS, a_B, a_op, a_ov, a_ev0, a_evv, a_evs, a_C, a_V, a_M, a_set, a_setI, a_app, a_ret, a_ex, a_skip, a_no, a_not, a_andT, a_orT, a_and, a_or, a_notV, a_if, a_par, a_call, a_forS, a_sq, a_r1, a_r2, a_en, a_zp, a_asT, a_chI, a_yes, a_lc, a_fn, okA, f_fr, bkA, rsvs, rsv, dvs, on1, on2, d_fr, d_ol, rsO, ndS, sl, putB, asT, setAll, ofO, Dy.ints1, Dy.ints2, nE, wipeE, unw, frO, q_addI, q_addL, q_addT, q_addS, q_sub, q_div, q_mod, q_pow, q_neg, q_cm, pIs, pIsn, q_isN, q_isI, q_isS, q_isT, q_isL, q_isB, q_lenL, q_lenT, pTup, pLst, q_tupL, q_tupT, q_lstL, q_lstT, q_revL, q_slL, q_slT, q_shL, q_shT, q_sqL, q_sqT, q_intI, q_max2, q_min2, q_aII, q_aBI, q_aTI, q_aTT, q_aLL, q_aTL, q_aIT, btwD, bp, hc, e1, e2]
        | true =>
          cases bb : btw 0 (f - 1) b with
          | false =>
            rw [show [a, b].all (btw 0 (f - 1)) = false by simp [bb]] at e2
            refine ⟨fun z => by simp [conD, bp, ba, bb] at z, fun _ => ⟨[none, none, none, fr (.int f), none, fr cs, none, none], ?_⟩⟩
            simp [L1__law_is_kit, q_mulAI, q_mulAL, a_wb, q_divW, Function.comp_def, q_starI, q_starIT, a_wp, a_fz, a_fz0, a_fz1, a_ext, a_ins, a_insA, a_pop, a_parN, a_evO0, a_evO1, a_setO0, a_setO1, a_ix2, a_setII, a_zN, a_zC, a_lcO, d_oo, pEq_int, pNe_int, pIxL, pIxT, atI_nat, atI_0, atI_1, atI_2, atI_3, atI_m1, cutLo, cutLo1, cutHi1, a_seq, a_ifS, a_B, a_op, a_ov, a_ev0, a_evv, a_evs, a_C, a_V, a_M, a_set, a_setI, a_app, a_ret, a_ex, a_skip, a_no, a_not, a_andT, a_orT, a_and, a_or, a_notV, a_if, a_par, a_call, a_forS, a_sq, a_r1, a_r2, a_en, a_zp, a_asT, a_chI, a_yes, a_lc, a_fn, okA, f_fr, bkA, rsvs, rsv, dvs, on1, on2, d_fr, d_ol, rsO, ndS, sl, putB, asT, setAll, ofO, Dy.ints1, Dy.ints2, nE, wipeE, unw, frO, q_addI, q_addL, q_addT, q_addS, q_sub, q_div, q_mod, q_pow, q_neg, q_cm, pIs, pIsn, q_isN, q_isI, q_isS, q_isT, q_isL, q_isB, q_lenL, q_lenT, pTup, pLst, q_tupL, q_tupT, q_lstL, q_lstT, q_revL, q_slL, q_slT, q_shL, q_shT, q_sqL, q_sqT, q_intI, q_max2, q_min2, q_aII, q_aBI, q_aTI, q_aTT, q_aLL, q_aTL, q_aIT, btwD, bp, hc, e1, e2]
          | true =>
            rw [show [a, b].all (btw 0 (f - 1)) = true by simp [ba, bb]] at e2
            obtain ⟨i, rfl, _, _⟩ := btw_int ba
            obtain ⟨j, rfl, _, _⟩ := btw_int bb
            by_cases ij : i = j
            · subst ij
              refine ⟨fun z => by simp [conD, bp, ba, neD] at z, fun _ => ⟨[none, none, none, fr (.int f), none, fr cs, none, none], ?_⟩⟩
              simp [L1__law_is_kit, q_mulAI, q_mulAL, a_wb, q_divW, Function.comp_def, q_starI, q_starIT, a_wp, a_fz, a_fz0, a_fz1, a_ext, a_ins, a_insA, a_pop, a_parN, a_evO0, a_evO1, a_setO0, a_setO1, a_ix2, a_setII, a_zN, a_zC, a_lcO, d_oo, pEq_int, pNe_int, pIxL, pIxT, atI_nat, atI_0, atI_1, atI_2, atI_3, atI_m1, cutLo, cutLo1, cutHi1, a_seq, a_ifS, a_B, a_op, a_ov, a_ev0, a_evv, a_evs, a_C, a_V, a_M, a_set, a_setI, a_app, a_ret, a_ex, a_skip, a_no, a_not, a_andT, a_orT, a_and, a_or, a_notV, a_if, a_par, a_call, a_forS, a_sq, a_r1, a_r2, a_en, a_zp, a_asT, a_chI, a_yes, a_lc, a_fn, okA, f_fr, bkA, rsvs, rsv, dvs, on1, on2, d_fr, d_ol, rsO, ndS, sl, putB, asT, setAll, ofO, Dy.ints1, Dy.ints2, nE, wipeE, unw, frO, q_addI, q_addL, q_addT, q_addS, q_sub, q_div, q_mod, q_pow, q_neg, q_cm, pIs, pIsn, q_isN, q_isI, q_isS, q_isT, q_isL, q_isB, q_lenL, q_lenT, pTup, pLst, q_tupL, q_tupT, q_lstL, q_lstT, q_revL, q_slL, q_slT, q_shL, q_shT, q_sqL, q_sqT, q_intI, q_max2, q_min2, q_aII, q_aBI, q_aTI, q_aTT, q_aLL, q_aTL, q_aIT, btwD, bp, hc, e1, e2]
            · refine ⟨fun _ => ?_, fun z => by simp [conD, bp, ba, bb, neD, ij] at z⟩
              simp [L1__law_is_kit, q_mulAI, q_mulAL, a_wb, q_divW, Function.comp_def, q_starI, q_starIT, a_wp, a_fz, a_fz0, a_fz1, a_ext, a_ins, a_insA, a_pop, a_parN, a_evO0, a_evO1, a_setO0, a_setO1, a_ix2, a_setII, a_zN, a_zC, a_lcO, d_oo, pEq_int, pNe_int, pIxL, pIxT, atI_nat, atI_0, atI_1, atI_2, atI_3, atI_m1, cutLo, cutLo1, cutHi1, a_seq, a_ifS, a_B, a_op, a_ov, a_ev0, a_evv, a_evs, a_C, a_V, a_M, a_set, a_setI, a_app, a_ret, a_ex, a_skip, a_no, a_not, a_andT, a_orT, a_and, a_or, a_notV, a_if, a_par, a_call, a_forS, a_sq, a_r1, a_r2, a_en, a_zp, a_asT, a_chI, a_yes, a_lc, a_fn, okA, f_fr, bkA, rsvs, rsv, dvs, on1, on2, d_fr, d_ol, rsO, ndS, sl, putB, asT, setAll, ofO, Dy.ints1, Dy.ints2, nE, wipeE, unw, frO, q_addI, q_addL, q_addT, q_addS, q_sub, q_div, q_mod, q_pow, q_neg, q_cm, pIs, pIsn, q_isN, q_isI, q_isS, q_isT, q_isL, q_isB, q_lenL, q_lenT, pTup, pLst, q_tupL, q_tupT, q_lstL, q_lstT, q_revL, q_slL, q_slT, q_shL, q_shT, q_sqL, q_sqT, q_intI, q_max2, q_min2, q_aII, q_aBI, q_aTI, q_aTT, q_aLL, q_aTL, q_aIT, btwD, bp, hc, e1, e2, ij]
    · have hi : ¬ ((xs.length : Int) = 3) := by omega
      exact ⟨fun z => (by rw [conD_no h3] at z; cases z), fun _ => ⟨_, by simp [L1__law_is_kit, q_mulAI, q_mulAL, a_wb, q_divW, Function.comp_def, q_starI, q_starIT, a_wp, a_fz, a_fz0, a_fz1, a_ext, a_ins, a_insA, a_pop, a_parN, a_evO0, a_evO1, a_setO0, a_setO1, a_ix2, a_setII, a_zN, a_zC, a_lcO, d_oo, pEq_int, pNe_int, pIxL, pIxT, atI_nat, atI_0, atI_1, atI_2, atI_3, atI_m1, cutLo, cutHi, cutLo1, cutHi1, a_seq, a_ifS, a_B, a_op, a_ov, a_ev0, a_evv, a_evs, a_C, a_V, a_M, a_set, a_setI, a_app, a_ret, a_ex, a_skip, a_no, a_not, a_andT, a_orT, a_and, a_or, a_notV, a_if, a_par, a_call, a_forS, a_sq, a_r1, a_r2, a_en, a_zp, a_asT, a_chI, a_yes, a_lc, a_fn, okA, f_fr, bkA, rsvs, rsv, dvs, on1, on2, d_fr, d_ol, rsO, ndS, sl, putB, asT, setAll, ofO, Dy.ints1, Dy.ints2, nE, wipeE, unw, frO, q_addI, q_addL, q_addT, q_addS, q_sub, q_div, q_mod, q_pow, q_neg, q_cm, pIs, pIsn, q_isN, q_isI, q_isS, q_isT, q_isL, q_isB, q_lenL, q_lenT, pTup, pLst, q_tupL, q_tupT, q_lstL, q_lstT, q_revL, q_slL, q_slT, q_shL, q_shT, q_sqL, q_sqT, q_intI, q_max2, q_min2, q_aII, q_aBI, q_aTI, q_aTT, q_aLL, q_aTL, q_aIT, hi]; rfl⟩⟩
  · have ht : conD f x = false := by cases x <;> first | rfl | (exact absurd h (by simp [isA]))
    exact ⟨fun z => (by rw [ht] at z; cases z), fun _ => ⟨_, by simp [L1__law_is_kit, q_mulAI, q_mulAL, a_wb, q_divW, Function.comp_def, q_starI, q_starIT, a_wp, a_fz, a_fz0, a_fz1, a_ext, a_ins, a_insA, a_pop, a_parN, a_evO0, a_evO1, a_setO0, a_setO1, a_ix2, a_setII, a_zN, a_zC, a_lcO, d_oo, pEq_int, pNe_int, pIxL, pIxT, atI_nat, atI_0, atI_1, atI_2, atI_3, atI_m1, cutLo, cutHi, cutLo1, cutHi1, a_seq, a_ifS, a_B, a_op, a_ov, a_ev0, a_evv, a_evs, a_C, a_V, a_M, a_set, a_setI, a_app, a_ret, a_ex, a_skip, a_no, a_not, a_andT, a_orT, a_and, a_or, a_notV, a_if, a_par, a_call, a_forS, a_sq, a_r1, a_r2, a_en, a_zp, a_asT, a_chI, a_yes, a_lc, a_fn, okA, f_fr, bkA, rsvs, rsv, dvs, on1, on2, d_fr, d_ol, rsO, ndS, sl, putB, asT, setAll, ofO, Dy.ints1, Dy.ints2, nE, wipeE, unw, frO, q_addI, q_addL, q_addT, q_addS, q_sub, q_div, q_mod, q_pow, q_neg, q_cm, pIs, pIsn, q_isN, q_isI, q_isS, q_isT, q_isL, q_isB, q_lenL, q_lenT, pTup, pLst, q_tupL, q_tupT, q_lstL, q_lstT, q_revL, q_slL, q_slT, q_shL, q_shT, q_sqL, q_sqT, q_intI, q_max2, q_min2, q_aII, q_aBI, q_aTI, q_aTT, q_aLL, q_aTL, q_aIT, h]; rfl⟩⟩
theorem kitD (d : PyData) (hf : Fit d) : M__law_is_kit [.fr d] = .ok (.fr (.bool (mcD d)), [.fr d]) := by
  rcases tup_cases d with ⟨xs, rfl⟩ | h
  · by_cases h4 : xs.length = 4
    · obtain ⟨a, f, is, cs, rfl⟩ := len4 h4
      cases bf : btw 1 4 f with
      | false =>
        have ht : mcD (.tuple [a, f, is, cs]) = false := by
          unfold mcD; split
          · rename_i e; injection e with e; injection e with e1 e2; injection e2 with e2 e3; subst e2; rw [bf]; simp
          · rfl
        simp [M__law_is_kit, b__law_is_kit, q_mulAI, q_mulAL, a_wb, q_divW, Function.comp_def, q_starI, q_starIT, a_wp, a_fz, a_fz0, a_fz1, a_ext, a_ins, a_insA, a_pop, a_parN, a_evO0, a_evO1, a_setO0, a_setO1, a_ix2, a_setII, a_zN, a_zC, a_lcO, d_oo, pEq_int, pNe_int, pIxL, pIxT, atI_nat, atI_0, atI_1, atI_2, atI_3, atI_m1, cutLo, cutHi, cutLo1, cutHi1, a_seq, a_ifS, a_B, a_op, a_ov, a_ev0, a_evv, a_evs, a_C, a_V, a_M, a_set, a_setI, a_app, a_ret, a_ex, a_skip, a_no, a_not, a_andT, a_orT, a_and, a_or, a_notV, a_if, a_par, a_call, a_forS, a_sq, a_r1, a_r2, a_en, a_zp, a_asT, a_chI, a_yes, a_lc, a_fn, okA, f_fr, bkA, rsvs, rsv, dvs, on1, on2, d_fr, d_ol, rsO, ndS, sl, putB, asT, setAll, ofO, Dy.ints1, Dy.ints2, nE, wipeE, unw, frO, q_addI, q_addL, q_addT, q_addS, q_sub, q_div, q_mod, q_pow, q_neg, q_cm, pIs, pIsn, q_isN, q_isI, q_isS, q_isT, q_isL, q_isB, q_lenL, q_lenT, pTup, pLst, q_tupL, q_tupT, q_lstL, q_lstT, q_revL, q_slL, q_slT, q_shL, q_shT, q_sqL, q_sqT, q_intI, q_max2, q_min2, q_aII, q_aBI, q_aTI, q_aTT, q_aLL, q_aTL, q_aIT, btwD, bf, ht]
      | true =>
        obtain ⟨fi, rfl, f0, f1⟩ := btw_int bf
        rcases tup_cases a with ⟨as, rfl⟩ | hA
        · by_cases hl : 1 ≤ as.length ∧ as.length ≤ 6
          · have hl' : (1 : Int) ≤ as.length ∧ (as.length : Int) ≤ 6 := by omega
            rcases tup_cases is with ⟨is, rfl⟩ | hi
            · by_cases l1 : is.length ≤ 24
              · have l1' : ¬ ((24 : Int) < is.length) := by omega
                obtain ⟨ws, w1, _, w2⟩ := lc_one (p := btw 0 2) (test := T1__law_is_kit) (elt := E1__law_is_kit) (e := [fr (.tuple [.tuple as, .int fi, .tuple is, cs]), none, fr (.tuple as), fr (.int fi), fr (.tuple is), fr cs, none, none]) (vs := [6]) (t := .nm 6) as (by omega) (fun x hx => by
                  cases hx : btw 0 2 x <;> simp [T1__law_is_kit, E1__law_is_kit, q_mulAI, q_mulAL, a_wb, q_divW, Function.comp_def, q_starI, q_starIT, a_wp, a_fz, a_fz0, a_fz1, a_ext, a_ins, a_insA, a_pop, a_parN, a_evO0, a_evO1, a_setO0, a_setO1, a_ix2, a_setII, a_zN, a_zC, a_lcO, d_oo, pEq_int, pNe_int, pIxL, pIxT, atI_nat, atI_0, atI_1, atI_2, atI_3, atI_m1, cutLo, cutHi, cutLo1, cutHi1, a_seq, a_ifS, a_B, a_op, a_ov, a_ev0, a_evv, a_evs, a_C, a_V, a_M, a_set, a_setI, a_app, a_ret, a_ex, a_skip, a_no, a_not, a_andT, a_orT, a_and, a_or, a_notV, a_if, a_par, a_call, a_forS, a_sq, a_r1, a_r2, a_en, a_zp, a_asT, a_chI, a_yes, a_lc, a_fn, okA, f_fr, bkA, rsvs, rsv, dvs, on1, on2, d_fr, d_ol, rsO, ndS, sl, putB, asT, setAll, ofO, Dy.ints1, Dy.ints2, nE, wipeE, unw, frO, q_addI, q_addL, q_addT, q_addS, q_sub, q_div, q_mod, q_pow, q_neg, q_cm, pIs, pIsn, q_isN, q_isI, q_isS, q_isT, q_isL, q_isB, q_lenL, q_lenT, pTup, pLst, q_tupL, q_tupT, q_lstL, q_lstT, q_revL, q_slL, q_slT, q_shL, q_shT, q_sqL, q_sqT, q_intI, q_max2, q_min2, q_aII, q_aBI, q_aTI, q_aTT, q_aLL, q_aTL, q_aIT, btwD, hx])
                cases ha2 : as.all (btw 0 2) with
                | false =>
                  rw [ha2] at w2
                  have ht : mcD (.tuple [.tuple as, .int fi, .tuple is, cs]) = false := by
                    cases cs <;> first | rfl | simp [mcD, arD, ha2]
                  simp [M__law_is_kit, b__law_is_kit, q_mulAI, q_mulAL, a_wb, q_divW, Function.comp_def, q_starI, q_starIT, a_wp, a_fz, a_fz0, a_fz1, a_ext, a_ins, a_insA, a_pop, a_parN, a_evO0, a_evO1, a_setO0, a_setO1, a_ix2, a_setII, a_zN, a_zC, a_lcO, d_oo, pEq_int, pNe_int, pIxL, pIxT, atI_nat, atI_0, atI_1, atI_2, atI_3, atI_m1, cutLo, cutHi, cutLo1, cutHi1, a_seq, a_ifS, a_B, a_op, a_ov, a_ev0, a_evv, a_evs, a_C, a_V, a_M, a_set, a_setI, a_app, a_ret, a_ex, a_skip, a_no, a_not, a_andT, a_orT, a_and, a_or, a_notV, a_if, a_par, a_call, a_forS, a_sq, a_r1, a_r2, a_en, a_zp, a_asT, a_chI, a_yes, a_lc, a_fn, okA, f_fr, bkA, rsvs, rsv, dvs, on1, on2, d_fr, d_ol, rsO, ndS, sl, putB, asT, setAll, ofO, Dy.ints1, Dy.ints2, nE, wipeE, unw, frO, q_addI, q_addL, q_addT, q_addS, q_sub, q_div, q_mod, q_pow, q_neg, q_cm, pIs, pIsn, q_isN, q_isI, q_isS, q_isT, q_isL, q_isB, q_lenL, q_lenT, pTup, pLst, q_tupL, q_tupT, q_lstL, q_lstT, q_revL, q_slL, q_slT, q_shL, q_shT, q_sqL, q_sqT, q_intI, q_max2, q_min2, q_aII, q_aBI, q_aTI, q_aTT, q_aLL, q_aTL, q_aIT, btwD, bf, hl', l1', w1, w2, ht]
                | true =>
                  rw [ha2] at w2
                  have hA : arD (.tuple as) = true := arD_of ha2 hl.1 hl.2
                  rcases tup_cases cs with ⟨cs, rfl⟩ | hc
                  · by_cases l2 : cs.length ≤ 12
                    · have l2' : ¬ ((12 : Int) < cs.length) := by omega
                      obtain ⟨ys, e1, _, q1⟩ := lc_one (p := insD as fi) (test := T2__law_is_kit) (elt := E2__law_is_kit) (e := [fr (.tuple [.tuple as, .int fi, .tuple is, .tuple cs]), none, fr (.tuple as), fr (.int fi), fr (.tuple is), fr (.tuple cs), none, none]) (vs := [1]) (t := .nm 1) is (by omega) (fun x hx => by
                        have hr := dealD ha2 fi x (fun ys e zs hz => hf _ rfl is (by simp) x hx ys e zs hz)
                        cases hx : insD as fi x <;> simp [T2__law_is_kit, E2__law_is_kit, q_mulAI, q_mulAL, a_wb, q_divW, Function.comp_def, q_starI, q_starIT, a_wp, a_fz, a_fz0, a_fz1, a_ext, a_ins, a_insA, a_pop, a_parN, a_evO0, a_evO1, a_setO0, a_setO1, a_ix2, a_setII, a_zN, a_zC, a_lcO, d_oo, pEq_int, pNe_int, pIxL, pIxT, atI_nat, atI_0, atI_1, atI_2, atI_3, atI_m1, cutLo, cutHi, cutLo1, cutHi1, a_seq, a_ifS, a_B, a_op, a_ov, a_ev0, a_evv, a_evs, a_C, a_V, a_M, a_set, a_setI, a_app, a_ret, a_ex, a_skip, a_no, a_not, a_andT, a_orT, a_and, a_or, a_notV, a_if, a_par, a_call, a_forS, a_sq, a_r1, a_r2, a_en, a_zp, a_asT, a_chI, a_yes, a_lc, a_fn, okA, f_fr, bkA, rsvs, rsv, dvs, on1, on2, d_fr, d_ol, rsO, ndS, sl, putB, asT, setAll, ofO, Dy.ints1, Dy.ints2, nE, wipeE, unw, frO, q_addI, q_addL, q_addT, q_addS, q_sub, q_div, q_mod, q_pow, q_neg, q_cm, pIs, pIsn, q_isN, q_isI, q_isS, q_isT, q_isL, q_isB, q_lenL, q_lenT, pTup, pLst, q_tupL, q_tupT, q_lstL, q_lstT, q_revL, q_slL, q_slT, q_shL, q_shT, q_sqL, q_sqT, q_intI, q_max2, q_min2, q_aII, q_aBI, q_aTI, q_aTT, q_aLL, q_aTL, q_aIT, hr, hx])
                      cases b1 : is.all (insD as fi) with
                      | false =>
                        rw [b1] at q1
                        simp [M__law_is_kit, b__law_is_kit, q_mulAI, q_mulAL, a_wb, q_divW, Function.comp_def, q_starI, q_starIT, a_wp, a_fz, a_fz0, a_fz1, a_ext, a_ins, a_insA, a_pop, a_parN, a_evO0, a_evO1, a_setO0, a_setO1, a_ix2, a_setII, a_zN, a_zC, a_lcO, d_oo, pEq_int, pNe_int, pIxL, pIxT, atI_nat, atI_0, atI_1, atI_2, atI_3, atI_m1, cutLo, cutHi, cutLo1, cutHi1, a_seq, a_ifS, a_B, a_op, a_ov, a_ev0, a_evv, a_evs, a_C, a_V, a_M, a_set, a_setI, a_app, a_ret, a_ex, a_skip, a_no, a_not, a_andT, a_orT, a_and, a_or, a_notV, a_if, a_par, a_call, a_forS, a_sq, a_r1, a_r2, a_en, a_zp, a_asT, a_chI, a_yes, a_lc, a_fn, okA, f_fr, bkA, rsvs, rsv, dvs, on1, on2, d_fr, d_ol, rsO, ndS, sl, putB, asT, setAll, ofO, Dy.ints1, Dy.ints2, nE, wipeE, unw, frO, q_addI, q_addL, q_addT, q_addS, q_sub, q_div, q_mod, q_pow, q_neg, q_cm, pIs, pIsn, q_isN, q_isI, q_isS, q_isT, q_isL, q_isB, q_lenL, q_lenT, pTup, pLst, q_tupL, q_tupT, q_lstL, q_lstT, q_revL, q_slL, q_slT, q_shL, q_shT, q_sqL, q_sqT, q_intI, q_max2, q_min2, q_aII, q_aBI, q_aTI, q_aTT, q_aLL, q_aTL, q_aIT, btwD, bf, hl', l1', w1, w2, l2', e1, q1, mcD, b1]
                      | true =>
                        rw [b1] at q1
                        obtain ⟨g1, g2⟩ := for_chk (t := .nm 1) (body := L1__law_is_kit) (p := conD fi) (o := .fr (.bool false)) (env := kE (.int fi) (.tuple cs)) (xs := cs) (fun x _ hq => turnK.1 hq) (fun x _ hq => turnK.2 hq)
                        cases b2 : cs.all (conD fi) with
                        | true =>
                          have e := g1 b2
                          simp [M__law_is_kit, b__law_is_kit, q_mulAI, q_mulAL, a_wb, q_divW, Function.comp_def, q_starI, q_starIT, a_wp, a_fz, a_fz0, a_fz1, a_ext, a_ins, a_insA, a_pop, a_parN, a_evO0, a_evO1, a_setO0, a_setO1, a_ix2, a_setII, a_zN, a_zC, a_lcO, d_oo, pEq_int, pNe_int, pIxL, pIxT, atI_nat, atI_0, atI_1, atI_2, atI_3, atI_m1, cutLo, cutHi, cutLo1, cutHi1, a_seq, a_ifS, a_B, a_op, a_ov, a_ev0, a_evv, a_evs, a_C, a_V, a_M, a_set, a_setI, a_app, a_ret, a_ex, a_skip, a_no, a_not, a_andT, a_orT, a_and, a_or, a_notV, a_if, a_par, a_call, a_forS, a_sq, a_r1, a_r2, a_en, a_zp, a_asT, a_chI, a_yes, a_lc, a_fn, okA, f_fr, bkA, rsvs, rsv, dvs, on1, on2, d_fr, d_ol, rsO, ndS, sl, putB, asT, setAll, ofO, Dy.ints1, Dy.ints2, nE, wipeE, unw, frO, q_addI, q_addL, q_addT, q_addS, q_sub, q_div, q_mod, q_pow, q_neg, q_cm, pIs, pIsn, q_isN, q_isI, q_isS, q_isT, q_isL, q_isB, q_lenL, q_lenT, pTup, pLst, q_tupL, q_tupT, q_lstL, q_lstT, q_revL, q_slL, q_slT, q_shL, q_shT, q_sqL, q_sqT, q_intI, q_max2, q_min2, q_aII, q_aBI, q_aTI, q_aTT, q_aLL, q_aTL, q_aIT, btwD, bf, hl', l1', w1, w2, l2', e1, q1, e, mcD, b1, b2, hA, l1, l2]
                        | false =>
                          obtain ⟨e', e⟩ := g2 b2
                          simp [M__law_is_kit, b__law_is_kit, q_mulAI, q_mulAL, a_wb, q_divW, Function.comp_def, q_starI, q_starIT, a_wp, a_fz, a_fz0, a_fz1, a_ext, a_ins, a_insA, a_pop, a_parN, a_evO0, a_evO1, a_setO0, a_setO1, a_ix2, a_setII, a_zN, a_zC, a_lcO, d_oo, pEq_int, pNe_int, pIxL, pIxT, atI_nat, atI_0, atI_1, atI_2, atI_3, atI_m1, cutLo, cutHi, cutLo1, cutHi1, a_seq, a_ifS, a_B, a_op, a_ov, a_ev0, a_evv, a_evs, a_C, a_V, a_M, a_set, a_setI, a_app, a_ret, a_ex, a_skip, a_no, a_not, a_andT, a_orT, a_and, a_or, a_notV, a_if, a_par, a_call, a_forS, a_sq, a_r1, a_r2, a_en, a_zp, a_asT, a_chI, a_yes, a_lc, a_fn, okA, f_fr, bkA, rsvs, rsv, dvs, on1, on2, d_fr, d_ol, rsO, ndS, sl, putB, asT, setAll, ofO, Dy.ints1, Dy.ints2, nE, wipeE, unw, frO, q_addI, q_addL, q_addT, q_addS, q_sub, q_div, q_mod, q_pow, q_neg, q_cm, pIs, pIsn, q_isN, q_isI, q_isS, q_isT, q_isL, q_isB, q_lenL, q_lenT, pTup, pLst, q_tupL, q_tupT, q_lstL, q_lstT, q_revL, q_slL, q_slT, q_shL, q_shT, q_sqL, q_sqT, q_intI, q_max2, q_min2, q_aII, q_aBI, q_aTI, q_aTT, q_aLL, q_aTL, q_aIT, btwD, bf, hl', l1', w1, w2, l2', e1, q1, e, mcD, b1, b2, hA, l1, l2]
                    · have l2' : (12 : Int) < cs.length := by omega
                      simp [M__law_is_kit, b__law_is_kit, q_mulAI, q_mulAL, a_wb, q_divW, Function.comp_def, q_starI, q_starIT, a_wp, a_fz, a_fz0, a_fz1, a_ext, a_ins, a_insA, a_pop, a_parN, a_evO0, a_evO1, a_setO0, a_setO1, a_ix2, a_setII, a_zN, a_zC, a_lcO, d_oo, pEq_int, pNe_int, pIxL, pIxT, atI_nat, atI_0, atI_1, atI_2, atI_3, atI_m1, cutLo, cutHi, cutLo1, cutHi1, a_seq, a_ifS, a_B, a_op, a_ov, a_ev0, a_evv, a_evs, a_C, a_V, a_M, a_set, a_setI, a_app, a_ret, a_ex, a_skip, a_no, a_not, a_andT, a_orT, a_and, a_or, a_notV, a_if, a_par, a_call, a_forS, a_sq, a_r1, a_r2, a_en, a_zp, a_asT, a_chI, a_yes, a_lc, a_fn, okA, f_fr, bkA, rsvs, rsv, dvs, on1, on2, d_fr, d_ol, rsO, ndS, sl, putB, asT, setAll, ofO, Dy.ints1, Dy.ints2, nE, wipeE, unw, frO, q_addI, q_addL, q_addT, q_addS, q_sub, q_div, q_mod, q_pow, q_neg, q_cm, pIs, pIsn, q_isN, q_isI, q_isS, q_isT, q_isL, q_isB, q_lenL, q_lenT, pTup, pLst, q_tupL, q_tupT, q_lstL, q_lstT, q_revL, q_slL, q_slT, q_shL, q_shT, q_sqL, q_sqT, q_intI, q_max2, q_min2, q_aII, q_aBI, q_aTI, q_aTT, q_aLL, q_aTL, q_aIT, btwD, bf, hl', l1', w1, w2, l2', mcD, l2]
                  · have ht : mcD (.tuple [.tuple as, .int fi, .tuple is, cs]) = false := by cases cs <;> first | rfl | (exact absurd hc (by simp [isA]))
                    simp [M__law_is_kit, b__law_is_kit, q_mulAI, q_mulAL, a_wb, q_divW, Function.comp_def, q_starI, q_starIT, a_wp, a_fz, a_fz0, a_fz1, a_ext, a_ins, a_insA, a_pop, a_parN, a_evO0, a_evO1, a_setO0, a_setO1, a_ix2, a_setII, a_zN, a_zC, a_lcO, d_oo, pEq_int, pNe_int, pIxL, pIxT, atI_nat, atI_0, atI_1, atI_2, atI_3, atI_m1, cutLo, cutHi, cutLo1, cutHi1, a_seq, a_ifS, a_B, a_op, a_ov, a_ev0, a_evv, a_evs, a_C, a_V, a_M, a_set, a_setI, a_app, a_ret, a_ex, a_skip, a_no, a_not, a_andT, a_orT, a_and, a_or, a_notV, a_if, a_par, a_call, a_forS, a_sq, a_r1, a_r2, a_en, a_zp, a_asT, a_chI, a_yes, a_lc, a_fn, okA, f_fr, bkA, rsvs, rsv, dvs, on1, on2, d_fr, d_ol, rsO, ndS, sl, putB, asT, setAll, ofO, Dy.ints1, Dy.ints2, nE, wipeE, unw, frO, q_addI, q_addL, q_addT, q_addS, q_sub, q_div, q_mod, q_pow, q_neg, q_cm, pIs, pIsn, q_isN, q_isI, q_isS, q_isT, q_isL, q_isB, q_lenL, q_lenT, pTup, pLst, q_tupL, q_tupT, q_lstL, q_lstT, q_revL, q_slL, q_slT, q_shL, q_shT, q_sqL, q_sqT, q_intI, q_max2, q_min2, q_aII, q_aBI, q_aTI, q_aTT, q_aLL, q_aTL, q_aIT, btwD, bf, hl', l1', w1, w2, hc, ht]
              · have l1' : (24 : Int) < is.length := by omega
                have ht : mcD (.tuple [.tuple as, .int fi, .tuple is, cs]) = false := by cases cs <;> first | rfl | simp [mcD, l1]
                simp [M__law_is_kit, b__law_is_kit, q_mulAI, q_mulAL, a_wb, q_divW, Function.comp_def, q_starI, q_starIT, a_wp, a_fz, a_fz0, a_fz1, a_ext, a_ins, a_insA, a_pop, a_parN, a_evO0, a_evO1, a_setO0, a_setO1, a_ix2, a_setII, a_zN, a_zC, a_lcO, d_oo, pEq_int, pNe_int, pIxL, pIxT, atI_nat, atI_0, atI_1, atI_2, atI_3, atI_m1, cutLo, cutHi, cutLo1, cutHi1, a_seq, a_ifS, a_B, a_op, a_ov, a_ev0, a_evv, a_evs, a_C, a_V, a_M, a_set, a_setI, a_app, a_ret, a_ex, a_skip, a_no, a_not, a_andT, a_orT, a_and, a_or, a_notV, a_if, a_par, a_call, a_forS, a_sq, a_r1, a_r2, a_en, a_zp, a_asT, a_chI, a_yes, a_lc, a_fn, okA, f_fr, bkA, rsvs, rsv, dvs, on1, on2, d_fr, d_ol, rsO, ndS, sl, putB, asT, setAll, ofO, Dy.ints1, Dy.ints2, nE, wipeE, unw, frO, q_addI, q_addL, q_addT, q_addS, q_sub, q_div, q_mod, q_pow, q_neg, q_cm, pIs, pIsn, q_isN, q_isI, q_isS, q_isT, q_isL, q_isB, q_lenL, q_lenT, pTup, pLst, q_tupL, q_tupT, q_lstL, q_lstT, q_revL, q_slL, q_slT, q_shL, q_shT, q_sqL, q_sqT, q_intI, q_max2, q_min2, q_aII, q_aBI, q_aTI, q_aTT, q_aLL, q_aTL, q_aIT, btwD, bf, hl', l1', ht]
            · have ht : mcD (.tuple [.tuple as, .int fi, is, cs]) = false := by cases is <;> first | rfl | (exact absurd hi (by simp [isA]))
              simp [M__law_is_kit, b__law_is_kit, q_mulAI, q_mulAL, a_wb, q_divW, Function.comp_def, q_starI, q_starIT, a_wp, a_fz, a_fz0, a_fz1, a_ext, a_ins, a_insA, a_pop, a_parN, a_evO0, a_evO1, a_setO0, a_setO1, a_ix2, a_setII, a_zN, a_zC, a_lcO, d_oo, pEq_int, pNe_int, pIxL, pIxT, atI_nat, atI_0, atI_1, atI_2, atI_3, atI_m1, cutLo, cutHi, cutLo1, cutHi1, a_seq, a_ifS, a_B, a_op, a_ov, a_ev0, a_evv, a_evs, a_C, a_V, a_M, a_set, a_setI, a_app, a_ret, a_ex, a_skip, a_no, a_not, a_andT, a_orT, a_and, a_or, a_notV, a_if, a_par, a_call, a_forS, a_sq, a_r1, a_r2, a_en, a_zp, a_asT, a_chI, a_yes, a_lc, a_fn, okA, f_fr, bkA, rsvs, rsv, dvs, on1, on2, d_fr, d_ol, rsO, ndS, sl, putB, asT, setAll, ofO, Dy.ints1, Dy.ints2, nE, wipeE, unw, frO, q_addI, q_addL, q_addT, q_addS, q_sub, q_div, q_mod, q_pow, q_neg, q_cm, pIs, pIsn, q_isN, q_isI, q_isS, q_isT, q_isL, q_isB, q_lenL, q_lenT, pTup, pLst, q_tupL, q_tupT, q_lstL, q_lstT, q_revL, q_slL, q_slT, q_shL, q_shT, q_sqL, q_sqT, q_intI, q_max2, q_min2, q_aII, q_aBI, q_aTI, q_aTT, q_aLL, q_aTL, q_aIT, btwD, bf, hl', hi, ht]
          · have ht : mcD (.tuple [.tuple as, .int fi, is, cs]) = false := by
              have hA : arD (.tuple as) = false := by
                unfold arD
                rcases (by omega : ¬ (1 ≤ as.length) ∨ ¬ (as.length ≤ 6)) with z | z <;> simp [z]
              cases is <;> cases cs <;> first | rfl | simp [mcD, hA]
            by_cases z1 : (1 : Int) ≤ as.length
            · have z2 : ¬ ((as.length : Int) ≤ 6) := by omega
              simp [M__law_is_kit, b__law_is_kit, q_mulAI, q_mulAL, a_wb, q_divW, Function.comp_def, q_starI, q_starIT, a_wp, a_fz, a_fz0, a_fz1, a_ext, a_ins, a_insA, a_pop, a_parN, a_evO0, a_evO1, a_setO0, a_setO1, a_ix2, a_setII, a_zN, a_zC, a_lcO, d_oo, pEq_int, pNe_int, pIxL, pIxT, atI_nat, atI_0, atI_1, atI_2, atI_3, atI_m1, cutLo, cutHi, cutLo1, cutHi1, a_seq, a_ifS, a_B, a_op, a_ov, a_ev0, a_evv, a_evs, a_C, a_V, a_M, a_set, a_setI, a_app, a_ret, a_ex, a_skip, a_no, a_not, a_andT, a_orT, a_and, a_or, a_notV, a_if, a_par, a_call, a_forS, a_sq, a_r1, a_r2, a_en, a_zp, a_asT, a_chI, a_yes, a_lc, a_fn, okA, f_fr, bkA, rsvs, rsv, dvs, on1, on2, d_fr, d_ol, rsO, ndS, sl, putB, asT, setAll, ofO, Dy.ints1, Dy.ints2, nE, wipeE, unw, frO, q_addI, q_addL, q_addT, q_addS, q_sub, q_div, q_mod, q_pow, q_neg, q_cm, pIs, pIsn, q_isN, q_isI, q_isS, q_isT, q_isL, q_isB, q_lenL, q_lenT, pTup, pLst, q_tupL, q_tupT, q_lstL, q_lstT, q_revL, q_slL, q_slT, q_shL, q_shT, q_sqL, q_sqT, q_intI, q_max2, q_min2, q_aII, q_aBI, q_aTI, q_aTT, q_aLL, q_aTL, q_aIT, btwD, bf, z1, z2, ht]
            · simp [M__law_is_kit, b__law_is_kit, q_mulAI, q_mulAL, a_wb, q_divW, Function.comp_def, q_starI, q_starIT, a_wp, a_fz, a_fz0, a_fz1, a_ext, a_ins, a_insA, a_pop, a_parN, a_evO0, a_evO1, a_setO0, a_setO1, a_ix2, a_setII, a_zN, a_zC, a_lcO, d_oo, pEq_int, pNe_int, pIxL, pIxT, atI_nat, atI_0, atI_1, atI_2, atI_3, atI_m1, cutLo, cutHi, cutLo1, cutHi1, a_seq, a_ifS, a_B, a_op, a_ov, a_ev0, a_evv, a_evs, a_C, a_V, a_M, a_set, a_setI, a_app, a_ret, a_ex, a_skip, a_no, a_not, a_andT, a_orT, a_and, a_or, a_notV, a_if, a_par, a_call, a_forS, a_sq, a_r1, a_r2, a_en, a_zp, a_asT, a_chI, a_yes, a_lc, a_fn, okA, f_fr, bkA, rsvs, rsv, dvs, on1, on2, d_fr, d_ol, rsO, ndS, sl, putB, asT, setAll, ofO, Dy.ints1, Dy.ints2, nE, wipeE, unw, frO, q_addI, q_addL, q_addT, q_addS, q_sub, q_div, q_mod, q_pow, q_neg, q_cm, pIs, pIsn, q_isN, q_isI, q_isS, q_isT, q_isL, q_isB, q_lenL, q_lenT, pTup, pLst, q_tupL, q_tupT, q_lstL, q_lstT, q_revL, q_slL, q_slT, q_shL, q_shT, q_sqL, q_sqT, q_intI, q_max2, q_min2, q_aII, q_aBI, q_aTI, q_aTT, q_aLL, q_aTL, q_aIT, btwD, bf, z1, ht]
        · have ht : mcD (.tuple [a, .int fi, is, cs]) = false := by
            have : arD a = false := by cases a <;> first | rfl | (exact absurd hA (by simp [isA]))
            cases is <;> cases cs <;> first | rfl | simp [mcD, this]
          simp [M__law_is_kit, b__law_is_kit, q_mulAI, q_mulAL, a_wb, q_divW, Function.comp_def, q_starI, q_starIT, a_wp, a_fz, a_fz0, a_fz1, a_ext, a_ins, a_insA, a_pop, a_parN, a_evO0, a_evO1, a_setO0, a_setO1, a_ix2, a_setII, a_zN, a_zC, a_lcO, d_oo, pEq_int, pNe_int, pIxL, pIxT, atI_nat, atI_0, atI_1, atI_2, atI_3, atI_m1, cutLo, cutHi, cutLo1, cutHi1, a_seq, a_ifS, a_B, a_op, a_ov, a_ev0, a_evv, a_evs, a_C, a_V, a_M, a_set, a_setI, a_app, a_ret, a_ex, a_skip, a_no, a_not, a_andT, a_orT, a_and, a_or, a_notV, a_if, a_par, a_call, a_forS, a_sq, a_r1, a_r2, a_en, a_zp, a_asT, a_chI, a_yes, a_lc, a_fn, okA, f_fr, bkA, rsvs, rsv, dvs, on1, on2, d_fr, d_ol, rsO, ndS, sl, putB, asT, setAll, ofO, Dy.ints1, Dy.ints2, nE, wipeE, unw, frO, q_addI, q_addL, q_addT, q_addS, q_sub, q_div, q_mod, q_pow, q_neg, q_cm, pIs, pIsn, q_isN, q_isI, q_isS, q_isT, q_isL, q_isB, q_lenL, q_lenT, pTup, pLst, q_tupL, q_tupT, q_lstL, q_lstT, q_revL, q_slL, q_slT, q_shL, q_shT, q_sqL, q_sqT, q_intI, q_max2, q_min2, q_aII, q_aBI, q_aTI, q_aTT, q_aLL, q_aTL, q_aIT, btwD, bf, hA, ht]
    · have hi : ¬ ((xs.length : Int) = 4) := by omega
      simp [M__law_is_kit, b__law_is_kit, q_mulAI, q_mulAL, a_wb, q_divW, Function.comp_def, q_starI, q_starIT, a_wp, a_fz, a_fz0, a_fz1, a_ext, a_ins, a_insA, a_pop, a_parN, a_evO0, a_evO1, a_setO0, a_setO1, a_ix2, a_setII, a_zN, a_zC, a_lcO, d_oo, pEq_int, pNe_int, pIxL, pIxT, atI_nat, atI_0, atI_1, atI_2, atI_3, atI_m1, cutLo, cutHi, cutLo1, cutHi1, a_seq, a_ifS, a_B, a_op, a_ov, a_ev0, a_evv, a_evs, a_C, a_V, a_M, a_set, a_setI, a_app, a_ret, a_ex, a_skip, a_no, a_not, a_andT, a_orT, a_and, a_or, a_notV, a_if, a_par, a_call, a_forS, a_sq, a_r1, a_r2, a_en, a_zp, a_asT, a_chI, a_yes, a_lc, a_fn, okA, f_fr, bkA, rsvs, rsv, dvs, on1, on2, d_fr, d_ol, rsO, ndS, sl, putB, asT, setAll, ofO, Dy.ints1, Dy.ints2, nE, wipeE, unw, frO, q_addI, q_addL, q_addT, q_addS, q_sub, q_div, q_mod, q_pow, q_neg, q_cm, pIs, pIsn, q_isN, q_isI, q_isS, q_isT, q_isL, q_isB, q_lenL, q_lenT, pTup, pLst, q_tupL, q_tupT, q_lstL, q_lstT, q_revL, q_slL, q_slT, q_shL, q_shT, q_sqL, q_sqT, q_intI, q_max2, q_min2, q_aII, q_aBI, q_aTI, q_aTT, q_aLL, q_aTL, q_aIT, hi, mcD_no h4]
  · have ht : mcD d = false := by cases d <;> first | rfl | (exact absurd h (by simp [isA]))
    simp [M__law_is_kit, b__law_is_kit, q_mulAI, q_mulAL, a_wb, q_divW, Function.comp_def, q_starI, q_starIT, a_wp, a_fz, a_fz0, a_fz1, a_ext, a_ins, a_insA, a_pop, a_parN, a_evO0, a_evO1, a_setO0, a_setO1, a_ix2, a_setII, a_zN, a_zC, a_lcO, d_oo, pEq_int, pNe_int, pIxL, pIxT, atI_nat, atI_0, atI_1, atI_2, atI_3, atI_m1, cutLo, cutHi, cutLo1, cutHi1, a_seq, a_ifS, a_B, a_op, a_ov, a_ev0, a_evv, a_evs, a_C, a_V, a_M, a_set, a_setI, a_app, a_ret, a_ex, a_skip, a_no, a_not, a_andT, a_orT, a_and, a_or, a_notV, a_if, a_par, a_call, a_forS, a_sq, a_r1, a_r2, a_en, a_zp, a_asT, a_chI, a_yes, a_lc, a_fn, okA, f_fr, bkA, rsvs, rsv, dvs, on1, on2, d_fr, d_ol, rsO, ndS, sl, putB, asT, setAll, ofO, Dy.ints1, Dy.ints2, nE, wipeE, unw, frO, q_addI, q_addL, q_addT, q_addS, q_sub, q_div, q_mod, q_pow, q_neg, q_cm, pIs, pIsn, q_isN, q_isI, q_isS, q_isT, q_isL, q_isB, q_lenL, q_lenT, pTup, pLst, q_tupL, q_tupT, q_lstL, q_lstT, q_revL, q_slL, q_slT, q_shL, q_shT, q_sqL, q_sqT, q_intI, q_max2, q_min2, q_aII, q_aBI, q_aTI, q_aTT, q_aLL, q_aTL, q_aIT, h, ht]
end Q
namespace Q
open PySem Dy
open L2 (atI ixN)
abbrev G6 : List Nat := [0, 1, 2, 0, 1, 2]
theorem g6_ok : ArOk G6 := ⟨by decide, by decide, by decide⟩
theorem fn1_pen84 {N : Nat} {b : SF} {o o' : O} {r : O} {e : Dy.Env} (h : b (some o :: List.replicate N none) = .ok (.rt r, some o' :: e)) : fnM 1 (N + 1) [0] b [o] = .ok (r, [o']) := by
  show (b (some o :: List.replicate (N + 1 - 1) none) >>= fun r => match bkA [0] r.2 0 [o] with | none => .no | some os' => match r.1 with | .rt o => .ok (o, os') | .nx => .ok (.fr .none, os') | _ => .no) = _
  rw [show N + 1 - 1 = N from rfl, h]
  rfl
abbrev gE (o : O) (lap : Option O) (is : List Ins) (cs : List Con) (op given begin : Option O) : Dy.Env := [some o, lap, fr (encA G6), ol (is.map encI), ol (cs.map encK), op, given, begin, none]
theorem greatK {o : O} (h : PenA o) : ∃ (m : Mach) (o' : O), MOk m ∧ PenA o' ∧ M__law_great_kit [o] = .ok (.fr (encM m), [o']) := by
  obtain ⟨s, ⟨p1, p2, p3⟩, e1⟩ := for_r (t := .nm 1) (body := L1__law_great_kit) (fun s : O × List Ins => gE s.1 none s.2 [] none none none)
    (fun k s => PenA s.1 ∧ (∀ i ∈ s.2, InsOk G6 4 i) ∧ s.2.length = k) 24 (s := (o, [])) ⟨h, by simp, rfl⟩ (fun k w hk hw => by
      obtain ⟨u1, u2, u3⟩ := hw
      obtain ⟨op, o1, a1, a2, a3⟩ := drawA_lit (mi := 6) 6 u1 (by decide) (by decide) rfl
      obtain ⟨r, hr, hr2⟩ : ∃ r : Nat, G6[op]? = some r ∧ r ≤ 2 := by
        rcases (by omega : op = 0 ∨ op = 1 ∨ op = 2 ∨ op = 3 ∨ op = 4 ∨ op = 5) with rfl | rfl | rfl | rfl | rfl | rfl
        · exact ⟨0, rfl, by decide⟩
        · exact ⟨1, rfl, by decide⟩
        · exact ⟨2, rfl, by decide⟩
        · exact ⟨0, rfl, by decide⟩
        · exact ⟨1, rfl, by decide⟩
        · exact ⟨2, rfl, by decide⟩
      have hix : pIx (encA G6) (.int (op : Int)) = some (.fr (dN r)) := by
        rw [pIxT, atI_nat, List.getElem?_map, hr]; rfl
      obtain ⟨row, o2, v1, v2, v3, v4⟩ := lc_r (vs := [8]) (t := .nm 8) (elt := E1__law_great_kit) dN (fun o => gE o (fr (dN k)) w.2 [] (fr (dN op)) none none) (fun _ o => PenA o) (fun x => x < 4) r a2 (by omega) (fun j o hj hp => by
        obtain ⟨x, o', y1, y2, y3⟩ := drawA_lit (mi := 4) 4 hp (by decide) (by decide) rfl
        exact ⟨x, o', y2, y1, by simp [E1__law_great_kit, q_mulAI, q_mulAL, a_wb, q_divW, Function.comp_def, q_starI, q_starIT, a_wp, a_fz, a_fz0, a_fz1, a_ext, a_ins, a_insA, a_pop, a_parN, a_evO0, a_evO1, a_setO0, a_setO1, a_ix2, a_setII, a_zN, a_zC, a_lcO, d_oo, pEq_int, pNe_int, pIxL, pIxT, atI_nat, atI_0, atI_1, atI_2, atI_3, atI_m1, cutLo, cutHi, cutLo1, cutHi1, a_seq, a_ifS, a_B, a_op, a_ov, a_ev0, a_evv, a_evs, a_C, a_V, a_M, a_set, a_setI, a_app, a_ret, a_ex, a_skip, a_no, a_not, a_andT, a_orT, a_and, a_or, a_notV, a_if, a_par, a_call, a_forS, a_sq, a_r1, a_r2, a_en, a_zp, a_asT, a_chI, a_yes, a_lc, a_fn, okA, f_fr, bkA, rsvs, rsv, dvs, on1, on2, d_fr, d_ol, rsO, ndS, sl, putB, asT, setAll, ofO, Dy.ints1, Dy.ints2, nE, wipeE, unw, frO, q_addI, q_addL, q_addT, q_addS, q_sub, q_div, q_mod, q_pow, q_neg, q_cm, pIs, pIsn, q_isN, q_isI, q_isS, q_isT, q_isL, q_isB, q_lenL, q_lenT, pTup, pLst, q_tupL, q_tupT, q_lstL, q_lstT, q_revL, q_slL, q_slT, q_shL, q_shT, q_sqL, q_sqT, q_intI, q_max2, q_min2, q_aII, q_aBI, q_aTI, q_aTT, q_aLL, q_aTL, q_aIT, y3]⟩)
      obtain ⟨f, o3, w1, w2, w3⟩ := drawA_lit (mi := 4) 4 v1 (by decide) (by decide) rfl
      obtain ⟨pr, o4, x1, x2, x3⟩ := drawA_lit (mi := 21) 21 w2 (by decide) (by decide) rfl
      have c3 : w.2.length < 1000000 := by omega
      have c4 : (r : Int) ≤ 1000000000 ∧ (-1000000000 : Int) ≤ r := by omega
      refine ⟨(o4, w.2 ++ [⟨f, op, row, pr⟩]), ⟨x2, fun i hi => ?_, by simp [u3]⟩, ?_⟩
      · rcases List.mem_append.mp hi with z | z
        · exact u2 i z
        · simp at z; subst z
          exact ⟨w1, by rw [hr, v2], v3, by dsimp only; omega⟩
      · unfold gE encA at *
        simp only [List.map_nil] at v4
        generalize G6.map dN = GG at *
        simp [L1__law_great_kit, q_mulAI, q_mulAL, a_wb, q_divW, Function.comp_def, q_starI, q_starIT, a_wp, a_fz, a_fz0, a_fz1, a_ext, a_ins, a_insA, a_pop, a_parN, a_evO0, a_evO1, a_setO0, a_setO1, a_ix2, a_setII, a_zN, a_zC, a_lcO, d_oo, pEq_int, pNe_int, pIxL, atI_nat, atI_0, atI_1, atI_2, atI_3, atI_m1, cutLo, cutHi, cutLo1, cutHi1, a_seq, a_ifS, a_B, a_op, a_ov, a_ev0, a_evv, a_evs, a_C, a_V, a_M, a_set, a_setI, a_app, a_ret, a_ex, a_skip, a_no, a_not, a_andT, a_orT, a_and, a_or, a_notV, a_if, a_par, a_call, a_forS, a_sq, a_r1, a_r2, a_en, a_zp, a_asT, a_chI, a_yes, a_lc, a_fn, okA, f_fr, bkA, rsvs, rsv, dvs, on1, on2, d_fr, d_ol, rsO, ndS, sl, putB, asT, setAll, ofO, Dy.ints1, Dy.ints2, nE, wipeE, unw, frO, q_addI, q_addL, q_addT, q_addS, q_sub, q_div, q_mod, q_pow, q_neg, q_cm, pIs, pIsn, q_isN, q_isI, q_isS, q_isT, q_isL, q_isB, q_lenL, q_lenT, pTup, pLst, q_tupL, q_tupT, q_lstL, q_lstT, q_revL, q_slL, q_slT, q_shL, q_shT, q_sqL, q_sqT, q_intI, q_max2, q_min2, q_aII, q_aBI, q_aTI, q_aTT, q_aLL, q_aTL, q_aIT, a3, hix, c4, v4, w3, x3, c3])
  obtain ⟨s2, ⟨q1, q2, q3⟩, e2⟩ := for_r (t := .nm 1) (body := L2__law_great_kit) (fun t : O × List Con => gE t.1 none s.2 t.2 none none none)
    (fun k t => PenA t.1 ∧ (∀ c ∈ t.2, ConOk 4 c) ∧ t.2.length = k) 12 (s := (s.1, [])) ⟨p1, by simp, rfl⟩ (fun k w hk hw => by
      obtain ⟨u1, u2, u3⟩ := hw
      obtain ⟨a, o2, a1, a2, a3⟩ := drawA_lit (mi := 4) 4 u1 (by decide) (by decide) rfl
      obtain ⟨b, o3, b1, b2, b3⟩ := drawA_lit (mi := 3) 3 a2 (by decide) (by decide) rfl
      obtain ⟨pr, o4, x1, x2, x3⟩ := drawA_lit (mi := 21) 21 b2 (by decide) (by decide) rfl
      have c3 : ((a : Int) + 1 + b) % 4 = (((a + 1 + b) % 4 : Nat) : Int) := by simp
      have c4 : w.2.length < 1000000 := by omega
      refine ⟨(o4, w.2 ++ [⟨a, (a + 1 + b) % 4, pr⟩]), ⟨x2, fun c hc => ?_, by simp [u3]⟩, ?_⟩
      · rcases List.mem_append.mp hc with z | z
        · exact u2 c z
        · simp at z; subst z
          exact ⟨by dsimp only; omega, by dsimp only; omega, by dsimp only; omega, by dsimp only; omega⟩
      · unfold gE encA at *
        generalize G6.map dN = GG at *
        simp [L2__law_great_kit, q_mulAI, q_mulAL, a_wb, q_divW, Function.comp_def, q_starI, q_starIT, a_wp, a_fz, a_fz0, a_fz1, a_ext, a_ins, a_insA, a_pop, a_parN, a_evO0, a_evO1, a_setO0, a_setO1, a_ix2, a_setII, a_zN, a_zC, a_lcO, d_oo, pEq_int, pNe_int, pIxL, pIxT, atI_nat, atI_0, atI_1, atI_2, atI_3, atI_m1, cutLo, cutHi, cutLo1, cutHi1, a_seq, a_ifS, a_B, a_op, a_ov, a_ev0, a_evv, a_evs, a_C, a_V, a_M, a_set, a_setI, a_app, a_ret, a_ex, a_skip, a_no, a_not, a_andT, a_orT, a_and, a_or, a_notV, a_if, a_par, a_call, a_forS, a_sq, a_r1, a_r2, a_en, a_zp, a_asT, a_chI, a_yes, a_lc, a_fn, okA, f_fr, bkA, rsvs, rsv, dvs, on1, on2, d_fr, d_ol, rsO, ndS, sl, putB, asT, setAll, ofO, Dy.ints1, Dy.ints2, nE, wipeE, unw, frO, q_addI, q_addL, q_addT, q_addS, q_sub, q_div, q_mod, q_pow, q_neg, q_cm, pIs, pIsn, q_isN, q_isI, q_isS, q_isT, q_isL, q_isB, q_lenL, q_lenT, pTup, pLst, q_tupL, q_tupT, q_lstL, q_lstT, q_revL, q_slL, q_slT, q_shL, q_shT, q_sqL, q_sqT, q_intI, q_max2, q_min2, q_aII, q_aBI, q_aTI, q_aTT, q_aLL, q_aTL, q_aIT, a3, b3, x3, c4])
  refine ⟨⟨G6, 4, s.2, s2.2⟩, s2.1, ⟨g6_ok, by dsimp only; omega, by dsimp only; omega, by dsimp only; omega, by dsimp only; omega, p2, q2⟩, q1, ?_⟩
  refine fn1_pen84 (N := 8) (e := (gE s2.1 none s.2 s2.2 none none none).tail.set 1 (fr (encA G6))) ?_
  have hA : PyData.tuple [.int 0, .int 1, .int 2, .int 0, .int 1, .int 2] = encA G6 := rfl
  unfold b__law_great_kit
  have s1 : (fParN [2, 3, 4] [fOv pTup [.v (fC (.int 0)), .v (fC (.int 1)), .v (fC (.int 2)), .v (fC (.int 0)), .v (fC (.int 1)), .v (fC (.int 2))], fOv pLst [], fOv pLst []]) (some o :: List.replicate 8 none) = .ok (.nx, gE o none [] [] none none none) := by
    simp [q_mulAI, q_mulAL, a_wb, q_divW, Function.comp_def, q_starI, q_starIT, a_wp, a_fz, a_fz0, a_fz1, a_ext, a_ins, a_insA, a_pop, a_parN, a_evO0, a_evO1, a_setO0, a_setO1, a_ix2, a_setII, a_zN, a_zC, a_lcO, d_oo, pEq_int, pNe_int, pIxL, pIxT, atI_nat, atI_0, atI_1, atI_2, atI_3, atI_m1, cutLo, cutHi, cutLo1, cutHi1, a_seq, a_ifS, a_B, a_op, a_ov, a_ev0, a_evv, a_evs, a_C, a_V, a_M, a_set, a_setI, a_app, a_ret, a_ex, a_skip, a_no, a_not, a_andT, a_orT, a_and, a_or, a_notV, a_if, a_par, a_call, a_forS, a_sq, a_r1, a_r2, a_en, a_zp, a_asT, a_chI, a_yes, a_lc, a_fn, okA, f_fr, bkA, rsvs, rsv, dvs, on1, on2, d_fr, d_ol, rsO, ndS, sl, putB, asT, setAll, ofO, Dy.ints1, Dy.ints2, nE, wipeE, unw, frO, q_addI, q_addL, q_addT, q_addS, q_sub, q_div, q_mod, q_pow, q_neg, q_cm, pIs, pIsn, q_isN, q_isI, q_isS, q_isT, q_isL, q_isB, q_lenL, q_lenT, pTup, pLst, q_tupL, q_tupT, q_lstL, q_lstT, q_revL, q_slL, q_slT, q_shL, q_shT, q_sqL, q_sqT, q_intI, q_max2, q_min2, q_aII, q_aBI, q_aTI, q_aTT, q_aLL, q_aTL, q_aIT]
  dsimp only at e1 e2
  have hs2 : (fWp [1, 5, 6] (fForS (fR1 (.v (fC (.int 24)))) (.nm 1) (L1__law_great_kit))) (gE o none [] [] none none none) = .ok (.nx, gE s.1 none s.2 [] none none none) := by
    unfold gE encA at *
    simp only [List.map_nil] at e1
    generalize G6.map dN = GG at *
    simp [q_mulAI, q_mulAL, a_wb, q_divW, Function.comp_def, q_starI, q_starIT, a_wp, a_fz, a_fz0, a_fz1, a_ext, a_ins, a_insA, a_pop, a_parN, a_evO0, a_evO1, a_setO0, a_setO1, a_ix2, a_setII, a_zN, a_zC, a_lcO, d_oo, pEq_int, pNe_int, pIxL, pIxT, atI_nat, atI_0, atI_1, atI_2, atI_3, atI_m1, cutLo, cutHi, cutLo1, cutHi1, a_seq, a_ifS, a_B, a_op, a_ov, a_ev0, a_evv, a_evs, a_C, a_V, a_M, a_set, a_setI, a_app, a_ret, a_ex, a_skip, a_no, a_not, a_andT, a_orT, a_and, a_or, a_notV, a_if, a_par, a_call, a_forS, a_sq, a_r1, a_r2, a_en, a_zp, a_asT, a_chI, a_yes, a_lc, a_fn, okA, f_fr, bkA, rsvs, rsv, dvs, on1, on2, d_fr, d_ol, rsO, ndS, sl, putB, asT, setAll, ofO, Dy.ints1, Dy.ints2, nE, wipeE, unw, frO, q_addI, q_addL, q_addT, q_addS, q_sub, q_div, q_mod, q_pow, q_neg, q_cm, pIs, pIsn, q_isN, q_isI, q_isS, q_isT, q_isL, q_isB, q_lenL, q_lenT, pTup, pLst, q_tupL, q_tupT, q_lstL, q_lstT, q_revL, q_slL, q_slT, q_shL, q_shT, q_sqL, q_sqT, q_intI, q_max2, q_min2, q_aII, q_aBI, q_aTI, q_aTT, q_aLL, q_aTL, q_aIT, e1]
  have hs3 : (fWp [1, 7] (fForS (fR1 (.v (fC (.int 12)))) (.nm 1) (L2__law_great_kit))) (gE s.1 none s.2 [] none none none) = .ok (.nx, gE s2.1 none s.2 s2.2 none none none) := by
    unfold gE encA at *
    simp only [List.map_nil] at e2
    generalize G6.map dN = GG at *
    simp [q_mulAI, q_mulAL, a_wb, q_divW, Function.comp_def, q_starI, q_starIT, a_wp, a_fz, a_fz0, a_fz1, a_ext, a_ins, a_insA, a_pop, a_parN, a_evO0, a_evO1, a_setO0, a_setO1, a_ix2, a_setII, a_zN, a_zC, a_lcO, d_oo, pEq_int, pNe_int, pIxL, pIxT, atI_nat, atI_0, atI_1, atI_2, atI_3, atI_m1, cutLo, cutHi, cutLo1, cutHi1, a_seq, a_ifS, a_B, a_op, a_ov, a_ev0, a_evv, a_evs, a_C, a_V, a_M, a_set, a_setI, a_app, a_ret, a_ex, a_skip, a_no, a_not, a_andT, a_orT, a_and, a_or, a_notV, a_if, a_par, a_call, a_forS, a_sq, a_r1, a_r2, a_en, a_zp, a_asT, a_chI, a_yes, a_lc, a_fn, okA, f_fr, bkA, rsvs, rsv, dvs, on1, on2, d_fr, d_ol, rsO, ndS, sl, putB, asT, setAll, ofO, Dy.ints1, Dy.ints2, nE, wipeE, unw, frO, q_addI, q_addL, q_addT, q_addS, q_sub, q_div, q_mod, q_pow, q_neg, q_cm, pIs, pIsn, q_isN, q_isI, q_isS, q_isT, q_isL, q_isB, q_lenL, q_lenT, pTup, pLst, q_tupL, q_tupT, q_lstL, q_lstT, q_revL, q_slL, q_slT, q_shL, q_shT, q_sqL, q_sqT, q_intI, q_max2, q_min2, q_aII, q_aBI, q_aTI, q_aTT, q_aLL, q_aTL, q_aIT, e2]
  refine (sq86 s1).trans ((sq86 hs2).trans ((sq86 hs3).trans ?_))
  unfold gE encM
  simp [q_mulAI, q_mulAL, a_wb, q_divW, Function.comp_def, q_starI, q_starIT, a_wp, a_fz, a_fz0, a_fz1, a_ext, a_ins, a_insA, a_pop, a_parN, a_evO0, a_evO1, a_setO0, a_setO1, a_ix2, a_setII, a_zN, a_zC, a_lcO, d_oo, pEq_int, pNe_int, pIxL, pIxT, atI_nat, atI_0, atI_1, atI_2, atI_3, atI_m1, cutLo, cutHi, cutLo1, cutHi1, a_seq, a_ifS, a_B, a_op, a_ov, a_ev0, a_evv, a_evs, a_C, a_V, a_M, a_set, a_setI, a_app, a_ret, a_ex, a_skip, a_no, a_not, a_andT, a_orT, a_and, a_or, a_notV, a_if, a_par, a_call, a_forS, a_sq, a_r1, a_r2, a_en, a_zp, a_asT, a_chI, a_yes, a_lc, a_fn, okA, f_fr, bkA, rsvs, rsv, dvs, on1, on2, d_fr, d_ol, rsO, ndS, sl, putB, asT, setAll, ofO, Dy.ints1, Dy.ints2, nE, wipeE, unw, frO, q_addI, q_addL, q_addT, q_addS, q_sub, q_div, q_mod, q_pow, q_neg, q_cm, pIs, pIsn, q_isN, q_isI, q_isS, q_isT, q_isL, q_isB, q_lenL, q_lenT, pTup, pLst, q_tupL, q_tupT, q_lstL, q_lstT, q_revL, q_slL, q_slT, q_shL, q_shT, q_sqL, q_sqT, q_intI, q_max2, q_min2, q_aII, q_aBI, q_aTI, q_aTT, q_aLL, q_aTL, q_aIT]
end Q
namespace Q
open PySem Dy
open L2 (atI ixN)
def Bd84 (d : PyData) : Prop := Fit d ∧ ∃ s, pReprD d = some (.fr (.str s))
theorem bd_gd {d : PyData} (h : Gd 25 8 3000 d) : Bd84 d := ⟨fit_of (by have := h.sz; omega), _, reprD_of (h.rk (by decide +kernel)) (by omega) (by omega)⟩
theorem gds_app84 (B : Nat) : ∀ a b : List PyData, gds B (a ++ b) = (gds B a && gds B b)
  | [], b => by simp [gds]
  | x :: a, b => by
    show (gd B x && gds B (a ++ b)) = (gd B x && gds B a && gds B b)
    rw [gds_app84 B a b, Bool.and_assoc]
theorem dep_app84 : ∀ a b : List PyData, PyData.depthAll (a ++ b) = max (PyData.depthAll a) (PyData.depthAll b)
  | [], b => by simp [PyData.depthAll]
  | x :: a, b => by
    show max x.depth (PyData.depthAll (a ++ b)) = max (max x.depth (PyData.depthAll a)) (PyData.depthAll b)
    rw [dep_app84 a b]; omega
structure Pc (n k : Nat) (xs : List PyData) : Prop where
  g : gds 25 xs = true
  d : PyData.depthAll xs ≤ n
  s : szs xs ≤ k
theorem mulE30 {II : List PyData} (h : II.length ≤ 1000) : pMulE (.tuple II) (.int 30) = some (.fr (.tuple (List.replicate 30 II).flatten)) := by
  cases II with
  | nil => rfl
  | cons x xs =>
    show (if (x :: xs).length ≤ 1000 ∧ (-1000 : Int) ≤ 30 ∧ (30 : Int) ≤ 1000 ∧ x :: xs ≠ [] then some (O.fr (.tuple (List.replicate (30 : Int).toNat (x :: xs)).flatten)) else none) = _
    rw [if_pos ⟨h, by decide, by decide, by simp⟩]
    rfl
abbrev bV (M : Option O) (L : List PyData) (row : Option O) (A F I : PyData) (bad : Option O) : Dy.Env := [none, M, ol L, row, fr A, fr F, fr I, none, bad]
def bT (A F b : PyData) : PyData := .tuple [A, F, .tuple [b], .tuple []]
theorem bent1 {M : Option O} {L : List PyData} {r A F I b : PyData} (h : L.length < 1000000) : (asT (.nm 8) b (bV M L (fr r) A F I none) >>= L1__law_bent_kits) = .ok (.nx, bV M (L ++ [bT A F b]) (fr r) A F I none) := by
  simp [L1__law_bent_kits, q_mulAI, q_mulAL, a_wb, q_divW, Function.comp_def, q_starI, q_starIT, a_wp, a_fz, a_fz0, a_fz1, a_ext, a_ins, a_insA, a_pop, a_parN, a_evO0, a_evO1, a_setO0, a_setO1, a_ix2, a_setII, a_zN, a_zC, a_lcO, d_oo, pEq_int, pNe_int, pIxL, pIxT, atI_nat, atI_0, atI_1, atI_2, atI_3, atI_m1, cutLo, cutHi, cutLo1, cutHi1, a_seq, a_ifS, a_B, a_op, a_ov, a_ev0, a_evv, a_evs, a_C, a_V, a_M, a_set, a_setI, a_app, a_ret, a_ex, a_skip, a_no, a_not, a_andT, a_orT, a_and, a_or, a_notV, a_if, a_par, a_call, a_forS, a_sq, a_r1, a_r2, a_en, a_zp, a_asT, a_chI, a_yes, a_lc, a_fn, okA, f_fr, bkA, rsvs, rsv, dvs, on1, on2, d_fr, d_ol, rsO, ndS, sl, putB, asT, setAll, ofO, Dy.ints1, Dy.ints2, nE, wipeE, unw, frO, q_addI, q_addL, q_addT, q_addS, q_sub, q_div, q_mod, q_pow, q_neg, q_cm, pIs, pIsn, q_isN, q_isI, q_isS, q_isT, q_isL, q_isB, q_lenL, q_lenT, pTup, pLst, q_tupL, q_tupT, q_lstL, q_lstT, q_revL, q_slL, q_slT, q_shL, q_shT, q_sqL, q_sqT, q_intI, q_max2, q_min2, q_aII, q_aBI, q_aTI, q_aTT, q_aLL, q_aTL, q_aIT, bT, h]
/-- the things of one row -/
def rowB (A F f o : PyData) (as : List PyData) (p : PyData) : List PyData := [bT A F (.tuple [F, o, .tuple as, p]), bT A F (.tuple [f, o, .tuple as, .int 21]), bT A F (.tuple [f, o, .tuple as, .int (-1)]), bT A F (.tuple [f, o, .list as, p]), bT A F (.tuple [f, o, .tuple (as ++ [.int 0]), p]), bT A F (.tuple [f, o, .tuple as]), bT A F (.tuple [f, o, .tuple as, .bool true])]
theorem bent2K {M : Option O} {L : List PyData} {A F I f o p : PyData} {as : List PyData} (h : L.length < 900000) (ha : as.length ≤ 1000) :
    (asT (.nm 3) (.tuple [f, o, .tuple as, p]) (bV M L none A F I none) >>= L2__law_bent_kits) = .ok (.nx, bV M (L ++ rowB A F f o as p) none A F I none) := by
  generalize hr : PyData.tuple [f, o, .tuple as, p] = r
  have k1 : pSl2l r (.int 1) = some (.fr (.tuple [o, .tuple as, p])) := by rw [← hr]; rfl
  have k3 : pSl2l r (.int 3) = some (.fr (.tuple [p])) := by rw [← hr]; rfl
  have j3 : pSl2h r (.int 3) = some (.fr (.tuple [f, o, .tuple as])) := by rw [← hr]; rfl
  have j2 : pSl2h r (.int 2) = some (.fr (.tuple [f, o])) := by rw [← hr]; rfl
  have x2 : pIx r (.int 2) = some (.fr (.tuple as)) := by rw [← hr]; rfl
  have hl : pList (.tuple as) = some (.ol as) := by
    have : as.length ≤ 1000000 := by omega
    simp [pList, seqOf, this]
  obtain ⟨L1, q1, e1⟩ := for_l (t := .nm 8) (body := L1__law_bent_kits) (fun d : PyData => d) (fun L : List PyData => bV M L (fr r) A F I none) (fun pre L' => L' = L ++ pre.map (bT A F)) [.tuple [F, o, .tuple as, p], .tuple [f, o, .tuple as, .int 21], .tuple [f, o, .tuple as, .int (-1)], .tuple [f, o, .list as, p]] (s := L) (by simp) (fun pre b post L' e hp => by
    have hn := congrArg List.length e
    simp at hn
    exact ⟨_, by rw [hp]; simp, bent1 (by rw [hp]; simp; omega)⟩)
  simp only [List.map_cons, List.map_nil, List.map_id'] at q1 e1
  have c1 : L1.length + 2 ≤ 1000000 := by rw [q1]; simp; omega
  have c2 : L1.length + 1 + 1 < 1000000 := by rw [q1]; simp; omega
  have ng : pNeg (.int 1) = some (.fr (.int (-1))) := rfl
  have c0 : as.length + 1 ≤ 1000000 := by omega
  have st : (asT (.nm 3) r (bV M L none A F I none)) = .ok (bV M L (fr r) A F I none) := rfl
  rw [st, bind_ok]
  have t1 : (fWp [8] (fForS (fSq (.v (fOv pLst [.v (fOp (on2 pAdd) [.v (fOv pTup [.v (fV 5)]), .v (fOp (on2 pSl2l) [.s 3, .v (fC (.int 1))])]), .v (fOp (on2 pAdd) [.v (fOp (on2 pSl2h) [.s 3, .v (fC (.int 3))]), .v (fOv pTup [.v (fC (.int 21))])]), .v (fOp (on2 pAdd) [.v (fOp (on2 pSl2h) [.s 3, .v (fC (.int 3))]), .v (fOv pTup [.v (fOp (on1 pNeg) [.v (fC (.int 1))])])]), .v (fOp (on2 pAdd) [.v (fOp (on2 pAdd) [.v (fOp (on2 pSl2h) [.s 3, .v (fC (.int 2))]), .v (fOv pTup [.v (fOp (on1 pList) [.v (fOp (on2 pIx) [.s 3, .v (fC (.int 2))])])])]), .v (fOp (on2 pSl2l) [.s 3, .v (fC (.int 3))])])]))) (.nm 8) (L1__law_bent_kits))) (bV M L (fr r) A F I none) = .ok (.nx, bV M L1 (fr r) A F I none) := by
    simp [q_mulAI, q_mulAL, a_wb, q_divW, Function.comp_def, q_starI, q_starIT, a_wp, a_fz, a_fz0, a_fz1, a_ext, a_ins, a_insA, a_pop, a_parN, a_evO0, a_evO1, a_setO0, a_setO1, a_ix2, a_setII, a_zN, a_zC, a_lcO, d_oo, pEq_int, pNe_int, pIxL, atI_nat, atI_0, atI_1, atI_2, atI_3, atI_m1, cutLo, cutHi, cutLo1, cutHi1, a_seq, a_ifS, a_B, a_op, a_ov, a_ev0, a_evv, a_evs, a_C, a_V, a_M, a_set, a_setI, a_app, a_ret, a_ex, a_skip, a_no, a_not, a_andT, a_orT, a_and, a_or, a_notV, a_if, a_par, a_call, a_forS, a_sq, a_r1, a_r2, a_en, a_zp, a_asT, a_chI, a_yes, a_lc, a_fn, okA, f_fr, bkA, rsvs, rsv, dvs, on1, on2, d_fr, d_ol, rsO, ndS, sl, putB, asT, setAll, ofO, Dy.ints1, Dy.ints2, nE, wipeE, unw, frO, q_addI, q_addL, q_addT, q_addS, q_sub, q_div, q_mod, q_pow, q_cm, pIs, pIsn, q_isN, q_isI, q_isS, q_isT, q_isL, q_isB, q_lenL, q_lenT, pTup, pLst, q_tupL, q_tupT, q_lstL, q_lstT, q_revL, q_slL, q_shL, q_sqL, q_sqT, q_intI, q_max2, q_min2, q_aII, q_aBI, q_aTI, q_aTT, q_aLL, q_aTL, q_aIT, k1, k3, j3, j2, x2, hl, ng, e1]
  have t2 : (fSet 2 (fOp (on2 pAdd) [.s 2, .v (fOv pLst [.v (fOv pTup [.v (fV 4), .v (fV 5), .v (fOv pTup [.v (fOp (on2 pAdd) [.v (fOp (on2 pAdd) [.v (fOp (on2 pSl2h) [.s 3, .v (fC (.int 2))]), .v (fOv pTup [.v (fOp (on2 pAdd) [.v (fOp (on2 pIx) [.s 3, .v (fC (.int 2))]), .v (fOv pTup [.v (fC (.int 0))])])])]), .v (fOp (on2 pSl2l) [.s 3, .v (fC (.int 3))])])]), .v (fOv pTup [])]), .v (fOv pTup [.v (fV 4), .v (fV 5), .v (fOv pTup [.v (fOp (on2 pSl2h) [.s 3, .v (fC (.int 3))])]), .v (fOv pTup [])])])])) (bV M L1 (fr r) A F I none) = .ok (.nx, bV M (L1 ++ [bT A F (.tuple [f, o, .tuple (as ++ [.int 0]), p]), bT A F (.tuple [f, o, .tuple as])]) (fr r) A F I none) := by
    simp [q_mulAI, q_mulAL, a_wb, q_divW, Function.comp_def, q_starI, q_starIT, a_wp, a_fz, a_fz0, a_fz1, a_ext, a_ins, a_insA, a_pop, a_parN, a_evO0, a_evO1, a_setO0, a_setO1, a_ix2, a_setII, a_zN, a_zC, a_lcO, d_oo, pEq_int, pNe_int, pIxL, atI_nat, atI_0, atI_1, atI_2, atI_3, atI_m1, cutLo, cutHi, cutLo1, cutHi1, a_seq, a_ifS, a_B, a_op, a_ov, a_ev0, a_evv, a_evs, a_C, a_V, a_M, a_set, a_setI, a_app, a_ret, a_ex, a_skip, a_no, a_not, a_andT, a_orT, a_and, a_or, a_notV, a_if, a_par, a_call, a_forS, a_sq, a_r1, a_r2, a_en, a_zp, a_asT, a_chI, a_yes, a_lc, a_fn, okA, f_fr, bkA, rsvs, rsv, dvs, on1, on2, d_fr, d_ol, rsO, ndS, sl, putB, asT, setAll, ofO, Dy.ints1, Dy.ints2, nE, wipeE, unw, frO, q_addI, q_addL, q_addT, q_addS, q_sub, q_div, q_mod, q_pow, q_neg, q_cm, pIs, pIsn, q_isN, q_isI, q_isS, q_isT, q_isL, q_isB, q_lenL, q_lenT, pTup, pLst, q_tupL, q_tupT, q_lstL, q_lstT, q_revL, q_slL, q_shL, q_sqL, q_sqT, q_intI, q_max2, q_min2, q_aII, q_aBI, q_aTI, q_aTT, q_aLL, q_aTL, q_aIT, k3, j3, j2, x2, c0, c1, bT]
  have t3 : (fWp [3] (fApp 2 (fOv pTup [.v (fV 4), .v (fV 5), .v (fOv pTup [.v (fOp (on2 pAdd) [.v (fOp (on2 pSl2h) [.s 3, .v (fC (.int 3))]), .v (fOv pTup [.v (fC (.bool true))])])]), .v (fOv pTup [])]))) (bV M (L1 ++ [bT A F (.tuple [f, o, .tuple (as ++ [.int 0]), p]), bT A F (.tuple [f, o, .tuple as])]) (fr r) A F I none) = .ok (.nx, bV M (L ++ rowB A F f o as p) none A F I none) := by
    have c3 : L1.length + 2 < 1000000 := by rw [q1]; simp; omega
    have hq : L ++ rowB A F f o as p = L1 ++ [bT A F (.tuple [f, o, .tuple (as ++ [.int 0]), p]), bT A F (.tuple [f, o, .tuple as])] ++ [bT A F (.tuple [f, o, .tuple as, .bool true])] := by rw [q1]; simp [rowB]
    rw [hq]
    generalize bT A F (.tuple [f, o, .tuple (as ++ [.int 0]), p]) = b1 at *
    generalize bT A F (.tuple [f, o, .tuple as]) = b2 at *
    simp [q_mulAI, q_mulAL, a_wb, q_divW, Function.comp_def, q_starI, q_starIT, a_wp, a_fz, a_fz0, a_fz1, a_ext, a_ins, a_insA, a_pop, a_parN, a_evO0, a_evO1, a_setO0, a_setO1, a_ix2, a_setII, a_zN, a_zC, a_lcO, d_oo, pEq_int, pNe_int, pIxL, atI_nat, atI_0, atI_1, atI_2, atI_3, atI_m1, cutLo, cutHi, cutLo1, cutHi1, a_seq, a_ifS, a_B, a_op, a_ov, a_ev0, a_evv, a_evs, a_C, a_V, a_M, a_set, a_setI, a_app, a_ret, a_ex, a_skip, a_no, a_not, a_andT, a_orT, a_and, a_or, a_notV, a_if, a_par, a_call, a_forS, a_sq, a_r1, a_r2, a_en, a_zp, a_asT, a_chI, a_yes, a_lc, a_fn, okA, f_fr, bkA, rsvs, rsv, dvs, on1, on2, d_fr, d_ol, rsO, ndS, sl, putB, asT, setAll, ofO, Dy.ints1, Dy.ints2, nE, wipeE, unw, frO, q_addI, q_addL, q_addT, q_addS, q_sub, q_div, q_mod, q_pow, q_neg, q_cm, pIs, pIsn, q_isN, q_isI, q_isS, q_isT, q_isL, q_isB, q_lenL, q_lenT, pTup, pLst, q_tupL, q_tupT, q_lstL, q_lstT, q_revL, q_slL, q_shL, q_sqL, q_sqT, q_intI, q_max2, q_min2, q_aII, q_aBI, q_aTI, q_aTT, q_aLL, q_aTL, q_aIT, j3, c3, bT]
  unfold L2__law_bent_kits
  exact (sq86 t1).trans ((sq86 t2).trans t3)
end Q
namespace Q
open PySem Dy
open L2 (atI ixN)
def base84 (AR : List PyData) (F : PyData) (II KK : List PyData) : List PyData :=
  [.list [.tuple AR, F, .tuple II, .tuple KK], .tuple [.tuple AR, F, .tuple II], .tuple [.tuple AR, F, .tuple II, .tuple KK, .int 0], .tuple [.list AR, F, .tuple II, .tuple KK], .tuple [.tuple (AR ++ [.int 3]), F, .tuple II, .tuple KK], .tuple [.tuple [], F, .tuple II, .tuple KK],
   .tuple [.tuple AR, .int 0, .tuple [], .tuple []], .tuple [.tuple AR, .int 5, .tuple II, .tuple KK], .tuple [.tuple AR, .none, .tuple II, .tuple KK], .tuple [.tuple AR, F, .list II, .tuple []],
   .tuple [.tuple AR, F, .tuple II, .tuple [.none]], .tuple [.tuple AR, F, .tuple [.tuple [.int 0, .int 0]], .tuple []],
   .tuple [.tuple AR, F, .tuple ((List.replicate 30 II).flatten.take 60), .tuple KK],
   .tuple [.tuple AR, F, .tuple II, .tuple [.tuple [.int 0, .int 0, .int 1]]], .tuple [.tuple AR, F, .tuple II, .tuple [.tuple [.int 0, F, .int 1]]],
   .tuple [.tuple AR, F, .tuple [], .tuple [.tuple [.int 0, .int 1, .int 21]]]]
theorem base_bd {AR II KK : List PyData} {F : PyData} (hA : Pc 0 6 AR) (hI : Pc 2 192 II) (hK : Pc 2 96 KK) (hF : gd 25 F = true ∧ F.depth = 0 ∧ sz F = 1) (hX : Pc 2 480 ((List.replicate 30 II).flatten.take 60)) : ∀ d ∈ base84 AR F II KK, Bd84 d := fun d hd => by
  have a1 := hA.g; have a2 := hA.d; have a3 := hA.s
  have i1 := hI.g; have i2 := hI.d; have i3 := hI.s
  have k1 := hK.g; have k2 := hK.d; have k3 := hK.s
  have x1 := hX.g; have x2 := hX.d; have x3 := hX.s
  obtain ⟨f1, f2, f3⟩ := hF
  unfold base84 at hd
  generalize (List.replicate 30 II).flatten.take 60 = XX at *
  simp only [List.mem_cons, List.not_mem_nil, or_false] at hd
  rcases hd with rfl | rfl | rfl | rfl | rfl | rfl | rfl | rfl | rfl | rfl | rfl | rfl | rfl | rfl | rfl | rfl
  all_goals
    refine bd_gd ⟨?_, ?_, ?_⟩
    · simp [gd, gds, gds_app84, a1, i1, k1, x1, f1]
    · simp only [PyData.depth, PyData.depthAll, dep_app84, f2]; omega
    · simp only [sz, szs, szs_app, f3]; omega
theorem row_bd84 {AR : List PyData} {F f o p : PyData} {as : List PyData} (hA : Pc 0 6 AR) (hF : gd 25 F = true ∧ F.depth = 0 ∧ sz F = 1) (hf : gd 25 f = true ∧ f.depth = 0 ∧ sz f = 1) (ho : gd 25 o = true ∧ o.depth = 0 ∧ sz o = 1) (hp : gd 25 p = true ∧ p.depth = 0 ∧ sz p = 1) (hs : Pc 0 6 as) :
    ∀ d ∈ rowB (.tuple AR) F f o as p, Bd84 d := fun d hd => by
  have a1 := hA.g; have a2 := hA.d; have a3 := hA.s
  have s1 := hs.g; have s2 := hs.d; have s3 := hs.s
  obtain ⟨F1, F2, F3⟩ := hF
  obtain ⟨f1, f2, f3⟩ := hf
  obtain ⟨o1, o2, o3⟩ := ho
  obtain ⟨p1, p2, p3⟩ := hp
  simp only [rowB, bT, List.mem_cons, List.not_mem_nil, or_false] at hd
  rcases hd with rfl | rfl | rfl | rfl | rfl | rfl | rfl
  all_goals
    refine bd_gd ⟨?_, ?_, ?_⟩
    · simp [gd, gds, gds_app84, a1, s1, F1, f1, o1, p1]
    · simp only [PyData.depth, PyData.depthAll, dep_app84, F2, f2, o2, p2]; omega
    · simp only [sz, szs, szs_app, F3, f3, o3, p3]; omega
theorem dN_pc {n : Nat} (h : n ≤ 25) : gd 25 (dN n) = true ∧ (dN n).depth = 0 ∧ sz (dN n) = 1 := ⟨gd_nat h, rfl, by simp [sz]⟩
theorem ns_pc {ns : List Nat} (h : ∀ n ∈ ns, n ≤ 25) (hl : ns.length ≤ 6) : Pc 0 6 (ns.map dN) := ⟨gd_ns h, by rw [dep_ns]; exact Nat.le_refl _, by rw [szs_ns]; exact hl⟩
theorem pc_of {xs : List PyData} {k : Nat} (h : ∀ d ∈ xs, Gd 25 2 8 d) (hl : 8 * xs.length ≤ k) : Pc 2 k xs := by
  refine ⟨gds_iff.mpr fun d hd => (h d hd).gd, dep_all.mpr fun d hd => (h d hd).dep, ?_⟩
  have := szs_le (fun d : PyData => d) 8 xs fun d hd => (h d hd).sz
  rw [List.map_id'] at this
  omega
theorem gdI84 {m : Mach} (h : MOk m) : ∀ d ∈ m.ins.map encI, Gd 25 2 8 d := fun d hd => by
  obtain ⟨i, hi, rfl⟩ := List.mem_map.mp hd
  have io := h.ins i hi
  have a2 := h.ar.le2 _ (List.mem_of_getElem? io.ar)
  have f4 := h.f4
  have o1 := lt_of_get io.ar
  have o2 := io.form
  have o3 := io.pr
  have hl := h.ar.len
  refine ⟨?_, ?_, ?_⟩
  · simp only [gd, gds, gd_ns (B := 25) (ns := i.args) (fun a ha => by have := io.args a ha; omega), Bool.and_true, Bool.true_and, Bool.and_eq_true, decide_eq_true_eq, dN]
    omega
  · simp [PyData.depth, PyData.depthAll, dep_ns]
  · simp [sz, szs, szs_ns]; omega
theorem gdK84 {m : Mach} (h : MOk m) : ∀ d ∈ m.con.map encK, Gd 25 2 8 d := fun d hd => by
  obtain ⟨c, hc, rfl⟩ := List.mem_map.mp hd
  have co := h.con c hc
  have f4 := h.f4
  have := co.a; have := co.b; have := co.pr
  refine ⟨?_, ?_, ?_⟩
  · simp only [gd, gds, Bool.and_true, Bool.and_eq_true, decide_eq_true_eq, dN]; omega
  · simp [PyData.depth, PyData.depthAll]
  · simp [sz, szs]
theorem txt_tok {m : Mach} (h : MOk m) : (∀ c ∈ tx (textM m), c < 128) := fun c hc => by
  have asc : ∀ n : Nat, ∀ c ∈ tx (numS n), c < 128 := fun n c hc => by
    rw [numS_tx] at hc
    have := TL.numL_digits n c hc
    omega
  have kc : (∀ c ∈ tx BLK, c < 128) ∧ (∀ c ∈ tx ARR, c < 128) ∧ (∀ c ∈ tx COL, c < 128) ∧ (∀ c ∈ tx ATS, c < 128) ∧ (∀ c ∈ tx NL, c < 128) ∧ (∀ c ∈ tx ("forms " : Str), c < 128) ∧ (∀ c ∈ tx ("operators " : Str), c < 128) := by decide +kernel
  obtain ⟨k1, k2, k3, k4, k5, k6, k7⟩ := kc
  have jn : ∀ {y : Str} {ps : List Str}, (∀ c ∈ tx y, c < 128) → (∀ p ∈ ps, ∀ c ∈ tx p, c < 128) → ∀ c ∈ tx (Str.join y ps), c < 128 := fun {y} {ps} hy => by
    induction ps with
    | nil => intro _ c hc; simp [Str.join, tx, Str.empty] at hc
    | cons p ps ih =>
      intro h c hc
      cases ps with
      | nil => exact h p (by simp) c hc
      | cons q r =>
        have hc : c ∈ tx (p ++ y ++ Str.join y (q :: r)) := hc
        rw [tx_app, tx_app] at hc
        rcases List.mem_append.mp hc with hc | hc
        · rcases List.mem_append.mp hc with hc | hc
          · exact h p (by simp) c hc
          · exact hy c hc
        · exact ih (fun z hz => h z (List.mem_cons_of_mem _ hz)) c hc
  have wi : ∀ i : Ins, ∀ w ∈ wI i, ∀ c ∈ tx w, c < 128 := fun i w hw c hc => by
    simp only [wI, List.mem_cons, List.mem_append, List.mem_map, List.not_mem_nil, or_false] at hw
    rcases hw with rfl | rfl | rfl | ⟨k, hk, rfl⟩ | rfl | rfl
    · exact asc _ c hc
    · exact k2 c hc
    · rw [tx_app] at hc
      rcases List.mem_append.mp hc with hc | hc
      · exact asc _ c hc
      · exact k3 c hc
    · exact asc _ c hc
    · exact k4 c hc
    · exact asc _ c hc
  have wc : ∀ i : Con, ∀ w ∈ wC i, ∀ c ∈ tx w, c < 128 := fun i w hw c hc => by
    simp only [wC, List.mem_cons, List.not_mem_nil, or_false] at hw
    rcases hw with rfl | rfl | rfl | rfl | rfl
    · exact asc _ c hc
    · exact k2 c hc
    · exact asc _ c hc
    · exact k4 c hc
    · exact asc _ c hc
  have ln : ∀ l ∈ linesM m, ∀ c ∈ tx l, c < 128 := fun l hl c hc => by
    simp only [linesM, List.mem_cons, List.mem_append, List.mem_map] at hl
    rcases hl with rfl | rfl | ⟨i, hi, rfl⟩ | ⟨i, hi, rfl⟩
    · unfold line0 at hc
      rw [tx_app] at hc
      rcases List.mem_append.mp hc with hc | hc
      · exact k6 c hc
      · exact asc _ c hc
    · unfold line1 at hc
      rw [tx_app] at hc
      rcases List.mem_append.mp hc with hc | hc
      · exact k7 c hc
      · rw [TL.join_eq] at hc
        exact jn k1 (fun p hp => by obtain ⟨k, hk, rfl⟩ := List.mem_map.mp hp; exact asc k) c hc
    · unfold lineI at hc; rw [TL.join_eq] at hc; exact jn k1 (wi i) c hc
    · unfold lineC at hc; rw [TL.join_eq] at hc; exact jn k1 (wc i) c hc
  unfold textM at hc
  rw [TL.join_eq] at hc
  refine jn (by intro c hc; simp [tx, Str.empty] at hc) (fun p hp c hc => ?_) c hc
  obtain ⟨l, hl, rfl⟩ := List.mem_map.mp hp
  rw [tx_app] at hc
  rcases List.mem_append.mp hc with hc | hc
  · exact ln l hl c hc
  · exact k5 c hc
theorem reprTM {m : Mach} (h : MOk m) : pRepr (.str (textM m)) = some (.fr (.str (reprText (textM m)))) ∧ pReprD (.str (textM m)) = some (.fr (.str (reprText (textM m)))) ∧ PyData.strOk (reprText (textM m)) = true := by
  have t : TOk 1102 (textM m) := ⟨txt_tok h, Good.len (by rw [tx_len]; exact (textM_len h).1)⟩
  have r := rk_str t (textM_len h).1
  refine ⟨r.repr (by decide) (by decide), ?_, sok_repr t.asc⟩
  unfold pReprD
  rw [if_pos (r.rOk (by decide) (by decide))]
  rfl
def rowM (m : Mach) (i : Ins) : List PyData := rowB (encA m.ar) (dN m.fs) (dN i.form) (dN i.op) (i.args.map dN) (dN i.pr)
theorem bentK {m : Mach} (h : MOk m) {P : PyData} : ∃ L, M__law_bent_kits [.fr P, .fr (encM m)] = .ok (.ol L, [.fr P, .fr (encM m)]) ∧ ∀ d ∈ L, Bd84 d := by
  have il := h.il
  have cl := h.cl
  have f4 := h.f4
  have al := h.ar.len
  have hA : Pc 0 6 (m.ar.map dN) := ns_pc (fun n hn => by have := h.ar.le2 n hn; omega) al
  have gI := gdI84 h
  have hI : Pc 2 192 (m.ins.map encI) := pc_of gI (by rw [List.length_map]; omega)
  have hK : Pc 2 96 (m.con.map encK) := pc_of (gdK84 h) (by rw [List.length_map]; omega)
  have hF := dN_pc (n := m.fs) (by omega)
  have hX : Pc 2 480 ((List.replicate 30 (m.ins.map encI)).flatten.take 60) := by
    refine pc_of (fun d hd => ?_) ?_
    · obtain ⟨l, hl, hm⟩ := List.mem_flatten.mp (List.mem_of_mem_take hd)
      rw [(List.mem_replicate.mp hl).2] at hm
      exact gI d hm
    · have : ((List.replicate 30 (m.ins.map encI)).flatten.take 60).length ≤ 60 := List.length_take_le _ _
      omega
  have B0 := base_bd hA hI hK hF hX
  have kt := kitText h
  obtain ⟨r1, r2, -⟩ := reprTM h
  -- the rows
  obtain ⟨L1, q1, F1⟩ := for_l (t := .nm 3) (body := L2__law_bent_kits) encI (fun L : List PyData => bV (fr (encM m)) L none (encA m.ar) (dN m.fs) (.tuple (m.ins.map encI)) none) (fun pre L => L = base84 (m.ar.map dN) (dN m.fs) (m.ins.map encI) (m.con.map encK) ++ pre.flatMap (rowM m)) (m.ins.take 2) (s := base84 (m.ar.map dN) (dN m.fs) (m.ins.map encI) (m.con.map encK)) (by simp) (fun pre i post L e hp => by
    have hn := congrArg List.length e
    simp at hn
    have hi : i ∈ m.ins := List.mem_of_mem_take (by rw [e]; simp)
    have hlen : (pre.flatMap (rowM m)).length = 7 * pre.length := by
      generalize pre = Z
      induction Z with
      | nil => rfl
      | cons z Z ih => rw [List.flatMap_cons, List.length_append, ih]; simp [rowM, rowB]; omega
    refine ⟨L ++ rowM m i, by rw [hp]; simp, ?_⟩
    have := bent2K (M := fr (encM m)) (L := L) (A := encA m.ar) (F := dN m.fs) (I := .tuple (m.ins.map encI)) (f := dN i.form) (o := dN i.op) (p := dN i.pr) (as := i.args.map dN) (by rw [hp, List.length_append, hlen]; simp [base84]; omega) (by rw [List.length_map]; have := (ism h hi).l; omega)
    exact this)
  have BL : ∀ d ∈ L1, Bd84 d := fun d hd => by
    rw [q1] at hd
    rcases List.mem_append.mp hd with hd | hd
    · exact B0 d hd
    · obtain ⟨i, hi, hm⟩ := List.mem_flatMap.mp hd
      have hi := List.mem_of_mem_take hi
      have io := h.ins i hi
      have s := ism h hi
      have o1 := lt_of_get io.ar
      have := io.form; have := io.pr
      exact row_bd84 hA hF (dN_pc (by omega)) (dN_pc (by omega)) (dN_pc (by omega)) (ns_pc (fun n hn => by have := io.args n hn; omega) (by have := s.l; omega)) d hm
  have ll : L1.length ≤ 100 := by
    have hlen : ∀ Z : List Ins, (Z.flatMap (rowM m)).length = 7 * Z.length := fun Z => by
      induction Z with
      | nil => rfl
      | cons z Z ih => rw [List.flatMap_cons, List.length_append, ih]; simp [rowM, rowB]; omega
    rw [q1, List.length_append, hlen]
    have : (m.ins.take 2).length ≤ 2 := List.length_take_le _ _
    simp [base84]; omega
  have tk : (m.ins.take 2).map encI = (m.ins.map encI).take 2 := List.map_take
  rw [tk] at F1
  have gM := gdM h
  refine ⟨L1 ++ [.none, .int 0, .str "", .tuple [], .list [], .dict [], .str (textM m), .tuple [encM m], encA m.ar, .bool true], ?_, fun d hd => ?_⟩
  · unfold base84 at F1
    have l30 := mulE30 (II := m.ins.map encI) (by rw [List.length_map]; omega)
    have c60 : pSl2h (.tuple (List.replicate 30 (m.ins.map encI)).flatten) (.int 60) = some (.fr (.tuple ((List.replicate 30 (m.ins.map encI)).flatten.take 60))) := by
      have := cutHi (List.replicate 30 (m.ins.map encI)).flatten 60
      show some (O.fr (.tuple (cutD (List.replicate 30 (m.ins.map encI)).flatten none (some 60)))) = _
      rw [← this]; rfl
    have c2 : pSl2h (.tuple (m.ins.map encI)) (.int 2) = some (.fr (.tuple ((m.ins.map encI).take 2))) := by
      have := cutHi (m.ins.map encI) 2
      show some (O.fr (.tuple (cutD (m.ins.map encI) none (some 2)))) = _
      rw [← this]; rfl
    have pa : pList (.tuple (m.ar.map dN)) = some (.ol (m.ar.map dN)) := by
      have : (m.ar.map dN).length ≤ 1000000 := by rw [List.length_map]; omega
      simp [pList, seqOf, this]
    have pi : pList (.tuple (m.ins.map encI)) = some (.ol (m.ins.map encI)) := by
      have : (m.ins.map encI).length ≤ 1000000 := by rw [List.length_map]; omega
      simp [pList, seqOf, this]
    have la : (m.ar.map dN).length + 1 ≤ 1000000 := by rw [List.length_map]; omega
    have l10 : L1.length + 10 ≤ 1000000 := by omega
    have kM : pSl2l (encM m) (.int 1) = some (.fr (.tuple [dN m.fs, .tuple (m.ins.map encI), .tuple (m.con.map encK)])) := rfl
    have kM2 : pSl2l (encM m) (.int 2) = some (.fr (.tuple [.tuple (m.ins.map encI), .tuple (m.con.map encK)])) := rfl
    have kM3 : pSl2h (encM m) (.int 3) = some (.fr (.tuple [encA m.ar, dN m.fs, .tuple (m.ins.map encI)])) := rfl
    have kL : pList (encM m) = some (.ol [encA m.ar, dN m.fs, .tuple (m.ins.map encI), .tuple (m.con.map encK)]) := by simp [pList, seqOf]
    have k0 : pAdd (encM m) (.tuple [.int 0]) = some (.fr (.tuple [encA m.ar, dN m.fs, .tuple (m.ins.map encI), .tuple (m.con.map encK), .int 0])) := by simp [q_addT]
    have u0 : (fAsT (.tu [4, 5, 6, 7]) (fV 1)) (some (.fr P) :: some (.fr (encM m)) :: List.replicate 7 none) = .ok (.nx, [fr P, fr (encM m), none, none, fr (encA m.ar), fr (dN m.fs), fr (.tuple (m.ins.map encI)), fr (.tuple (m.con.map encK)), none]) := by simp [q_mulAI, q_mulAL, a_wb, q_divW, Function.comp_def, q_starI, q_starIT, a_wp, a_fz, a_fz0, a_fz1, a_ext, a_ins, a_insA, a_pop, a_parN, a_evO0, a_evO1, a_setO0, a_setO1, a_ix2, a_setII, a_zN, a_zC, a_lcO, d_oo, pEq_int, pNe_int, pIxL, pIxT, atI_nat, atI_0, atI_1, atI_2, atI_3, atI_m1, cutLo, cutHi, cutLo1, cutHi1, a_seq, a_ifS, a_B, a_op, a_ov, a_ev0, a_evv, a_evs, a_C, a_V, a_M, a_set, a_setI, a_app, a_ret, a_ex, a_skip, a_no, a_not, a_andT, a_orT, a_and, a_or, a_notV, a_if, a_par, a_call, a_forS, a_sq, a_r1, a_r2, a_en, a_zp, a_asT, a_chI, a_yes, a_lc, a_fn, okA, f_fr, bkA, rsvs, rsv, dvs, on1, on2, d_fr, d_ol, rsO, ndS, sl, putB, asT, setAll, ofO, Dy.ints1, Dy.ints2, nE, wipeE, unw, frO, q_addI, q_addL, q_addT, q_addS, q_sub, q_div, q_mod, q_pow, q_neg, q_cm, pIs, pIsn, q_isN, q_isI, q_isS, q_isT, q_isL, q_isB, q_lenL, q_lenT, pTup, pLst, q_tupL, q_tupT, q_lstL, q_lstT, q_revL, q_slL, q_slT, q_shL, q_shT, q_sqL, q_sqT, q_intI, q_max2, q_min2, q_aII, q_aBI, q_aTI, q_aTT, q_aLL, q_aTL, q_aIT]
    clear B0 BL hA hI hK hX gI gM tk q1
    unfold encA at *
    generalize encM m = K at *
    generalize textM m = TM at *
    generalize (List.replicate 30 (m.ins.map encI)).flatten.take 60 = X60 at *
    generalize (List.replicate 30 (m.ins.map encI)).flatten = X30 at *
    generalize (m.ins.map encI).take 2 = I2 at *
    generalize m.ins.map encI = II at *
    generalize m.con.map encK = KK at *
    generalize m.ar.map dN = AR at *
    refine fn2_rt86 (N := 7) (e := [none, fr K, ol L1, none, fr (.tuple AR), none, none, none, none]) ?_
    unfold b__law_bent_kits
    refine (sq86 u0).trans ?_
    generalize hFF : dN m.fs = F at *
    have u1 : (fSet 2 (fOv pLst [.v (fOp (on1 pList) [.s 1]), .v (fOp (on2 pSl2h) [.s 1, .v (fC (.int 3))]), .v (fOp (on2 pAdd) [.s 1, .v (fOv pTup [.v (fC (.int 0))])]), .v (fOp (on2 pAdd) [.v (fOv pTup [.v (fOp (on1 pList) [.s 4])]), .v (fOp (on2 pSl2l) [.s 1, .v (fC (.int 1))])]), .v (fOp (on2 pAdd) [.v (fOv pTup [.v (fOp (on2 pAdd) [.s 4, .v (fOv pTup [.v (fC (.int 3))])])]), .v (fOp (on2 pSl2l) [.s 1, .v (fC (.int 1))])]), .v (fOp (on2 pAdd) [.v (fOv pTup [.v (fOv pTup [])]), .v (fOp (on2 pSl2l) [.s 1, .v (fC (.int 1))])])])) [fr P, fr K, none, none, fr (.tuple AR), fr F, fr (.tuple II), fr (.tuple KK), none] = .ok (.nx, [fr P, fr K, ol [.list [.tuple AR, F, .tuple II, .tuple KK], .tuple [.tuple AR, F, .tuple II], .tuple [.tuple AR, F, .tuple II, .tuple KK, .int 0], .tuple [.list AR, F, .tuple II, .tuple KK], .tuple [.tuple (AR ++ [.int 3]), F, .tuple II, .tuple KK], .tuple [.tuple [], F, .tuple II, .tuple KK]], none, fr (.tuple AR), fr F, fr (.tuple II), fr (.tuple KK), none]) := by
      simp [q_mulAI, q_mulAL, a_wb, q_divW, Function.comp_def, q_starI, q_starIT, a_wp, a_fz, a_fz0, a_fz1, a_ext, a_ins, a_insA, a_pop, a_parN, a_evO0, a_evO1, a_setO0, a_setO1, a_ix2, a_setII, a_zN, a_zC, a_lcO, d_oo, pEq_int, pNe_int, pIxL, pIxT, atI_nat, atI_0, atI_1, atI_2, atI_3, atI_m1, cutLo, cutHi, cutLo1, cutHi1, a_seq, a_ifS, a_B, a_op, a_ov, a_ev0, a_evv, a_evs, a_C, a_V, a_M, a_set, a_setI, a_app, a_ret, a_ex, a_skip, a_no, a_not, a_andT, a_orT, a_and, a_or, a_notV, a_if, a_par, a_call, a_forS, a_sq, a_r1, a_r2, a_en, a_zp, a_asT, a_chI, a_yes, a_lc, a_fn, okA, f_fr, bkA, rsvs, rsv, dvs, on1, on2, d_fr, d_ol, rsO, ndS, sl, putB, asT, setAll, ofO, Dy.ints1, Dy.ints2, nE, wipeE, unw, frO, q_addI, q_addL, q_addT, q_addS, q_sub, q_div, q_mod, q_pow, q_neg, q_cm, pIs, pIsn, q_isN, q_isI, q_isS, q_isT, q_isL, q_isB, q_lenL, q_lenT, pTup, pLst, q_tupL, q_tupT, q_lstL, q_lstT, q_revL, q_slL, q_shL, q_sqL, q_sqT, q_intI, q_max2, q_min2, q_aII, q_aBI, q_aTI, q_aTT, q_aLL, q_aTL, q_aIT, kL, kM, kM2, kM3, k0, pa, pi, la, l30, c60]
    have u2 : (fSet 2 (fOp (on2 pAdd) [.s 2, .v (fOv pLst [.v (fOv pTup [.v (fV 4), .v (fC (.int 0)), .v (fOv pTup []), .v (fOv pTup [])]), .v (fOp (on2 pAdd) [.v (fOv pTup [.v (fV 4), .v (fC (.int 5))]), .v (fOp (on2 pSl2l) [.s 1, .v (fC (.int 2))])]), .v (fOp (on2 pAdd) [.v (fOv pTup [.v (fV 4), .v (fC .none)]), .v (fOp (on2 pSl2l) [.s 1, .v (fC (.int 2))])]), .v (fOv pTup [.v (fV 4), .v (fV 5), .v (fOp (on1 pList) [.s 6]), .v (fOv pTup [])])])])) [fr P, fr K, ol [.list [.tuple AR, F, .tuple II, .tuple KK], .tuple [.tuple AR, F, .tuple II], .tuple [.tuple AR, F, .tuple II, .tuple KK, .int 0], .tuple [.list AR, F, .tuple II, .tuple KK], .tuple [.tuple (AR ++ [.int 3]), F, .tuple II, .tuple KK], .tuple [.tuple [], F, .tuple II, .tuple KK]], none, fr (.tuple AR), fr F, fr (.tuple II), fr (.tuple KK), none] = .ok (.nx, [fr P, fr K, ol [.list [.tuple AR, F, .tuple II, .tuple KK], .tuple [.tuple AR, F, .tuple II], .tuple [.tuple AR, F, .tuple II, .tuple KK, .int 0], .tuple [.list AR, F, .tuple II, .tuple KK], .tuple [.tuple (AR ++ [.int 3]), F, .tuple II, .tuple KK], .tuple [.tuple [], F, .tuple II, .tuple KK], .tuple [.tuple AR, .int 0, .tuple [], .tuple []], .tuple [.tuple AR, .int 5, .tuple II, .tuple KK], .tuple [.tuple AR, .none, .tuple II, .tuple KK], .tuple [.tuple AR, F, .list II, .tuple []]], none, fr (.tuple AR), fr F, fr (.tuple II), fr (.tuple KK), none]) := by
      simp [q_mulAI, q_mulAL, a_wb, q_divW, Function.comp_def, q_starI, q_starIT, a_wp, a_fz, a_fz0, a_fz1, a_ext, a_ins, a_insA, a_pop, a_parN, a_evO0, a_evO1, a_setO0, a_setO1, a_ix2, a_setII, a_zN, a_zC, a_lcO, d_oo, pEq_int, pNe_int, pIxL, pIxT, atI_nat, atI_0, atI_1, atI_2, atI_3, atI_m1, cutLo, cutHi, cutLo1, cutHi1, a_seq, a_ifS, a_B, a_op, a_ov, a_ev0, a_evv, a_evs, a_C, a_V, a_M, a_set, a_setI, a_app, a_ret, a_ex, a_skip, a_no, a_not, a_andT, a_orT, a_and, a_or, a_notV, a_if, a_par, a_call, a_forS, a_sq, a_r1, a_r2, a_en, a_zp, a_asT, a_chI, a_yes, a_lc, a_fn, okA, f_fr, bkA, rsvs, rsv, dvs, on1, on2, d_fr, d_ol, rsO, ndS, sl, putB, asT, setAll, ofO, Dy.ints1, Dy.ints2, nE, wipeE, unw, frO, q_addI, q_addL, q_addT, q_addS, q_sub, q_div, q_mod, q_pow, q_neg, q_cm, pIs, pIsn, q_isN, q_isI, q_isS, q_isT, q_isL, q_isB, q_lenL, q_lenT, pTup, pLst, q_tupL, q_tupT, q_lstL, q_lstT, q_revL, q_slL, q_shL, q_sqL, q_sqT, q_intI, q_max2, q_min2, q_aII, q_aBI, q_aTI, q_aTT, q_aLL, q_aTL, q_aIT, kL, kM, kM2, kM3, k0, pa, pi, la, l30, c60]
    have u3 : (fSet 2 (fOp (on2 pAdd) [.s 2, .v (fOv pLst [.v (fOv pTup [.v (fV 4), .v (fV 5), .v (fV 6), .v (fOv pTup [.v (fC .none)])]), .v (fOv pTup [.v (fV 4), .v (fV 5), .v (fOv pTup [.v (fOv pTup [.v (fC (.int 0)), .v (fC (.int 0))])]), .v (fOv pTup [])])])])) [fr P, fr K, ol [.list [.tuple AR, F, .tuple II, .tuple KK], .tuple [.tuple AR, F, .tuple II], .tuple [.tuple AR, F, .tuple II, .tuple KK, .int 0], .tuple [.list AR, F, .tuple II, .tuple KK], .tuple [.tuple (AR ++ [.int 3]), F, .tuple II, .tuple KK], .tuple [.tuple [], F, .tuple II, .tuple KK], .tuple [.tuple AR, .int 0, .tuple [], .tuple []], .tuple [.tuple AR, .int 5, .tuple II, .tuple KK], .tuple [.tuple AR, .none, .tuple II, .tuple KK], .tuple [.tuple AR, F, .list II, .tuple []]], none, fr (.tuple AR), fr F, fr (.tuple II), fr (.tuple KK), none] = .ok (.nx, [fr P, fr K, ol [.list [.tuple AR, F, .tuple II, .tuple KK], .tuple [.tuple AR, F, .tuple II], .tuple [.tuple AR, F, .tuple II, .tuple KK, .int 0], .tuple [.list AR, F, .tuple II, .tuple KK], .tuple [.tuple (AR ++ [.int 3]), F, .tuple II, .tuple KK], .tuple [.tuple [], F, .tuple II, .tuple KK], .tuple [.tuple AR, .int 0, .tuple [], .tuple []], .tuple [.tuple AR, .int 5, .tuple II, .tuple KK], .tuple [.tuple AR, .none, .tuple II, .tuple KK], .tuple [.tuple AR, F, .list II, .tuple []], .tuple [.tuple AR, F, .tuple II, .tuple [.none]], .tuple [.tuple AR, F, .tuple [.tuple [.int 0, .int 0]], .tuple []]], none, fr (.tuple AR), fr F, fr (.tuple II), fr (.tuple KK), none]) := by
      simp [q_mulAI, q_mulAL, a_wb, q_divW, Function.comp_def, q_starI, q_starIT, a_wp, a_fz, a_fz0, a_fz1, a_ext, a_ins, a_insA, a_pop, a_parN, a_evO0, a_evO1, a_setO0, a_setO1, a_ix2, a_setII, a_zN, a_zC, a_lcO, d_oo, pEq_int, pNe_int, pIxL, pIxT, atI_nat, atI_0, atI_1, atI_2, atI_3, atI_m1, cutLo, cutHi, cutLo1, cutHi1, a_seq, a_ifS, a_B, a_op, a_ov, a_ev0, a_evv, a_evs, a_C, a_V, a_M, a_set, a_setI, a_app, a_ret, a_ex, a_skip, a_no, a_not, a_andT, a_orT, a_and, a_or, a_notV, a_if, a_par, a_call, a_forS, a_sq, a_r1, a_r2, a_en, a_zp, a_asT, a_chI, a_yes, a_lc, a_fn, okA, f_fr, bkA, rsvs, rsv, dvs, on1, on2, d_fr, d_ol, rsO, ndS, sl, putB, asT, setAll, ofO, Dy.ints1, Dy.ints2, nE, wipeE, unw, frO, q_addI, q_addL, q_addT, q_addS, q_sub, q_div, q_mod, q_pow, q_neg, q_cm, pIs, pIsn, q_isN, q_isI, q_isS, q_isT, q_isL, q_isB, q_lenL, q_lenT, pTup, pLst, q_tupL, q_tupT, q_lstL, q_lstT, q_revL, q_slL, q_shL, q_sqL, q_sqT, q_intI, q_max2, q_min2, q_aII, q_aBI, q_aTI, q_aTT, q_aLL, q_aTL, q_aIT, kL, kM, kM2, kM3, k0, pa, pi, la, l30, c60]
    have u4 : (fApp 2 (fOv pTup [.v (fV 4), .v (fV 5), .v (fOp (on2 pSl2h) [.v (fOp (on2 pMulE) [.s 6, .v (fC (.int 30))]), .v (fC (.int 60))]), .v (fV 7)])) [fr P, fr K, ol [.list [.tuple AR, F, .tuple II, .tuple KK], .tuple [.tuple AR, F, .tuple II], .tuple [.tuple AR, F, .tuple II, .tuple KK, .int 0], .tuple [.list AR, F, .tuple II, .tuple KK], .tuple [.tuple (AR ++ [.int 3]), F, .tuple II, .tuple KK], .tuple [.tuple [], F, .tuple II, .tuple KK], .tuple [.tuple AR, .int 0, .tuple [], .tuple []], .tuple [.tuple AR, .int 5, .tuple II, .tuple KK], .tuple [.tuple AR, .none, .tuple II, .tuple KK], .tuple [.tuple AR, F, .list II, .tuple []], .tuple [.tuple AR, F, .tuple II, .tuple [.none]], .tuple [.tuple AR, F, .tuple [.tuple [.int 0, .int 0]], .tuple []]], none, fr (.tuple AR), fr F, fr (.tuple II), fr (.tuple KK), none] = .ok (.nx, [fr P, fr K, ol [.list [.tuple AR, F, .tuple II, .tuple KK], .tuple [.tuple AR, F, .tuple II], .tuple [.tuple AR, F, .tuple II, .tuple KK, .int 0], .tuple [.list AR, F, .tuple II, .tuple KK], .tuple [.tuple (AR ++ [.int 3]), F, .tuple II, .tuple KK], .tuple [.tuple [], F, .tuple II, .tuple KK], .tuple [.tuple AR, .int 0, .tuple [], .tuple []], .tuple [.tuple AR, .int 5, .tuple II, .tuple KK], .tuple [.tuple AR, .none, .tuple II, .tuple KK], .tuple [.tuple AR, F, .list II, .tuple []], .tuple [.tuple AR, F, .tuple II, .tuple [.none]], .tuple [.tuple AR, F, .tuple [.tuple [.int 0, .int 0]], .tuple []], .tuple [.tuple AR, F, .tuple X60, .tuple KK]], none, fr (.tuple AR), fr F, fr (.tuple II), fr (.tuple KK), none]) := by
      simp [q_mulAI, q_mulAL, a_wb, q_divW, Function.comp_def, q_starI, q_starIT, a_wp, a_fz, a_fz0, a_fz1, a_ext, a_ins, a_insA, a_pop, a_parN, a_evO0, a_evO1, a_setO0, a_setO1, a_ix2, a_setII, a_zN, a_zC, a_lcO, d_oo, pEq_int, pNe_int, pIxL, pIxT, atI_nat, atI_0, atI_1, atI_2, atI_3, atI_m1, cutLo, cutHi, cutLo1, cutHi1, a_seq, a_ifS, a_B, a_op, a_ov, a_ev0, a_evv, a_evs, a_C, a_V, a_M, a_set, a_setI, a_app, a_ret, a_ex, a_skip, a_no, a_not, a_andT, a_orT, a_and, a_or, a_notV, a_if, a_par, a_call, a_forS, a_sq, a_r1, a_r2, a_en, a_zp, a_asT, a_chI, a_yes, a_lc, a_fn, okA, f_fr, bkA, rsvs, rsv, dvs, on1, on2, d_fr, d_ol, rsO, ndS, sl, putB, asT, setAll, ofO, Dy.ints1, Dy.ints2, nE, wipeE, unw, frO, q_addI, q_addL, q_addT, q_addS, q_sub, q_div, q_mod, q_pow, q_neg, q_cm, pIs, pIsn, q_isN, q_isI, q_isS, q_isT, q_isL, q_isB, q_lenL, q_lenT, pTup, pLst, q_tupL, q_tupT, q_lstL, q_lstT, q_revL, q_slL, q_shL, q_sqL, q_sqT, q_intI, q_max2, q_min2, q_aII, q_aBI, q_aTI, q_aTT, q_aLL, q_aTL, q_aIT, kL, kM, kM2, kM3, k0, pa, pi, la, l30, c60]
    have u5 : (fSet 2 (fOp (on2 pAdd) [.s 2, .v (fOv pLst [.v (fOv pTup [.v (fV 4), .v (fV 5), .v (fV 6), .v (fOv pTup [.v (fOv pTup [.v (fC (.int 0)), .v (fC (.int 0)), .v (fC (.int 1))])])]), .v (fOv pTup [.v (fV 4), .v (fV 5), .v (fV 6), .v (fOv pTup [.v (fOv pTup [.v (fC (.int 0)), .v (fV 5), .v (fC (.int 1))])])])])])) [fr P, fr K, ol [.list [.tuple AR, F, .tuple II, .tuple KK], .tuple [.tuple AR, F, .tuple II], .tuple [.tuple AR, F, .tuple II, .tuple KK, .int 0], .tuple [.list AR, F, .tuple II, .tuple KK], .tuple [.tuple (AR ++ [.int 3]), F, .tuple II, .tuple KK], .tuple [.tuple [], F, .tuple II, .tuple KK], .tuple [.tuple AR, .int 0, .tuple [], .tuple []], .tuple [.tuple AR, .int 5, .tuple II, .tuple KK], .tuple [.tuple AR, .none, .tuple II, .tuple KK], .tuple [.tuple AR, F, .list II, .tuple []], .tuple [.tuple AR, F, .tuple II, .tuple [.none]], .tuple [.tuple AR, F, .tuple [.tuple [.int 0, .int 0]], .tuple []], .tuple [.tuple AR, F, .tuple X60, .tuple KK]], none, fr (.tuple AR), fr F, fr (.tuple II), fr (.tuple KK), none] = .ok (.nx, [fr P, fr K, ol [.list [.tuple AR, F, .tuple II, .tuple KK], .tuple [.tuple AR, F, .tuple II], .tuple [.tuple AR, F, .tuple II, .tuple KK, .int 0], .tuple [.list AR, F, .tuple II, .tuple KK], .tuple [.tuple (AR ++ [.int 3]), F, .tuple II, .tuple KK], .tuple [.tuple [], F, .tuple II, .tuple KK], .tuple [.tuple AR, .int 0, .tuple [], .tuple []], .tuple [.tuple AR, .int 5, .tuple II, .tuple KK], .tuple [.tuple AR, .none, .tuple II, .tuple KK], .tuple [.tuple AR, F, .list II, .tuple []], .tuple [.tuple AR, F, .tuple II, .tuple [.none]], .tuple [.tuple AR, F, .tuple [.tuple [.int 0, .int 0]], .tuple []], .tuple [.tuple AR, F, .tuple X60, .tuple KK], .tuple [.tuple AR, F, .tuple II, .tuple [.tuple [.int 0, .int 0, .int 1]]], .tuple [.tuple AR, F, .tuple II, .tuple [.tuple [.int 0, F, .int 1]]]], none, fr (.tuple AR), fr F, fr (.tuple II), fr (.tuple KK), none]) := by
      simp [q_mulAI, q_mulAL, a_wb, q_divW, Function.comp_def, q_starI, q_starIT, a_wp, a_fz, a_fz0, a_fz1, a_ext, a_ins, a_insA, a_pop, a_parN, a_evO0, a_evO1, a_setO0, a_setO1, a_ix2, a_setII, a_zN, a_zC, a_lcO, d_oo, pEq_int, pNe_int, pIxL, pIxT, atI_nat, atI_0, atI_1, atI_2, atI_3, atI_m1, cutLo, cutHi, cutLo1, cutHi1, a_seq, a_ifS, a_B, a_op, a_ov, a_ev0, a_evv, a_evs, a_C, a_V, a_M, a_set, a_setI, a_app, a_ret, a_ex, a_skip, a_no, a_not, a_andT, a_orT, a_and, a_or, a_notV, a_if, a_par, a_call, a_forS, a_sq, a_r1, a_r2, a_en, a_zp, a_asT, a_chI, a_yes, a_lc, a_fn, okA, f_fr, bkA, rsvs, rsv, dvs, on1, on2, d_fr, d_ol, rsO, ndS, sl, putB, asT, setAll, ofO, Dy.ints1, Dy.ints2, nE, wipeE, unw, frO, q_addI, q_addL, q_addT, q_addS, q_sub, q_div, q_mod, q_pow, q_neg, q_cm, pIs, pIsn, q_isN, q_isI, q_isS, q_isT, q_isL, q_isB, q_lenL, q_lenT, pTup, pLst, q_tupL, q_tupT, q_lstL, q_lstT, q_revL, q_slL, q_shL, q_sqL, q_sqT, q_intI, q_max2, q_min2, q_aII, q_aBI, q_aTI, q_aTT, q_aLL, q_aTL, q_aIT, kL, kM, kM2, kM3, k0, pa, pi, la, l30, c60]
    have u6 : (fWp [0, 7] (fSet 2 (fOp (on2 pAdd) [.s 2, .v (fOv pLst [.v (fOv pTup [.v (fV 4), .v (fV 5), .v (fOv pTup []), .v (fOv pTup [.v (fOv pTup [.v (fC (.int 0)), .v (fC (.int 1)), .v (fC (.int 21))])])])])]))) [fr P, fr K, ol [.list [.tuple AR, F, .tuple II, .tuple KK], .tuple [.tuple AR, F, .tuple II], .tuple [.tuple AR, F, .tuple II, .tuple KK, .int 0], .tuple [.list AR, F, .tuple II, .tuple KK], .tuple [.tuple (AR ++ [.int 3]), F, .tuple II, .tuple KK], .tuple [.tuple [], F, .tuple II, .tuple KK], .tuple [.tuple AR, .int 0, .tuple [], .tuple []], .tuple [.tuple AR, .int 5, .tuple II, .tuple KK], .tuple [.tuple AR, .none, .tuple II, .tuple KK], .tuple [.tuple AR, F, .list II, .tuple []], .tuple [.tuple AR, F, .tuple II, .tuple [.none]], .tuple [.tuple AR, F, .tuple [.tuple [.int 0, .int 0]], .tuple []], .tuple [.tuple AR, F, .tuple X60, .tuple KK], .tuple [.tuple AR, F, .tuple II, .tuple [.tuple [.int 0, .int 0, .int 1]]], .tuple [.tuple AR, F, .tuple II, .tuple [.tuple [.int 0, F, .int 1]]]], none, fr (.tuple AR), fr F, fr (.tuple II), fr (.tuple KK), none] = .ok (.nx, [none, fr K, ol [.list [.tuple AR, F, .tuple II, .tuple KK], .tuple [.tuple AR, F, .tuple II], .tuple [.tuple AR, F, .tuple II, .tuple KK, .int 0], .tuple [.list AR, F, .tuple II, .tuple KK], .tuple [.tuple (AR ++ [.int 3]), F, .tuple II, .tuple KK], .tuple [.tuple [], F, .tuple II, .tuple KK], .tuple [.tuple AR, .int 0, .tuple [], .tuple []], .tuple [.tuple AR, .int 5, .tuple II, .tuple KK], .tuple [.tuple AR, .none, .tuple II, .tuple KK], .tuple [.tuple AR, F, .list II, .tuple []], .tuple [.tuple AR, F, .tuple II, .tuple [.none]], .tuple [.tuple AR, F, .tuple [.tuple [.int 0, .int 0]], .tuple []], .tuple [.tuple AR, F, .tuple X60, .tuple KK], .tuple [.tuple AR, F, .tuple II, .tuple [.tuple [.int 0, .int 0, .int 1]]], .tuple [.tuple AR, F, .tuple II, .tuple [.tuple [.int 0, F, .int 1]]], .tuple [.tuple AR, F, .tuple [], .tuple [.tuple [.int 0, .int 1, .int 21]]]], none, fr (.tuple AR), fr F, fr (.tuple II), none, none]) := by
      simp [q_mulAI, q_mulAL, a_wb, q_divW, Function.comp_def, q_starI, q_starIT, a_wp, a_fz, a_fz0, a_fz1, a_ext, a_ins, a_insA, a_pop, a_parN, a_evO0, a_evO1, a_setO0, a_setO1, a_ix2, a_setII, a_zN, a_zC, a_lcO, d_oo, pEq_int, pNe_int, pIxL, pIxT, atI_nat, atI_0, atI_1, atI_2, atI_3, atI_m1, cutLo, cutHi, cutLo1, cutHi1, a_seq, a_ifS, a_B, a_op, a_ov, a_ev0, a_evv, a_evs, a_C, a_V, a_M, a_set, a_setI, a_app, a_ret, a_ex, a_skip, a_no, a_not, a_andT, a_orT, a_and, a_or, a_notV, a_if, a_par, a_call, a_forS, a_sq, a_r1, a_r2, a_en, a_zp, a_asT, a_chI, a_yes, a_lc, a_fn, okA, f_fr, bkA, rsvs, rsv, dvs, on1, on2, d_fr, d_ol, rsO, ndS, sl, putB, asT, setAll, ofO, Dy.ints1, Dy.ints2, nE, wipeE, unw, frO, q_addI, q_addL, q_addT, q_addS, q_sub, q_div, q_mod, q_pow, q_neg, q_cm, pIs, pIsn, q_isN, q_isI, q_isS, q_isT, q_isL, q_isB, q_lenL, q_lenT, pTup, pLst, q_tupL, q_tupT, q_lstL, q_lstT, q_revL, q_slL, q_shL, q_sqL, q_sqT, q_intI, q_max2, q_min2, q_aII, q_aBI, q_aTI, q_aTT, q_aLL, q_aTL, q_aIT, kL, kM, kM2, kM3, k0, pa, pi, la, l30, c60]
    have u7 : (fWp [3, 5, 6, 8] (fForS (fSq (.v (fOp (on2 pSl2h) [.s 6, .v (fC (.int 2))]))) (.nm 3) (L2__law_bent_kits))) [none, fr K, ol [.list [.tuple AR, F, .tuple II, .tuple KK], .tuple [.tuple AR, F, .tuple II], .tuple [.tuple AR, F, .tuple II, .tuple KK, .int 0], .tuple [.list AR, F, .tuple II, .tuple KK], .tuple [.tuple (AR ++ [.int 3]), F, .tuple II, .tuple KK], .tuple [.tuple [], F, .tuple II, .tuple KK], .tuple [.tuple AR, .int 0, .tuple [], .tuple []], .tuple [.tuple AR, .int 5, .tuple II, .tuple KK], .tuple [.tuple AR, .none, .tuple II, .tuple KK], .tuple [.tuple AR, F, .list II, .tuple []], .tuple [.tuple AR, F, .tuple II, .tuple [.none]], .tuple [.tuple AR, F, .tuple [.tuple [.int 0, .int 0]], .tuple []], .tuple [.tuple AR, F, .tuple X60, .tuple KK], .tuple [.tuple AR, F, .tuple II, .tuple [.tuple [.int 0, .int 0, .int 1]]], .tuple [.tuple AR, F, .tuple II, .tuple [.tuple [.int 0, F, .int 1]]], .tuple [.tuple AR, F, .tuple [], .tuple [.tuple [.int 0, .int 1, .int 21]]]], none, fr (.tuple AR), fr F, fr (.tuple II), none, none] = .ok (.nx, [none, fr K, ol L1, none, fr (.tuple AR), none, none, none, none]) := by
      simp [q_mulAI, q_mulAL, a_wb, q_divW, Function.comp_def, q_starI, q_starIT, a_wp, a_fz, a_fz0, a_fz1, a_ext, a_ins, a_insA, a_pop, a_parN, a_evO0, a_evO1, a_setO0, a_setO1, a_ix2, a_setII, a_zN, a_zC, a_lcO, d_oo, pEq_int, pNe_int, pIxL, pIxT, atI_nat, atI_0, atI_1, atI_2, atI_3, atI_m1, cutLo, cutHi, cutLo1, cutHi1, a_seq, a_ifS, a_B, a_op, a_ov, a_ev0, a_evv, a_evs, a_C, a_V, a_M, a_set, a_setI, a_app, a_ret, a_ex, a_skip, a_no, a_not, a_andT, a_orT, a_and, a_or, a_notV, a_if, a_par, a_call, a_forS, a_sq, a_r1, a_r2, a_en, a_zp, a_asT, a_chI, a_yes, a_lc, a_fn, okA, f_fr, bkA, rsvs, rsv, dvs, on1, on2, d_fr, d_ol, rsO, ndS, sl, putB, asT, setAll, ofO, Dy.ints1, Dy.ints2, nE, wipeE, unw, frO, q_addI, q_addL, q_addT, q_addS, q_sub, q_div, q_mod, q_pow, q_neg, q_cm, pIs, pIsn, q_isN, q_isI, q_isS, q_isT, q_isL, q_isB, q_lenL, q_lenT, pTup, pLst, q_tupL, q_tupT, q_lstL, q_lstT, q_revL, q_slL, q_shL, q_sqL, q_sqT, q_intI, q_max2, q_min2, q_aII, q_aBI, q_aTI, q_aTT, q_aLL, q_aTL, q_aIT, c2, F1]
    refine (sq86 u1).trans ((sq86 u2).trans ((sq86 u3).trans ((sq86 u4).trans ((sq86 u5).trans ((sq86 u6).trans ((sq86 u7).trans ?_))))))
    simp [q_mulAI, q_mulAL, a_wb, q_divW, Function.comp_def, q_starI, q_starIT, a_wp, a_fz, a_fz0, a_fz1, a_ext, a_ins, a_insA, a_pop, a_parN, a_evO0, a_evO1, a_setO0, a_setO1, a_ix2, a_setII, a_zN, a_zC, a_lcO, d_oo, pEq_int, pNe_int, pIxL, pIxT, atI_nat, atI_0, atI_1, atI_2, atI_3, atI_m1, cutLo, cutHi, cutLo1, cutHi1, a_seq, a_ifS, a_B, a_op, a_ov, a_ev0, a_evv, a_evs, a_C, a_V, a_M, a_set, a_setI, a_app, a_ret, a_ex, a_skip, a_no, a_not, a_andT, a_orT, a_and, a_or, a_notV, a_if, a_par, a_call, a_forS, a_sq, a_r1, a_r2, a_en, a_zp, a_asT, a_chI, a_yes, a_lc, a_fn, okA, f_fr, bkA, rsvs, rsv, dvs, on1, on2, d_fr, d_ol, rsO, ndS, sl, putB, asT, setAll, ofO, Dy.ints1, Dy.ints2, nE, wipeE, unw, frO, q_addI, q_addL, q_addT, q_addS, q_sub, q_div, q_mod, q_pow, q_neg, q_cm, pIs, pIsn, q_isN, q_isI, q_isS, q_isT, q_isL, q_isB, q_lenL, q_lenT, pTup, pLst, q_tupL, q_tupT, q_lstL, q_lstT, q_revL, q_slL, q_slT, q_shL, q_shT, q_sqL, q_sqT, q_intI, q_max2, q_min2, q_aII, q_aBI, q_aTI, q_aTT, q_aLL, q_aTL, q_aIT, a_newD, dod0, kt, l10]
  · rcases List.mem_append.mp hd with hd | hd
    · exact BL d hd
    · simp only [List.mem_cons, List.not_mem_nil, or_false] at hd
      rcases hd with rfl | rfl | rfl | rfl | rfl | rfl | rfl | rfl | rfl | rfl
      · exact bd_gd ⟨by decide +kernel, by decide +kernel, by decide +kernel⟩
      · exact bd_gd ⟨by decide +kernel, by decide +kernel, by decide +kernel⟩
      · exact bd_gd ⟨by decide +kernel, by decide +kernel, by decide +kernel⟩
      · exact bd_gd ⟨by decide +kernel, by decide +kernel, by decide +kernel⟩
      · exact bd_gd ⟨by decide +kernel, by decide +kernel, by decide +kernel⟩
      · exact ⟨fit_of (by decide +kernel), _, reprD_chk (d := .dict []) (by decide +kernel)⟩
      · exact ⟨fun xs e => (by cases e), _, r2⟩
      · refine bd_gd ((Gd.tupI (n := 4) (m := 301) (fun d hd => ?_) ?_).mono (Nat.le_refl _) (by decide) (by decide))
        · simp at hd; subst hd; exact ⟨gM.gd, gM.dep⟩
        · have := gM.sz; simp only [szs]; omega
      · have a1 := hA.g; have a2 := hA.d; have a3 := hA.s
        refine bd_gd ⟨by simp only [gd]; exact a1, by simp only [PyData.depth]; omega, by simp only [sz]; omega⟩
      · exact bd_gd ⟨by decide +kernel, by decide +kernel, by decide +kernel⟩
end Q
namespace Q
open PySem Dy
open L2 (atI ixN)
theorem nstr_ns (ns : List Nat) : nstrs (ns.map dN) = true := nstrs_all fun d hd => by
  obtain ⟨n, _, rfl⟩ := List.mem_map.mp hd
  rfl
theorem nstr_M84 (m : Mach) : nstr (encM m) = true := by
  have h1 := nstr_ns m.ar
  have h2 : nstrs (m.ins.map encI) = true := nstrs_all fun d hd => by
    obtain ⟨i, _, rfl⟩ := List.mem_map.mp hd
    have := nstr_ns i.args
    simp [nstr, nstrs, this]
  have h3 : nstrs (m.con.map encK) = true := nstrs_all fun d hd => by
    obtain ⟨i, _, rfl⟩ := List.mem_map.mp hd
    simp [nstr, nstrs]
  simp [nstr, nstrs, h1, h2, h3]
theorem su84 : b__law_said_6 ⟨"NoMachine", []⟩ (List.replicate 3 none) = .ok (.rt (.fr (.str "! machine")), [none, none, some (.fr (.str "machine"))]) := by kernel_rfl
abbrev L84 : List Str := ["NoMachine", "NoText"]
theorem saidE84 {caps ws : List Nat} {f : EF} {env env' : Dy.Env} (he : wipeE (frzE env caps) ws = env') (ha : allF env' = true) (hz : frzE env caps = env) (hf : f env' = .er ⟨"NoMachine", []⟩) : fSaid 3 ["NoMachine", "NoText"] caps ws f b__law_said_6 env = .ok (.fr (.str "! machine"), env) := by
  have := fSaid_er (L := L84) he ha hf ⟨by simp [L84], rfl⟩ su84
  rw [hz] at this
  exact this
theorem saidO84 {caps ws : List Nat} {f : EF} {env env' : Dy.Env} {d : PyData} {r : Dy.Env} {s : Str} (he : wipeE (frzE env caps) ws = env') (ha : allF env' = true) (hz : frzE env caps = env) (hf : f env' = .ok (.fr d, r)) (hr : pReprD d = some (.fr (.str s))) :
    fSaid 3 ["NoMachine", "NoText"] caps ws f b__law_said_6 env = .ok (.fr (.str s), env) := by
  have := fSaid_ok (n := 3) (L := L84) (h := b__law_said_6) he ha hf hr
  rw [hz] at this
  exact this
theorem pNe_S2 {S T : Str} (h : PyData.strOk S = true) (h' : PyData.strOk T = true) : pNe (.list [.str S, .str T]) (.list [.str S, .str T]) = some (.fr (.bool false)) := by
  have hl : PyData.canLay0 (.list [.str S, .str T]) = true := by simp [PyData.canLay0, PyData.canLayAll0, h, h']
  have hs : shp (.list [.str S, .str T]) = true := by
    show (PyData.canLay0 (.list [.str S, .str T]) && decide (PyData.depth (.list [.str S, .str T]) ≤ 64)) = true
    rw [hl]; rfl
  rw [pNe_L _ _ hs hs]
  have := SeqAt.eqv_refl _ hl
  simp only [PyData.eqv] at this
  rw [this]; rfl
theorem right84 {m : Mach} (h : MOk m) : M__law_right_16 [.fr (encM m)] = .ok (.fr (.bool true), [.fr (encM m)]) := by
  obtain ⟨r1, r2, r3⟩ := reprTM h
  have kt := kitText h
  have mt := machineText h
  have rm := readMach h
  have rk := (gdM h).rk (show 25 < 10 ^ 100 by decide +kernel)
  have s1 := rk.repr (by decide) (by decide)
  have s2 := reprD_of rk (by decide) (by decide)
  have s3 := sok_shown _ (nstr_M84 m)
  have ne := pNe_S2 r3 s3
  have q1 : ∀ x : Str, pEq (.str x) (.str x) = some (.fr (.bool true)) := fun x => by rw [q_eqS]; simp
  generalize reprText (textM m) = RX at *
  generalize (encM m).shown = KS at *
  generalize textM m = X at *
  generalize encM m = K at *
  have a1 : ∀ k : Int, fSaid 3 ["NoMachine", "NoText"] [0] [1, 2, 3, 4] F1__law_right_16 b__law_said_6 [fr K, fr (.int k), fr (.str KS), fr (.str X), none] = .ok (.fr (.str RX), [fr K, fr (.int k), fr (.str KS), fr (.str X), none]) := fun k =>
    saidO84 (caps := [0]) (ws := [1, 2, 3, 4]) (f := F1__law_right_16) (env' := [fr K, none, none, none, none]) (d := .str X) (r := [fr K, none, none, none, none]) rfl rfl rfl (by simp [F1__law_right_16, q_mulAI, q_mulAL, a_wb, q_divW, Function.comp_def, q_starI, q_starIT, a_wp, a_fz, a_fz0, a_fz1, a_ext, a_ins, a_insA, a_pop, a_parN, a_evO0, a_evO1, a_setO0, a_setO1, a_ix2, a_setII, a_zN, a_zC, a_lcO, d_oo, pEq_int, pNe_int, pIxL, pIxT, atI_nat, atI_0, atI_1, atI_2, atI_3, atI_m1, cutLo, cutHi, cutLo1, cutHi1, a_seq, a_ifS, a_B, a_op, a_ov, a_ev0, a_evv, a_evs, a_C, a_V, a_M, a_set, a_setI, a_app, a_ret, a_ex, a_skip, a_no, a_not, a_andT, a_orT, a_and, a_or, a_notV, a_if, a_par, a_call, a_forS, a_sq, a_r1, a_r2, a_en, a_zp, a_asT, a_chI, a_yes, a_lc, a_fn, okA, f_fr, bkA, rsvs, rsv, dvs, on1, on2, d_fr, d_ol, rsO, ndS, sl, putB, asT, setAll, ofO, Dy.ints1, Dy.ints2, nE, wipeE, unw, frO, q_addI, q_addL, q_addT, q_addS, q_sub, q_div, q_mod, q_pow, q_neg, q_cm, pIs, pIsn, q_isN, q_isI, q_isS, q_isT, q_isL, q_isB, q_lenL, q_lenT, pTup, pLst, q_tupL, q_tupT, q_lstL, q_lstT, q_revL, q_slL, q_slT, q_shL, q_shT, q_sqL, q_sqT, q_intI, q_max2, q_min2, q_aII, q_aBI, q_aTI, q_aTT, q_aLL, q_aTL, q_aIT, mt]) r2
  have a2 : ∀ k : Int, fSaid 3 ["NoMachine", "NoText"] [3] [0, 1, 2, 4] F2__law_right_16 b__law_said_6 [fr K, fr (.int k), fr (.str KS), fr (.str X), ol [.str RX]] = .ok (.fr (.str KS), [fr K, fr (.int k), fr (.str KS), fr (.str X), ol [.str RX]]) := fun k =>
    saidO84 (caps := [3]) (ws := [0, 1, 2, 4]) (f := F2__law_right_16) (env' := [none, none, none, fr (.str X), none]) (d := K) (r := [none, none, none, fr (.str X), none]) rfl rfl rfl (by simp [F2__law_right_16, q_mulAI, q_mulAL, a_wb, q_divW, Function.comp_def, q_starI, q_starIT, a_wp, a_fz, a_fz0, a_fz1, a_ext, a_ins, a_insA, a_pop, a_parN, a_evO0, a_evO1, a_setO0, a_setO1, a_ix2, a_setII, a_zN, a_zC, a_lcO, d_oo, pEq_int, pNe_int, pIxL, pIxT, atI_nat, atI_0, atI_1, atI_2, atI_3, atI_m1, cutLo, cutHi, cutLo1, cutHi1, a_seq, a_ifS, a_B, a_op, a_ov, a_ev0, a_evv, a_evs, a_C, a_V, a_M, a_set, a_setI, a_app, a_ret, a_ex, a_skip, a_no, a_not, a_andT, a_orT, a_and, a_or, a_notV, a_if, a_par, a_call, a_forS, a_sq, a_r1, a_r2, a_en, a_zp, a_asT, a_chI, a_yes, a_lc, a_fn, okA, f_fr, bkA, rsvs, rsv, dvs, on1, on2, d_fr, d_ol, rsO, ndS, sl, putB, asT, setAll, ofO, Dy.ints1, Dy.ints2, nE, wipeE, unw, frO, q_addI, q_addL, q_addT, q_addS, q_sub, q_div, q_mod, q_pow, q_neg, q_cm, pIs, pIsn, q_isN, q_isI, q_isS, q_isT, q_isL, q_isB, q_lenL, q_lenT, pTup, pLst, q_tupL, q_tupT, q_lstL, q_lstT, q_revL, q_slL, q_slT, q_shL, q_shT, q_sqL, q_sqT, q_intI, q_max2, q_min2, q_aII, q_aBI, q_aTI, q_aTT, q_aLL, q_aTL, q_aIT, rm]) s2
  obtain ⟨_, _, e⟩ := for_r (t := .nm 1) (body := L1__law_right_16) (fun _ : Unit => ([fr K, none, fr (.str KS), fr (.str X), none] : Dy.Env)) (fun _ _ => True) 2 (s := ()) trivial (fun k s hk _ => ⟨(), trivial, by
    have b1 := a1 k
    have b2 := a2 k
    simp [L1__law_right_16, q_mulAI, q_mulAL, a_wb, q_divW, Function.comp_def, q_starI, q_starIT, a_wp, a_fz, a_fz0, a_fz1, a_ext, a_ins, a_insA, a_pop, a_parN, a_evO0, a_evO1, a_setO0, a_setO1, a_ix2, a_setII, a_zN, a_zC, a_lcO, d_oo, pEq_int, pNe_int, pIxL, pIxT, atI_nat, atI_0, atI_1, atI_2, atI_3, atI_m1, cutLo, cutHi, cutLo1, cutHi1, a_seq, a_ifS, a_B, a_op, a_ov, a_ev0, a_evv, a_evs, a_C, a_V, a_M, a_set, a_setI, a_app, a_ret, a_ex, a_skip, a_no, a_not, a_andT, a_orT, a_and, a_or, a_notV, a_if, a_par, a_call, a_forS, a_sq, a_r1, a_r2, a_en, a_zp, a_asT, a_chI, a_yes, a_lc, a_fn, okA, f_fr, bkA, rsvs, rsv, dvs, on1, on2, d_fr, d_ol, rsO, ndS, sl, putB, asT, setAll, ofO, Dy.ints1, Dy.ints2, nE, wipeE, unw, frO, q_addI, q_addL, q_addT, q_addS, q_sub, q_div, q_mod, q_pow, q_neg, q_cm, pIs, pIsn, q_isN, q_isI, q_isS, q_isT, q_isL, q_isB, q_lenL, q_lenT, pTup, pLst, q_tupL, q_tupT, q_lstL, q_lstT, q_revL, q_slL, q_slT, q_shL, q_shT, q_sqL, q_sqT, q_intI, q_max2, q_min2, q_aII, q_aBI, q_aTI, q_aTT, q_aLL, q_aTL, q_aIT, b1, b2, r1, ne]⟩)
  simp [M__law_right_16, b__law_right_16, q_mulAI, q_mulAL, a_wb, q_divW, Function.comp_def, q_starI, q_starIT, a_wp, a_fz, a_fz0, a_fz1, a_ext, a_ins, a_insA, a_pop, a_parN, a_evO0, a_evO1, a_setO0, a_setO1, a_ix2, a_setII, a_zN, a_zC, a_lcO, d_oo, pEq_int, pNe_int, pIxL, pIxT, atI_nat, atI_0, atI_1, atI_2, atI_3, atI_m1, cutLo, cutHi, cutLo1, cutHi1, a_seq, a_ifS, a_B, a_op, a_ov, a_ev0, a_evv, a_evs, a_C, a_V, a_M, a_set, a_setI, a_app, a_ret, a_ex, a_skip, a_no, a_not, a_andT, a_orT, a_and, a_or, a_notV, a_if, a_par, a_call, a_forS, a_sq, a_r1, a_r2, a_en, a_zp, a_asT, a_chI, a_yes, a_lc, a_fn, okA, f_fr, bkA, rsvs, rsv, dvs, on1, on2, d_fr, d_ol, rsO, ndS, sl, putB, asT, setAll, ofO, Dy.ints1, Dy.ints2, nE, wipeE, unw, frO, q_addI, q_addL, q_addT, q_addS, q_sub, q_div, q_mod, q_pow, q_neg, q_cm, pIs, pIsn, q_isN, q_isI, q_isS, q_isT, q_isL, q_isB, q_lenL, q_lenT, pTup, pLst, q_tupL, q_tupT, q_lstL, q_lstT, q_revL, q_slL, q_slT, q_shL, q_shT, q_sqL, q_sqT, q_intI, q_max2, q_min2, q_aII, q_aBI, q_aTI, q_aTT, q_aLL, q_aTL, q_aIT, s1, kt, e, q1]
theorem bad84 {d K : PyData} {SC PN SM : Option O} (h : Bd84 d) : (asT (.nm 5) d [SC, none, PN, SM, fr K, none, none, none] >>= L1_law_50) = .ok (.nx, [SC, none, PN, SM, fr K, none, none, none]) := by
  obtain ⟨hf, s, hr⟩ := h
  have e1 := kitD d hf
  have e2 := machD d hf
  have n1 : ∀ x : Str, pNe (.str x) (.str x) = some (.fr (.bool false)) := fun x => by rw [q_neS]; simp
  cases hm : mcD d with
  | true =>
    rw [hm] at e1
    simp [L1_law_50, q_mulAI, q_mulAL, a_wb, q_divW, Function.comp_def, q_starI, q_starIT, a_wp, a_fz, a_fz0, a_fz1, a_ext, a_ins, a_insA, a_pop, a_parN, a_evO0, a_evO1, a_setO0, a_setO1, a_ix2, a_setII, a_zN, a_zC, a_lcO, d_oo, pEq_int, pNe_int, pIxL, pIxT, atI_nat, atI_0, atI_1, atI_2, atI_3, atI_m1, cutLo, cutHi, cutLo1, cutHi1, a_seq, a_ifS, a_B, a_op, a_ov, a_ev0, a_evv, a_evs, a_C, a_V, a_M, a_set, a_setI, a_app, a_ret, a_ex, a_skip, a_no, a_not, a_andT, a_orT, a_and, a_or, a_notV, a_if, a_par, a_call, a_forS, a_sq, a_r1, a_r2, a_en, a_zp, a_asT, a_chI, a_yes, a_lc, a_fn, okA, f_fr, bkA, rsvs, rsv, dvs, on1, on2, d_fr, d_ol, rsO, ndS, sl, putB, asT, setAll, ofO, Dy.ints1, Dy.ints2, nE, wipeE, unw, frO, q_addI, q_addL, q_addT, q_addS, q_sub, q_div, q_mod, q_pow, q_neg, q_cm, pIs, pIsn, q_isN, q_isI, q_isS, q_isT, q_isL, q_isB, q_lenL, q_lenT, pTup, pLst, q_tupL, q_tupT, q_lstL, q_lstT, q_revL, q_slL, q_slT, q_shL, q_shT, q_sqL, q_sqT, q_intI, q_max2, q_min2, q_aII, q_aBI, q_aTI, q_aTT, q_aLL, q_aTL, q_aIT, hr, e1]
  | false =>
    rw [hm] at e1 e2
    have a1 : fSaid 3 ["NoMachine", "NoText"] [5] [0, 1, 2, 3, 4, 6, 7] F1_law_50 b__law_said_6 [SC, none, PN, SM, fr K, fr d, fr (.str s), none] = .ok (.fr (.str "! machine"), [SC, none, PN, SM, fr K, fr d, fr (.str s), none]) :=
      saidE84 (caps := [5]) (ws := [0, 1, 2, 3, 4, 6, 7]) (f := F1_law_50) (env' := [none, none, none, none, none, fr d, none, none]) rfl rfl rfl (by simp [F1_law_50, M_machine_text, b_machine_text, M_need_machine_2, b_need_machine_2, q_mulAI, q_mulAL, a_wb, q_divW, Function.comp_def, q_starI, q_starIT, a_wp, a_fz, a_fz0, a_fz1, a_ext, a_ins, a_insA, a_pop, a_parN, a_evO0, a_evO1, a_setO0, a_setO1, a_ix2, a_setII, a_zN, a_zC, a_lcO, d_oo, pEq_int, pNe_int, pIxL, pIxT, atI_nat, atI_0, atI_1, atI_2, atI_3, atI_m1, cutLo, cutHi, cutLo1, cutHi1, a_seq, a_ifS, a_B, a_op, a_ov, a_ev0, a_evv, a_evs, a_C, a_V, a_M, a_set, a_setI, a_app, a_ret, a_ex, a_skip, a_no, a_not, a_andT, a_orT, a_and, a_or, a_notV, a_if, a_par, a_call, a_forS, a_sq, a_r1, a_r2, a_en, a_zp, a_asT, a_chI, a_yes, a_lc, a_fn, okA, f_fr, bkA, rsvs, rsv, dvs, on1, on2, d_fr, d_ol, rsO, ndS, sl, putB, asT, setAll, ofO, Dy.ints1, Dy.ints2, nE, wipeE, unw, frO, q_addI, q_addL, q_addT, q_addS, q_sub, q_div, q_mod, q_pow, q_neg, q_cm, pIs, pIsn, q_isN, q_isI, q_isS, q_isT, q_isL, q_isB, q_lenL, q_lenT, pTup, pLst, q_tupL, q_tupT, q_lstL, q_lstT, q_revL, q_slL, q_slT, q_shL, q_shT, q_sqL, q_sqT, q_intI, q_max2, q_min2, q_aII, q_aBI, q_aTI, q_aTT, q_aLL, q_aTL, q_aIT, e2, a_raise])
    simp [L1_law_50, q_mulAI, q_mulAL, a_wb, q_divW, Function.comp_def, q_starI, q_starIT, a_wp, a_fz, a_fz0, a_fz1, a_ext, a_ins, a_insA, a_pop, a_parN, a_evO0, a_evO1, a_setO0, a_setO1, a_ix2, a_setII, a_zN, a_zC, a_lcO, d_oo, pEq_int, pNe_int, pIxL, pIxT, atI_nat, atI_0, atI_1, atI_2, atI_3, atI_m1, cutLo, cutHi, cutLo1, cutHi1, a_seq, a_ifS, a_B, a_op, a_ov, a_ev0, a_evv, a_evs, a_C, a_V, a_M, a_set, a_setI, a_app, a_ret, a_ex, a_skip, a_no, a_not, a_andT, a_orT, a_and, a_or, a_notV, a_if, a_par, a_call, a_forS, a_sq, a_r1, a_r2, a_en, a_zp, a_asT, a_chI, a_yes, a_lc, a_fn, okA, f_fr, bkA, rsvs, rsv, dvs, on1, on2, d_fr, d_ol, rsO, ndS, sl, putB, asT, setAll, ofO, Dy.ints1, Dy.ints2, nE, wipeE, unw, frO, q_addI, q_addL, q_addT, q_addS, q_sub, q_div, q_mod, q_pow, q_neg, q_cm, pIs, pIsn, q_isN, q_isI, q_isS, q_isT, q_isL, q_isB, q_lenL, q_lenT, pTup, pLst, q_tupL, q_tupT, q_lstL, q_lstT, q_revL, q_slL, q_slT, q_shL, q_shT, q_sqL, q_sqT, q_intI, q_max2, q_min2, q_aII, q_aBI, q_aTI, q_aTT, q_aLL, q_aTL, q_aIT, hr, e1, a1, n1]
abbrev PO (a b c : Int) (o : O) : Prop := o = .ol [.int a, .int b, .int c] ∨ o = .fr (.list [.int a, .int b, .int c])
theorem kit84 {m : Mach} (h : MOk m) {SC SM : Option O} {a b c : Int} {o : O} (hp : PO a b c o) : ∃ o', PO a b c o' ∧ (asT (.nm 4) (encM m) [SC, none, some o, SM, none, none, none, none] >>= L2_law_50) = .ok (.nx, [SC, none, some o', SM, none, none, none, none]) := by
  refine ⟨.fr (.list [.int a, .int b, .int c]), .inr rfl, ?_⟩
  have e1 := right84 h
  obtain ⟨L, e2, bl⟩ := bentK h (P := .list [.int a, .int b, .int c])
  have e3 := for_all (t := .nm 5) (body := L1_law_50) (env := [SC, none, fr (.list [.int a, .int b, .int c]), SM, fr (encM m), none, none, none]) (xs := L) (fun d hd => bad84 (bl d hd))
  generalize encM m = K at *
  rcases hp with rfl | rfl
  · simp [L2_law_50, q_mulAI, q_mulAL, a_wb, q_divW, Function.comp_def, q_starI, q_starIT, a_wp, a_fz, a_fz0, a_fz1, a_ext, a_ins, a_insA, a_pop, a_parN, a_evO0, a_evO1, a_setO0, a_setO1, a_ix2, a_setII, a_zN, a_zC, a_lcO, d_oo, pEq_int, pNe_int, pIxL, pIxT, atI_nat, atI_0, atI_1, atI_2, atI_3, atI_m1, cutLo, cutHi, cutLo1, cutHi1, a_seq, a_ifS, a_B, a_op, a_ov, a_ev0, a_evv, a_evs, a_C, a_V, a_M, a_set, a_setI, a_app, a_ret, a_ex, a_skip, a_no, a_not, a_andT, a_orT, a_and, a_or, a_notV, a_if, a_par, a_call, a_forS, a_sq, a_r1, a_r2, a_en, a_zp, a_asT, a_chI, a_yes, a_lc, a_fn, okA, f_fr, bkA, rsvs, rsv, dvs, on1, on2, d_fr, d_ol, rsO, ndS, sl, putB, asT, setAll, ofO, Dy.ints1, Dy.ints2, nE, wipeE, unw, frO, q_addI, q_addL, q_addT, q_addS, q_sub, q_div, q_mod, q_pow, q_neg, q_cm, pIs, pIsn, q_isN, q_isI, q_isS, q_isT, q_isL, q_isB, q_lenL, q_lenT, pTup, pLst, q_tupL, q_tupT, q_lstL, q_lstT, q_revL, q_slL, q_slT, q_shL, q_shT, q_sqL, q_sqT, q_intI, q_max2, q_min2, q_aII, q_aBI, q_aTI, q_aTT, q_aLL, q_aTL, q_aIT, e1, e2, e3]
  · simp [L2_law_50, q_mulAI, q_mulAL, a_wb, q_divW, Function.comp_def, q_starI, q_starIT, a_wp, a_fz, a_fz0, a_fz1, a_ext, a_ins, a_insA, a_pop, a_parN, a_evO0, a_evO1, a_setO0, a_setO1, a_ix2, a_setII, a_zN, a_zC, a_lcO, d_oo, pEq_int, pNe_int, pIxL, pIxT, atI_nat, atI_0, atI_1, atI_2, atI_3, atI_m1, cutLo, cutHi, cutLo1, cutHi1, a_seq, a_ifS, a_B, a_op, a_ov, a_ev0, a_evv, a_evs, a_C, a_V, a_M, a_set, a_setI, a_app, a_ret, a_ex, a_skip, a_no, a_not, a_andT, a_orT, a_and, a_or, a_notV, a_if, a_par, a_call, a_forS, a_sq, a_r1, a_r2, a_en, a_zp, a_asT, a_chI, a_yes, a_lc, a_fn, okA, f_fr, bkA, rsvs, rsv, dvs, on1, on2, d_fr, d_ol, rsO, ndS, sl, putB, asT, setAll, ofO, Dy.ints1, Dy.ints2, nE, wipeE, unw, frO, q_addI, q_addL, q_addT, q_addS, q_sub, q_div, q_mod, q_pow, q_neg, q_cm, pIs, pIsn, q_isN, q_isI, q_isS, q_isT, q_isL, q_isB, q_lenL, q_lenT, pTup, pLst, q_tupL, q_tupT, q_lstL, q_lstT, q_revL, q_slL, q_slT, q_shL, q_shT, q_sqL, q_sqT, q_intI, q_max2, q_min2, q_aII, q_aBI, q_aTI, q_aTT, q_aLL, q_aTL, q_aIT, e1, e2, e3]
theorem lap84 {sc : PyData} {ns : List Int} (hsc : sc = .list (ns.map PyData.int)) (k : Nat) : (asT (.nm 1) (.int (k : Int)) [fr sc, none, none, none, none, none, none, none] >>= L3_law_50) = .ok (.nx, [fr sc, none, none, none, none, none, none, none]) := by
  obtain ⟨z, ez⟩ := cellA_ok (ns := ns) (k := k)
  rw [← hsc] at ez
  obtain ⟨o, p, ep⟩ := penA_ok z
  obtain ⟨xs, o2, p2, l2, q2, e2⟩ := lc_r (vs := [7]) (t := .nm 7) (elt := E1_law_50) encM (fun o => ([fr sc, fr (dN k), some o, none, none, none, none, none] : Dy.Env)) (fun _ o => PenA o) (fun m => MOk m) 6 p (by decide) (fun j o hj hp => by
    obtain ⟨m, o', h1, -, -, -, h5, h6⟩ := kitA (mi := 4) 4 hp (by decide) (by decide) rfl
    refine ⟨m, o', h5, h1, ?_⟩
    generalize encM m = K at *
    simp [E1_law_50, q_mulAI, q_mulAL, a_wb, q_divW, Function.comp_def, q_starI, q_starIT, a_wp, a_fz, a_fz0, a_fz1, a_ext, a_ins, a_insA, a_pop, a_parN, a_evO0, a_evO1, a_setO0, a_setO1, a_ix2, a_setII, a_zN, a_zC, a_lcO, d_oo, pEq_int, pNe_int, pIxL, pIxT, atI_nat, atI_0, atI_1, atI_2, atI_3, atI_m1, cutLo, cutHi, cutLo1, cutHi1, a_seq, a_ifS, a_B, a_op, a_ov, a_ev0, a_evv, a_evs, a_C, a_V, a_M, a_set, a_setI, a_app, a_ret, a_ex, a_skip, a_no, a_not, a_andT, a_orT, a_and, a_or, a_notV, a_if, a_par, a_call, a_forS, a_sq, a_r1, a_r2, a_en, a_zp, a_asT, a_chI, a_yes, a_lc, a_fn, okA, f_fr, bkA, rsvs, rsv, dvs, on1, on2, d_fr, d_ol, rsO, ndS, sl, putB, asT, setAll, ofO, Dy.ints1, Dy.ints2, nE, wipeE, unw, frO, q_addI, q_addL, q_addT, q_addS, q_sub, q_div, q_mod, q_pow, q_neg, q_cm, pIs, pIsn, q_isN, q_isI, q_isS, q_isT, q_isL, q_isB, q_lenL, q_lenT, pTup, pLst, q_tupL, q_tupT, q_lstL, q_lstT, q_revL, q_slL, q_slT, q_shL, q_shT, q_sqL, q_sqT, q_intI, q_max2, q_min2, q_aII, q_aBI, q_aTI, q_aTT, q_aLL, q_aTL, q_aIT, h6])
  obtain ⟨g, o3, hg, p3, e3⟩ := greatK p2
  obtain ⟨a, b, c, rfl⟩ := p3
  have mk : MOk ⟨[0], 1, [], []⟩ := ⟨⟨by decide, by decide, by decide⟩, by decide, by decide, by decide, by decide, by simp, by simp⟩
  have mk2 : MOk ⟨[2], 4, [], []⟩ := ⟨⟨by decide, by decide, by decide⟩, by decide, by decide, by decide, by decide, by simp, by simp⟩
  obtain ⟨o4, -, e4⟩ := for_l (t := .nm 4) (body := L2_law_50) encM (fun o : O => ([fr sc, none, some o, fr (.list (xs.map encM)), none, none, none, none] : Dy.Env)) (fun _ o => PO a b c o) (xs ++ [g, ⟨[0], 1, [], []⟩, ⟨[2], 4, [], []⟩]) (s := .ol [.int a, .int b, .int c]) (.inl rfl) (fun pre m post o e hp => by
    have hm : MOk m := by
      have : m ∈ xs ++ [g, ⟨[0], 1, [], []⟩, ⟨[2], 4, [], []⟩] := by rw [e]; simp
      rcases List.mem_append.mp this with z | z
      · exact q2 m z
      · simp only [List.mem_cons, List.not_mem_nil, or_false] at z
        rcases z with rfl | rfl | rfl
        · exact hg
        · exact mk
        · exact mk2
    exact kit84 hm hp)
  have hL : (xs ++ [g, ⟨[0], 1, [], []⟩, ⟨[2], 4, [], []⟩]).map encM = xs.map encM ++ [encM g, .tuple [.tuple [.int 0], .int 1, .tuple [], .tuple []], .tuple [.tuple [.int 2], .int 4, .tuple [], .tuple []]] := by
    rw [List.map_append]; rfl
  rw [hL] at e4
  have lx : (xs.map encM).length + 3 ≤ 1000000 := by rw [List.length_map]; omega
  clear hL
  generalize xs.map encM = XS at *
  generalize encM g = GG at *
  simp [L3_law_50, q_mulAI, q_mulAL, a_wb, q_divW, Function.comp_def, q_starI, q_starIT, a_wp, a_fz, a_fz0, a_fz1, a_ext, a_ins, a_insA, a_pop, a_parN, a_evO0, a_evO1, a_setO0, a_setO1, a_ix2, a_setII, a_zN, a_zC, a_lcO, d_oo, pEq_int, pNe_int, pIxL, pIxT, atI_nat, atI_0, atI_1, atI_2, atI_3, atI_m1, cutLo, cutHi, cutLo1, cutHi1, a_seq, a_ifS, a_B, a_op, a_ov, a_ev0, a_evv, a_evs, a_C, a_V, a_M, a_set, a_setI, a_app, a_ret, a_ex, a_skip, a_no, a_not, a_andT, a_orT, a_and, a_or, a_notV, a_if, a_par, a_call, a_forS, a_sq, a_r1, a_r2, a_en, a_zp, a_asT, a_chI, a_yes, a_lc, a_fn, okA, f_fr, bkA, rsvs, rsv, dvs, on1, on2, d_fr, d_ol, rsO, ndS, sl, putB, asT, setAll, ofO, Dy.ints1, Dy.ints2, nE, wipeE, unw, frO, q_addI, q_addL, q_addT, q_addS, q_sub, q_div, q_mod, q_pow, q_neg, q_cm, pIs, pIsn, q_isN, q_isI, q_isS, q_isT, q_isL, q_isB, q_lenL, q_lenT, pTup, pLst, q_tupL, q_tupT, q_lstL, q_lstT, q_revL, q_slL, q_slT, q_shL, q_shT, q_sqL, q_sqT, q_intI, q_max2, q_min2, q_aII, q_aBI, q_aTI, q_aTT, q_aLL, q_aTL, q_aIT, ez, ep, e2, e3, lx, e4]
theorem law_true_84 (ns : List Int) (hl : ns.length ≤ 63) : ∃ os, M_law_50 [.fr (.list (ns.map PyData.int))] = .ok (.fr (.bool true), os) := by
  obtain ⟨_, _, e⟩ := for_r (t := .nm 1) (body := L3_law_50) (fun _ : Unit => ([fr (.list (ns.map PyData.int)), none, none, none, none, none, none, none] : Dy.Env)) (fun _ _ => True) (max 1 (min (ns.length : Int) 3)).toNat (s := ()) trivial (fun k s hk _ => ⟨(), trivial, lap84 rfl k⟩)
  have c : max 1 (min (ns.length : Int) 3) ≤ 1000000000 ∧ -1000000000 ≤ max 1 (min (ns.length : Int) 3) := ⟨by omega, by omega⟩
  have c2 : (ns.map PyData.int).length = ns.length := List.length_map _
  refine ⟨[.fr (.list (ns.map PyData.int))], ?_⟩
  refine fn1_rt84 (N := 7) (e := [none, none, none, none, none, none, none, none]) ?_
  unfold b_law_50
  simp [q_mulAI, q_mulAL, a_wb, q_divW, Function.comp_def, q_starI, q_starIT, a_wp, a_fz, a_fz0, a_fz1, a_ext, a_ins, a_insA, a_pop, a_parN, a_evO0, a_evO1, a_setO0, a_setO1, a_ix2, a_setII, a_zN, a_zC, a_lcO, d_oo, pEq_int, pNe_int, pIxL, pIxT, atI_nat, atI_0, atI_1, atI_2, atI_3, atI_m1, cutLo, cutHi, cutLo1, cutHi1, a_seq, a_ifS, a_B, a_op, a_ov, a_ev0, a_evv, a_evs, a_C, a_V, a_M, a_set, a_setI, a_app, a_ret, a_ex, a_skip, a_no, a_not, a_andT, a_orT, a_and, a_or, a_notV, a_if, a_par, a_call, a_forS, a_sq, a_r1, a_r2, a_en, a_zp, a_asT, a_chI, a_yes, a_lc, a_fn, okA, f_fr, bkA, rsvs, rsv, dvs, on1, on2, d_fr, d_ol, rsO, ndS, sl, putB, asT, setAll, ofO, Dy.ints1, Dy.ints2, nE, wipeE, unw, frO, q_addI, q_addL, q_addT, q_addS, q_sub, q_div, q_mod, q_pow, q_neg, q_cm, pIs, pIsn, q_isN, q_isI, q_isS, q_isT, q_isL, q_isB, q_lenL, q_lenT, pTup, pLst, q_tupL, q_tupT, q_lstL, q_lstT, q_revL, q_slL, q_slT, q_shL, q_shT, q_sqL, q_sqT, q_intI, q_max2, q_min2, q_aII, q_aBI, q_aTI, q_aTT, q_aLL, q_aTL, q_aIT, c, c2, e]
end Q
namespace W84
open PySem PySem.Spec PyProof.Rows L2 Dy Q
def topS (i : Nat) : Stmt := PySem.Challenge.pw_codepick_k84_texts_of_machines.main.body.getD i (.Pass ⟨0, 0, 0, 0⟩)
section
variable {P : Program} {w : World} {K : PySem.W.Frag} {mg : Str → Option Value} {T : List (Addr × Str)}
abbrev s__law_pen : Stmt := topS 37
theorem sc__law_pen : FnScope ["_law_cell_here"] ["_law_cell_here"] (defScope s__law_pen) := ⟨rfl, rfl, rfl, by decide +kernel, rfl, by decide +kernel, by decide +kernel⟩
theorem ok__law_pen {f : Addr} {fd : FuncData} {k : Nat} (F : Fun K "_law_pen" "_law_pen" s__law_pen f fd) (hm : mg "_law_pen" = some (.ref f)) (hb : Binds K fd ["_law_cell_here"] []) (z_max : mg "max" = none) : CallOk P w K mg T (k + 1) "_law_pen" ["_law_cell_here"] M__law_pen_2 :=
  callOk_of F hm hb fun base => fnD F sc__law_pen rfl rfl (by decide) fun cdv A outer s H qv E hgd hr => (dss_one (ds_ret (de_lst (da_cons (dx_v (de_callB (cl_max rfl) os_max rfl z_max bt_max (da_cons (dx_v de_int) (da_cons (dx_v (de_op op_sub os_sub (dx_s 0 (pv 0)) (dx_v (de_op op_pow os_pow (dx_v de_int) (dx_v de_int))))) da_nil)))) (da_cons (dx_v (de_op op_addA os_add (dx_v (de_op op_mod os_mod (dx_s 0 (pv 0)) (dx_v de_int))) (dx_v de_int))) (da_cons (dx_v de_int) da_nil))))))
abbrev s__law_cell : Stmt := topS 36
theorem sc__law_cell : FnScope ["_law_script", "_law_k"] ["_law_script", "_law_k"] (defScope s__law_cell) := ⟨rfl, rfl, rfl, by decide +kernel, rfl, by decide +kernel, by decide +kernel⟩
theorem ok__law_cell {f : Addr} {fd : FuncData} {k : Nat} (F : Fun K "_law_cell" "_law_cell" s__law_cell f fd) (hm : mg "_law_cell" = some (.ref f)) (hb : Binds K fd ["_law_script", "_law_k"] []) (z_len : mg "len" = none) : CallOk P w K mg T (k + 1) "_law_cell" ["_law_script", "_law_k"] M__law_cell :=
  callOk_of F hm hb fun base => fnD F sc__law_cell rfl rfl (by decide) fun cdv A outer s H qv E hgd hr => (dss_cons (ds_if (dt_cmp op_lt os_cmI (dx_s 1 (pv 1)) (dx_v (de_callB call_lenA os_len rfl z_len bt_len (da_cons (dx_s 0 (pv 0)) da_nil))) (nomark _)) (dss_one (ds_ret (de_ix (ixD (ru65 hr)) os_ix (dx_s 0 (pv 0)) (dx_s 1 (pv 1)) (fun _ _ => rfl)))) dss_nil)
    (dss_one (ds_ret de_int)))
abbrev s__law_draw : Stmt := topS 38
theorem sc__law_draw : FnScope ["_law_pen_here", "_law_many", "_law_stirred", "_law_found"] ["_law_pen_here", "_law_many"] (defScope s__law_draw) := ⟨rfl, rfl, rfl, by decide +kernel, rfl, by decide +kernel, by decide +kernel⟩
theorem ok__law_draw {f : Addr} {fd : FuncData} {k : Nat} (F : Fun K "_law_draw" "_law_draw" s__law_draw f fd) (hm : mg "_law_draw" = some (.ref f)) (hb : Binds K fd ["_law_pen_here", "_law_many"] [])  : CallOk P w K mg T (k + 1) "_law_draw" ["_law_pen_here", "_law_many"] M__law_draw_2 :=
  callOk_of F hm hb fun base => fnD F sc__law_draw rfl rfl (by decide) fun cdv A outer s H qv E hgd hr => (dss_cons (ds_if (dt_cmp op_gt os_cmI (dx_v (de_ix (ixD (ru65 hr)) os_ix (dx_s 0 (pv 0)) (dx_v de_int) (fun _ _ => rfl))) (dx_v de_int) (nomark _)) (dss_cons (ds_set (i := 3) sc__law_draw.nd rfl (by first | exact .inl rfl | exact .inr rfl) (np1 rfl) (de_op op_mod os_mod (dx_v (de_ix (ixD (ru65 hr)) os_ix (dx_s 0 (pv 0)) (dx_v de_int) (fun _ _ => rfl))) (dx_s 1 (pv 1))))
    (dss_cons (ds_setI (pv 0) (dx_v de_int) (de_op op_fdivW os_divW (dx_v (de_ix (ixD (ru65 hr)) os_ix (dx_s 0 (pv 0)) (dx_v de_int) (fun _ _ => rfl))) (dx_s 1 (pv 1))))
    (dss_one (ds_ret (de_m 3 (pv 3)))))) dss_nil)
    (dss_cons (ds_setI (pv 0) (dx_v de_int) (de_op op_addA os_add (dx_v (de_ix (ixD (ru65 hr)) os_ix (dx_s 0 (pv 0)) (dx_v de_int) (fun _ _ => rfl))) (dx_v de_int)))
    (dss_cons (ds_setI (pv 0) (dx_v de_int) (de_op op_mod os_mod (dx_v (de_op op_addA os_add (dx_v (de_op op_addA os_add (dx_v (de_op op_mulB os_mulB (dx_v (de_ix (ixD (ru65 hr)) os_ix (dx_s 0 (pv 0)) (dx_v de_int) (fun _ _ => rfl))) (dx_v de_int))) (dx_v (de_op op_mulB os_mulB (dx_v de_int) (dx_v (de_ix (ixD (ru65 hr)) os_ix (dx_s 0 (pv 0)) (dx_v de_int) (fun _ _ => rfl))))))) (dx_v de_int))) (dx_v de_int)))
    (dss_cons (ds_set (i := 2) sc__law_draw.nd rfl (by first | exact .inl rfl | exact .inr rfl) (np1 rfl) (de_op op_mod os_mod (dx_v (de_op op_addA os_add (dx_v (de_op op_addA os_add (dx_v (de_op op_mulB os_mulB (dx_v (de_ix (ixD (ru65 hr)) os_ix (dx_s 0 (pv 0)) (dx_v de_int) (fun _ _ => rfl))) (dx_v (de_ix (ixD (ru65 hr)) os_ix (dx_s 0 (pv 0)) (dx_v de_int) (fun _ _ => rfl))))) (dx_v (de_op op_mulB os_mulB (dx_v de_int) (dx_v (de_ix (ixD (ru65 hr)) os_ix (dx_s 0 (pv 0)) (dx_v de_int) (fun _ _ => rfl))))))) (dx_v de_int))) (dx_v de_int)))
    (dss_cons (ds_set (i := 2) sc__law_draw.nd rfl (by first | exact .inl rfl | exact .inr rfl) (np1 rfl) (de_op op_mod os_mod (dx_v (de_op op_addA os_add (dx_v (de_op op_mulB os_mulB (dx_s 2 (pv 2)) (dx_s 2 (pv 2)))) (dx_v (de_op op_mulB os_mulB (dx_v de_int) (dx_s 2 (pv 2)))))) (dx_v de_int)))
    (dss_one (ds_ret (de_op op_mod os_mod (dx_v (de_op op_fdivW os_divW (dx_s 2 (pv 2)) (dx_v de_int))) (dx_s 1 (pv 1))))))))))
abbrev s__law_arranged : Stmt := topS 43
theorem sc__law_arranged : FnScope ["_law_pen_here", "_law_things", "_law_bag", "_law_found"] ["_law_pen_here", "_law_things"] (defScope s__law_arranged) := ⟨rfl, rfl, rfl, by decide +kernel, rfl, by decide +kernel, by decide +kernel⟩
theorem ok__law_arranged {f : Addr} {fd : FuncData} {k : Nat} (F : Fun K "_law_arranged" "_law_arranged" s__law_arranged f fd) (hm : mg "_law_arranged" = some (.ref f)) (hb : Binds K fd ["_law_pen_here", "_law_things"] []) (c__law_draw : CallOk P w K mg T k "_law_draw" ["_law_pen_here", "_law_many"] M__law_draw_2) (z_len : mg "len" = none) (z_list : mg "list" = none) : CallOk P w K mg T (k + 1) "_law_arranged" ["_law_pen_here", "_law_things"] M__law_arranged :=
  callOk_of F hm hb fun base => fnD F sc__law_arranged rfl rfl (by decide) fun cdv A outer s H qv E hgd hr => (dss_cons (ds_wp [1] (ds_par (i := 2) (j := 3) (np1 rfl) (np1 rfl) rfl sc__law_arranged.nd rfl rfl (by decide) rfl rfl (de_callTy call_list_of os_list rfl z_list bt_list (da_cons (dx_s 1 (pv 1)) da_nil)) (de_lst da_nil)))
    (dss_cons (ds_wp [2] (ds_while 100000 (passes_of rfl) (dt_cmp (op_neA (ru64 hr)) os_ne (dx_s 2 (pv 2)) (dx_v (de_lst da_nil)) (nomark _)) (dss_one (ds_app (pv 3) (de_popA (pv 2) (da_cons (dx_v (dcall c__law_draw hgd hr rfl (passes_call (takes_of rfl rfl rfl rfl) (fun _ _ _ _ h => h)) (da_cons (dx_s 0 (pv 0)) (da_cons (dx_v (de_callB call_lenA os_len rfl z_len bt_len (da_cons (dx_s 2 (pv 2)) da_nil))) da_nil)))) da_nil))))))
    (dss_one (ds_ret (de_m 3 (pv 3))))))
abbrev s__law_pick : Stmt := topS 39
theorem sc__law_pick : FnScope ["_law_pen_here", "_law_some"] ["_law_pen_here", "_law_some"] (defScope s__law_pick) := ⟨rfl, rfl, rfl, by decide +kernel, rfl, by decide +kernel, by decide +kernel⟩
theorem ok__law_pick {f : Addr} {fd : FuncData} {k : Nat} (F : Fun K "_law_pick" "_law_pick" s__law_pick f fd) (hm : mg "_law_pick" = some (.ref f)) (hb : Binds K fd ["_law_pen_here", "_law_some"] []) (c__law_draw : CallOk P w K mg T k "_law_draw" ["_law_pen_here", "_law_many"] M__law_draw_2) (z_len : mg "len" = none) : CallOk P w K mg T (k + 1) "_law_pick" ["_law_pen_here", "_law_some"] M__law_pick_2 :=
  callOk_of F hm hb fun base => fnD F sc__law_pick rfl rfl (by decide) fun cdv A outer s H qv E hgd hr => (dss_one (ds_ret (de_ix (ixD (ru65 hr)) os_ix (dx_s 1 (pv 1)) (dx_v (dcall c__law_draw hgd hr rfl (passes_call (takes_of rfl rfl rfl rfl) (fun _ _ _ _ h => h)) (da_cons (dx_s 0 (pv 0)) (da_cons (dx_v (de_callB call_lenA os_len rfl z_len bt_len (da_cons (dx_s 1 (pv 1)) da_nil))) da_nil)))) (fun _ _ => rfl))))
abbrev s__law_kit : Stmt := topS 44
theorem sc__law_kit : FnScope ["_law_pen_here", "_law_upto", "_law_ranks", "_law_lap", "_law_many", "_law_steep", "_law_rows", "_law_turns_here", "_law_op", "_law_rank", "_law_begin", "_law_given", "_law_turn", "_law_part"] ["_law_pen_here", "_law_upto"] (defScope s__law_kit) := ⟨rfl, rfl, rfl, by decide +kernel, rfl, by decide +kernel, by decide +kernel⟩
theorem ok__law_kit {f : Addr} {fd : FuncData} {k : Nat} (F : Fun K "_law_kit" "_law_kit" s__law_kit f fd) (hm : mg "_law_kit" = some (.ref f)) (hb : Binds K fd ["_law_pen_here", "_law_upto"] []) (c__law_arranged : CallOk P w K mg T k "_law_arranged" ["_law_pen_here", "_law_things"] M__law_arranged) (c__law_draw : CallOk P w K mg T k "_law_draw" ["_law_pen_here", "_law_many"] M__law_draw_2) (c__law_pick : CallOk P w K mg T k "_law_pick" ["_law_pen_here", "_law_some"] M__law_pick_2) (z_enumerate : mg "enumerate" = none) (z_int : mg "int" = none) (z_range : mg "range" = none) (z_tuple : mg "tuple" = none) : CallOk P w K mg T (k + 1) "_law_kit" ["_law_pen_here", "_law_upto"] M__law_kit :=
  callOk_of F hm hb fun base => fnD F sc__law_kit rfl rfl (by decide) fun cdv A outer s H qv E hgd hr => (dss_cons (ds_fz [2] (ds_set (i := 2) sc__law_kit.nd rfl (by first | exact .inl rfl | exact .inr rfl) (np1 rfl) (de_op op_addA os_add (dx_v (de_lst (da_cons (dx_v de_int) da_nil))) (dx_v (de_lc (own := [("_law_turn", 12)]) (npn rfl) (by decide) rfl sc__law_kit.nd (di_r1 rfl z_range (da_cons (dx_v (dcall c__law_draw hgd hr rfl (passes_call (takes_of rfl rfl rfl rfl) (fun _ _ _ _ h => h)) (da_cons (dx_s 0 (pv 0)) (da_cons (dx_v de_int) da_nil)))) da_nil)) (blkOk_by (N := ["_law_pen_here", "_law_upto", "_law_ranks", "_law_lap", "_law_many", "_law_steep", "_law_rows", "_law_turns_here", "_law_op", "_law_rank", "_law_begin", "_law_given", "_law_turn", "_law_part"]) (sc := defScope s__law_kit) (own := [("_law_turn", 12)]) (by decide +kernel)) (fun _ _ _ _ _ => (pg_name (i := 12) sc__law_kit.nd rfl (by first | exact .inl rfl | exact .inr rfl))) (fun _ _ _ _ _ => pts_yes) (fun _ _ _ _ _ => (dcall c__law_pick hgd hr rfl passL (da_cons (dx_s 0 (pv 0)) (da_cons (dx_v (de_lst (da_cons (dx_v de_int) (da_cons (dx_v de_int) (da_cons (dx_v de_int) (da_cons (dx_v de_int) da_nil)))))) da_nil)))))))) nx_set)
    (dss_cons (ds_fz [2] (ds_parNC (npn rfl) rfl (by decide) (pg_tup rfl (pgs_cons (pg_name (i := 2) sc__law_kit.nd rfl (by first | exact .inl rfl | exact .inr rfl)) (pgs_cons (pg_name (i := 4) sc__law_kit.nd rfl (by first | exact .inl rfl | exact .inr rfl)) (pgs_cons (pg_name (i := 5) sc__law_kit.nd rfl (by first | exact .inl rfl | exact .inr rfl)) pgs_nil)))) (pa_cons (dcall c__law_arranged hgd hr rfl (passes_call (takes_of rfl rfl rfl rfl) (fun _ _ _ _ h => h)) (da_cons (dx_s 0 (pv 0)) (da_cons (dx_v (de_v 2 (pv 2))) da_nil))) (pa_cons (de_op op_addA os_add (dx_v de_int) (dx_v (dcall c__law_draw hgd hr rfl (passes_call (takes_of rfl rfl rfl rfl) (fun _ _ _ _ h => h)) (da_cons (dx_s 0 (pv 0)) (da_cons (dx_v (de_v 1 (pv 1))) da_nil))))) (pa_cons (dcall c__law_pick hgd hr rfl (passes_call (takes_of rfl rfl rfl rfl) (fun _ _ _ _ h => h)) (da_cons (dx_s 0 (pv 0)) (da_cons (dx_v (de_lst (da_cons (dx_v de_int) (da_cons (dx_v de_int) (da_cons (dx_v de_int) da_nil))))) da_nil))) pa_nil)))) nx_parN)
    (dss_cons (ds_wp [1] (ds_par (i := 6) (j := 7) (np1 rfl) (np1 rfl) rfl sc__law_kit.nd rfl rfl (by decide) rfl rfl (de_lst da_nil) (de_lst da_nil)))
    (dss_cons (ds_wp [3, 8, 9, 11] (ds_for (npn rfl) (passes_of rfl) rfl (di_en rfl z_enumerate (da_cons (dx_v (de_v 2 (pv 2))) da_nil)) (pg_tup rfl (pgs_cons (pg_name (i := 8) sc__law_kit.nd rfl (by first | exact .inl rfl | exact .inr rfl)) (pgs_cons (pg_name (i := 9) sc__law_kit.nd rfl (by first | exact .inl rfl | exact .inr rfl)) pgs_nil))) (dss_one (ds_wp [3, 8, 9, 11] (ds_for (npn rfl) (passes_of rfl) rfl (di_r1 rfl z_range (da_cons (dx_v (dcall c__law_pick hgd hr rfl (passes_call (takes_of rfl rfl rfl rfl) (fun _ _ _ _ h => h)) (da_cons (dx_s 0 (pv 0)) (da_cons (dx_v (de_lst (da_cons (dx_v de_int) (da_cons (dx_v de_int) (da_cons (dx_v de_int) (da_cons (dx_v de_int) (da_cons (dx_v de_int) (da_cons (dx_v de_int) da_nil)))))))) da_nil)))) da_nil)) (pg_name (i := 3) sc__law_kit.nd rfl (by first | exact .inl rfl | exact .inr rfl)) (dss_cons (ds_set (i := 11) sc__law_kit.nd rfl (by first | exact .inl rfl | exact .inr rfl) (np1 rfl) (de_callTy call_tupleP os_tuple rfl z_tuple bt_tuple (da_cons (dx_v (de_lc (own := [("_law_part", 13)]) (npn rfl) (by decide) rfl sc__law_kit.nd (di_r1 rfl z_range (da_cons (dx_s 9 (pv 9)) da_nil)) (blkOk_by (N := ["_law_pen_here", "_law_upto", "_law_ranks", "_law_lap", "_law_many", "_law_steep", "_law_rows", "_law_turns_here", "_law_op", "_law_rank", "_law_begin", "_law_given", "_law_turn", "_law_part"]) (sc := defScope s__law_kit) (own := [("_law_part", 13)]) (by decide +kernel)) (fun _ _ _ _ _ => (pg_name (i := 13) sc__law_kit.nd rfl (by first | exact .inl rfl | exact .inr rfl))) (fun _ _ _ _ _ => pts_yes) (fun _ _ _ _ _ => (dcall c__law_draw hgd hr rfl passL (da_cons (dx_s 0 (pv 0)) (da_cons (dx_v (de_v 4 (pv 4))) da_nil)))))) da_nil)))
    (dss_one (ds_wp [3, 11] (ds_app (pv 6) (de_tup (da_cons (dx_v (dcall c__law_draw hgd hr rfl (passes_call (takes_of rfl rfl rfl rfl) (fun _ _ _ _ h => h)) (da_cons (dx_s 0 (pv 0)) (da_cons (dx_v (de_v 4 (pv 4))) da_nil)))) (da_cons (dx_v (de_v 8 (pv 8))) (da_cons (dx_v (de_v 11 (pv 11))) (da_cons (dx_v (dcall c__law_draw hgd hr rfl (passes_call (takes_of rfl rfl rfl rfl) (fun _ _ _ _ h => h)) (da_cons (dx_s 0 (pv 0)) (da_cons (dx_v (de_v 5 (pv 5))) da_nil)))) da_nil))))))))))))))
    (dss_cons (ds_wp [3, 5, 10] (ds_for (npn rfl) (passes_of rfl) rfl (di_r1 rfl z_range (da_cons (dx_v (de_op op_mulB os_mulB (dx_v (dcall c__law_draw hgd hr rfl (passes_call (takes_of rfl rfl rfl rfl) (fun _ _ _ _ h => h)) (da_cons (dx_s 0 (pv 0)) (da_cons (dx_v de_int) da_nil)))) (dx_v (de_callTy call_int1 os_int rfl z_int bt_int (da_cons (dx_v (de_cmp op_gt os_cmI (dx_s 4 (pv 4)) (dx_v de_int) (nomark _))) da_nil))))) da_nil)) (pg_name (i := 3) sc__law_kit.nd rfl (by first | exact .inl rfl | exact .inr rfl)) (dss_cons (ds_set (i := 10) sc__law_kit.nd rfl (by first | exact .inl rfl | exact .inr rfl) (np1 rfl) (dcall c__law_draw hgd hr rfl (passes_call (takes_of rfl rfl rfl rfl) (fun _ _ _ _ h => h)) (da_cons (dx_s 0 (pv 0)) (da_cons (dx_v (de_v 4 (pv 4))) da_nil))))
    (dss_one (ds_wp [3, 10] (ds_app (pv 7) (de_tup (da_cons (dx_v (de_v 10 (pv 10))) (da_cons (dx_v (de_op op_mod os_mod (dx_v (de_op op_addA os_add (dx_v (de_op op_addA os_add (dx_s 10 (pv 10)) (dx_v de_int))) (dx_v (dcall c__law_draw hgd hr rfl (passes_call (takes_of rfl rfl rfl rfl) (fun _ _ _ _ h => h)) (da_cons (dx_s 0 (pv 0)) (da_cons (dx_v (de_op op_sub os_sub (dx_s 4 (pv 4)) (dx_v de_int))) da_nil)))))) (dx_s 4 (pv 4)))) (da_cons (dx_v (dcall c__law_draw hgd hr rfl (passes_call (takes_of rfl rfl rfl rfl) (fun _ _ _ _ h => h)) (da_cons (dx_s 0 (pv 0)) (da_cons (dx_v (de_v 5 (pv 5))) da_nil)))) da_nil))))))))))
    (dss_one (ds_ret (de_tup (da_cons (dx_v (de_callTy call_tupleP os_tuple rfl z_tuple bt_tuple (da_cons (dx_s 2 (pv 2)) da_nil))) (da_cons (dx_v (de_v 4 (pv 4))) (da_cons (dx_v (de_callTy call_tupleP os_tuple rfl z_tuple bt_tuple (da_cons (dx_v (dcall c__law_arranged hgd hr rfl (passes_call (takes_of rfl rfl rfl rfl) (fun _ _ _ _ h => h)) (da_cons (dx_s 0 (pv 0)) (da_cons (dx_v (de_v 6 (pv 6))) da_nil)))) da_nil))) (da_cons (dx_v (de_callTy call_tupleP os_tuple rfl z_tuple bt_tuple (da_cons (dx_s 7 (pv 7)) da_nil))) da_nil))))))))))))
abbrev s__law_kit_text : Stmt := topS 45
theorem sc__law_kit_text : FnScope ["_law_kit_here", "_law_lines", "_law_ranks", "_law_many", "_law_rows", "_law_turns_here", "_law_form", "_law_op", "_law_given", "_law_price", "_law_begin", "_law_end", "_law_line_here", "_law_rank", "_law_one"] ["_law_kit_here"] (defScope s__law_kit_text) := ⟨rfl, rfl, rfl, by decide +kernel, rfl, by decide +kernel, by decide +kernel⟩
theorem ok__law_kit_text {f : Addr} {fd : FuncData} {k : Nat} (F : Fun K "_law_kit_text" "_law_kit_text" s__law_kit_text f fd) (hm : mg "_law_kit_text" = some (.ref f)) (hb : Binds K fd ["_law_kit_here"] []) (z_str : mg "str" = none) : CallOk P w K mg T (k + 1) "_law_kit_text" ["_law_kit_here"] M__law_kit_text :=
  callOk_of F hm hb fun base => fnD F sc__law_kit_text rfl rfl (by decide) fun cdv A outer s H qv E hgd hr => (dss_cons (ds_asT (npn rfl) (de_v 0 (pv 0)) (pg_tup rfl (pgs_cons (pg_name (i := 2) sc__law_kit_text.nd rfl (by first | exact .inl rfl | exact .inr rfl)) (pgs_cons (pg_name (i := 3) sc__law_kit_text.nd rfl (by first | exact .inl rfl | exact .inr rfl)) (pgs_cons (pg_name (i := 4) sc__law_kit_text.nd rfl (by first | exact .inl rfl | exact .inr rfl)) (pgs_cons (pg_name (i := 5) sc__law_kit_text.nd rfl (by first | exact .inl rfl | exact .inr rfl)) pgs_nil))))))
    (dss_cons (ds_wp [0, 2, 3] (ds_set (i := 1) sc__law_kit_text.nd rfl (by first | exact .inl rfl | exact .inr rfl) (np1 rfl) (de_lst (da_cons (dx_v (de_op op_addA os_add (dx_v de_str) (dx_v (de_callTy call_str_int os_str rfl z_str bt_str (da_cons (dx_s 3 (pv 3)) da_nil))))) (da_cons (dx_v (de_op op_addA os_add (dx_v de_str) (dx_v (de_join de_str (dx_v (de_lc (own := [("_law_rank", 13)]) (npn rfl) (by decide) rfl sc__law_kit_text.nd (di_seq (dx_v (de_v 2 (pv 2)))) (blkOk_by (N := ["_law_kit_here", "_law_lines", "_law_ranks", "_law_many", "_law_rows", "_law_turns_here", "_law_form", "_law_op", "_law_given", "_law_price", "_law_begin", "_law_end", "_law_line_here", "_law_rank", "_law_one"]) (sc := defScope s__law_kit_text) (own := [("_law_rank", 13)]) (by decide +kernel)) (fun _ _ _ _ _ => (pg_name (i := 13) sc__law_kit_text.nd rfl (by first | exact .inl rfl | exact .inr rfl))) (fun _ _ _ _ _ => pts_yes) (fun _ _ _ _ _ => (de_callTy call_str_int os_str rfl z_str bt_str (da_cons (dx_s 13 (pv 13)) da_nil))))))))) da_nil)))))
    (dss_cons (ds_wp [4, 6, 7, 8, 9] (ds_for (npn rfl) (passes_of rfl) rfl (di_seq (dx_v (de_v 4 (pv 4)))) (pg_tup rfl (pgs_cons (pg_name (i := 6) sc__law_kit_text.nd rfl (by first | exact .inl rfl | exact .inr rfl)) (pgs_cons (pg_name (i := 7) sc__law_kit_text.nd rfl (by first | exact .inl rfl | exact .inr rfl)) (pgs_cons (pg_name (i := 8) sc__law_kit_text.nd rfl (by first | exact .inl rfl | exact .inr rfl)) (pgs_cons (pg_name (i := 9) sc__law_kit_text.nd rfl (by first | exact .inl rfl | exact .inr rfl)) pgs_nil))))) (dss_one (ds_wp [6, 7, 8, 9] (ds_app (pv 1) (de_op op_addA os_add (dx_v (de_op op_addA os_add (dx_v (de_callTy call_str_int os_str rfl z_str bt_str (da_cons (dx_s 6 (pv 6)) da_nil))) (dx_v de_str))) (dx_v (de_join de_str (dx_v (de_op op_addA os_add (dx_v (de_op op_addA os_add (dx_v (de_lst (da_cons (dx_v (de_op op_addA os_add (dx_v (de_callTy call_str_int os_str rfl z_str bt_str (da_cons (dx_s 7 (pv 7)) da_nil))) (dx_v de_str))) da_nil))) (dx_v (de_lc (own := [("_law_one", 14)]) (npn rfl) (by decide) rfl sc__law_kit_text.nd (di_seq (dx_v (de_v 8 (pv 8)))) (blkOk_by (N := ["_law_kit_here", "_law_lines", "_law_ranks", "_law_many", "_law_rows", "_law_turns_here", "_law_form", "_law_op", "_law_given", "_law_price", "_law_begin", "_law_end", "_law_line_here", "_law_rank", "_law_one"]) (sc := defScope s__law_kit_text) (own := [("_law_one", 14)]) (by decide +kernel)) (fun _ _ _ _ _ => (pg_name (i := 14) sc__law_kit_text.nd rfl (by first | exact .inl rfl | exact .inr rfl))) (fun _ _ _ _ _ => pts_yes) (fun _ _ _ _ _ => (de_callTy call_str_int os_str rfl z_str bt_str (da_cons (dx_s 14 (pv 14)) da_nil))))))) (dx_v (de_lst (da_cons (dx_v de_str) (da_cons (dx_v (de_callTy call_str_int os_str rfl z_str bt_str (da_cons (dx_s 9 (pv 9)) da_nil))) da_nil))))))))))))))
    (dss_cons (ds_wp [5, 9, 10, 11] (ds_for (npn rfl) (passes_of rfl) rfl (di_seq (dx_v (de_v 5 (pv 5)))) (pg_tup rfl (pgs_cons (pg_name (i := 10) sc__law_kit_text.nd rfl (by first | exact .inl rfl | exact .inr rfl)) (pgs_cons (pg_name (i := 11) sc__law_kit_text.nd rfl (by first | exact .inl rfl | exact .inr rfl)) (pgs_cons (pg_name (i := 9) sc__law_kit_text.nd rfl (by first | exact .inl rfl | exact .inr rfl)) pgs_nil)))) (dss_one (ds_wp [9, 10, 11] (ds_app (pv 1) (de_op op_addA os_add (dx_v (de_op op_addA os_add (dx_v (de_op op_addA os_add (dx_v (de_op op_addA os_add (dx_v (de_callTy call_str_int os_str rfl z_str bt_str (da_cons (dx_s 11 (pv 11)) da_nil))) (dx_v de_str))) (dx_v (de_callTy call_str_int os_str rfl z_str bt_str (da_cons (dx_s 10 (pv 10)) da_nil))))) (dx_v de_str))) (dx_v (de_callTy call_str_int os_str rfl z_str bt_str (da_cons (dx_s 9 (pv 9)) da_nil)))))))))
    (dss_one (ds_ret (de_join de_str (dx_v (de_lc (own := [("_law_line_here", 12)]) (npn rfl) (by decide) rfl sc__law_kit_text.nd (di_seq (dx_v (de_v 1 (pv 1)))) (blkOk_by (N := ["_law_kit_here", "_law_lines", "_law_ranks", "_law_many", "_law_rows", "_law_turns_here", "_law_form", "_law_op", "_law_given", "_law_price", "_law_begin", "_law_end", "_law_line_here", "_law_rank", "_law_one"]) (sc := defScope s__law_kit_text) (own := [("_law_line_here", 12)]) (by decide +kernel)) (fun _ _ _ _ _ => (pg_name (i := 12) sc__law_kit_text.nd rfl (by first | exact .inl rfl | exact .inr rfl))) (fun _ _ _ _ _ => pts_yes) (fun _ _ _ _ _ => (de_op op_addA os_add (dx_s 12 (pv 12)) (dx_v de_str))))))))))))
abbrev s__law_bent_kits : Stmt := topS 50
theorem sc__law_bent_kits : FnScope ["_law_pen_here", "_law_kit_here", "_law_some", "_law_row", "_law_ranks", "_law_many", "_law_rows", "_law_turns_here", "_law_bad"] ["_law_pen_here", "_law_kit_here"] (defScope s__law_bent_kits) := ⟨rfl, rfl, rfl, by decide +kernel, rfl, by decide +kernel, by decide +kernel⟩
theorem ok__law_bent_kits {f : Addr} {fd : FuncData} {k : Nat} (F : Fun K "_law_bent_kits" "_law_bent_kits" s__law_bent_kits f fd) (hm : mg "_law_bent_kits" = some (.ref f)) (hb : Binds K fd ["_law_pen_here", "_law_kit_here"] []) (c__law_kit_text : CallOk P w K mg T k "_law_kit_text" ["_law_kit_here"] M__law_kit_text) (z_list : mg "list" = none) : CallOk P w K mg T (k + 1) "_law_bent_kits" ["_law_pen_here", "_law_kit_here"] M__law_bent_kits :=
  callOk_of F hm hb fun base => fnD F sc__law_bent_kits rfl rfl (by decide) fun cdv A outer s H qv E hgd hr => (dss_cons (ds_asT (npn rfl) (de_v 1 (pv 1)) (pg_tup rfl (pgs_cons (pg_name (i := 4) sc__law_bent_kits.nd rfl (by first | exact .inl rfl | exact .inr rfl)) (pgs_cons (pg_name (i := 5) sc__law_bent_kits.nd rfl (by first | exact .inl rfl | exact .inr rfl)) (pgs_cons (pg_name (i := 6) sc__law_bent_kits.nd rfl (by first | exact .inl rfl | exact .inr rfl)) (pgs_cons (pg_name (i := 7) sc__law_bent_kits.nd rfl (by first | exact .inl rfl | exact .inr rfl)) pgs_nil))))))
    (dss_cons (ds_set (i := 2) sc__law_bent_kits.nd rfl (by first | exact .inl rfl | exact .inr rfl) (np1 rfl) (de_lst (da_cons (dx_v (de_callTy call_list_of os_list rfl z_list bt_list (da_cons (dx_s 1 (pv 1)) da_nil))) (da_cons (dx_v (de_slHi (dx_s 1 (pv 1)) (dx_v de_int))) (da_cons (dx_v (de_op op_addA os_add (dx_s 1 (pv 1)) (dx_v (de_tup (da_cons (dx_v de_int) da_nil))))) (da_cons (dx_v (de_op op_addA os_add (dx_v (de_tup (da_cons (dx_v (de_callTy call_list_of os_list rfl z_list bt_list (da_cons (dx_s 4 (pv 4)) da_nil))) da_nil))) (dx_v (de_slLo (dx_s 1 (pv 1)) (dx_v de_int))))) (da_cons (dx_v (de_op op_addA os_add (dx_v (de_tup (da_cons (dx_v (de_op op_addA os_add (dx_s 4 (pv 4)) (dx_v (de_tup (da_cons (dx_v de_int) da_nil))))) da_nil))) (dx_v (de_slLo (dx_s 1 (pv 1)) (dx_v de_int))))) (da_cons (dx_v (de_op op_addA os_add (dx_v (de_tup (da_cons (dx_v (de_tup da_nil)) da_nil))) (dx_v (de_slLo (dx_s 1 (pv 1)) (dx_v de_int))))) da_nil))))))))
    (dss_cons (ds_set (i := 2) sc__law_bent_kits.nd rfl (by first | exact .inl rfl | exact .inr rfl) (np1 rfl) (de_op op_addA os_add (dx_s 2 (pv 2)) (dx_v (de_lst (da_cons (dx_v (de_tup (da_cons (dx_v (de_v 4 (pv 4))) (da_cons (dx_v de_int) (da_cons (dx_v (de_tup da_nil)) (da_cons (dx_v (de_tup da_nil)) da_nil)))))) (da_cons (dx_v (de_op op_addA os_add (dx_v (de_tup (da_cons (dx_v (de_v 4 (pv 4))) (da_cons (dx_v de_int) da_nil)))) (dx_v (de_slLo (dx_s 1 (pv 1)) (dx_v de_int))))) (da_cons (dx_v (de_op op_addA os_add (dx_v (de_tup (da_cons (dx_v (de_v 4 (pv 4))) (da_cons (dx_v de_non) da_nil)))) (dx_v (de_slLo (dx_s 1 (pv 1)) (dx_v de_int))))) (da_cons (dx_v (de_tup (da_cons (dx_v (de_v 4 (pv 4))) (da_cons (dx_v (de_v 5 (pv 5))) (da_cons (dx_v (de_callTy call_list_of os_list rfl z_list bt_list (da_cons (dx_s 6 (pv 6)) da_nil))) (da_cons (dx_v (de_tup da_nil)) da_nil)))))) da_nil))))))))
    (dss_cons (ds_set (i := 2) sc__law_bent_kits.nd rfl (by first | exact .inl rfl | exact .inr rfl) (np1 rfl) (de_op op_addA os_add (dx_s 2 (pv 2)) (dx_v (de_lst (da_cons (dx_v (de_tup (da_cons (dx_v (de_v 4 (pv 4))) (da_cons (dx_v (de_v 5 (pv 5))) (da_cons (dx_v (de_v 6 (pv 6))) (da_cons (dx_v (de_tup (da_cons (dx_v de_non) da_nil))) da_nil)))))) (da_cons (dx_v (de_tup (da_cons (dx_v (de_v 4 (pv 4))) (da_cons (dx_v (de_v 5 (pv 5))) (da_cons (dx_v (de_tup (da_cons (dx_v (de_tup (da_cons (dx_v de_int) (da_cons (dx_v de_int) da_nil)))) da_nil))) (da_cons (dx_v (de_tup da_nil)) da_nil)))))) da_nil))))))
    (dss_cons (ds_app (pv 2) (de_tup (da_cons (dx_v (de_v 4 (pv 4))) (da_cons (dx_v (de_v 5 (pv 5))) (da_cons (dx_v (de_slHi (dx_v (de_op op_mulE os_mulE (dx_s 6 (pv 6)) (dx_v de_int))) (dx_v de_int))) (da_cons (dx_v (de_v 7 (pv 7))) da_nil))))))
    (dss_cons (ds_set (i := 2) sc__law_bent_kits.nd rfl (by first | exact .inl rfl | exact .inr rfl) (np1 rfl) (de_op op_addA os_add (dx_s 2 (pv 2)) (dx_v (de_lst (da_cons (dx_v (de_tup (da_cons (dx_v (de_v 4 (pv 4))) (da_cons (dx_v (de_v 5 (pv 5))) (da_cons (dx_v (de_v 6 (pv 6))) (da_cons (dx_v (de_tup (da_cons (dx_v (de_tup (da_cons (dx_v de_int) (da_cons (dx_v de_int) (da_cons (dx_v de_int) da_nil))))) da_nil))) da_nil)))))) (da_cons (dx_v (de_tup (da_cons (dx_v (de_v 4 (pv 4))) (da_cons (dx_v (de_v 5 (pv 5))) (da_cons (dx_v (de_v 6 (pv 6))) (da_cons (dx_v (de_tup (da_cons (dx_v (de_tup (da_cons (dx_v de_int) (da_cons (dx_v (de_v 5 (pv 5))) (da_cons (dx_v de_int) da_nil))))) da_nil))) da_nil)))))) da_nil))))))
    (dss_cons (ds_wp [0, 7] (ds_set (i := 2) sc__law_bent_kits.nd rfl (by first | exact .inl rfl | exact .inr rfl) (np1 rfl) (de_op op_addA os_add (dx_s 2 (pv 2)) (dx_v (de_lst (da_cons (dx_v (de_tup (da_cons (dx_v (de_v 4 (pv 4))) (da_cons (dx_v (de_v 5 (pv 5))) (da_cons (dx_v (de_tup da_nil)) (da_cons (dx_v (de_tup (da_cons (dx_v (de_tup (da_cons (dx_v de_int) (da_cons (dx_v de_int) (da_cons (dx_v de_int) da_nil))))) da_nil))) da_nil)))))) da_nil))))))
    (dss_cons (ds_wp [3, 5, 6, 8] (ds_for (npn rfl) (passes_of rfl) rfl (di_seq (dx_v (de_slHi (dx_s 6 (pv 6)) (dx_v de_int)))) (pg_name (i := 3) sc__law_bent_kits.nd rfl (by first | exact .inl rfl | exact .inr rfl)) (dss_cons (ds_wp [8] (ds_for (npn rfl) (passes_of rfl) rfl (di_seq (dx_v (de_lst (da_cons (dx_v (de_op op_addA os_add (dx_v (de_tup (da_cons (dx_v (de_v 5 (pv 5))) da_nil))) (dx_v (de_slLo (dx_s 3 (pv 3)) (dx_v de_int))))) (da_cons (dx_v (de_op op_addA os_add (dx_v (de_slHi (dx_s 3 (pv 3)) (dx_v de_int))) (dx_v (de_tup (da_cons (dx_v de_int) da_nil))))) (da_cons (dx_v (de_op op_addA os_add (dx_v (de_slHi (dx_s 3 (pv 3)) (dx_v de_int))) (dx_v (de_tup (da_cons (dx_v (de_un un_neg os_neg (dx_v de_int))) da_nil))))) (da_cons (dx_v (de_op op_addA os_add (dx_v (de_op op_addA os_add (dx_v (de_slHi (dx_s 3 (pv 3)) (dx_v de_int))) (dx_v (de_tup (da_cons (dx_v (de_callTy call_list_of os_list rfl z_list bt_list (da_cons (dx_v (de_ix (ixD (ru65 hr)) os_ix (dx_s 3 (pv 3)) (dx_v de_int) (fun _ _ => rfl))) da_nil))) da_nil))))) (dx_v (de_slLo (dx_s 3 (pv 3)) (dx_v de_int))))) da_nil))))))) (pg_name (i := 8) sc__law_bent_kits.nd rfl (by first | exact .inl rfl | exact .inr rfl)) (dss_one (ds_wp [8] (ds_app (pv 2) (de_tup (da_cons (dx_v (de_v 4 (pv 4))) (da_cons (dx_v (de_v 5 (pv 5))) (da_cons (dx_v (de_tup (da_cons (dx_v (de_v 8 (pv 8))) da_nil))) (da_cons (dx_v (de_tup da_nil)) da_nil))))))))))
    (dss_cons (ds_set (i := 2) sc__law_bent_kits.nd rfl (by first | exact .inl rfl | exact .inr rfl) (np1 rfl) (de_op op_addA os_add (dx_s 2 (pv 2)) (dx_v (de_lst (da_cons (dx_v (de_tup (da_cons (dx_v (de_v 4 (pv 4))) (da_cons (dx_v (de_v 5 (pv 5))) (da_cons (dx_v (de_tup (da_cons (dx_v (de_op op_addA os_add (dx_v (de_op op_addA os_add (dx_v (de_slHi (dx_s 3 (pv 3)) (dx_v de_int))) (dx_v (de_tup (da_cons (dx_v (de_op op_addA os_add (dx_v (de_ix (ixD (ru65 hr)) os_ix (dx_s 3 (pv 3)) (dx_v de_int) (fun _ _ => rfl))) (dx_v (de_tup (da_cons (dx_v de_int) da_nil))))) da_nil))))) (dx_v (de_slLo (dx_s 3 (pv 3)) (dx_v de_int))))) da_nil))) (da_cons (dx_v (de_tup da_nil)) da_nil)))))) (da_cons (dx_v (de_tup (da_cons (dx_v (de_v 4 (pv 4))) (da_cons (dx_v (de_v 5 (pv 5))) (da_cons (dx_v (de_tup (da_cons (dx_v (de_slHi (dx_s 3 (pv 3)) (dx_v de_int))) da_nil))) (da_cons (dx_v (de_tup da_nil)) da_nil)))))) da_nil))))))
    (dss_one (ds_wp [3] (ds_app (pv 2) (de_tup (da_cons (dx_v (de_v 4 (pv 4))) (da_cons (dx_v (de_v 5 (pv 5))) (da_cons (dx_v (de_tup (da_cons (dx_v (de_op op_addA os_add (dx_v (de_slHi (dx_s 3 (pv 3)) (dx_v de_int))) (dx_v (de_tup (da_cons (dx_v de_bl) da_nil))))) da_nil))) (da_cons (dx_v (de_tup da_nil)) da_nil))))))))))))
    (dss_one (ds_ret (de_op op_addA os_add (dx_s 2 (pv 2)) (dx_v (de_lst (da_cons (dx_v de_non) (da_cons (dx_v de_int) (da_cons (dx_v de_str) (da_cons (dx_v (de_tup da_nil)) (da_cons (dx_v (de_lst da_nil)) (da_cons (dx_v de_dnew) (da_cons (dx_v (dcall c__law_kit_text hgd hr rfl (passes_call (takes_of rfl rfl rfl rfl) (fun _ _ _ _ h => h)) (da_cons (dx_v (de_v 1 (pv 1))) da_nil))) (da_cons (dx_v (de_tup (da_cons (dx_v (de_v 1 (pv 1))) da_nil))) (da_cons (dx_v (de_v 4 (pv 4))) (da_cons (dx_v de_bl) da_nil)))))))))))))))))))))))
abbrev s__law_great_kit : Stmt := topS 48
theorem sc__law_great_kit : FnScope ["_law_pen_here", "_law_lap", "_law_ranks", "_law_rows", "_law_turns_here", "_law_op", "_law_given", "_law_begin", "_law_part"] ["_law_pen_here"] (defScope s__law_great_kit) := ⟨rfl, rfl, rfl, by decide +kernel, rfl, by decide +kernel, by decide +kernel⟩
theorem ok__law_great_kit {f : Addr} {fd : FuncData} {k : Nat} (F : Fun K "_law_great_kit" "_law_great_kit" s__law_great_kit f fd) (hm : mg "_law_great_kit" = some (.ref f)) (hb : Binds K fd ["_law_pen_here"] []) (c__law_draw : CallOk P w K mg T k "_law_draw" ["_law_pen_here", "_law_many"] M__law_draw_2) (z_range : mg "range" = none) (z_tuple : mg "tuple" = none) : CallOk P w K mg T (k + 1) "_law_great_kit" ["_law_pen_here"] M__law_great_kit :=
  callOk_of F hm hb fun base => fnD F sc__law_great_kit rfl rfl (by decide) fun cdv A outer s H qv E hgd hr => (dss_cons (ds_par3 (i := 2) (j := 3) (l := 4) (npn rfl) rfl sc__law_great_kit.nd rfl rfl rfl (by decide) (by decide) (by decide) rfl rfl rfl (de_tup (da_cons (dx_v de_int) (da_cons (dx_v de_int) (da_cons (dx_v de_int) (da_cons (dx_v de_int) (da_cons (dx_v de_int) (da_cons (dx_v de_int) da_nil))))))) (de_lst da_nil) (de_lst da_nil))
    (dss_cons (ds_wp [1, 5, 6] (ds_for (npn rfl) (passes_of rfl) rfl (di_r1 rfl z_range (da_cons (dx_v de_int) da_nil)) (pg_name (i := 1) sc__law_great_kit.nd rfl (by first | exact .inl rfl | exact .inr rfl)) (dss_cons (ds_set (i := 5) sc__law_great_kit.nd rfl (by first | exact .inl rfl | exact .inr rfl) (np1 rfl) (dcall c__law_draw hgd hr rfl (passes_call (takes_of rfl rfl rfl rfl) (fun _ _ _ _ h => h)) (da_cons (dx_s 0 (pv 0)) (da_cons (dx_v de_int) da_nil))))
    (dss_cons (ds_set (i := 6) sc__law_great_kit.nd rfl (by first | exact .inl rfl | exact .inr rfl) (np1 rfl) (de_callTy call_tupleP os_tuple rfl z_tuple bt_tuple (da_cons (dx_v (de_lc (own := [("_law_part", 8)]) (npn rfl) (by decide) rfl sc__law_great_kit.nd (di_r1 rfl z_range (da_cons (dx_v (de_ix (ixD (ru65 hr)) os_ix (dx_s 2 (pv 2)) (dx_s 5 (pv 5)) (fun _ _ => rfl))) da_nil)) (blkOk_by (N := ["_law_pen_here", "_law_lap", "_law_ranks", "_law_rows", "_law_turns_here", "_law_op", "_law_given", "_law_begin", "_law_part"]) (sc := defScope s__law_great_kit) (own := [("_law_part", 8)]) (by decide +kernel)) (fun _ _ _ _ _ => (pg_name (i := 8) sc__law_great_kit.nd rfl (by first | exact .inl rfl | exact .inr rfl))) (fun _ _ _ _ _ => pts_yes) (fun _ _ _ _ _ => (dcall c__law_draw hgd hr rfl passL (da_cons (dx_s 0 (pv 0)) (da_cons (dx_v de_int) da_nil)))))) da_nil)))
    (dss_one (ds_wp [1, 5, 6] (ds_app (pv 3) (de_tup (da_cons (dx_v (dcall c__law_draw hgd hr rfl (passes_call (takes_of rfl rfl rfl rfl) (fun _ _ _ _ h => h)) (da_cons (dx_s 0 (pv 0)) (da_cons (dx_v de_int) da_nil)))) (da_cons (dx_v (de_v 5 (pv 5))) (da_cons (dx_v (de_v 6 (pv 6))) (da_cons (dx_v (dcall c__law_draw hgd hr rfl (passes_call (takes_of rfl rfl rfl rfl) (fun _ _ _ _ h => h)) (da_cons (dx_s 0 (pv 0)) (da_cons (dx_v de_int) da_nil)))) da_nil))))))))))))
    (dss_cons (ds_wp [1, 7] (ds_for (npn rfl) (passes_of rfl) rfl (di_r1 rfl z_range (da_cons (dx_v de_int) da_nil)) (pg_name (i := 1) sc__law_great_kit.nd rfl (by first | exact .inl rfl | exact .inr rfl)) (dss_cons (ds_set (i := 7) sc__law_great_kit.nd rfl (by first | exact .inl rfl | exact .inr rfl) (np1 rfl) (dcall c__law_draw hgd hr rfl (passes_call (takes_of rfl rfl rfl rfl) (fun _ _ _ _ h => h)) (da_cons (dx_s 0 (pv 0)) (da_cons (dx_v de_int) da_nil))))
    (dss_one (ds_wp [1, 7] (ds_app (pv 4) (de_tup (da_cons (dx_v (de_v 7 (pv 7))) (da_cons (dx_v (de_op op_mod os_mod (dx_v (de_op op_addA os_add (dx_v (de_op op_addA os_add (dx_s 7 (pv 7)) (dx_v de_int))) (dx_v (dcall c__law_draw hgd hr rfl (passes_call (takes_of rfl rfl rfl rfl) (fun _ _ _ _ h => h)) (da_cons (dx_s 0 (pv 0)) (da_cons (dx_v de_int) da_nil)))))) (dx_v de_int))) (da_cons (dx_v (dcall c__law_draw hgd hr rfl (passes_call (takes_of rfl rfl rfl rfl) (fun _ _ _ _ h => h)) (da_cons (dx_s 0 (pv 0)) (da_cons (dx_v de_int) da_nil)))) da_nil))))))))))
    (dss_one (ds_ret (de_tup (da_cons (dx_v (de_v 2 (pv 2))) (da_cons (dx_v de_int) (da_cons (dx_v (de_callTy call_tupleP os_tuple rfl z_tuple bt_tuple (da_cons (dx_s 3 (pv 3)) da_nil))) (da_cons (dx_v (de_callTy call_tupleP os_tuple rfl z_tuple bt_tuple (da_cons (dx_s 4 (pv 4)) da_nil))) da_nil))))))))))
abbrev s__law_kind : Stmt := topS 41
theorem sc__law_kind : FnScope ["_law_error", "_law_marks"] ["_law_error"] (defScope s__law_kind) := ⟨rfl, rfl, rfl, by decide +kernel, rfl, by decide +kernel, by decide +kernel⟩
theorem kd__law_kind {base : Heap} {gK : Addr} {k : Nat} {a C : Addr} {oe : Obj} {c : Str} {PEa : Addr} (XS : ExcSet K mg ["NoMachine", "NoText"] ["NoMachine", "NoText"] "PickError" PEa) (hc : c ∈ (["NoMachine", "NoText"] : List Str)) (hC : mg c = some (.ref C)) (hz : Zc (.ref C) none oe) (hv : ∃ vs, oe.data = .fields vs) (z_ValueError : mg "ValueError" = none) (z_isinstance : mg "isinstance" = none) : ∀ (cdv : Value) (A : Around) (outer : List PySem.Env) (s : Shared) (H : Hp), (A.deeper (envOfC "_law_kind" (defScope s__law_kind) s.heap.objs.size gK cdv)).guards = some [] → L2H.RoomH k (A.deeper (envOfC "_law_kind" (defScope s__law_kind) s.heap.objs.size gK cdv)) →
    DSs ⟨K, mg, ([0], (fun _ => .ref a), T), fun _ _ _ => False⟩ (L2H.cxH (L2.CX P w) P w K mg base ["_law_error", "_law_marks"] "_law_kind" (defScope s__law_kind) gK cdv A outer s H (fun _ _ _ => False) (a, oe)) (defBody s__law_kind) (b__law_kind_3 c) :=
  fun cdv A outer s H hgd hr => (dss_cons (ds_fz [1] (ds_set (i := 1) sc__law_kind.nd rfl (by first | exact .inl rfl | exact .inr rfl) (np1 rfl) (de_lst (da_cons (dx_v (de_isK XS hc hC (memS (by decide +kernel)) (.head _) hz hv rfl rfl z_isinstance (pv 0) rfl)) (da_cons (dx_v (de_isK XS hc hC (memS (by decide +kernel)) (.head _) hz hv rfl rfl z_isinstance (pv 0) rfl)) da_nil)))) nx_set)
    (dss_cons (ds_if (dw_t (dw_or (dt_cmp (op_neA (ruH64 hr)) os_ne (dx_v (de_count (ruH65 hr) (pv 1) (dx_v de_bl))) (dx_v de_int) (nomark _)) (dw_or1 (dt_not (dt_val (de_isVE XS hc hC (.head _) hz hv rfl rfl z_isinstance (pv 0) (pty rfl z_ValueError bt_ValueError))))))) (dss_one (ds_ret de_str)) dss_nil)
    (dss_one (ds_ret (de_ix (ixD (ruH65 hr)) os_ix (dx_v (de_lst (da_cons (dx_v de_str) (da_cons (dx_v de_str) da_nil)))) (dx_v (de_index (ruH65 hr) (pv 1) (dx_v de_bl))) (fun _ _ => rfl))))))
abbrev s__law_said : Stmt := topS 42
theorem sc__law_said : FnScope ["_law_call", "_law_error", "_law_word"] ["_law_call"] (defScope s__law_said) := ⟨rfl, rfl, rfl, by decide +kernel, rfl, by decide +kernel, by decide +kernel⟩
theorem su__law_said {base : Heap} {gS gK : Addr} {fdK : FuncData} {k : Nat} (F__law_kind : Fun K "_law_kind" "_law_kind" s__law_kind gK fdK) (m__law_kind : mg "_law_kind" = some (.ref gK)) (bn__law_kind : Binds K fdK ["_law_error"] []) {PEa : Addr} (XS : ExcSet K mg ["NoMachine", "NoText"] ["NoMachine", "NoText"] "PickError" PEa) (z_ValueError : mg "ValueError" = none) (z_isinstance : mg "isinstance" = none) : ∀ (cdv : Value) (A : Around) (outer : List PySem.Env) (s : Shared) (H : Hp), (A.deeper (envOfC "_law_said" (defScope s__law_said) s.heap.objs.size gS cdv)).guards = some [] → Room (k + 1) (A.deeper (envOfC "_law_said" (defScope s__law_said) s.heap.objs.size gS cdv)) → ∀ (a : Addr) (oe : Obj) (pn : List (Addr × Obj)) (y : Exn) (C : Addr), y.cls ∈ (["NoMachine", "NoText"] : List Str) → mg y.cls = some (.ref C) → Zc (.ref C) none oe → (∃ vs, oe.data = .fields vs) →
    DSs ⟨K, mg, ([1], (fun _ => .ref a), T), fun _ _ _ => False⟩ ((cxOf (L2.CX P w) P w K mg base ["_law_call", "_law_error", "_law_word"] "_law_said" (defScope s__law_said) gS cdv A outer s H (fun _ _ _ => False)).suite a ((a, oe) :: pn)) (suiteOf s__law_said) (b__law_said_6 y) :=
  fun cdv A outer s H hgd hr a oe pn y C hc hC hz hv => (dss_cons (ds_set (i := 2) sc__law_said.nd rfl (by first | exact .inl rfl | exact .inr rfl) (np1 rfl) (de_kind (a := a) (oe := oe) (i := 1) (k := k) (st := s__law_kind) (fb := b__law_kind_3 y.cls) (Ng := ["_law_error", "_law_marks"]) (.head _) rfl rfl m__law_kind F__law_kind.kp F__law_kind bn__law_kind sc__law_kind hgd ⟨hr.dp, hr.un⟩ (pv 1) (by decide) (kd__law_kind XS hc hC hz hv z_ValueError z_isinstance)))
    (dss_one (ds_ret (de_op op_addA os_add (dx_v de_str) (dx_s 2 (pv 2))))))
abbrev s_is_between : Stmt := topS 11
theorem sc_is_between : FnScope ["thing", "low", "high"] ["thing", "low", "high"] (defScope s_is_between) := ⟨rfl, rfl, rfl, by decide +kernel, rfl, by decide +kernel, by decide +kernel⟩
theorem ok_is_between {f : Addr} {fd : FuncData} {k : Nat} (F : Fun K "is_between" "is_between" s_is_between f fd) (hm : mg "is_between" = some (.ref f)) (hb : Binds K fd ["thing", "low", "high"] []) (z_bool : mg "bool" = none) (z_int : mg "int" = none) (z_isinstance : mg "isinstance" = none) : CallOk P w K mg T (k + 1) "is_between" ["thing", "low", "high"] M_is_between :=
  callOk_of F hm hb fun base => fnD F sc_is_between rfl rfl (by decide) fun cdv A outer s H qv E hgd hr => (dss_one (ds_ret (de_and (de_isi .int rfl z_isinstance bt_isinstance (dx_s 0 (pv 0)) (pty rfl z_int bt_int)) (de_and (de_not (de_isi .bool rfl z_isinstance bt_isinstance (dx_s 0 (pv 0)) (pty rfl z_bool bt_bool))) (de_one (de_chI op_le op_le (fun a b c => pe_chain op_le op_le a b c) (dx_s 1 (pv 1)) (dx_s 0 (pv 0)) (dx_s 2 (pv 2))))))))
abbrev s_is_arities : Stmt := topS 12
theorem sc_is_arities : FnScope ["thing", "arity"] ["thing"] (defScope s_is_arities) := ⟨rfl, rfl, rfl, by decide +kernel, rfl, by decide +kernel, by decide +kernel⟩
theorem ok_is_arities {f : Addr} {fd : FuncData} {k : Nat} (F : Fun K "is_arities" "is_arities" s_is_arities f fd) (hm : mg "is_arities" = some (.ref f)) (hb : Binds K fd ["thing"] []) (c_is_between : CallOk P w K mg T k "is_between" ["thing", "low", "high"] M_is_between) (z_all : mg "all" = none) (z_isinstance : mg "isinstance" = none) (z_len : mg "len" = none) (z_tuple : mg "tuple" = none) {t_MOST_ARITY : Tok} (g_MOST_ARITY : mg "MOST_ARITY" = some (.int 2 t_MOST_ARITY)) {t_MOST_OPERATORS : Tok} (g_MOST_OPERATORS : mg "MOST_OPERATORS" = some (.int 6 t_MOST_OPERATORS)) : CallOk P w K mg T (k + 1) "is_arities" ["thing"] M_is_arities :=
  callOk_of F hm hb fun base => fnD F sc_is_arities rfl rfl (by decide) fun cdv A outer s H qv E hgd hr => (dss_cons (ds_if (dw_t (dw_or (dt_not (dt_val (de_isi .tuple rfl z_isinstance bt_isinstance (dx_s 0 (pv 0)) (pty rfl z_tuple bt_tuple)))) (dw_or1 (dt_not (dt_chI (fun a b c => pt_chain op_le op_le a b c) (dx_v de_int) (dx_v (de_callB call_lenA os_len rfl z_len bt_len (da_cons (dx_s 0 (pv 0)) da_nil))) (dx_v (de_gint rfl g_MOST_OPERATORS))))))) (dss_one (ds_ret de_bl)) dss_nil)
    (dss_one (ds_ret (de_callB (cr_all rfl) os_all rfl z_all bt_all (da_cons (dx_v (de_lc (own := [("arity", 1)]) (npn rfl) (by decide) rfl sc_is_arities.nd (di_seq (dx_v (de_v 0 (pv 0)))) (blkOk_by (N := ["thing", "arity"]) (sc := defScope s_is_arities) (own := [("arity", 1)]) (by decide +kernel)) (fun _ _ _ _ _ => (pg_name (i := 1) sc_is_arities.nd rfl (by first | exact .inl rfl | exact .inr rfl))) (fun _ _ _ _ _ => pts_yes) (fun _ _ _ _ _ => (dcall c_is_between hgd hr rfl passL (da_cons (dx_v (de_v 1 (pv 1))) (da_cons (dx_v de_int) (da_cons (dx_v (de_gint rfl g_MOST_ARITY)) da_nil))))))) da_nil)))))
abbrev s_is_conversion : Stmt := topS 14
theorem sc_is_conversion : FnScope ["forms", "thing"] ["forms", "thing"] (defScope s_is_conversion) := ⟨rfl, rfl, rfl, by decide +kernel, rfl, by decide +kernel, by decide +kernel⟩
theorem ok_is_conversion {f : Addr} {fd : FuncData} {k : Nat} (F : Fun K "is_conversion" "is_conversion" s_is_conversion f fd) (hm : mg "is_conversion" = some (.ref f)) (hb : Binds K fd ["forms", "thing"] []) (c_is_between : CallOk P w K mg T k "is_between" ["thing", "low", "high"] M_is_between) (z_isinstance : mg "isinstance" = none) (z_len : mg "len" = none) (z_tuple : mg "tuple" = none) {t_MOST_PRICE : Tok} (g_MOST_PRICE : mg "MOST_PRICE" = some (.int 20 t_MOST_PRICE)) : CallOk P w K mg T (k + 1) "is_conversion" ["forms", "thing"] M_is_conversion :=
  callOk_of F hm hb fun base => fnD F sc_is_conversion rfl rfl (by decide) fun cdv A outer s H qv E hgd hr => (dss_cons (ds_if (dw_t (dw_or (dt_not (dt_val (de_isi .tuple rfl z_isinstance bt_isinstance (dx_s 1 (pv 1)) (pty rfl z_tuple bt_tuple)))) (dw_or (dt_cmp (op_neA (ru64 hr)) os_ne (dx_v (de_callB call_lenA os_len rfl z_len bt_len (da_cons (dx_s 1 (pv 1)) da_nil))) (dx_v de_int) (nomark _)) (dw_or1 (dt_not (dt_val (dcall c_is_between hgd hr rfl (passes_call (takes_of rfl rfl rfl rfl) (fun _ _ _ _ h => h)) (da_cons (dx_v (de_ix (ixD (ru65 hr)) os_ix (dx_s 1 (pv 1)) (dx_v de_int) (fun _ _ => rfl))) (da_cons (dx_v de_int) (da_cons (dx_v (de_gint rfl g_MOST_PRICE)) da_nil)))))))))) (dss_one (ds_ret de_bl)) dss_nil)
    (dss_one (ds_ret (de_and (dcall c_is_between hgd hr rfl (passes_call (takes_of rfl rfl rfl rfl) (fun _ _ _ _ h => h)) (da_cons (dx_v (de_ix (ixD (ru65 hr)) os_ix (dx_s 1 (pv 1)) (dx_v de_int) (fun _ _ => rfl))) (da_cons (dx_v de_int) (da_cons (dx_v (de_op op_sub os_sub (dx_s 0 (pv 0)) (dx_v de_int))) da_nil)))) (de_and (dcall c_is_between hgd hr rfl (passes_call (takes_of rfl rfl rfl rfl) (fun _ _ _ _ h => h)) (da_cons (dx_v (de_ix (ixD (ru65 hr)) os_ix (dx_s 1 (pv 1)) (dx_v de_int) (fun _ _ => rfl))) (da_cons (dx_v de_int) (da_cons (dx_v (de_op op_sub os_sub (dx_s 0 (pv 0)) (dx_v de_int))) da_nil)))) (de_one (de_cmp (op_neA (ru64 hr)) os_ne (dx_v (de_ix (ixD (ru65 hr)) os_ix (dx_s 1 (pv 1)) (dx_v de_int) (fun _ _ => rfl))) (dx_v (de_ix (ixD (ru65 hr)) os_ix (dx_s 1 (pv 1)) (dx_v de_int) (fun _ _ => rfl))) (nomark _))))))))
abbrev s_is_instruction : Stmt := topS 13
theorem sc_is_instruction : FnScope ["arities", "forms", "thing", "form"] ["arities", "forms", "thing"] (defScope s_is_instruction) := ⟨rfl, rfl, rfl, by decide +kernel, rfl, by decide +kernel, by decide +kernel⟩
theorem ok_is_instruction {f : Addr} {fd : FuncData} {k : Nat} (F : Fun K "is_instruction" "is_instruction" s_is_instruction f fd) (hm : mg "is_instruction" = some (.ref f)) (hb : Binds K fd ["arities", "forms", "thing"] []) (c_is_between : CallOk P w K mg T k "is_between" ["thing", "low", "high"] M_is_between) (z_all : mg "all" = none) (z_isinstance : mg "isinstance" = none) (z_len : mg "len" = none) (z_tuple : mg "tuple" = none) {t_MOST_PRICE : Tok} (g_MOST_PRICE : mg "MOST_PRICE" = some (.int 20 t_MOST_PRICE)) : CallOk P w K mg T (k + 1) "is_instruction" ["arities", "forms", "thing"] M_is_instruction :=
  callOk_of F hm hb fun base => fnD F sc_is_instruction rfl rfl (by decide) fun cdv A outer s H qv E hgd hr => (dss_cons (ds_if (dw_t (dw_or (dt_not (dt_val (de_isi .tuple rfl z_isinstance bt_isinstance (dx_s 2 (pv 2)) (pty rfl z_tuple bt_tuple)))) (dw_or (dt_cmp (op_neA (ru64 hr)) os_ne (dx_v (de_callB call_lenA os_len rfl z_len bt_len (da_cons (dx_s 2 (pv 2)) da_nil))) (dx_v de_int) (nomark _)) (dw_or1 (dt_not (dt_val (dcall c_is_between hgd hr rfl (passes_call (takes_of rfl rfl rfl rfl) (fun _ _ _ _ h => h)) (da_cons (dx_v (de_ix (ixD (ru65 hr)) os_ix (dx_s 2 (pv 2)) (dx_v de_int) (fun _ _ => rfl))) (da_cons (dx_v de_int) (da_cons (dx_v (de_op op_sub os_sub (dx_s 1 (pv 1)) (dx_v de_int))) da_nil)))))))))) (dss_one (ds_ret de_bl)) dss_nil)
    (dss_cons (ds_if (dw_t (dw_or (dt_not (dt_val (dcall c_is_between hgd hr rfl (passes_call (takes_of rfl rfl rfl rfl) (fun _ _ _ _ h => h)) (da_cons (dx_v (de_ix (ixD (ru65 hr)) os_ix (dx_s 2 (pv 2)) (dx_v de_int) (fun _ _ => rfl))) (da_cons (dx_v de_int) (da_cons (dx_v (de_op op_sub os_sub (dx_v (de_callB call_lenA os_len rfl z_len bt_len (da_cons (dx_s 0 (pv 0)) da_nil))) (dx_v de_int))) da_nil)))))) (dw_or1 (dt_not (dt_val (dcall c_is_between hgd hr rfl (passes_call (takes_of rfl rfl rfl rfl) (fun _ _ _ _ h => h)) (da_cons (dx_v (de_ix (ixD (ru65 hr)) os_ix (dx_s 2 (pv 2)) (dx_v de_int) (fun _ _ => rfl))) (da_cons (dx_v de_int) (da_cons (dx_v (de_gint rfl g_MOST_PRICE)) da_nil))))))))) (dss_one (ds_ret de_bl)) dss_nil)
    (dss_cons (ds_if (dw_t (dw_or (dt_not (dt_val (de_isi .tuple rfl z_isinstance bt_isinstance (dx_v (de_ix (ixD (ru65 hr)) os_ix (dx_s 2 (pv 2)) (dx_v de_int) (fun _ _ => rfl))) (pty rfl z_tuple bt_tuple)))) (dw_or1 (dt_cmp (op_neA (ru64 hr)) os_ne (dx_v (de_callB call_lenA os_len rfl z_len bt_len (da_cons (dx_v (de_ix (ixD (ru65 hr)) os_ix (dx_s 2 (pv 2)) (dx_v de_int) (fun _ _ => rfl))) da_nil))) (dx_v (de_ix (ixD (ru65 hr)) os_ix (dx_s 0 (pv 0)) (dx_v (de_ix (ixD (ru65 hr)) os_ix (dx_s 2 (pv 2)) (dx_v de_int) (fun _ _ => rfl))) (fun _ _ => rfl))) (nomark _))))) (dss_one (ds_ret de_bl)) dss_nil)
    (dss_one (ds_ret (de_callB (cr_all rfl) os_all rfl z_all bt_all (da_cons (dx_v (de_lc (own := [("form", 3)]) (npn rfl) (by decide) rfl sc_is_instruction.nd (di_seq (dx_v (de_ix (ixD (ru65 hr)) os_ix (dx_s 2 (pv 2)) (dx_v de_int) (fun _ _ => rfl)))) (blkOk_by (N := ["arities", "forms", "thing", "form"]) (sc := defScope s_is_instruction) (own := [("form", 3)]) (by decide +kernel)) (fun _ _ _ _ _ => (pg_name (i := 3) sc_is_instruction.nd rfl (by first | exact .inl rfl | exact .inr rfl))) (fun _ _ _ _ _ => pts_yes) (fun _ _ _ _ _ => (dcall c_is_between hgd hr rfl passL (da_cons (dx_v (de_v 3 (pv 3))) (da_cons (dx_v de_int) (da_cons (dx_v (de_op op_sub os_sub (dx_s 1 (pv 1)) (dx_v de_int))) da_nil))))))) da_nil)))))))
abbrev s_is_machine : Stmt := topS 15
theorem sc_is_machine : FnScope ["thing", "arities", "forms", "instructions", "conversions", "one"] ["thing"] (defScope s_is_machine) := ⟨rfl, rfl, rfl, by decide +kernel, rfl, by decide +kernel, by decide +kernel⟩
theorem ok_is_machine {f : Addr} {fd : FuncData} {k : Nat} (F : Fun K "is_machine" "is_machine" s_is_machine f fd) (hm : mg "is_machine" = some (.ref f)) (hb : Binds K fd ["thing"] []) (c_is_arities : CallOk P w K mg T k "is_arities" ["thing"] M_is_arities) (c_is_between : CallOk P w K mg T k "is_between" ["thing", "low", "high"] M_is_between) (c_is_conversion : CallOk P w K mg T k "is_conversion" ["forms", "thing"] M_is_conversion) (c_is_instruction : CallOk P w K mg T k "is_instruction" ["arities", "forms", "thing"] M_is_instruction) (z_all : mg "all" = none) (z_isinstance : mg "isinstance" = none) (z_len : mg "len" = none) (z_tuple : mg "tuple" = none) {t_MOST_CONVERSIONS : Tok} (g_MOST_CONVERSIONS : mg "MOST_CONVERSIONS" = some (.int 12 t_MOST_CONVERSIONS)) {t_MOST_FORMS : Tok} (g_MOST_FORMS : mg "MOST_FORMS" = some (.int 4 t_MOST_FORMS)) {t_MOST_INSTRUCTIONS : Tok} (g_MOST_INSTRUCTIONS : mg "MOST_INSTRUCTIONS" = some (.int 24 t_MOST_INSTRUCTIONS)) : CallOk P w K mg T (k + 1) "is_machine" ["thing"] M_is_machine :=
  callOk_of F hm hb fun base => fnD F sc_is_machine rfl rfl (by decide) fun cdv A outer s H qv E hgd hr => (dss_cons (ds_if (dw_t (dw_or (dt_not (dt_val (de_isi .tuple rfl z_isinstance bt_isinstance (dx_s 0 (pv 0)) (pty rfl z_tuple bt_tuple)))) (dw_or1 (dt_cmp (op_neA (ru64 hr)) os_ne (dx_v (de_callB call_lenA os_len rfl z_len bt_len (da_cons (dx_s 0 (pv 0)) da_nil))) (dx_v de_int) (nomark _))))) (dss_one (ds_ret de_bl)) dss_nil)
    (dss_cons (ds_asT (npn rfl) (de_v 0 (pv 0)) (pg_tup rfl (pgs_cons (pg_name (i := 1) sc_is_machine.nd rfl (by first | exact .inl rfl | exact .inr rfl)) (pgs_cons (pg_name (i := 2) sc_is_machine.nd rfl (by first | exact .inl rfl | exact .inr rfl)) (pgs_cons (pg_name (i := 3) sc_is_machine.nd rfl (by first | exact .inl rfl | exact .inr rfl)) (pgs_cons (pg_name (i := 4) sc_is_machine.nd rfl (by first | exact .inl rfl | exact .inr rfl)) pgs_nil))))))
    (dss_cons (ds_if (dw_t (dw_or (dt_not (dt_val (dcall c_is_arities hgd hr rfl (passes_call (takes_of rfl rfl rfl rfl) (fun _ _ _ _ h => h)) (da_cons (dx_v (de_v 1 (pv 1))) da_nil)))) (dw_or1 (dt_not (dt_val (dcall c_is_between hgd hr rfl (passes_call (takes_of rfl rfl rfl rfl) (fun _ _ _ _ h => h)) (da_cons (dx_v (de_v 2 (pv 2))) (da_cons (dx_v de_int) (da_cons (dx_v (de_gint rfl g_MOST_FORMS)) da_nil))))))))) (dss_one (ds_ret de_bl)) dss_nil)
    (dss_cons (ds_if (dw_t (dw_or (dt_not (dt_val (de_isi .tuple rfl z_isinstance bt_isinstance (dx_s 3 (pv 3)) (pty rfl z_tuple bt_tuple)))) (dw_or1 (dt_cmp op_gt os_cmI (dx_v (de_callB call_lenA os_len rfl z_len bt_len (da_cons (dx_s 3 (pv 3)) da_nil))) (dx_v (de_gint rfl g_MOST_INSTRUCTIONS)) (nomark _))))) (dss_one (ds_ret de_bl)) dss_nil)
    (dss_cons (ds_if (dw_t (dw_or (dt_not (dt_val (de_isi .tuple rfl z_isinstance bt_isinstance (dx_s 4 (pv 4)) (pty rfl z_tuple bt_tuple)))) (dw_or1 (dt_cmp op_gt os_cmI (dx_v (de_callB call_lenA os_len rfl z_len bt_len (da_cons (dx_s 4 (pv 4)) da_nil))) (dx_v (de_gint rfl g_MOST_CONVERSIONS)) (nomark _))))) (dss_one (ds_ret de_bl)) dss_nil)
    (dss_cons (ds_if (dt_not (dt_val (de_callB (cr_all rfl) os_all rfl z_all bt_all (da_cons (dx_v (de_lc (own := [("one", 5)]) (npn rfl) (by decide) rfl sc_is_machine.nd (di_seq (dx_v (de_v 3 (pv 3)))) (blkOk_by (N := ["thing", "arities", "forms", "instructions", "conversions", "one"]) (sc := defScope s_is_machine) (own := [("one", 5)]) (by decide +kernel)) (fun _ _ _ _ _ => (pg_name (i := 5) sc_is_machine.nd rfl (by first | exact .inl rfl | exact .inr rfl))) (fun _ _ _ _ _ => pts_yes) (fun _ _ _ _ _ => (dcall c_is_instruction hgd hr rfl passL (da_cons (dx_v (de_v 1 (pv 1))) (da_cons (dx_v (de_v 2 (pv 2))) (da_cons (dx_v (de_v 5 (pv 5))) da_nil))))))) da_nil)))) (dss_one (ds_ret de_bl)) dss_nil)
    (dss_one (ds_ret (de_callB (cr_all rfl) os_all rfl z_all bt_all (da_cons (dx_v (de_lc (own := [("one", 5)]) (npn rfl) (by decide) rfl sc_is_machine.nd (di_seq (dx_v (de_v 4 (pv 4)))) (blkOk_by (N := ["thing", "arities", "forms", "instructions", "conversions", "one"]) (sc := defScope s_is_machine) (own := [("one", 5)]) (by decide +kernel)) (fun _ _ _ _ _ => (pg_name (i := 5) sc_is_machine.nd rfl (by first | exact .inl rfl | exact .inr rfl))) (fun _ _ _ _ _ => pts_yes) (fun _ _ _ _ _ => (dcall c_is_conversion hgd hr rfl passL (da_cons (dx_v (de_v 2 (pv 2))) (da_cons (dx_v (de_v 5 (pv 5))) da_nil)))))) da_nil))))))))))
abbrev s_need_machine : Stmt := topS 16
theorem sc_need_machine : FnScope ["thing"] ["thing"] (defScope s_need_machine) := ⟨rfl, rfl, rfl, by decide +kernel, rfl, by decide +kernel, by decide +kernel⟩
theorem ok_need_machine {f : Addr} {fd : FuncData} {k : Nat} (F : Fun K "need_machine" "need_machine" s_need_machine f fd) (hm : mg "need_machine" = some (.ref f)) (hb : Binds K fd ["thing"] []) (c_is_machine : CallOk P w K mg T k "is_machine" ["thing"] M_is_machine) {PEa : Addr} (XS : ExcSet K mg ["NoMachine", "NoText"] ["NoMachine", "NoText"] "PickError" PEa) : CallOk P w K mg T (k + 1) "need_machine" ["thing"] M_need_machine_2 :=
  callOk_of F hm hb fun base => fnD F sc_need_machine rfl rfl (by decide) fun cdv A outer s H qv E hgd hr => (dss_one (ds_if (dt_not (dt_val (dcall c_is_machine hgd hr rfl (passes_call (takes_of rfl rfl rfl rfl) (fun _ _ _ _ h => h)) (da_cons (dx_v (de_v 0 (pv 0))) da_nil)))) (dss_one (ds_raiseS XS (memS (by decide +kernel)) rfl (takes_of rfl rfl rfl rfl) rfl)) dss_nil))
abbrev s_words_of : Stmt := topS 25
theorem sc_words_of : FnScope ["some", "one"] ["some"] (defScope s_words_of) := ⟨rfl, rfl, rfl, by decide +kernel, rfl, by decide +kernel, by decide +kernel⟩
theorem ok_words_of {f : Addr} {fd : FuncData} {k : Nat} (F : Fun K "words_of" "words_of" s_words_of f fd) (hm : mg "words_of" = some (.ref f)) (hb : Binds K fd ["some"] []) (z_str : mg "str" = none) : CallOk P w K mg T (k + 1) "words_of" ["some"] M_words_of :=
  callOk_of F hm hb fun base => fnD F sc_words_of rfl rfl (by decide) fun cdv A outer s H qv E hgd hr => (dss_one (ds_ret (de_lc (own := [("one", 1)]) (npn rfl) (by decide) rfl sc_words_of.nd (di_seq (dx_v (de_v 0 (pv 0)))) (blkOk_by (N := ["some", "one"]) (sc := defScope s_words_of) (own := [("one", 1)]) (by decide +kernel)) (fun _ _ _ _ _ => (pg_name (i := 1) sc_words_of.nd rfl (by first | exact .inl rfl | exact .inr rfl))) (fun _ _ _ _ _ => pts_yes) (fun _ _ _ _ _ => (de_callTy call_str_int os_str rfl z_str bt_str (da_cons (dx_s 1 (pv 1)) da_nil))))))
abbrev s_instruction_text : Stmt := topS 26
theorem sc_instruction_text : FnScope ["instruction", "form", "operator", "arguments", "price"] ["instruction"] (defScope s_instruction_text) := ⟨rfl, rfl, rfl, by decide +kernel, rfl, by decide +kernel, by decide +kernel⟩
theorem ok_instruction_text {f : Addr} {fd : FuncData} {k : Nat} (F : Fun K "instruction_text" "instruction_text" s_instruction_text f fd) (hm : mg "instruction_text" = some (.ref f)) (hb : Binds K fd ["instruction"] []) (c_words_of : CallOk P w K mg T k "words_of" ["some"] M_words_of) (z_str : mg "str" = none) {t_ARROW : Tok} (g_ARROW : mg "ARROW" = some (.str " <- " t_ARROW)) {t_AT : Tok} (g_AT : mg "AT" = some (.str "at" t_AT)) {t_COLON : Tok} (g_COLON : mg "COLON" = some (.str ":" t_COLON)) : CallOk P w K mg T (k + 1) "instruction_text" ["instruction"] M_instruction_text :=
  callOk_of F hm hb fun base => fnD F sc_instruction_text rfl rfl (by decide) fun cdv A outer s H qv E hgd hr => (dss_cons (ds_asT (npn rfl) (de_v 0 (pv 0)) (pg_tup rfl (pgs_cons (pg_name (i := 1) sc_instruction_text.nd rfl (by first | exact .inl rfl | exact .inr rfl)) (pgs_cons (pg_name (i := 2) sc_instruction_text.nd rfl (by first | exact .inl rfl | exact .inr rfl)) (pgs_cons (pg_name (i := 3) sc_instruction_text.nd rfl (by first | exact .inl rfl | exact .inr rfl)) (pgs_cons (pg_name (i := 4) sc_instruction_text.nd rfl (by first | exact .inl rfl | exact .inr rfl)) pgs_nil))))))
    (dss_one (ds_ret (de_join de_str (dx_v (de_op op_addA os_add (dx_v (de_op op_addA os_add (dx_v (de_lst (da_cons (dx_v (de_op op_addA os_add (dx_v (de_op op_addA os_add (dx_v (de_op op_addA os_add (dx_v (de_callTy call_str_int os_str rfl z_str bt_str (da_cons (dx_s 1 (pv 1)) da_nil))) (dx_v (de_gstr rfl g_ARROW)))) (dx_v (de_callTy call_str_int os_str rfl z_str bt_str (da_cons (dx_s 2 (pv 2)) da_nil))))) (dx_v (de_gstr rfl g_COLON)))) da_nil))) (dx_v (dcall c_words_of hgd hr rfl (passes_call (takes_of rfl rfl rfl rfl) (fun _ _ _ _ h => h)) (da_cons (dx_v (de_v 3 (pv 3))) da_nil))))) (dx_v (de_lst (da_cons (dx_v (de_gstr rfl g_AT)) (da_cons (dx_v (de_callTy call_str_int os_str rfl z_str bt_str (da_cons (dx_s 4 (pv 4)) da_nil))) da_nil))))))))))
abbrev s_conversion_text : Stmt := topS 27
theorem sc_conversion_text : FnScope ["conversion", "first", "last", "price"] ["conversion"] (defScope s_conversion_text) := ⟨rfl, rfl, rfl, by decide +kernel, rfl, by decide +kernel, by decide +kernel⟩
theorem ok_conversion_text {f : Addr} {fd : FuncData} {k : Nat} (F : Fun K "conversion_text" "conversion_text" s_conversion_text f fd) (hm : mg "conversion_text" = some (.ref f)) (hb : Binds K fd ["conversion"] []) (z_str : mg "str" = none) {t_ARROW : Tok} (g_ARROW : mg "ARROW" = some (.str " <- " t_ARROW)) {t_AT : Tok} (g_AT : mg "AT" = some (.str "at" t_AT)) : CallOk P w K mg T (k + 1) "conversion_text" ["conversion"] M_conversion_text :=
  callOk_of F hm hb fun base => fnD F sc_conversion_text rfl rfl (by decide) fun cdv A outer s H qv E hgd hr => (dss_cons (ds_asT (npn rfl) (de_v 0 (pv 0)) (pg_tup rfl (pgs_cons (pg_name (i := 1) sc_conversion_text.nd rfl (by first | exact .inl rfl | exact .inr rfl)) (pgs_cons (pg_name (i := 2) sc_conversion_text.nd rfl (by first | exact .inl rfl | exact .inr rfl)) (pgs_cons (pg_name (i := 3) sc_conversion_text.nd rfl (by first | exact .inl rfl | exact .inr rfl)) pgs_nil)))))
    (dss_one (ds_ret (de_op op_addA os_add (dx_v (de_op op_addA os_add (dx_v (de_op op_addA os_add (dx_v (de_op op_addA os_add (dx_v (de_op op_addA os_add (dx_v (de_op op_addA os_add (dx_v (de_callTy call_str_int os_str rfl z_str bt_str (da_cons (dx_s 2 (pv 2)) da_nil))) (dx_v (de_gstr rfl g_ARROW)))) (dx_v (de_callTy call_str_int os_str rfl z_str bt_str (da_cons (dx_s 1 (pv 1)) da_nil))))) (dx_v de_str))) (dx_v (de_gstr rfl g_AT)))) (dx_v de_str))) (dx_v (de_callTy call_str_int os_str rfl z_str bt_str (da_cons (dx_s 3 (pv 3)) da_nil)))))))
abbrev s_machine_text_of : Stmt := topS 28
theorem sc_machine_text_of : FnScope ["machine", "lines", "arities", "forms", "instructions", "conversions", "one", "line"] ["machine"] (defScope s_machine_text_of) := ⟨rfl, rfl, rfl, by decide +kernel, rfl, by decide +kernel, by decide +kernel⟩
theorem ok_machine_text_of {f : Addr} {fd : FuncData} {k : Nat} (F : Fun K "machine_text_of" "machine_text_of" s_machine_text_of f fd) (hm : mg "machine_text_of" = some (.ref f)) (hb : Binds K fd ["machine"] []) (c_conversion_text : CallOk P w K mg T k "conversion_text" ["conversion"] M_conversion_text) (c_instruction_text : CallOk P w K mg T k "instruction_text" ["instruction"] M_instruction_text) (c_words_of : CallOk P w K mg T k "words_of" ["some"] M_words_of) (z_str : mg "str" = none) {t_FORMS : Tok} (g_FORMS : mg "FORMS" = some (.str "forms " t_FORMS)) {t_OPERATORS : Tok} (g_OPERATORS : mg "OPERATORS" = some (.str "operators " t_OPERATORS)) : CallOk P w K mg T (k + 1) "machine_text_of" ["machine"] M_machine_text_of :=
  callOk_of F hm hb fun base => fnD F sc_machine_text_of rfl rfl (by decide) fun cdv A outer s H qv E hgd hr => (dss_cons (ds_asT (npn rfl) (de_v 0 (pv 0)) (pg_tup rfl (pgs_cons (pg_name (i := 2) sc_machine_text_of.nd rfl (by first | exact .inl rfl | exact .inr rfl)) (pgs_cons (pg_name (i := 3) sc_machine_text_of.nd rfl (by first | exact .inl rfl | exact .inr rfl)) (pgs_cons (pg_name (i := 4) sc_machine_text_of.nd rfl (by first | exact .inl rfl | exact .inr rfl)) (pgs_cons (pg_name (i := 5) sc_machine_text_of.nd rfl (by first | exact .inl rfl | exact .inr rfl)) pgs_nil))))))
    (dss_cons (ds_fz [1] (ds_set (i := 1) sc_machine_text_of.nd rfl (by first | exact .inl rfl | exact .inr rfl) (np1 rfl) (de_lst (da_cons (dx_v (de_op op_addA os_add (dx_v (de_gstr rfl g_FORMS)) (dx_v (de_callTy call_str_int os_str rfl z_str bt_str (da_cons (dx_s 3 (pv 3)) da_nil))))) (da_cons (dx_v (de_op op_addA os_add (dx_v (de_gstr rfl g_OPERATORS)) (dx_v (de_join de_str (dx_v (dcall c_words_of hgd hr rfl (passes_call (takes_of rfl rfl rfl rfl) (fun _ _ _ _ h => h)) (da_cons (dx_v (de_v 2 (pv 2))) da_nil))))))) da_nil)))) nx_set)
    (dss_cons (ds_fz [1] (ds_set (i := 1) sc_machine_text_of.nd rfl (by first | exact .inl rfl | exact .inr rfl) (np1 rfl) (de_op op_addA os_add (dx_s 1 (pv 1)) (dx_v (de_lc (own := [("one", 6)]) (npn rfl) (by decide) rfl sc_machine_text_of.nd (di_seq (dx_v (de_v 4 (pv 4)))) (blkOk_by (N := ["machine", "lines", "arities", "forms", "instructions", "conversions", "one", "line"]) (sc := defScope s_machine_text_of) (own := [("one", 6)]) (by decide +kernel)) (fun _ _ _ _ _ => (pg_name (i := 6) sc_machine_text_of.nd rfl (by first | exact .inl rfl | exact .inr rfl))) (fun _ _ _ _ _ => pts_yes) (fun _ _ _ _ _ => (dcall c_instruction_text hgd hr rfl passL (da_cons (dx_v (de_v 6 (pv 6))) da_nil))))))) nx_set)
    (dss_cons (ds_fz [1] (ds_set (i := 1) sc_machine_text_of.nd rfl (by first | exact .inl rfl | exact .inr rfl) (np1 rfl) (de_op op_addA os_add (dx_s 1 (pv 1)) (dx_v (de_lc (own := [("one", 6)]) (npn rfl) (by decide) rfl sc_machine_text_of.nd (di_seq (dx_v (de_v 5 (pv 5)))) (blkOk_by (N := ["machine", "lines", "arities", "forms", "instructions", "conversions", "one", "line"]) (sc := defScope s_machine_text_of) (own := [("one", 6)]) (by decide +kernel)) (fun _ _ _ _ _ => (pg_name (i := 6) sc_machine_text_of.nd rfl (by first | exact .inl rfl | exact .inr rfl))) (fun _ _ _ _ _ => pts_yes) (fun _ _ _ _ _ => (dcall c_conversion_text hgd hr rfl passL (da_cons (dx_v (de_v 6 (pv 6))) da_nil))))))) nx_set)
    (dss_one (ds_ret (de_join de_str (dx_v (de_lc (own := [("line", 7)]) (npn rfl) (by decide) rfl sc_machine_text_of.nd (di_seq (dx_v (de_v 1 (pv 1)))) (blkOk_by (N := ["machine", "lines", "arities", "forms", "instructions", "conversions", "one", "line"]) (sc := defScope s_machine_text_of) (own := [("line", 7)]) (by decide +kernel)) (fun _ _ _ _ _ => (pg_name (i := 7) sc_machine_text_of.nd rfl (by first | exact .inl rfl | exact .inr rfl))) (fun _ _ _ _ _ => pts_yes) (fun _ _ _ _ _ => (de_op op_addA os_add (dx_s 7 (pv 7)) (dx_v de_str))))))))))))
abbrev s_machine_text : Stmt := topS 29
theorem sc_machine_text : FnScope ["machine"] ["machine"] (defScope s_machine_text) := ⟨rfl, rfl, rfl, by decide +kernel, rfl, by decide +kernel, by decide +kernel⟩
theorem ok_machine_text {f : Addr} {fd : FuncData} {k : Nat} (F : Fun K "machine_text" "machine_text" s_machine_text f fd) (hm : mg "machine_text" = some (.ref f)) (hb : Binds K fd ["machine"] []) (c_machine_text_of : CallOk P w K mg T k "machine_text_of" ["machine"] M_machine_text_of) (c_need_machine : CallOk P w K mg T k "need_machine" ["thing"] M_need_machine_2) : CallOk P w K mg T (k + 1) "machine_text" ["machine"] M_machine_text :=
  callOk_of F hm hb fun base => fnD F sc_machine_text rfl rfl (by decide) fun cdv A outer s H qv E hgd hr => (dss_cons (ds_expr (dcall c_need_machine hgd hr rfl (passes_call (takes_of rfl rfl rfl rfl) (fun _ _ _ _ h => h)) (da_cons (dx_v (de_v 0 (pv 0))) da_nil)))
    (dss_one (ds_ret (dcall c_machine_text_of hgd hr rfl (passes_call (takes_of rfl rfl rfl rfl) (fun _ _ _ _ h => h)) (da_cons (dx_v (de_v 0 (pv 0))) da_nil)))))
abbrev s_number_read : Stmt := topS 24
theorem sc_number_read : FnScope ["text", "sign"] ["text"] (defScope s_number_read) := ⟨rfl, rfl, rfl, by decide +kernel, rfl, by decide +kernel, by decide +kernel⟩
theorem ok_number_read {f : Addr} {fd : FuncData} {k : Nat} (F : Fun K "number_read" "number_read" s_number_read f fd) (hm : mg "number_read" = some (.ref f)) (hb : Binds K fd ["text"] []) (z_int : mg "int" = none) {t_DIGITS : Tok} (g_DIGITS : mg "DIGITS" = some (.str "0123456789" t_DIGITS)) : CallOk P w K mg T (k + 1) "number_read" ["text"] M__law_number_in :=
  callOk_of F hm hb fun base => fnD F sc_number_read rfl rfl (by decide) fun cdv A outer s H qv E hgd hr => (dss_cons (ds_if (dw_t (dw_or (dt_cmp (op_eqA (ru64 hr)) os_eq (dx_s 0 (pv 0)) (dx_v de_str) (nomark _)) (dw_or (dt_cmp (op_neA (ru64 hr)) os_ne (dx_v (de_lc (own := [("sign", 1)]) (npn rfl) (by decide) rfl sc_number_read.nd (di_sg (dx_s 0 (pv 0))) (blkOk_by (N := ["text", "sign"]) (sc := defScope s_number_read) (own := [("sign", 1)]) (by decide +kernel)) (fun _ _ _ _ _ => (pg_name (i := 1) sc_number_read.nd rfl (by first | exact .inl rfl | exact .inr rfl))) (fun _ _ _ _ _ => (pts_one (dt_cmp op_notInS (os_inS true) (dx_s 1 (pv 1)) (dx_v (de_gstr rfl g_DIGITS)) rfl))) (fun _ _ _ _ _ => (de_v 1 (pv 1))))) (dx_v (de_lst da_nil)) (nomark _)) (dw_or1 (dw_t (dw_and (dt_cmp (op_eqA (ru64 hr)) os_eq (dx_v (de_ix (ixD (ru65 hr)) os_ix (dx_s 0 (pv 0)) (dx_v de_int) (fun _ _ => rfl))) (dx_v de_str) (nomark _)) (dw_and1 (dt_cmp (op_neA (ru64 hr)) os_ne (dx_s 0 (pv 0)) (dx_v de_str) (nomark _))))))))) (dss_one (ds_ret de_non)) dss_nil)
    (dss_one (ds_ret (de_callTy call_int_str os_intT rfl z_int bt_int (da_cons (dx_s 0 (pv 0)) da_nil)))))
abbrev s_numbers_in : Stmt := topS 30
theorem sc_numbers_in : FnScope ["words", "word"] ["words"] (defScope s_numbers_in) := ⟨rfl, rfl, rfl, by decide +kernel, rfl, by decide +kernel, by decide +kernel⟩
theorem ok_numbers_in {f : Addr} {fd : FuncData} {k : Nat} (F : Fun K "numbers_in" "numbers_in" s_numbers_in f fd) (hm : mg "numbers_in" = some (.ref f)) (hb : Binds K fd ["words"] []) (c_number_read : CallOk P w K mg T k "number_read" ["text"] M__law_number_in) : CallOk P w K mg T (k + 1) "numbers_in" ["words"] M_numbers_in :=
  callOk_of F hm hb fun base => fnD F sc_numbers_in rfl rfl (by decide) fun cdv A outer s H qv E hgd hr => (dss_one (ds_ret (de_lc (own := [("word", 1)]) (npn rfl) (by decide) rfl sc_numbers_in.nd (di_seq (dx_v (de_v 0 (pv 0)))) (blkOk_by (N := ["words", "word"]) (sc := defScope s_numbers_in) (own := [("word", 1)]) (by decide +kernel)) (fun _ _ _ _ _ => (pg_name (i := 1) sc_numbers_in.nd rfl (by first | exact .inl rfl | exact .inr rfl))) (fun _ _ _ _ _ => pts_yes) (fun _ _ _ _ _ => (dcall c_number_read hgd hr rfl passL (da_cons (dx_v (de_v 1 (pv 1))) da_nil))))))
abbrev s_instruction_in : Stmt := topS 31
theorem sc_instruction_in : FnScope ["words", "numbers"] ["words"] (defScope s_instruction_in) := ⟨rfl, rfl, rfl, by decide +kernel, rfl, by decide +kernel, by decide +kernel⟩
theorem ok_instruction_in {f : Addr} {fd : FuncData} {k : Nat} (F : Fun K "instruction_in" "instruction_in" s_instruction_in f fd) (hm : mg "instruction_in" = some (.ref f)) (hb : Binds K fd ["words"] []) (c_numbers_in : CallOk P w K mg T k "numbers_in" ["words"] M_numbers_in) (z_tuple : mg "tuple" = none) : CallOk P w K mg T (k + 1) "instruction_in" ["words"] M_instruction_in :=
  callOk_of F hm hb fun base => fnD F sc_instruction_in rfl rfl (by decide) fun cdv A outer s H qv E hgd hr => (dss_cons (ds_fz [1] (ds_set (i := 1) sc_instruction_in.nd rfl (by first | exact .inl rfl | exact .inr rfl) (np1 rfl) (dcall c_numbers_in hgd hr rfl (passes_call (takes_of rfl rfl rfl rfl) (fun _ _ _ _ h => h)) (da_cons (dx_v (de_op op_addA os_add (dx_v (de_op op_addA os_add (dx_v (de_lst (da_cons (dx_v (de_ix (ixD (ru65 hr)) os_ix (dx_s 0 (pv 0)) (dx_v de_int) (fun _ _ => rfl))) (da_cons (dx_v (de_slHi (dx_v (de_ix (ixD (ru65 hr)) os_ix (dx_s 0 (pv 0)) (dx_v de_int) (fun _ _ => rfl))) (dx_v (de_un un_neg os_neg (dx_v de_int))))) da_nil)))) (dx_v (de_slc (dx_s 0 (pv 0)) pe_int pe_negc)))) (dx_v (de_lst (da_cons (dx_v (de_ix (ixD (ru65 hr)) os_ix (dx_s 0 (pv 0)) (dx_v (de_un un_neg os_neg (dx_v de_int))) (fun _ _ => rfl))) da_nil))))) da_nil))) nx_set)
    (dss_one (ds_ret (de_tup (da_cons (dx_v (de_ix (ixD (ru65 hr)) os_ix (dx_s 1 (pv 1)) (dx_v de_int) (fun _ _ => rfl))) (da_cons (dx_v (de_ix (ixD (ru65 hr)) os_ix (dx_s 1 (pv 1)) (dx_v de_int) (fun _ _ => rfl))) (da_cons (dx_v (de_callTy call_tupleP os_tuple rfl z_tuple bt_tuple (da_cons (dx_v (de_slc (dx_s 1 (pv 1)) pe_int pe_negc)) da_nil))) (da_cons (dx_v (de_ix (ixD (ru65 hr)) os_ix (dx_s 1 (pv 1)) (dx_v (de_un un_neg os_neg (dx_v de_int))) (fun _ _ => rfl))) da_nil))))))))
abbrev s_conversion_in : Stmt := topS 32
theorem sc_conversion_in : FnScope ["words", "numbers"] ["words"] (defScope s_conversion_in) := ⟨rfl, rfl, rfl, by decide +kernel, rfl, by decide +kernel, by decide +kernel⟩
theorem ok_conversion_in {f : Addr} {fd : FuncData} {k : Nat} (F : Fun K "conversion_in" "conversion_in" s_conversion_in f fd) (hm : mg "conversion_in" = some (.ref f)) (hb : Binds K fd ["words"] []) (c_numbers_in : CallOk P w K mg T k "numbers_in" ["words"] M_numbers_in) (z_tuple : mg "tuple" = none) : CallOk P w K mg T (k + 1) "conversion_in" ["words"] M_conversion_in :=
  callOk_of F hm hb fun base => fnD F sc_conversion_in rfl rfl (by decide) fun cdv A outer s H qv E hgd hr => (dss_cons (ds_fz [1] (ds_set (i := 1) sc_conversion_in.nd rfl (by first | exact .inl rfl | exact .inr rfl) (np1 rfl) (dcall c_numbers_in hgd hr rfl (passes_call (takes_of rfl rfl rfl rfl) (fun _ _ _ _ h => h)) (da_cons (dx_v (de_lst (da_cons (dx_v (de_ix (ixD (ru65 hr)) os_ix (dx_s 0 (pv 0)) (dx_v de_int) (fun _ _ => rfl))) (da_cons (dx_v (de_ix (ixD (ru65 hr)) os_ix (dx_s 0 (pv 0)) (dx_v de_int) (fun _ _ => rfl))) (da_cons (dx_v (de_ix (ixD (ru65 hr)) os_ix (dx_s 0 (pv 0)) (dx_v (de_un un_neg os_neg (dx_v de_int))) (fun _ _ => rfl))) da_nil))))) da_nil))) nx_set)
    (dss_one (ds_ret (de_callTy call_tupleP os_tuple rfl z_tuple bt_tuple (da_cons (dx_s 1 (pv 1)) da_nil)))))
abbrev s_machine_read : Stmt := topS 33
theorem sc_machine_read : FnScope ["text", "lines", "rows", "first", "last", "arities", "found", "line", "words"] ["text"] (defScope s_machine_read) := ⟨rfl, rfl, rfl, by decide +kernel, rfl, by decide +kernel, by decide +kernel⟩
theorem ok_machine_read {f : Addr} {fd : FuncData} {k : Nat} (F : Fun K "machine_read" "machine_read" s_machine_read f fd) (hm : mg "machine_read" = some (.ref f)) (hb : Binds K fd ["text"] []) (c_conversion_in : CallOk P w K mg T k "conversion_in" ["words"] M_conversion_in) (c_instruction_in : CallOk P w K mg T k "instruction_in" ["words"] M_instruction_in) (c_is_machine : CallOk P w K mg T k "is_machine" ["thing"] M_is_machine) (c_machine_text_of : CallOk P w K mg T k "machine_text_of" ["machine"] M_machine_text_of) (c_number_read : CallOk P w K mg T k "number_read" ["text"] M__law_number_in) (c_numbers_in : CallOk P w K mg T k "numbers_in" ["words"] M_numbers_in) (z_len : mg "len" = none) (z_tuple : mg "tuple" = none) {t_COLON : Tok} (g_COLON : mg "COLON" = some (.str ":" t_COLON)) {t_FORMS : Tok} (g_FORMS : mg "FORMS" = some (.str "forms " t_FORMS)) {t_OPERATORS : Tok} (g_OPERATORS : mg "OPERATORS" = some (.str "operators " t_OPERATORS)) : CallOk P w K mg T (k + 1) "machine_read" ["text"] M_machine_read :=
  callOk_of F hm hb fun base => fnD F sc_machine_read rfl rfl (by decide) fun cdv A outer s H qv E hgd hr => (dss_cons (ds_fz [1] (ds_set (i := 1) sc_machine_read.nd rfl (by first | exact .inl rfl | exact .inr rfl) (np1 rfl) (de_split (de_v 0 (pv 0)) (dx_v de_str))) nx_set)
    (dss_cons (ds_if (dw_t (dw_or (dt_cmp op_lt os_cmI (dx_v (de_callB call_lenA os_len rfl z_len bt_len (da_cons (dx_s 1 (pv 1)) da_nil))) (dx_v de_int) (nomark _)) (dw_or1 (dt_cmp (op_neA (ru64 hr)) os_ne (dx_v (de_ix (ixD (ru65 hr)) os_ix (dx_s 1 (pv 1)) (dx_v (de_un un_neg os_neg (dx_v de_int))) (fun _ _ => rfl))) (dx_v de_str) (nomark _))))) (dss_one (ds_ret de_non)) dss_nil)
    (dss_cons (ds_fz [2] (ds_setLc (i := 2) (own := [("line", 7)]) (np1 rfl) (npn rfl) (by decide) rfl sc_machine_read.nd rfl rfl (sw_true rfl rfl rfl (by decide +kernel)) (di_seq (dx_v (de_slc (dx_s 1 (pv 1)) pe_int pe_negc))) (blkOk_by (N := ["text", "lines", "rows", "first", "last", "arities", "found", "line", "words"]) (sc := defScope s_machine_read) (own := [("line", 7)]) (by decide +kernel)) (fun _ _ _ _ _ => (pg_name (i := 7) sc_machine_read.nd rfl (by first | exact .inl rfl | exact .inr rfl))) (fun _ _ _ _ _ => pts_yes) (fun _ _ _ _ _ => (de_split (de_v 7 (pv 7)) (dx_v de_str)))) nx_set)
    (dss_cons (ds_if (dt_cmp (op_neA (ru64 hr)) os_ne (dx_v (de_lc (own := [("words", 8)]) (npn rfl) (by decide) rfl sc_machine_read.nd (di_seq (dx_v (de_v 2 (pv 2)))) (blkOk_by (N := ["text", "lines", "rows", "first", "last", "arities", "found", "line", "words"]) (sc := defScope s_machine_read) (own := [("words", 8)]) (by decide +kernel)) (fun _ _ _ _ _ => (pg_name (i := 8) sc_machine_read.nd rfl (by first | exact .inl rfl | exact .inr rfl))) (fun _ _ _ _ _ => (pts_one (dt_cmp op_lt os_cmI (dx_v (de_callB call_lenA os_len rfl z_len bt_len (da_cons (dx_s 8 (pv 8)) da_nil))) (dx_v de_int) (nomark _)))) (fun _ _ _ _ _ => (de_v 8 (pv 8))))) (dx_v (de_lst da_nil)) (nomark _)) (dss_one (ds_ret de_non)) dss_nil)
    (dss_cons (ds_set (i := 3) sc_machine_read.nd rfl (by first | exact .inl rfl | exact .inr rfl) (np1 rfl) (de_callTy call_tupleP os_tuple rfl z_tuple bt_tuple (da_cons (dx_v (de_lc (own := [("words", 8)]) (npn rfl) (by decide) rfl sc_machine_read.nd (di_seq (dx_v (de_v 2 (pv 2)))) (blkOk_by (N := ["text", "lines", "rows", "first", "last", "arities", "found", "line", "words"]) (sc := defScope s_machine_read) (own := [("words", 8)]) (by decide +kernel)) (fun _ _ _ _ _ => (pg_name (i := 8) sc_machine_read.nd rfl (by first | exact .inl rfl | exact .inr rfl))) (fun _ _ _ _ _ => (pts_one (dt_cmp op_inS (os_inS false) (dx_v (de_gstr rfl g_COLON)) (dx_v (de_ix (ixD (ru65 hr)) os_ix (dx_s 8 (pv 8)) (dx_v de_int) (fun _ _ => rfl))) rfl))) (fun _ _ _ _ _ => (dcall c_instruction_in hgd hr rfl passL (da_cons (dx_v (de_v 8 (pv 8))) da_nil))))) da_nil)))
    (dss_cons (ds_set (i := 4) sc_machine_read.nd rfl (by first | exact .inl rfl | exact .inr rfl) (np1 rfl) (de_callTy call_tupleP os_tuple rfl z_tuple bt_tuple (da_cons (dx_v (de_lc (own := [("words", 8)]) (npn rfl) (by decide) rfl sc_machine_read.nd (di_seq (dx_v (de_v 2 (pv 2)))) (blkOk_by (N := ["text", "lines", "rows", "first", "last", "arities", "found", "line", "words"]) (sc := defScope s_machine_read) (own := [("words", 8)]) (by decide +kernel)) (fun _ _ _ _ _ => (pg_name (i := 8) sc_machine_read.nd rfl (by first | exact .inl rfl | exact .inr rfl))) (fun _ _ _ _ _ => (pts_one (dt_cmp op_notInS (os_inS true) (dx_v (de_gstr rfl g_COLON)) (dx_v (de_ix (ixD (ru65 hr)) os_ix (dx_s 8 (pv 8)) (dx_v de_int) (fun _ _ => rfl))) rfl))) (fun _ _ _ _ _ => (dcall c_conversion_in hgd hr rfl passL (da_cons (dx_v (de_v 8 (pv 8))) da_nil))))) da_nil)))
    (dss_cons (ds_set (i := 5) sc_machine_read.nd rfl (by first | exact .inl rfl | exact .inr rfl) (np1 rfl) (de_callTy call_tupleP os_tuple rfl z_tuple bt_tuple (da_cons (dx_v (dcall c_numbers_in hgd hr rfl (passes_call (takes_of rfl rfl rfl rfl) (fun _ _ _ _ h => h)) (da_cons (dx_v (de_split (de_slLo (dx_v (de_ix (ixD (ru65 hr)) os_ix (dx_s 1 (pv 1)) (dx_v de_int) (fun _ _ => rfl))) (dx_v (de_callB call_lenA os_len rfl z_len bt_len (da_cons (dx_v (de_gstr rfl g_OPERATORS)) da_nil)))) (dx_v de_str))) da_nil))) da_nil)))
    (dss_cons (ds_set (i := 6) sc_machine_read.nd rfl (by first | exact .inl rfl | exact .inr rfl) (np1 rfl) (de_tup (da_cons (dx_v (de_v 5 (pv 5))) (da_cons (dx_v (dcall c_number_read hgd hr rfl (passes_call (takes_of rfl rfl rfl rfl) (fun _ _ _ _ h => h)) (da_cons (dx_v (de_slLo (dx_v (de_ix (ixD (ru65 hr)) os_ix (dx_s 1 (pv 1)) (dx_v de_int) (fun _ _ => rfl))) (dx_v (de_callB call_lenA os_len rfl z_len bt_len (da_cons (dx_v (de_gstr rfl g_FORMS)) da_nil))))) da_nil))) (da_cons (dx_v (de_v 3 (pv 3))) (da_cons (dx_v (de_v 4 (pv 4))) da_nil))))))
    (dss_one (ds_ret (de_if (dw_t (dw_and (dt_val (dcall c_is_machine hgd hr rfl (passes_call (takes_of rfl rfl rfl rfl) (fun _ _ _ _ h => h)) (da_cons (dx_v (de_v 6 (pv 6))) da_nil))) (dw_and1 (dt_cmp (op_eqA (ru64 hr)) os_eq (dx_v (dcall c_machine_text_of hgd hr rfl (passes_call (takes_of rfl rfl rfl rfl) (fun _ _ _ _ h => h)) (da_cons (dx_v (de_v 6 (pv 6))) da_nil))) (dx_s 0 (pv 0)) (nomark _))))) (de_v 6 (pv 6)) de_non)))))))))))
abbrev s_read_machine : Stmt := topS 34
theorem sc_read_machine : FnScope ["text", "found"] ["text"] (defScope s_read_machine) := ⟨rfl, rfl, rfl, by decide +kernel, rfl, by decide +kernel, by decide +kernel⟩
theorem ok_read_machine {f : Addr} {fd : FuncData} {k : Nat} (F : Fun K "read_machine" "read_machine" s_read_machine f fd) (hm : mg "read_machine" = some (.ref f)) (hb : Binds K fd ["text"] []) (c_machine_read : CallOk P w K mg T k "machine_read" ["text"] M_machine_read) (z_isinstance : mg "isinstance" = none) (z_str : mg "str" = none) {PEa : Addr} (XS : ExcSet K mg ["NoMachine", "NoText"] ["NoMachine", "NoText"] "PickError" PEa) : CallOk P w K mg T (k + 1) "read_machine" ["text"] M_read_machine :=
  callOk_of F hm hb fun base => fnD F sc_read_machine rfl rfl (by decide) fun cdv A outer s H qv E hgd hr => (dss_cons (ds_set (i := 1) sc_read_machine.nd rfl (by first | exact .inl rfl | exact .inr rfl) (np1 rfl) (de_if (dt_val (de_isi .str rfl z_isinstance bt_isinstance (dx_s 0 (pv 0)) (pty rfl z_str bt_str))) (dcall c_machine_read hgd hr rfl (passes_call (takes_of rfl rfl rfl rfl) (fun _ _ _ _ h => h)) (da_cons (dx_v (de_v 0 (pv 0))) da_nil)) de_non))
    (dss_cons (ds_if (dt_cmp op_isN os_is (dx_s 1 (pv 1)) (dx_v de_non) (nomark _)) (dss_one (ds_raiseS XS (memS (by decide +kernel)) rfl (takes_of rfl rfl rfl rfl) rfl)) dss_nil)
    (dss_one (ds_ret (de_m 1 (pv 1))))))
abbrev s__law_right : Stmt := topS 49
theorem sc__law_right : FnScope ["_law_kit_here", "_law_lap", "_law_kept", "_law_due", "_law_words"] ["_law_kit_here"] (defScope s__law_right) := ⟨rfl, rfl, rfl, by decide +kernel, rfl, by decide +kernel, by decide +kernel⟩
theorem ok__law_right {f : Addr} {fd : FuncData} {k : Nat} (F : Fun K "_law_right" "_law_right" s__law_right f fd) {base : Heap} (hm : mg "_law_right" = some (.ref f)) (hb : Binds K fd ["_law_kit_here"] []) (c__law_kit_text : CallOk P w K mg T k "_law_kit_text" ["_law_kit_here"] M__law_kit_text) (c_machine_text : CallOk P w K mg T k "machine_text" ["machine"] M_machine_text) (c_read_machine : CallOk P w K mg T k "read_machine" ["text"] M_read_machine) (z_ValueError : mg "ValueError" = none) (z_isinstance : mg "isinstance" = none) (z_range : mg "range" = none) (z_repr : mg "repr" = none) {PEa : Addr} (XS : ExcSet K mg ["NoMachine", "NoText"] ["NoMachine", "NoText"] "PickError" PEa) {f_law_said : Addr} {fd_law_said : FuncData} (F__law_said : Fun K "_law_said" "_law_said" s__law_said f_law_said fd_law_said) (m__law_said : mg "_law_said" = some (.ref f_law_said)) (bn__law_said : Binds K fd_law_said ["_law_call"] []) {f_law_kind : Addr} {fd_law_kind : FuncData} (F__law_kind : Fun K "_law_kind" "_law_kind" s__law_kind f_law_kind fd_law_kind) (m__law_kind : mg "_law_kind" = some (.ref f_law_kind)) (bn__law_kind : Binds K fd_law_kind ["_law_error"] []) {ca Pt : Addr} (TB : LamX.TabB base mg ca Pt) (hca : fd.code = .ref ca) (hmT : (Pt, lamN "_law_right") ∈ T) (hu : ∀ p ∈ T, p.1 = Pt → p.2 = lamN "_law_right") : CallB P w K mg base T (k + 3) "_law_right" ["_law_kit_here"] M__law_right_16 :=
  callB_of F hm hb (fnDc F sc__law_right rfl rfl (by decide) fun cdv hcv A outer s H qv E hgd hr => have hcd := hcv.symm.trans hca; (dss_cons (ds_parC (i := 2) (j := 3) (np1 rfl) (np1 rfl) (pg_tup rfl (pgs_cons (pg_name (i := 2) sc__law_right.nd rfl (by first | exact .inl rfl | exact .inr rfl)) (pgs_cons (pg_name (i := 3) sc__law_right.nd rfl (by first | exact .inl rfl | exact .inr rfl)) pgs_nil))) (de_callB (cr_repr hgd hr) os_repr rfl z_repr bt_repr (da_cons (dx_s 0 (pv 0)) da_nil)) (dcall (c__law_kit_text.mono (Nat.le_add_right _ 2)) hgd hr rfl (passes_call (takes_of rfl rfl rfl rfl) (fun _ _ _ _ h => h)) (da_cons (dx_v (de_v 0 (pv 0))) da_nil)))
    (dss_cons (ds_wp [1, 3, 4] (ds_for (npn rfl) (passes_of rfl) rfl (di_r1 rfl z_range (da_cons (dx_v de_int) da_nil)) (pg_name (i := 1) sc__law_right.nd rfl (by first | exact .inl rfl | exact .inr rfl)) (dss_cons (ds_set (i := 4) sc__law_right.nd rfl (by first | exact .inl rfl | exact .inr rfl) (np1 rfl) (de_lst (da_cons (dx_v (de_said (xs := "_law_said") (aN := "_law_call") (n := "_law_error") (ex := "PickError") (gS := f_law_said) (c := ca) (P := Pt) (PE := PEa) (fd := fd_law_said) (st := s__law_said) (Ng := ["_law_call", "_law_error", "_law_word"]) (k := k) (L := ["NoMachine", "NoText"]) (caps := [0]) (ws := [1, 2, 3, 4]) (i := 1) (fb := F1__law_right_16) (h := b__law_said_6) rfl m__law_said F__law_said.kp F__law_said bn__law_said sc__law_said rfl rfl (.inl rfl) rfl rfl rfl rfl z_repr XS.pe TB hcd hmT hu hgd hr (LamX.lamS_by (sc := defScope s__law_right) (by decide +kernel)) rfl (fun _ _ _ _ _ => rfl) (fun y hy => let ⟨C, _, _, t, _⟩ := XS.ok y hy; ⟨C, t⟩) (fun A outer s H E f c' hgd hr => (dcall c_machine_text hgd hr rfl (passes_call (takes_of rfl rfl rfl rfl) (fun _ _ _ _ h => h)) (da_cons (dx_v (de_v 0 (pv 0))) da_nil))) (su__law_said (k := k) F__law_kind m__law_kind bn__law_kind XS z_ValueError z_isinstance))) da_nil)))
    (dss_cons (ds_app (pv 4) (de_said (xs := "_law_said") (aN := "_law_call") (n := "_law_error") (ex := "PickError") (gS := f_law_said) (c := ca) (P := Pt) (PE := PEa) (fd := fd_law_said) (st := s__law_said) (Ng := ["_law_call", "_law_error", "_law_word"]) (k := k) (L := ["NoMachine", "NoText"]) (caps := [3]) (ws := [0, 1, 2, 4]) (i := 1) (fb := F2__law_right_16) (h := b__law_said_6) rfl m__law_said F__law_said.kp F__law_said bn__law_said sc__law_said rfl rfl (.inl rfl) rfl rfl rfl rfl z_repr XS.pe TB hcd hmT hu hgd hr (LamX.lamS_by (sc := defScope s__law_right) (by decide +kernel)) rfl (fun _ _ _ _ _ => rfl) (fun y hy => let ⟨C, _, _, t, _⟩ := XS.ok y hy; ⟨C, t⟩) (fun A outer s H E f c' hgd hr => (dcall c_read_machine hgd hr rfl (passes_call (takes_of rfl rfl rfl rfl) (fun _ _ _ _ h => h)) (da_cons (dx_v (de_v 3 (pv 3))) da_nil))) (su__law_said (k := k) F__law_kind m__law_kind bn__law_kind XS z_ValueError z_isinstance)))
    (dss_one (ds_wp [1, 4] (ds_if (dt_cmp (op_neA (ru64 hr)) os_ne (dx_s 4 (pv 4)) (dx_v (de_lst (da_cons (dx_v (de_callB (cr_repr hgd hr) os_repr rfl z_repr bt_repr (da_cons (dx_s 3 (pv 3)) da_nil))) (da_cons (dx_v (de_v 2 (pv 2))) da_nil)))) (nomark _)) (dss_one (ds_ret de_bl)) dss_nil)))))))
    (dss_one (ds_ret (de_cmp (op_eqA (ru64 hr)) os_eq (dx_v (de_callB (cr_repr hgd hr) os_repr rfl z_repr bt_repr (da_cons (dx_s 0 (pv 0)) da_nil))) (dx_s 2 (pv 2)) (nomark _)))))))
abbrev s__law_is_whole : Stmt := topS 40
theorem sc__law_is_whole : FnScope ["_law_number", "_law_least", "_law_last"] ["_law_number", "_law_least", "_law_last"] (defScope s__law_is_whole) := ⟨rfl, rfl, rfl, by decide +kernel, rfl, by decide +kernel, by decide +kernel⟩
theorem ok__law_is_whole {f : Addr} {fd : FuncData} {k : Nat} (F : Fun K "_law_is_whole" "_law_is_whole" s__law_is_whole f fd) (hm : mg "_law_is_whole" = some (.ref f)) (hb : Binds K fd ["_law_number", "_law_least", "_law_last"] []) (z_bool : mg "bool" = none) (z_int : mg "int" = none) (z_isinstance : mg "isinstance" = none) : CallOk P w K mg T (k + 1) "_law_is_whole" ["_law_number", "_law_least", "_law_last"] M_is_between :=
  callOk_of F hm hb fun base => fnD F sc__law_is_whole rfl rfl (by decide) fun cdv A outer s H qv E hgd hr => (dss_one (ds_ret (de_and (de_isi .int rfl z_isinstance bt_isinstance (dx_s 0 (pv 0)) (pty rfl z_int bt_int)) (de_and (de_not (de_isi .bool rfl z_isinstance bt_isinstance (dx_s 0 (pv 0)) (pty rfl z_bool bt_bool))) (de_one (de_chI op_le op_le (fun a b c => pe_chain op_le op_le a b c) (dx_s 1 (pv 1)) (dx_s 0 (pv 0)) (dx_s 2 (pv 2))))))))
abbrev s__law_is_deal : Stmt := topS 47
theorem sc__law_is_deal : FnScope ["_law_ranks", "_law_many", "_law_row", "_law_form"] ["_law_ranks", "_law_many", "_law_row"] (defScope s__law_is_deal) := ⟨rfl, rfl, rfl, by decide +kernel, rfl, by decide +kernel, by decide +kernel⟩
theorem ok__law_is_deal {f : Addr} {fd : FuncData} {k : Nat} (F : Fun K "_law_is_deal" "_law_is_deal" s__law_is_deal f fd) (hm : mg "_law_is_deal" = some (.ref f)) (hb : Binds K fd ["_law_ranks", "_law_many", "_law_row"] []) (c__law_is_whole : CallOk P w K mg T k "_law_is_whole" ["_law_number", "_law_least", "_law_last"] M_is_between) (z_isinstance : mg "isinstance" = none) (z_len : mg "len" = none) (z_tuple : mg "tuple" = none) : CallOk P w K mg T (k + 1) "_law_is_deal" ["_law_ranks", "_law_many", "_law_row"] M__law_is_deal :=
  callOk_of F hm hb fun base => fnD F sc__law_is_deal rfl rfl (by decide) fun cdv A outer s H qv E hgd hr => (dss_cons (ds_if (dw_t (dw_or (dt_not (dt_val (de_isi .tuple rfl z_isinstance bt_isinstance (dx_s 2 (pv 2)) (pty rfl z_tuple bt_tuple)))) (dw_or (dt_cmp (op_neA (ru64 hr)) os_ne (dx_v (de_callB call_lenA os_len rfl z_len bt_len (da_cons (dx_s 2 (pv 2)) da_nil))) (dx_v de_int) (nomark _)) (dw_or1 (dt_not (dt_val (dcall c__law_is_whole hgd hr rfl (passes_call (takes_of rfl rfl rfl rfl) (fun _ _ _ _ h => h)) (da_cons (dx_v (de_ix (ixD (ru65 hr)) os_ix (dx_s 2 (pv 2)) (dx_v de_int) (fun _ _ => rfl))) (da_cons (dx_v de_int) (da_cons (dx_v (de_op op_sub os_sub (dx_s 1 (pv 1)) (dx_v de_int))) da_nil)))))))))) (dss_one (ds_ret de_bl)) dss_nil)
    (dss_cons (ds_if (dw_t (dw_or (dt_not (dt_val (dcall c__law_is_whole hgd hr rfl (passes_call (takes_of rfl rfl rfl rfl) (fun _ _ _ _ h => h)) (da_cons (dx_v (de_ix (ixD (ru65 hr)) os_ix (dx_s 2 (pv 2)) (dx_v de_int) (fun _ _ => rfl))) (da_cons (dx_v de_int) (da_cons (dx_v (de_op op_sub os_sub (dx_v (de_callB call_lenA os_len rfl z_len bt_len (da_cons (dx_s 0 (pv 0)) da_nil))) (dx_v de_int))) da_nil)))))) (dw_or1 (dt_not (dt_val (dcall c__law_is_whole hgd hr rfl (passes_call (takes_of rfl rfl rfl rfl) (fun _ _ _ _ h => h)) (da_cons (dx_v (de_ix (ixD (ru65 hr)) os_ix (dx_s 2 (pv 2)) (dx_v de_int) (fun _ _ => rfl))) (da_cons (dx_v de_int) (da_cons (dx_v de_int) da_nil))))))))) (dss_one (ds_ret de_bl)) dss_nil)
    (dss_cons (ds_if (dw_t (dw_or (dt_not (dt_val (de_isi .tuple rfl z_isinstance bt_isinstance (dx_v (de_ix (ixD (ru65 hr)) os_ix (dx_s 2 (pv 2)) (dx_v de_int) (fun _ _ => rfl))) (pty rfl z_tuple bt_tuple)))) (dw_or1 (dt_cmp (op_neA (ru64 hr)) os_ne (dx_v (de_callB call_lenA os_len rfl z_len bt_len (da_cons (dx_v (de_ix (ixD (ru65 hr)) os_ix (dx_s 2 (pv 2)) (dx_v de_int) (fun _ _ => rfl))) da_nil))) (dx_v (de_ix (ixD (ru65 hr)) os_ix (dx_s 0 (pv 0)) (dx_v (de_ix (ixD (ru65 hr)) os_ix (dx_s 2 (pv 2)) (dx_v de_int) (fun _ _ => rfl))) (fun _ _ => rfl))) (nomark _))))) (dss_one (ds_ret de_bl)) dss_nil)
    (dss_one (ds_ret (de_cmp (op_eqA (ru64 hr)) os_eq (dx_v (de_lc (own := [("_law_form", 3)]) (npn rfl) (by decide) rfl sc__law_is_deal.nd (di_seq (dx_v (de_ix (ixD (ru65 hr)) os_ix (dx_s 2 (pv 2)) (dx_v de_int) (fun _ _ => rfl)))) (blkOk_by (N := ["_law_ranks", "_law_many", "_law_row", "_law_form"]) (sc := defScope s__law_is_deal) (own := [("_law_form", 3)]) (by decide +kernel)) (fun _ _ _ _ _ => (pg_name (i := 3) sc__law_is_deal.nd rfl (by first | exact .inl rfl | exact .inr rfl))) (fun _ _ _ _ _ => (pts_one (dt_not (dt_val (dcall c__law_is_whole hgd hr rfl passL (da_cons (dx_v (de_v 3 (pv 3))) (da_cons (dx_v de_int) (da_cons (dx_v (de_op op_sub os_sub (dx_s 1 (pv 1)) (dx_v de_int))) da_nil)))))))) (fun _ _ _ _ _ => de_int))) (dx_v (de_lst da_nil)) (nomark _)))))))
abbrev s__law_is_kit : Stmt := topS 46
theorem sc__law_is_kit : FnScope ["_law_thing", "_law_row", "_law_ranks", "_law_many", "_law_rows", "_law_turns_here", "_law_rank", "_law_form"] ["_law_thing"] (defScope s__law_is_kit) := ⟨rfl, rfl, rfl, by decide +kernel, rfl, by decide +kernel, by decide +kernel⟩
theorem ok__law_is_kit {f : Addr} {fd : FuncData} {k : Nat} (F : Fun K "_law_is_kit" "_law_is_kit" s__law_is_kit f fd) (hm : mg "_law_is_kit" = some (.ref f)) (hb : Binds K fd ["_law_thing"] []) (c__law_is_deal : CallOk P w K mg T k "_law_is_deal" ["_law_ranks", "_law_many", "_law_row"] M__law_is_deal) (c__law_is_whole : CallOk P w K mg T k "_law_is_whole" ["_law_number", "_law_least", "_law_last"] M_is_between) (z_isinstance : mg "isinstance" = none) (z_len : mg "len" = none) (z_tuple : mg "tuple" = none) : CallOk P w K mg T (k + 1) "_law_is_kit" ["_law_thing"] M__law_is_kit :=
  callOk_of F hm hb fun base => fnD F sc__law_is_kit rfl rfl (by decide) fun cdv A outer s H qv E hgd hr => (dss_cons (ds_if (dw_t (dw_or (dt_not (dt_val (de_isi .tuple rfl z_isinstance bt_isinstance (dx_s 0 (pv 0)) (pty rfl z_tuple bt_tuple)))) (dw_or (dt_cmp (op_neA (ru64 hr)) os_ne (dx_v (de_callB call_lenA os_len rfl z_len bt_len (da_cons (dx_s 0 (pv 0)) da_nil))) (dx_v de_int) (nomark _)) (dw_or1 (dt_not (dt_val (dcall c__law_is_whole hgd hr rfl (passes_call (takes_of rfl rfl rfl rfl) (fun _ _ _ _ h => h)) (da_cons (dx_v (de_ix (ixD (ru65 hr)) os_ix (dx_s 0 (pv 0)) (dx_v de_int) (fun _ _ => rfl))) (da_cons (dx_v de_int) (da_cons (dx_v de_int) da_nil)))))))))) (dss_one (ds_ret de_bl)) dss_nil)
    (dss_cons (ds_asT (npn rfl) (de_v 0 (pv 0)) (pg_tup rfl (pgs_cons (pg_name (i := 2) sc__law_is_kit.nd rfl (by first | exact .inl rfl | exact .inr rfl)) (pgs_cons (pg_name (i := 3) sc__law_is_kit.nd rfl (by first | exact .inl rfl | exact .inr rfl)) (pgs_cons (pg_name (i := 4) sc__law_is_kit.nd rfl (by first | exact .inl rfl | exact .inr rfl)) (pgs_cons (pg_name (i := 5) sc__law_is_kit.nd rfl (by first | exact .inl rfl | exact .inr rfl)) pgs_nil))))))
    (dss_cons (ds_if (dw_t (dw_or (dt_not (dt_val (de_isi .tuple rfl z_isinstance bt_isinstance (dx_s 2 (pv 2)) (pty rfl z_tuple bt_tuple)))) (dw_or (dt_not (dt_chI (fun a b c => pt_chain op_le op_le a b c) (dx_v de_int) (dx_v (de_callB call_lenA os_len rfl z_len bt_len (da_cons (dx_s 2 (pv 2)) da_nil))) (dx_v de_int))) (dw_or (dt_not (dt_val (de_isi .tuple rfl z_isinstance bt_isinstance (dx_s 4 (pv 4)) (pty rfl z_tuple bt_tuple)))) (dw_or1 (dt_cmp op_gt os_cmI (dx_v (de_callB call_lenA os_len rfl z_len bt_len (da_cons (dx_s 4 (pv 4)) da_nil))) (dx_v de_int) (nomark _))))))) (dss_one (ds_ret de_bl)) dss_nil)
    (dss_cons (ds_if (dw_t (dw_or (dt_cmp (op_neA (ru64 hr)) os_ne (dx_v (de_lc (own := [("_law_rank", 6)]) (npn rfl) (by decide) rfl sc__law_is_kit.nd (di_seq (dx_v (de_v 2 (pv 2)))) (blkOk_by (N := ["_law_thing", "_law_row", "_law_ranks", "_law_many", "_law_rows", "_law_turns_here", "_law_rank", "_law_form"]) (sc := defScope s__law_is_kit) (own := [("_law_rank", 6)]) (by decide +kernel)) (fun _ _ _ _ _ => (pg_name (i := 6) sc__law_is_kit.nd rfl (by first | exact .inl rfl | exact .inr rfl))) (fun _ _ _ _ _ => (pts_one (dt_not (dt_val (dcall c__law_is_whole hgd hr rfl passL (da_cons (dx_v (de_v 6 (pv 6))) (da_cons (dx_v de_int) (da_cons (dx_v de_int) da_nil)))))))) (fun _ _ _ _ _ => de_int))) (dx_v (de_lst da_nil)) (nomark _)) (dw_or1 (dt_not (dt_val (de_isi .tuple rfl z_isinstance bt_isinstance (dx_s 5 (pv 5)) (pty rfl z_tuple bt_tuple))))))) (dss_one (ds_ret de_bl)) dss_nil)
    (dss_cons (ds_wp [0, 2, 4] (ds_if (dw_t (dw_or (dt_cmp op_gt os_cmI (dx_v (de_callB call_lenA os_len rfl z_len bt_len (da_cons (dx_s 5 (pv 5)) da_nil))) (dx_v de_int) (nomark _)) (dw_or1 (dt_cmp (op_neA (ru64 hr)) os_ne (dx_v (de_lc (own := [("_law_row", 1)]) (npn rfl) (by decide) rfl sc__law_is_kit.nd (di_seq (dx_v (de_v 4 (pv 4)))) (blkOk_by (N := ["_law_thing", "_law_row", "_law_ranks", "_law_many", "_law_rows", "_law_turns_here", "_law_rank", "_law_form"]) (sc := defScope s__law_is_kit) (own := [("_law_row", 1)]) (by decide +kernel)) (fun _ _ _ _ _ => (pg_name (i := 1) sc__law_is_kit.nd rfl (by first | exact .inl rfl | exact .inr rfl))) (fun _ _ _ _ _ => (pts_one (dt_not (dt_val (dcall c__law_is_deal hgd hr rfl passL (da_cons (dx_v (de_v 2 (pv 2))) (da_cons (dx_v (de_v 3 (pv 3))) (da_cons (dx_v (de_v 1 (pv 1))) da_nil)))))))) (fun _ _ _ _ _ => de_int))) (dx_v (de_lst da_nil)) (nomark _))))) (dss_one (ds_ret de_bl)) dss_nil))
    (dss_cons (ds_wp [1, 3, 5] (ds_for (npn rfl) (passes_of rfl) rfl (di_seq (dx_v (de_v 5 (pv 5)))) (pg_name (i := 1) sc__law_is_kit.nd rfl (by first | exact .inl rfl | exact .inr rfl)) (dss_cons (ds_if (dw_t (dw_or (dt_not (dt_val (de_isi .tuple rfl z_isinstance bt_isinstance (dx_s 1 (pv 1)) (pty rfl z_tuple bt_tuple)))) (dw_or (dt_cmp (op_neA (ru64 hr)) os_ne (dx_v (de_callB call_lenA os_len rfl z_len bt_len (da_cons (dx_s 1 (pv 1)) da_nil))) (dx_v de_int) (nomark _)) (dw_or1 (dt_not (dt_val (dcall c__law_is_whole hgd hr rfl (passes_call (takes_of rfl rfl rfl rfl) (fun _ _ _ _ h => h)) (da_cons (dx_v (de_ix (ixD (ru65 hr)) os_ix (dx_s 1 (pv 1)) (dx_v de_int) (fun _ _ => rfl))) (da_cons (dx_v de_int) (da_cons (dx_v de_int) da_nil)))))))))) (dss_one (ds_ret de_bl)) dss_nil)
    (dss_one (ds_wp [1] (ds_if (dw_t (dw_or (dt_cmp (op_neA (ru64 hr)) os_ne (dx_v (de_lc (own := [("_law_form", 7)]) (npn rfl) (by decide) rfl sc__law_is_kit.nd (di_seq (dx_v (de_slHi (dx_s 1 (pv 1)) (dx_v de_int)))) (blkOk_by (N := ["_law_thing", "_law_row", "_law_ranks", "_law_many", "_law_rows", "_law_turns_here", "_law_rank", "_law_form"]) (sc := defScope s__law_is_kit) (own := [("_law_form", 7)]) (by decide +kernel)) (fun _ _ _ _ _ => (pg_name (i := 7) sc__law_is_kit.nd rfl (by first | exact .inl rfl | exact .inr rfl))) (fun _ _ _ _ _ => (pts_one (dt_not (dt_val (dcall c__law_is_whole hgd hr rfl passL (da_cons (dx_v (de_v 7 (pv 7))) (da_cons (dx_v de_int) (da_cons (dx_v (de_op op_sub os_sub (dx_s 3 (pv 3)) (dx_v de_int))) da_nil)))))))) (fun _ _ _ _ _ => de_int))) (dx_v (de_lst da_nil)) (nomark _)) (dw_or1 (dt_cmp (op_eqA (ru64 hr)) os_eq (dx_v (de_ix (ixD (ru65 hr)) os_ix (dx_s 1 (pv 1)) (dx_v de_int) (fun _ _ => rfl))) (dx_v (de_ix (ixD (ru65 hr)) os_ix (dx_s 1 (pv 1)) (dx_v de_int) (fun _ _ => rfl))) (nomark _))))) (dss_one (ds_ret de_bl)) dss_nil))))))
    (dss_one (ds_ret de_bl))))))))
abbrev s_law : Stmt := topS 51
theorem sc_law : FnScope ["_law_script", "_law_k", "_law_pen_here", "_law_some", "_law_kit_here", "_law_bad", "_law_kept", "_law_turn"] ["_law_script"] (defScope s_law) := ⟨rfl, rfl, rfl, by decide +kernel, rfl, by decide +kernel, by decide +kernel⟩
theorem fn_law {f : Addr} {fd : FuncData} {k : Nat} (F : Fun K "law" "law" s_law f fd) {base : Heap} (c__law_bent_kits : CallOk P w K mg T k "_law_bent_kits" ["_law_pen_here", "_law_kit_here"] M__law_bent_kits) (c__law_cell : CallOk P w K mg T k "_law_cell" ["_law_script", "_law_k"] M__law_cell) (c__law_great_kit : CallOk P w K mg T k "_law_great_kit" ["_law_pen_here"] M__law_great_kit) (c__law_is_kit : CallOk P w K mg T k "_law_is_kit" ["_law_thing"] M__law_is_kit) (c__law_kit : CallOk P w K mg T k "_law_kit" ["_law_pen_here", "_law_upto"] M__law_kit) (c__law_pen : CallOk P w K mg T k "_law_pen" ["_law_cell_here"] M__law_pen_2) (c__law_right : CallB P w K mg base T k "_law_right" ["_law_kit_here"] M__law_right_16) (c_machine_text : CallOk P w K mg T k "machine_text" ["machine"] M_machine_text) (z_ValueError : mg "ValueError" = none) (z_isinstance : mg "isinstance" = none) (z_len : mg "len" = none) (z_max : mg "max" = none) (z_min : mg "min" = none) (z_range : mg "range" = none) (z_repr : mg "repr" = none) {PEa : Addr} (XS : ExcSet K mg ["NoMachine", "NoText"] ["NoMachine", "NoText"] "PickError" PEa) {f_law_said : Addr} {fd_law_said : FuncData} (F__law_said : Fun K "_law_said" "_law_said" s__law_said f_law_said fd_law_said) (m__law_said : mg "_law_said" = some (.ref f_law_said)) (bn__law_said : Binds K fd_law_said ["_law_call"] []) {f_law_kind : Addr} {fd_law_kind : FuncData} (F__law_kind : Fun K "_law_kind" "_law_kind" s__law_kind f_law_kind fd_law_kind) (m__law_kind : mg "_law_kind" = some (.ref f_law_kind)) (bn__law_kind : Binds K fd_law_kind ["_law_error"] []) {ca Pt : Addr} (TB : LamX.TabB base mg ca Pt) (hca : fd.code = .ref ca) (hmT : (Pt, lamN "law") ∈ T) (hu : ∀ p ∈ T, p.1 = Pt → p.2 = lamN "law") : FnG P w K mg base (k + 3) f fd ["_law_script"] (spD K mg T M_law_50) :=
  fnDc F sc_law rfl rfl (by decide) fun cdv hcv A outer s H qv E hgd hr => have hcd := hcv.symm.trans hca; (dss_cons (ds_wp [0, 1, 2, 3, 4, 5, 6] (ds_for (npn rfl) (passes_of rfl) rfl (di_r1 rfl z_range (da_cons (dx_v (de_callB (cl_max rfl) os_max rfl z_max bt_max (da_cons (dx_v de_int) (da_cons (dx_v (de_callB (cl_min rfl) os_min rfl z_min bt_min (da_cons (dx_v (de_callB call_lenA os_len rfl z_len bt_len (da_cons (dx_s 0 (pv 0)) da_nil))) (da_cons (dx_v de_int) da_nil)))) da_nil)))) da_nil)) (pg_name (i := 1) sc_law.nd rfl (by first | exact .inl rfl | exact .inr rfl)) (dss_cons (ds_set (i := 2) sc_law.nd rfl (by first | exact .inl rfl | exact .inr rfl) (np1 rfl) (dcall (c__law_pen.mono (Nat.le_add_right _ 2)) hgd hr rfl (passes_call (takes_of rfl rfl rfl rfl) (fun _ _ _ _ h => h)) (da_cons (dx_v (dcall (c__law_cell.mono (Nat.le_add_right _ 2)) hgd hr rfl (passes_call (takes_of rfl rfl rfl rfl) (fun _ _ _ _ h => h)) (da_cons (dx_v (de_v 0 (pv 0))) (da_cons (dx_v (de_v 1 (pv 1))) da_nil)))) da_nil)))
    (dss_cons (ds_wp [1] (ds_fz [3] (ds_setLc (i := 3) (own := [("_law_turn", 7)]) (np1 rfl) (npn rfl) (by decide) rfl sc_law.nd rfl rfl (sw_true rfl rfl rfl (by decide +kernel)) (di_r1 rfl z_range (da_cons (dx_v de_int) da_nil)) (blkOk_by (N := ["_law_script", "_law_k", "_law_pen_here", "_law_some", "_law_kit_here", "_law_bad", "_law_kept", "_law_turn"]) (sc := defScope s_law) (own := [("_law_turn", 7)]) (by decide +kernel)) (fun _ _ _ _ _ => (pg_name (i := 7) sc_law.nd rfl (by first | exact .inl rfl | exact .inr rfl))) (fun _ _ _ _ _ => pts_yes) (fun _ _ _ _ _ => (dcall (c__law_kit.mono (Nat.le_add_right _ 2)) hgd hr rfl passL (da_cons (dx_s 2 (pv 2)) (da_cons (dx_v de_int) da_nil))))) nx_set))
    (dss_one (ds_wp [2, 3, 4, 5, 6] (ds_for (npn rfl) (passes_of rfl) rfl (di_seq (dx_v (de_op op_addA os_add (dx_s 3 (pv 3)) (dx_v (de_lst (da_cons (dx_v (dcall (c__law_great_kit.mono (Nat.le_add_right _ 2)) hgd hr rfl (passes_call (takes_of rfl rfl rfl rfl) (fun _ _ _ _ h => h)) (da_cons (dx_s 2 (pv 2)) da_nil))) (da_cons (dx_v (de_tup (da_cons (dx_v (de_tup (da_cons (dx_v de_int) da_nil))) (da_cons (dx_v de_int) (da_cons (dx_v (de_tup da_nil)) (da_cons (dx_v (de_tup da_nil)) da_nil)))))) (da_cons (dx_v (de_tup (da_cons (dx_v (de_tup (da_cons (dx_v de_int) da_nil))) (da_cons (dx_v de_int) (da_cons (dx_v (de_tup da_nil)) (da_cons (dx_v (de_tup da_nil)) da_nil)))))) da_nil)))))))) (pg_name (i := 4) sc_law.nd rfl (by first | exact .inl rfl | exact .inr rfl)) (dss_cons (ds_if (dt_not (dt_val (dcallB (c__law_right.mono (Nat.le_add_right _ 2)) hgd hr rfl (passes_call (takes_of rfl rfl rfl rfl) (fun _ _ _ _ h => h)) (da_cons (dx_v (de_v 4 (pv 4))) da_nil)))) (dss_one (ds_ret de_bl)) dss_nil)
    (dss_one (ds_wp [4, 5, 6] (ds_for (npn rfl) (passes_of rfl) rfl (di_seq (dx_v (dcall (c__law_bent_kits.mono (Nat.le_add_right _ 2)) hgd hr rfl (passes_call (takes_of rfl rfl rfl rfl) (fun _ _ _ _ h => h)) (da_cons (dx_v (de_v 2 (pv 2))) (da_cons (dx_v (de_v 4 (pv 4))) da_nil))))) (pg_name (i := 5) sc_law.nd rfl (by first | exact .inl rfl | exact .inr rfl)) (dss_cons (ds_set (i := 6) sc_law.nd rfl (by first | exact .inl rfl | exact .inr rfl) (np1 rfl) (de_callB (cr_reprD hgd hr) os_reprD rfl z_repr bt_repr (da_cons (dx_s 5 (pv 5)) da_nil)))
    (dss_one (ds_wp [5, 6] (ds_if (dw_t (dw_and (dt_not (dt_val (dcall (c__law_is_kit.mono (Nat.le_add_right _ 2)) hgd hr rfl (passes_call (takes_of rfl rfl rfl rfl) (fun _ _ _ _ h => h)) (da_cons (dx_v (de_v 5 (pv 5))) da_nil)))) (dw_and1 (dw_t (dw_or (dt_cmp (op_neA (ru64 hr)) os_ne (dx_v (de_said (xs := "_law_said") (aN := "_law_call") (n := "_law_error") (ex := "PickError") (gS := f_law_said) (c := ca) (P := Pt) (PE := PEa) (fd := fd_law_said) (st := s__law_said) (Ng := ["_law_call", "_law_error", "_law_word"]) (k := k) (L := ["NoMachine", "NoText"]) (caps := [5]) (ws := [0, 1, 2, 3, 4, 6, 7]) (i := 1) (fb := F1_law_50) (h := b__law_said_6) rfl m__law_said F__law_said.kp F__law_said bn__law_said sc__law_said rfl rfl (.inl rfl) rfl rfl rfl rfl z_repr XS.pe TB hcd hmT hu hgd hr (LamX.lamS_by (sc := defScope s_law) (by decide +kernel)) rfl (fun _ _ _ _ _ => rfl) (fun y hy => let ⟨C, _, _, t, _⟩ := XS.ok y hy; ⟨C, t⟩) (fun A outer s H E f c' hgd hr => (dcall c_machine_text hgd hr rfl (passes_call (takes_of rfl rfl rfl rfl) (fun _ _ _ _ h => h)) (da_cons (dx_v (de_v 5 (pv 5))) da_nil))) (su__law_said (k := k) F__law_kind m__law_kind bn__law_kind XS z_ValueError z_isinstance))) (dx_v de_str) (nomark _)) (dw_or1 (dt_cmp (op_neA (ru64 hr)) os_ne (dx_v (de_callB (cr_reprD hgd hr) os_reprD rfl z_repr bt_repr (da_cons (dx_s 5 (pv 5)) da_nil))) (dx_s 6 (pv 6)) (nomark _)))))))) (dss_one (ds_ret de_bl)) dss_nil)))))))))))))))
    (dss_one (ds_ret de_bl)))
end
def D0 : He.DefD := ⟨("_law_pen", none), "_law_pen", "_law_pen", defArgs s__law_pen, defBody s__law_pen, defScope s__law_pen, [], []⟩
def D1 : He.DefD := ⟨("_law_cell", none), "_law_cell", "_law_cell", defArgs s__law_cell, defBody s__law_cell, defScope s__law_cell, [], []⟩
def D2 : He.DefD := ⟨("_law_draw", none), "_law_draw", "_law_draw", defArgs s__law_draw, defBody s__law_draw, defScope s__law_draw, [], []⟩
def D3 : He.DefD := ⟨("_law_arranged", none), "_law_arranged", "_law_arranged", defArgs s__law_arranged, defBody s__law_arranged, defScope s__law_arranged, [], []⟩
def D4 : He.DefD := ⟨("_law_pick", none), "_law_pick", "_law_pick", defArgs s__law_pick, defBody s__law_pick, defScope s__law_pick, [], []⟩
def D5 : He.DefD := ⟨("_law_kit", none), "_law_kit", "_law_kit", defArgs s__law_kit, defBody s__law_kit, defScope s__law_kit, [], []⟩
def D6 : He.DefD := ⟨("_law_kit_text", none), "_law_kit_text", "_law_kit_text", defArgs s__law_kit_text, defBody s__law_kit_text, defScope s__law_kit_text, [], []⟩
def D7 : He.DefD := ⟨("_law_bent_kits", none), "_law_bent_kits", "_law_bent_kits", defArgs s__law_bent_kits, defBody s__law_bent_kits, defScope s__law_bent_kits, [], []⟩
def D8 : He.DefD := ⟨("_law_great_kit", none), "_law_great_kit", "_law_great_kit", defArgs s__law_great_kit, defBody s__law_great_kit, defScope s__law_great_kit, [], []⟩
def D9 : He.DefD := ⟨("_law_kind", none), "_law_kind", "_law_kind", defArgs s__law_kind, defBody s__law_kind, defScope s__law_kind, [], []⟩
def D10 : He.DefD := ⟨("_law_said", none), "_law_said", "_law_said", defArgs s__law_said, defBody s__law_said, defScope s__law_said, [], []⟩
def D11 : He.DefD := ⟨("is_between", none), "is_between", "is_between", defArgs s_is_between, defBody s_is_between, defScope s_is_between, [], []⟩
def D12 : He.DefD := ⟨("is_arities", none), "is_arities", "is_arities", defArgs s_is_arities, defBody s_is_arities, defScope s_is_arities, [], []⟩
def D13 : He.DefD := ⟨("is_conversion", none), "is_conversion", "is_conversion", defArgs s_is_conversion, defBody s_is_conversion, defScope s_is_conversion, [], []⟩
def D14 : He.DefD := ⟨("is_instruction", none), "is_instruction", "is_instruction", defArgs s_is_instruction, defBody s_is_instruction, defScope s_is_instruction, [], []⟩
def D15 : He.DefD := ⟨("is_machine", none), "is_machine", "is_machine", defArgs s_is_machine, defBody s_is_machine, defScope s_is_machine, [], []⟩
def D16 : He.DefD := ⟨("need_machine", none), "need_machine", "need_machine", defArgs s_need_machine, defBody s_need_machine, defScope s_need_machine, [], []⟩
def D17 : He.DefD := ⟨("words_of", none), "words_of", "words_of", defArgs s_words_of, defBody s_words_of, defScope s_words_of, [], []⟩
def D18 : He.DefD := ⟨("instruction_text", none), "instruction_text", "instruction_text", defArgs s_instruction_text, defBody s_instruction_text, defScope s_instruction_text, [], []⟩
def D19 : He.DefD := ⟨("conversion_text", none), "conversion_text", "conversion_text", defArgs s_conversion_text, defBody s_conversion_text, defScope s_conversion_text, [], []⟩
def D20 : He.DefD := ⟨("machine_text_of", none), "machine_text_of", "machine_text_of", defArgs s_machine_text_of, defBody s_machine_text_of, defScope s_machine_text_of, [], []⟩
def D21 : He.DefD := ⟨("machine_text", none), "machine_text", "machine_text", defArgs s_machine_text, defBody s_machine_text, defScope s_machine_text, [], []⟩
def D22 : He.DefD := ⟨("number_read", none), "number_read", "number_read", defArgs s_number_read, defBody s_number_read, defScope s_number_read, [], []⟩
def D23 : He.DefD := ⟨("numbers_in", none), "numbers_in", "numbers_in", defArgs s_numbers_in, defBody s_numbers_in, defScope s_numbers_in, [], []⟩
def D24 : He.DefD := ⟨("instruction_in", none), "instruction_in", "instruction_in", defArgs s_instruction_in, defBody s_instruction_in, defScope s_instruction_in, [], []⟩
def D25 : He.DefD := ⟨("conversion_in", none), "conversion_in", "conversion_in", defArgs s_conversion_in, defBody s_conversion_in, defScope s_conversion_in, [], []⟩
def D26 : He.DefD := ⟨("machine_read", none), "machine_read", "machine_read", defArgs s_machine_read, defBody s_machine_read, defScope s_machine_read, [], []⟩
def D27 : He.DefD := ⟨("read_machine", none), "read_machine", "read_machine", defArgs s_read_machine, defBody s_read_machine, defScope s_read_machine, [], []⟩
def D28 : He.DefD := ⟨("_law_right", none), "_law_right", "_law_right", defArgs s__law_right, defBody s__law_right, defScope s__law_right, [], []⟩
def D29 : He.DefD := ⟨("_law_is_whole", none), "_law_is_whole", "_law_is_whole", defArgs s__law_is_whole, defBody s__law_is_whole, defScope s__law_is_whole, [], []⟩
def D30 : He.DefD := ⟨("_law_is_deal", none), "_law_is_deal", "_law_is_deal", defArgs s__law_is_deal, defBody s__law_is_deal, defScope s__law_is_deal, [], []⟩
def D31 : He.DefD := ⟨("_law_is_kit", none), "_law_is_kit", "_law_is_kit", defArgs s__law_is_kit, defBody s__law_is_kit, defScope s__law_is_kit, [], []⟩
def D32 : He.DefD := ⟨("law", none), "law", "law", defArgs s_law, defBody s_law, defScope s_law, [], []⟩
def FA0 : List He.Fa := [.glo "_law_pen", .glo "_law_cell", .glo "_law_draw", .glo "_law_arranged", .glo "_law_pick", .glo "_law_kit", .glo "_law_kit_text", .glo "_law_bent_kits", .glo "_law_great_kit", .glo "_law_kind", .glo "_law_said", .glo "is_between", .glo "is_arities", .glo "is_conversion", .glo "is_instruction", .glo "is_machine", .glo "need_machine", .glo "words_of", .glo "instruction_text", .glo "conversion_text", .glo "machine_text_of", .glo "machine_text", .glo "number_read", .glo "numbers_in", .glo "instruction_in", .glo "conversion_in", .glo "machine_read", .glo "read_machine", .glo "_law_right", .glo "_law_is_whole"]
def FA1 : List He.Fa := [.glo "_law_is_deal", .glo "_law_is_kit", .glo "law", .free "ValueError", .free "all", .free "bool", .free "enumerate", .free "int", .free "isinstance", .free "len", .free "list", .free "max", .free "min", .free "range", .free "repr", .free "str", .free "tuple", .int "MOST_ARITY" 2, .int "MOST_CONVERSIONS" 12, .int "MOST_FORMS" 4, .int "MOST_INSTRUCTIONS" 24, .int "MOST_OPERATORS" 6, .int "MOST_PRICE" 20, .str "ARROW" " <- ", .str "AT" "at", .str "COLON" ":", .str "DIGITS" "0123456789", .str "FORMS" "forms ", .str "OPERATORS" "operators "]
def FA : List He.Fa := FA0 ++ FA1
def FN : List He.DefD := [D0, D1, D2, D3, D4, D5, D6, D7, D8, D9, D10, D11, D12, D13, D14, D15, D16, D17, D18, D19, D20, D21, D22, D23, D24, D25, D26, D27, D28, D29, D30, D31, D32]
def TF : List He.Defn := [("_law_right", none), ("law", none)]
def EX (K : PySem.W.Frag) : Bool := setB ["NoMachine", "NoText"] ["NoMachine", "NoText"] "PickError" K && ndB TF K
theorem law_at {w : World} {K : PySem.W.Frag} {h : Heap} {mg : Str → Option Value} {fa : Addr} (X : K.In h) (G : h.Ns mainGlobals mg) (hfa : mg "law" = some (.ref fa)) (S : He.SaysX FA FN [] TF EX w h K) (lt : ∀ ns : List Int, ns.length ≤ 63 → ∃ os, M_law_50 [.fr (.list (ns.map PyData.int))] = .ok (.fr (.bool true), os)) : LawAtT PySem.Challenge.rw_codepick_k84_texts_of_machines w K 11 63 "_law_script" mg fa h := by
  have D := S.t.d
  obtain ⟨XB, nd⟩ := He.ba S.more
  have XS := setB_ok X G XB
  have m0 := He.glo_ok X G (D.fact 0 (f := .glo "_law_pen") rfl)
  have m1 := He.glo_ok X G (D.fact 1 (f := .glo "_law_cell") rfl)
  have m2 := He.glo_ok X G (D.fact 2 (f := .glo "_law_draw") rfl)
  have m3 := He.glo_ok X G (D.fact 3 (f := .glo "_law_arranged") rfl)
  have m4 := He.glo_ok X G (D.fact 4 (f := .glo "_law_pick") rfl)
  have m5 := He.glo_ok X G (D.fact 5 (f := .glo "_law_kit") rfl)
  have m6 := He.glo_ok X G (D.fact 6 (f := .glo "_law_kit_text") rfl)
  have m7 := He.glo_ok X G (D.fact 7 (f := .glo "_law_bent_kits") rfl)
  have m8 := He.glo_ok X G (D.fact 8 (f := .glo "_law_great_kit") rfl)
  have m9 := He.glo_ok X G (D.fact 9 (f := .glo "_law_kind") rfl)
  have m10 := He.glo_ok X G (D.fact 10 (f := .glo "_law_said") rfl)
  have m11 := He.glo_ok X G (D.fact 11 (f := .glo "is_between") rfl)
  have m12 := He.glo_ok X G (D.fact 12 (f := .glo "is_arities") rfl)
  have m13 := He.glo_ok X G (D.fact 13 (f := .glo "is_conversion") rfl)
  have m14 := He.glo_ok X G (D.fact 14 (f := .glo "is_instruction") rfl)
  have m15 := He.glo_ok X G (D.fact 15 (f := .glo "is_machine") rfl)
  have m16 := He.glo_ok X G (D.fact 16 (f := .glo "need_machine") rfl)
  have m17 := He.glo_ok X G (D.fact 17 (f := .glo "words_of") rfl)
  have m18 := He.glo_ok X G (D.fact 18 (f := .glo "instruction_text") rfl)
  have m19 := He.glo_ok X G (D.fact 19 (f := .glo "conversion_text") rfl)
  have m20 := He.glo_ok X G (D.fact 20 (f := .glo "machine_text_of") rfl)
  have m21 := He.glo_ok X G (D.fact 21 (f := .glo "machine_text") rfl)
  have m22 := He.glo_ok X G (D.fact 22 (f := .glo "number_read") rfl)
  have m23 := He.glo_ok X G (D.fact 23 (f := .glo "numbers_in") rfl)
  have m24 := He.glo_ok X G (D.fact 24 (f := .glo "instruction_in") rfl)
  have m25 := He.glo_ok X G (D.fact 25 (f := .glo "conversion_in") rfl)
  have m26 := He.glo_ok X G (D.fact 26 (f := .glo "machine_read") rfl)
  have m27 := He.glo_ok X G (D.fact 27 (f := .glo "read_machine") rfl)
  have m28 := He.glo_ok X G (D.fact 28 (f := .glo "_law_right") rfl)
  have m29 := He.glo_ok X G (D.fact 29 (f := .glo "_law_is_whole") rfl)
  have m30 := He.glo_ok X G (D.fact 30 (f := .glo "_law_is_deal") rfl)
  have m31 := He.glo_ok X G (D.fact 31 (f := .glo "_law_is_kit") rfl)
  have m32 := He.glo_ok X G (D.fact 32 (f := .glo "law") rfl)
  have z_ValueError := He.free_ok X G (D.fact 33 (f := .free "ValueError") rfl)
  have z_all := He.free_ok X G (D.fact 34 (f := .free "all") rfl)
  have z_bool := He.free_ok X G (D.fact 35 (f := .free "bool") rfl)
  have z_enumerate := He.free_ok X G (D.fact 36 (f := .free "enumerate") rfl)
  have z_int := He.free_ok X G (D.fact 37 (f := .free "int") rfl)
  have z_isinstance := He.free_ok X G (D.fact 38 (f := .free "isinstance") rfl)
  have z_len := He.free_ok X G (D.fact 39 (f := .free "len") rfl)
  have z_list := He.free_ok X G (D.fact 40 (f := .free "list") rfl)
  have z_max := He.free_ok X G (D.fact 41 (f := .free "max") rfl)
  have z_min := He.free_ok X G (D.fact 42 (f := .free "min") rfl)
  have z_range := He.free_ok X G (D.fact 43 (f := .free "range") rfl)
  have z_repr := He.free_ok X G (D.fact 44 (f := .free "repr") rfl)
  have z_str := He.free_ok X G (D.fact 45 (f := .free "str") rfl)
  have z_tuple := He.free_ok X G (D.fact 46 (f := .free "tuple") rfl)
  obtain ⟨_, g_MOST_ARITY⟩ := He.int_ok X G (D.fact 47 (f := .int "MOST_ARITY" 2) rfl)
  obtain ⟨_, g_MOST_CONVERSIONS⟩ := He.int_ok X G (D.fact 48 (f := .int "MOST_CONVERSIONS" 12) rfl)
  obtain ⟨_, g_MOST_FORMS⟩ := He.int_ok X G (D.fact 49 (f := .int "MOST_FORMS" 4) rfl)
  obtain ⟨_, g_MOST_INSTRUCTIONS⟩ := He.int_ok X G (D.fact 50 (f := .int "MOST_INSTRUCTIONS" 24) rfl)
  obtain ⟨_, g_MOST_OPERATORS⟩ := He.int_ok X G (D.fact 51 (f := .int "MOST_OPERATORS" 6) rfl)
  obtain ⟨_, g_MOST_PRICE⟩ := He.int_ok X G (D.fact 52 (f := .int "MOST_PRICE" 20) rfl)
  obtain ⟨_, g_ARROW⟩ := He.str_ok X G (D.fact 53 (f := .str "ARROW" " <- ") rfl)
  obtain ⟨_, g_AT⟩ := He.str_ok X G (D.fact 54 (f := .str "AT" "at") rfl)
  obtain ⟨_, g_COLON⟩ := He.str_ok X G (D.fact 55 (f := .str "COLON" ":") rfl)
  obtain ⟨_, g_DIGITS⟩ := He.str_ok X G (D.fact 56 (f := .str "DIGITS" "0123456789") rfl)
  obtain ⟨_, g_FORMS⟩ := He.str_ok X G (D.fact 57 (f := .str "FORMS" "forms ") rfl)
  obtain ⟨_, g_OPERATORS⟩ := He.str_ok X G (D.fact 58 (f := .str "OPERATORS" "operators ") rfl)
  obtain ⟨fd0, F00⟩ := D.def_ 0 (d := D0) rfl
  have F0 : Fun K "_law_pen" "_law_pen" s__law_pen (He.fAd K ("_law_pen", none)) fd0 := fun_of (st := s__law_pen) F00
  have bn0 := F0.binds (ps := ["_law_cell_here"]) fun _ _ _ _ _ _ us hl => match us, hl with | [_], _ => rfl
  obtain ⟨fd1, F10⟩ := D.def_ 1 (d := D1) rfl
  have F1 : Fun K "_law_cell" "_law_cell" s__law_cell (He.fAd K ("_law_cell", none)) fd1 := fun_of (st := s__law_cell) F10
  have bn1 := F1.binds (ps := ["_law_script", "_law_k"]) fun _ _ _ _ _ _ us hl => match us, hl with | [_, _], _ => rfl
  obtain ⟨fd2, F20⟩ := D.def_ 2 (d := D2) rfl
  have F2 : Fun K "_law_draw" "_law_draw" s__law_draw (He.fAd K ("_law_draw", none)) fd2 := fun_of (st := s__law_draw) F20
  have bn2 := F2.binds (ps := ["_law_pen_here", "_law_many"]) fun _ _ _ _ _ _ us hl => match us, hl with | [_, _], _ => rfl
  obtain ⟨fd3, F30⟩ := D.def_ 3 (d := D3) rfl
  have F3 : Fun K "_law_arranged" "_law_arranged" s__law_arranged (He.fAd K ("_law_arranged", none)) fd3 := fun_of (st := s__law_arranged) F30
  have bn3 := F3.binds (ps := ["_law_pen_here", "_law_things"]) fun _ _ _ _ _ _ us hl => match us, hl with | [_, _], _ => rfl
  obtain ⟨fd4, F40⟩ := D.def_ 4 (d := D4) rfl
  have F4 : Fun K "_law_pick" "_law_pick" s__law_pick (He.fAd K ("_law_pick", none)) fd4 := fun_of (st := s__law_pick) F40
  have bn4 := F4.binds (ps := ["_law_pen_here", "_law_some"]) fun _ _ _ _ _ _ us hl => match us, hl with | [_, _], _ => rfl
  obtain ⟨fd5, F50⟩ := D.def_ 5 (d := D5) rfl
  have F5 : Fun K "_law_kit" "_law_kit" s__law_kit (He.fAd K ("_law_kit", none)) fd5 := fun_of (st := s__law_kit) F50
  have bn5 := F5.binds (ps := ["_law_pen_here", "_law_upto"]) fun _ _ _ _ _ _ us hl => match us, hl with | [_, _], _ => rfl
  obtain ⟨fd6, F60⟩ := D.def_ 6 (d := D6) rfl
  have F6 : Fun K "_law_kit_text" "_law_kit_text" s__law_kit_text (He.fAd K ("_law_kit_text", none)) fd6 := fun_of (st := s__law_kit_text) F60
  have bn6 := F6.binds (ps := ["_law_kit_here"]) fun _ _ _ _ _ _ us hl => match us, hl with | [_], _ => rfl
  obtain ⟨fd7, F70⟩ := D.def_ 7 (d := D7) rfl
  have F7 : Fun K "_law_bent_kits" "_law_bent_kits" s__law_bent_kits (He.fAd K ("_law_bent_kits", none)) fd7 := fun_of (st := s__law_bent_kits) F70
  have bn7 := F7.binds (ps := ["_law_pen_here", "_law_kit_here"]) fun _ _ _ _ _ _ us hl => match us, hl with | [_, _], _ => rfl
  obtain ⟨fd8, F80⟩ := D.def_ 8 (d := D8) rfl
  have F8 : Fun K "_law_great_kit" "_law_great_kit" s__law_great_kit (He.fAd K ("_law_great_kit", none)) fd8 := fun_of (st := s__law_great_kit) F80
  have bn8 := F8.binds (ps := ["_law_pen_here"]) fun _ _ _ _ _ _ us hl => match us, hl with | [_], _ => rfl
  obtain ⟨fd9, F90⟩ := D.def_ 9 (d := D9) rfl
  have F9 : Fun K "_law_kind" "_law_kind" s__law_kind (He.fAd K ("_law_kind", none)) fd9 := fun_of (st := s__law_kind) F90
  have bn9 := F9.binds (ps := ["_law_error"]) fun _ _ _ _ _ _ us hl => match us, hl with | [_], _ => rfl
  obtain ⟨fd10, F100⟩ := D.def_ 10 (d := D10) rfl
  have F10 : Fun K "_law_said" "_law_said" s__law_said (He.fAd K ("_law_said", none)) fd10 := fun_of (st := s__law_said) F100
  have bn10 := F10.binds (ps := ["_law_call"]) fun _ _ _ _ _ _ us hl => match us, hl with | [_], _ => rfl
  obtain ⟨fd11, F110⟩ := D.def_ 11 (d := D11) rfl
  have F11 : Fun K "is_between" "is_between" s_is_between (He.fAd K ("is_between", none)) fd11 := fun_of (st := s_is_between) F110
  have bn11 := F11.binds (ps := ["thing", "low", "high"]) fun _ _ _ _ _ _ us hl => match us, hl with | [_, _, _], _ => rfl
  obtain ⟨fd12, F120⟩ := D.def_ 12 (d := D12) rfl
  have F12 : Fun K "is_arities" "is_arities" s_is_arities (He.fAd K ("is_arities", none)) fd12 := fun_of (st := s_is_arities) F120
  have bn12 := F12.binds (ps := ["thing"]) fun _ _ _ _ _ _ us hl => match us, hl with | [_], _ => rfl
  obtain ⟨fd13, F130⟩ := D.def_ 13 (d := D13) rfl
  have F13 : Fun K "is_conversion" "is_conversion" s_is_conversion (He.fAd K ("is_conversion", none)) fd13 := fun_of (st := s_is_conversion) F130
  have bn13 := F13.binds (ps := ["forms", "thing"]) fun _ _ _ _ _ _ us hl => match us, hl with | [_, _], _ => rfl
  obtain ⟨fd14, F140⟩ := D.def_ 14 (d := D14) rfl
  have F14 : Fun K "is_instruction" "is_instruction" s_is_instruction (He.fAd K ("is_instruction", none)) fd14 := fun_of (st := s_is_instruction) F140
  have bn14 := F14.binds (ps := ["arities", "forms", "thing"]) fun _ _ _ _ _ _ us hl => match us, hl with | [_, _, _], _ => rfl
  obtain ⟨fd15, F150⟩ := D.def_ 15 (d := D15) rfl
  have F15 : Fun K "is_machine" "is_machine" s_is_machine (He.fAd K ("is_machine", none)) fd15 := fun_of (st := s_is_machine) F150
  have bn15 := F15.binds (ps := ["thing"]) fun _ _ _ _ _ _ us hl => match us, hl with | [_], _ => rfl
  obtain ⟨fd16, F160⟩ := D.def_ 16 (d := D16) rfl
  have F16 : Fun K "need_machine" "need_machine" s_need_machine (He.fAd K ("need_machine", none)) fd16 := fun_of (st := s_need_machine) F160
  have bn16 := F16.binds (ps := ["thing"]) fun _ _ _ _ _ _ us hl => match us, hl with | [_], _ => rfl
  obtain ⟨fd17, F170⟩ := D.def_ 17 (d := D17) rfl
  have F17 : Fun K "words_of" "words_of" s_words_of (He.fAd K ("words_of", none)) fd17 := fun_of (st := s_words_of) F170
  have bn17 := F17.binds (ps := ["some"]) fun _ _ _ _ _ _ us hl => match us, hl with | [_], _ => rfl
  obtain ⟨fd18, F180⟩ := D.def_ 18 (d := D18) rfl
  have F18 : Fun K "instruction_text" "instruction_text" s_instruction_text (He.fAd K ("instruction_text", none)) fd18 := fun_of (st := s_instruction_text) F180
  have bn18 := F18.binds (ps := ["instruction"]) fun _ _ _ _ _ _ us hl => match us, hl with | [_], _ => rfl
  obtain ⟨fd19, F190⟩ := D.def_ 19 (d := D19) rfl
  have F19 : Fun K "conversion_text" "conversion_text" s_conversion_text (He.fAd K ("conversion_text", none)) fd19 := fun_of (st := s_conversion_text) F190
  have bn19 := F19.binds (ps := ["conversion"]) fun _ _ _ _ _ _ us hl => match us, hl with | [_], _ => rfl
  obtain ⟨fd20, F200⟩ := D.def_ 20 (d := D20) rfl
  have F20 : Fun K "machine_text_of" "machine_text_of" s_machine_text_of (He.fAd K ("machine_text_of", none)) fd20 := fun_of (st := s_machine_text_of) F200
  have bn20 := F20.binds (ps := ["machine"]) fun _ _ _ _ _ _ us hl => match us, hl with | [_], _ => rfl
  obtain ⟨fd21, F210⟩ := D.def_ 21 (d := D21) rfl
  have F21 : Fun K "machine_text" "machine_text" s_machine_text (He.fAd K ("machine_text", none)) fd21 := fun_of (st := s_machine_text) F210
  have bn21 := F21.binds (ps := ["machine"]) fun _ _ _ _ _ _ us hl => match us, hl with | [_], _ => rfl
  obtain ⟨fd22, F220⟩ := D.def_ 22 (d := D22) rfl
  have F22 : Fun K "number_read" "number_read" s_number_read (He.fAd K ("number_read", none)) fd22 := fun_of (st := s_number_read) F220
  have bn22 := F22.binds (ps := ["text"]) fun _ _ _ _ _ _ us hl => match us, hl with | [_], _ => rfl
  obtain ⟨fd23, F230⟩ := D.def_ 23 (d := D23) rfl
  have F23 : Fun K "numbers_in" "numbers_in" s_numbers_in (He.fAd K ("numbers_in", none)) fd23 := fun_of (st := s_numbers_in) F230
  have bn23 := F23.binds (ps := ["words"]) fun _ _ _ _ _ _ us hl => match us, hl with | [_], _ => rfl
  obtain ⟨fd24, F240⟩ := D.def_ 24 (d := D24) rfl
  have F24 : Fun K "instruction_in" "instruction_in" s_instruction_in (He.fAd K ("instruction_in", none)) fd24 := fun_of (st := s_instruction_in) F240
  have bn24 := F24.binds (ps := ["words"]) fun _ _ _ _ _ _ us hl => match us, hl with | [_], _ => rfl
  obtain ⟨fd25, F250⟩ := D.def_ 25 (d := D25) rfl
  have F25 : Fun K "conversion_in" "conversion_in" s_conversion_in (He.fAd K ("conversion_in", none)) fd25 := fun_of (st := s_conversion_in) F250
  have bn25 := F25.binds (ps := ["words"]) fun _ _ _ _ _ _ us hl => match us, hl with | [_], _ => rfl
  obtain ⟨fd26, F260⟩ := D.def_ 26 (d := D26) rfl
  have F26 : Fun K "machine_read" "machine_read" s_machine_read (He.fAd K ("machine_read", none)) fd26 := fun_of (st := s_machine_read) F260
  have bn26 := F26.binds (ps := ["text"]) fun _ _ _ _ _ _ us hl => match us, hl with | [_], _ => rfl
  obtain ⟨fd27, F270⟩ := D.def_ 27 (d := D27) rfl
  have F27 : Fun K "read_machine" "read_machine" s_read_machine (He.fAd K ("read_machine", none)) fd27 := fun_of (st := s_read_machine) F270
  have bn27 := F27.binds (ps := ["text"]) fun _ _ _ _ _ _ us hl => match us, hl with | [_], _ => rfl
  obtain ⟨fd28, F280⟩ := D.def_ 28 (d := D28) rfl
  have F28 : Fun K "_law_right" "_law_right" s__law_right (He.fAd K ("_law_right", none)) fd28 := fun_of (st := s__law_right) F280
  have bn28 := F28.binds (ps := ["_law_kit_here"]) fun _ _ _ _ _ _ us hl => match us, hl with | [_], _ => rfl
  obtain ⟨fd29, F290⟩ := D.def_ 29 (d := D29) rfl
  have F29 : Fun K "_law_is_whole" "_law_is_whole" s__law_is_whole (He.fAd K ("_law_is_whole", none)) fd29 := fun_of (st := s__law_is_whole) F290
  have bn29 := F29.binds (ps := ["_law_number", "_law_least", "_law_last"]) fun _ _ _ _ _ _ us hl => match us, hl with | [_, _, _], _ => rfl
  obtain ⟨fd30, F300⟩ := D.def_ 30 (d := D30) rfl
  have F30 : Fun K "_law_is_deal" "_law_is_deal" s__law_is_deal (He.fAd K ("_law_is_deal", none)) fd30 := fun_of (st := s__law_is_deal) F300
  have bn30 := F30.binds (ps := ["_law_ranks", "_law_many", "_law_row"]) fun _ _ _ _ _ _ us hl => match us, hl with | [_, _, _], _ => rfl
  obtain ⟨fd31, F310⟩ := D.def_ 31 (d := D31) rfl
  have F31 : Fun K "_law_is_kit" "_law_is_kit" s__law_is_kit (He.fAd K ("_law_is_kit", none)) fd31 := fun_of (st := s__law_is_kit) F310
  have bn31 := F31.binds (ps := ["_law_thing"]) fun _ _ _ _ _ _ us hl => match us, hl with | [_], _ => rfl
  obtain ⟨fd32, F320⟩ := D.def_ 32 (d := D32) rfl
  have F32 : Fun K "law" "law" s_law (He.fAd K ("law", none)) fd32 := fun_of (st := s_law) F320
  have bn32 := F32.binds (ps := ["_law_script"]) fun _ _ _ _ _ _ us hl => match us, hl with | [_], _ => rfl
  have e := hfa.symm.trans m32
  cases e
  have C__law_pen : CallOk PySem.Challenge.rw_codepick_k84_texts_of_machines.prog w K mg (TT K TF) 1 "_law_pen" ["_law_cell_here"] M__law_pen_2 := ok__law_pen (k := 0) F0 m0 bn0 z_max
  have C__law_cell : CallOk PySem.Challenge.rw_codepick_k84_texts_of_machines.prog w K mg (TT K TF) 1 "_law_cell" ["_law_script", "_law_k"] M__law_cell := ok__law_cell (k := 0) F1 m1 bn1 z_len
  have C__law_draw : CallOk PySem.Challenge.rw_codepick_k84_texts_of_machines.prog w K mg (TT K TF) 1 "_law_draw" ["_law_pen_here", "_law_many"] M__law_draw_2 := ok__law_draw (k := 0) F2 m2 bn2 
  have C__law_arranged : CallOk PySem.Challenge.rw_codepick_k84_texts_of_machines.prog w K mg (TT K TF) 2 "_law_arranged" ["_law_pen_here", "_law_things"] M__law_arranged := ok__law_arranged (k := 1) F3 m3 bn3 (C__law_draw.mono (by decide)) z_len z_list
  have C__law_pick : CallOk PySem.Challenge.rw_codepick_k84_texts_of_machines.prog w K mg (TT K TF) 2 "_law_pick" ["_law_pen_here", "_law_some"] M__law_pick_2 := ok__law_pick (k := 1) F4 m4 bn4 (C__law_draw.mono (by decide)) z_len
  have C__law_kit : CallOk PySem.Challenge.rw_codepick_k84_texts_of_machines.prog w K mg (TT K TF) 3 "_law_kit" ["_law_pen_here", "_law_upto"] M__law_kit := ok__law_kit (k := 2) F5 m5 bn5 (C__law_arranged.mono (by decide)) (C__law_draw.mono (by decide)) (C__law_pick.mono (by decide)) z_enumerate z_int z_range z_tuple
  have C__law_kit_text : CallOk PySem.Challenge.rw_codepick_k84_texts_of_machines.prog w K mg (TT K TF) 1 "_law_kit_text" ["_law_kit_here"] M__law_kit_text := ok__law_kit_text (k := 0) F6 m6 bn6 z_str
  have C__law_bent_kits : CallOk PySem.Challenge.rw_codepick_k84_texts_of_machines.prog w K mg (TT K TF) 2 "_law_bent_kits" ["_law_pen_here", "_law_kit_here"] M__law_bent_kits := ok__law_bent_kits (k := 1) F7 m7 bn7 (C__law_kit_text.mono (by decide)) z_list
  have C__law_great_kit : CallOk PySem.Challenge.rw_codepick_k84_texts_of_machines.prog w K mg (TT K TF) 2 "_law_great_kit" ["_law_pen_here"] M__law_great_kit := ok__law_great_kit (k := 1) F8 m8 bn8 (C__law_draw.mono (by decide)) z_range z_tuple
  have C_is_between : CallOk PySem.Challenge.rw_codepick_k84_texts_of_machines.prog w K mg (TT K TF) 1 "is_between" ["thing", "low", "high"] M_is_between := ok_is_between (k := 0) F11 m11 bn11 z_bool z_int z_isinstance
  have C_is_arities : CallOk PySem.Challenge.rw_codepick_k84_texts_of_machines.prog w K mg (TT K TF) 2 "is_arities" ["thing"] M_is_arities := ok_is_arities (k := 1) F12 m12 bn12 (C_is_between.mono (by decide)) z_all z_isinstance z_len z_tuple g_MOST_ARITY g_MOST_OPERATORS
  have C_is_conversion : CallOk PySem.Challenge.rw_codepick_k84_texts_of_machines.prog w K mg (TT K TF) 2 "is_conversion" ["forms", "thing"] M_is_conversion := ok_is_conversion (k := 1) F13 m13 bn13 (C_is_between.mono (by decide)) z_isinstance z_len z_tuple g_MOST_PRICE
  have C_is_instruction : CallOk PySem.Challenge.rw_codepick_k84_texts_of_machines.prog w K mg (TT K TF) 2 "is_instruction" ["arities", "forms", "thing"] M_is_instruction := ok_is_instruction (k := 1) F14 m14 bn14 (C_is_between.mono (by decide)) z_all z_isinstance z_len z_tuple g_MOST_PRICE
  have C_is_machine : CallOk PySem.Challenge.rw_codepick_k84_texts_of_machines.prog w K mg (TT K TF) 3 "is_machine" ["thing"] M_is_machine := ok_is_machine (k := 2) F15 m15 bn15 (C_is_arities.mono (by decide)) (C_is_between.mono (by decide)) (C_is_conversion.mono (by decide)) (C_is_instruction.mono (by decide)) z_all z_isinstance z_len z_tuple g_MOST_CONVERSIONS g_MOST_FORMS g_MOST_INSTRUCTIONS
  have C_need_machine : CallOk PySem.Challenge.rw_codepick_k84_texts_of_machines.prog w K mg (TT K TF) 4 "need_machine" ["thing"] M_need_machine_2 := ok_need_machine (k := 3) F16 m16 bn16 (C_is_machine.mono (by decide)) XS
  have C_words_of : CallOk PySem.Challenge.rw_codepick_k84_texts_of_machines.prog w K mg (TT K TF) 1 "words_of" ["some"] M_words_of := ok_words_of (k := 0) F17 m17 bn17 z_str
  have C_instruction_text : CallOk PySem.Challenge.rw_codepick_k84_texts_of_machines.prog w K mg (TT K TF) 2 "instruction_text" ["instruction"] M_instruction_text := ok_instruction_text (k := 1) F18 m18 bn18 (C_words_of.mono (by decide)) z_str g_ARROW g_AT g_COLON
  have C_conversion_text : CallOk PySem.Challenge.rw_codepick_k84_texts_of_machines.prog w K mg (TT K TF) 1 "conversion_text" ["conversion"] M_conversion_text := ok_conversion_text (k := 0) F19 m19 bn19 z_str g_ARROW g_AT
  have C_machine_text_of : CallOk PySem.Challenge.rw_codepick_k84_texts_of_machines.prog w K mg (TT K TF) 3 "machine_text_of" ["machine"] M_machine_text_of := ok_machine_text_of (k := 2) F20 m20 bn20 (C_conversion_text.mono (by decide)) (C_instruction_text.mono (by decide)) (C_words_of.mono (by decide)) z_str g_FORMS g_OPERATORS
  have C_machine_text : CallOk PySem.Challenge.rw_codepick_k84_texts_of_machines.prog w K mg (TT K TF) 5 "machine_text" ["machine"] M_machine_text := ok_machine_text (k := 4) F21 m21 bn21 (C_machine_text_of.mono (by decide)) (C_need_machine.mono (by decide))
  have C_number_read : CallOk PySem.Challenge.rw_codepick_k84_texts_of_machines.prog w K mg (TT K TF) 1 "number_read" ["text"] M__law_number_in := ok_number_read (k := 0) F22 m22 bn22 z_int g_DIGITS
  have C_numbers_in : CallOk PySem.Challenge.rw_codepick_k84_texts_of_machines.prog w K mg (TT K TF) 2 "numbers_in" ["words"] M_numbers_in := ok_numbers_in (k := 1) F23 m23 bn23 (C_number_read.mono (by decide))
  have C_instruction_in : CallOk PySem.Challenge.rw_codepick_k84_texts_of_machines.prog w K mg (TT K TF) 3 "instruction_in" ["words"] M_instruction_in := ok_instruction_in (k := 2) F24 m24 bn24 (C_numbers_in.mono (by decide)) z_tuple
  have C_conversion_in : CallOk PySem.Challenge.rw_codepick_k84_texts_of_machines.prog w K mg (TT K TF) 3 "conversion_in" ["words"] M_conversion_in := ok_conversion_in (k := 2) F25 m25 bn25 (C_numbers_in.mono (by decide)) z_tuple
  have C_machine_read : CallOk PySem.Challenge.rw_codepick_k84_texts_of_machines.prog w K mg (TT K TF) 4 "machine_read" ["text"] M_machine_read := ok_machine_read (k := 3) F26 m26 bn26 (C_conversion_in.mono (by decide)) (C_instruction_in.mono (by decide)) (C_is_machine.mono (by decide)) (C_machine_text_of.mono (by decide)) (C_number_read.mono (by decide)) (C_numbers_in.mono (by decide)) z_len z_tuple g_COLON g_FORMS g_OPERATORS
  have C_read_machine : CallOk PySem.Challenge.rw_codepick_k84_texts_of_machines.prog w K mg (TT K TF) 5 "read_machine" ["text"] M_read_machine := ok_read_machine (k := 4) F27 m27 bn27 (C_machine_read.mono (by decide)) z_isinstance z_str XS
  have C__law_is_whole : CallOk PySem.Challenge.rw_codepick_k84_texts_of_machines.prog w K mg (TT K TF) 1 "_law_is_whole" ["_law_number", "_law_least", "_law_last"] M_is_between := ok__law_is_whole (k := 0) F29 m29 bn29 z_bool z_int z_isinstance
  have C__law_is_deal : CallOk PySem.Challenge.rw_codepick_k84_texts_of_machines.prog w K mg (TT K TF) 2 "_law_is_deal" ["_law_ranks", "_law_many", "_law_row"] M__law_is_deal := ok__law_is_deal (k := 1) F30 m30 bn30 (C__law_is_whole.mono (by decide)) z_isinstance z_len z_tuple
  have C__law_is_kit : CallOk PySem.Challenge.rw_codepick_k84_texts_of_machines.prog w K mg (TT K TF) 3 "_law_is_kit" ["_law_thing"] M__law_is_kit := ok__law_is_kit (k := 2) F31 m31 bn31 (C__law_is_deal.mono (by decide)) (C__law_is_whole.mono (by decide)) z_isinstance z_len z_tuple
  have bA := FunD.bindsA (ps := ["_law_script"]) F320 fun _ _ _ _ _ _ us hl => match us, hl with | [_], _ => rfl
  refine lawAt_of (x := "_law_script") X S (fun s v => bA s [v] rfl) lt fun base TB => ?_
  have C__law_right : CallB PySem.Challenge.rw_codepick_k84_texts_of_machines.prog w K mg base (TT K TF) 8 "_law_right" ["_law_kit_here"] M__law_right_16 := ok__law_right (k := 5) F28 m28 bn28 (C__law_kit_text.mono (by decide)) (C_machine_text.mono (by decide)) (C_read_machine.mono (by decide)) z_ValueError z_isinstance z_range z_repr XS F10 m10 bn10 F9 m9 bn9 (TB ("_law_right", none) (by decide +kernel)) (code_of F28) (hm_of (x := ("_law_right", none)) (by decide +kernel)) (hu_of nd (x := ("_law_right", none)) (by decide +kernel))
  exact fn_law (k := 8) F32 (C__law_bent_kits.mono (by decide)) (C__law_cell.mono (by decide)) (C__law_great_kit.mono (by decide)) (C__law_is_kit.mono (by decide)) (C__law_kit.mono (by decide)) (C__law_pen.mono (by decide)) (C__law_right.mono (by decide)) (C_machine_text.mono (by decide)) z_ValueError z_isinstance z_len z_max z_min z_range z_repr XS F10 m10 bn10 F9 m9 bn9 (TB ("law", none) (by decide +kernel)) (code_of F32) (hm_of (x := ("law", none)) (by decide +kernel)) (hu_of nd (x := ("law", none)) (by decide +kernel))
def LO0 : List Str := ["__name__", "PickError", "NoMachine", "NoText", "MOST_OPERATORS", "MOST_ARITY", "MOST_FORMS", "MOST_INSTRUCTIONS", "MOST_CONVERSIONS", "MOST_PRICE", "is_between", "is_arities", "is_instruction", "is_conversion", "is_machine", "need_machine", "DIGITS", "FORMS", "OPERATORS", "ARROW", "AT", "COLON", "number_read", "words_of", "instruction_text", "conversion_text", "machine_text_of", "machine_text", "numbers_in", "instruction_in"]
def LO1 : List Str := ["conversion_in", "machine_read", "read_machine", "_law_cell", "_law_pen", "_law_draw", "_law_pick", "_law_is_whole", "_law_kind", "_law_said", "_law_arranged", "_law_kit", "_law_kit_text", "_law_is_kit", "_law_is_deal", "_law_great_kit", "_law_right", "_law_bent_kits"]
def LO : List Str := LO0 ++ LO1
abbrev R : PySem.W.OpenRow := PySem.W.OpenLaw.row PySem.Challenge.rw_codepick_k84_texts_of_machines
abbrev hk : PySem.W.Hook := He.hookX 6 FA FN [] TF EX
def ob (s : PySem.W.SharedT) : He.AlX := He.obsX 6 FA FN [] TF EX (HandSHeadRun.getT s)
theorem ob_eq (s : PySem.W.SharedT) : ob s = hk.obs s.abs := He.obsX_eq (HandSHeadRun.getT_eq s)
theorem run (w : World) : HandSHeadRun.RunEq R (PySem.W.view R.prog [51]) hk ob 8000 LO w := by
  intro os
  kernel_rfl
end W84
open PySem PySem.W PySem.Calls PyProof.Rows
set_option maxHeartbeats 0 in
theorem PySem.Challenge.cw_codepick_k84_texts_of_machines_holds : PySem.Challenge.rw_codepick_k84_texts_of_machines.Holds := by
  w_on; o_law
  refine HandSHeadRun.head_any (r := OpenLaw.row PySem.Challenge.rw_codepick_k84_texts_of_machines) (q := view (OpenLaw.row PySem.Challenge.rw_codepick_k84_texts_of_machines).prog [51]) (H := W84.hk) (ob := W84.ob) (M := 8000) (loose := W84.LO) (d := HandSHeadRun.topDef (OpenLaw.row PySem.Challenge.rw_codepick_k84_texts_of_machines).prog 51) (kwd := []) W84.ob_eq
    (by kernel_rfl) (fun s => by kernel_rfl) W84.run (by kernel_rfl) (by kernel_rfl) (by kernel_rfl) (by rfl) (by first | assumption | decide +kernel) (by decide +kernel) ⟨rfl, rfl, rfl, rfl, rfl, by decide +kernel⟩ ?hw ?hc
  case hw => w_witness2
  case hc =>
    refine Dy.walkT (l := PySem.Challenge.rw_codepick_k84_texts_of_machines) (n := 63) (k := 11) (x := "_law_script") rfl (by decide) (by kernel_rfl) ⟨rfl, by decide, by decide⟩ ?F
    intro w mg fa h Y G hmg0
    obtain ⟨K, KX, c⟩ := Y
    have hmg : mg ("law" : PySem.Str) = some (.ref fa) := by
      have e : (HandSHeadRun.topDef (OpenLaw.row PySem.Challenge.rw_codepick_k84_texts_of_machines).prog 51).name = ("law" : PySem.Str) := by kernel_rfl
      rw [← e]
      exact hmg0
    exact ⟨K, KX, W84.law_at KX G hmg c Q.law_true_84⟩
