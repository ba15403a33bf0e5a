import PyProof.Rows.All
import Wide.All
import OpenK.AllK
import Wide.FinOn
import HandS.ForMost
import HandS.Star
import HandS.IsInst
import HandS.TupAny
import HandS.TupMul
import HandS.Wide
import HandS.Zip
import HandS.Style
import HandS.Flow
import HandS.Deep
import HandS.NoneIn
import HandS.More
import KE.KDictKeyed
import PyProof.ReprRoads
import HandS.Lambda
import HandS.ForExc
import HandS.EndBits
import KE.GoesEnum
import HandS.RevRange
import HandS.TupLen
import HandS.SetKeys
import HandS.FStrTup
import HandS.RaiseMore
import PyProof.ListMulRoad
import PyProof.FactsAll.tuple_2
import PyProof.Rows.IntBool
import PyProof.CallStr
import HandS.Exc
import HandS.ExcOwn
import HandS.ExcIs
import HandS.HeadHook1
import HandS.WordsExc
import HandS.HotCalls
import HandS.EndTab
import HandS.HeadWalk
import HandS.HeadHook4
import HandS.Head2
import HandS.HeadEnd
import HandS.Iter
import HandS.Conv
import KE.SortData
import PyProof.P3Eq
import PySem.Challenge.RW_codepick_k04_same_trees
set_option Elab.async false
set_option linter.all false
set_option maxRecDepth 100000
set_option maxHeartbeats 4000000
namespace Dy
open PySem PySem.Spec PyProof.Rows L2
abbrev St := L2.St
structure Exn where
  cls : Str
  args : List PyData
inductive Res (α : Type) where
  | ok (a : α)
  | er (x : Exn)
  | no
def Res.bind {α β : Type} : Res α → (α → Res β) → Res β
  | .ok a, f => f a
  | .er x, _ => .er x
  | .no, _ => .no
instance : Monad Res where
  pure := .ok
  bind := Res.bind
def Res.post {α : Type} (P : α → Prop) (E : Exn → Prop) : Res α → Prop
  | .ok a => P a
  | .er x => E x
  | .no => False
@[simp] theorem bind_ok {α β : Type} (a : α) (f : α → Res β) : (Res.ok a >>= f) = f a := rfl
@[simp] theorem bind_er {α β : Type} (x : Exn) (f : α → Res β) : ((Res.er x : Res α) >>= f) = .er x := rfl
@[simp] theorem bind_no {α β : Type} (f : α → Res β) : ((Res.no : Res α) >>= f) = .no := rfl
@[simp] theorem pure_ok {α : Type} (a : α) : (pure a : Res α) = .ok a := rfl
def ofO {α : Type} : Option α → Res α
  | some a => .ok a
  | none => .no
inductive O where
  | fr (d : PyData)
  | ol (ds : List PyData)
  | oo (rs : List (List PyData))
  | od (es : List (PyData × PyData))
def O.data : O → PyData
  | .fr d => d
  | .ol ds => .list ds
  | .oo rs => .list (rs.map PyData.list)
  | .od es => .dict es
abbrev Env := List (Option O)
def kD : Key → PyData
  | .inl i => .int i
  | .inr x => .str x
mutual
/-- what may be a key of a dict of tuples: None, whole numbers, tuples of such -/
def keyOf : PyData → Option NestedKey
  | .none => some .none
  | .int i => some (.num i)
  | .tuple xs => (keysOf xs).map .tup
  | .bool _ | .str _ | .list _ | .dict _ => none
def keysOf : List PyData → Option (List NestedKey)
  | [] => some []
  | x :: xs => (keyOf x).bind fun k => (keysOf xs).map fun ks => k :: ks
end
/-- the pairs of a dict of tuples: the key, its value, the value there -/
abbrev TP := NestedKey × V × V
abbrev YP := NestedKey × Addr × Value
def PY : TP → YP → Prop := fun p q => p.1 = q.1 ∧ p.2.1 = V.ref q.2.1 ∧ RelV p.2.2 q.2.2
def isDN (h : Heap) (a : Addr) (ys : List YP) : Prop := ∃ o es ep, h.get? a = some o ∧ o.ExactDict ∧ o.data = .dict es ep ∧ (∀ w : World, es.toList = ys.map fun y => ⟨y.1.hash w, .ref y.2.1, y.2.2⟩) ∧ (ys.map (·.1)).Nodup
/-- a dict whose keys are tuples -/
def dN (a : Addr) (ts : List TP) : HO := .ext fun h => (a == sysModules) = false ∧ ts.length ≤ sizeLine ∧ ∃ ys : List YP, Paired PY ts ys ∧ isDN h a ys
/-- a list to be read, its object known in full -/
def LsL (K : PySem.W.Frag) (I : Hp) (a : Addr) (xs : List V) : Prop := Rd I a (.lst xs) ∨ ∃ (its : List Value) (n : Nat), K.lookup a = some { cls := .type "list", data := .seq its.toArray n } ∧ its.length ≤ sizeLine ∧ Vals xs its
theorem LsL.of {K : PySem.W.Frag} {I : Hp} {a : Addr} {xs : List V} (h : I a = some (.lst xs)) : LsL K I a xs := .inl (.inl h)
theorem LsL.sq {K : PySem.W.Frag} {I : Hp} {a : Addr} {xs : List V} (h : LsL K I a xs) : SqL K I a xs := by
  rcases h with h | ⟨its, n, h1, h2, h3⟩
  · exact .inl h
  · exact .inr ⟨_, its.toArray, n, h1, rfl, rfl, rfl, by simpa using h2, by simpa using h3⟩
theorem LsL.obj {X : Cx} {pins : List (Addr × Obj)} {σ : St} {H : Hp} {s : Shared} {a : Addr} {xs : List V} (J : Inv X pins σ H s) (h : LsL X.K H a xs) : xs.length ≤ sizeLine ∧ ∃ (its : List Value) (n : Nat), Vals xs its ∧ xs.length = its.length ∧ s.heap.get? a = some { cls := .type "list", data := .seq its.toArray n } := by
  rcases h with h | ⟨its, n, h1, h2, h3⟩
  · obtain ⟨z, its, n, r, e⟩ := h.ok J.hok
    exact ⟨z, its, n, r, r.length, e⟩
  · exact ⟨by rw [h3.length]; exact h2, its, n, h3, h3.length, J.kIn a _ h1⟩
mutual
inductive Rp (K : PySem.W.Frag) (I : Hp) : V → PyData → Prop
  | non : Rp K I .non .none
  | bl (b : Bool) : Rp K I (.bl b) (.bool b)
  | int (i : Int) : Rp K I (.int i) (.int i)
  | str (x : Str) : Rp K I (.str x) (.str x)
  | lst {a : Addr} {xs : List V} {ds : List PyData} : LsL K I a xs → RpAll K I xs ds → Rp K I (.ref a) (.list ds)
  | tup {a : Addr} {xs : List V} {ds : List PyData} : SqT K I a xs → RpAll K I xs ds → Rp K I (.ref a) (.tuple ds)
  | dic {a : Addr} {kvs : List (Key × V)} {es : List (PyData × PyData)} : Rd I a (.dK kvs) → RpKv K I kvs es → Rp K I (.ref a) (.dict es)
  | dit {a : Addr} {ts : List TP} {es : List (PyData × PyData)} : Rd I a (dN a ts) → RpKt K I ts es → Rp K I (.ref a) (.dict es)
inductive RpAll (K : PySem.W.Frag) (I : Hp) : List V → List PyData → Prop
  | nil : RpAll K I [] []
  | cons {v : V} {vs : List V} {d : PyData} {ds : List PyData} : Rp K I v d → RpAll K I vs ds → RpAll K I (v :: vs) (d :: ds)
inductive RpKv (K : PySem.W.Frag) (I : Hp) : List (Key × V) → List (PyData × PyData) → Prop
  | nil : RpKv K I [] []
  | cons {k : Key} {v : V} {kvs : List (Key × V)} {d : PyData} {es : List (PyData × PyData)} : Rp K I v d → RpKv K I kvs es → RpKv K I ((k, v) :: kvs) ((kD k, d) :: es)
inductive RpKt (K : PySem.W.Frag) (I : Hp) : List TP → List (PyData × PyData) → Prop
  | nil : RpKt K I [] []
  | cons {k : NestedKey} {kv v : V} {ts : List TP} {kd d : PyData} {es : List (PyData × PyData)} : keyOf kd = some k → k.depth ≤ 8 → Rp K I kv kd → Rp K I v d → RpKt K I ts es → RpKt K I ((k, kv, v) :: ts) ((kd, d) :: es)
end
section
variable {K : PySem.W.Frag} {I I' H H' : Hp}
theorem same_rd {a : Addr} {u : HO} (e : Same I I') (h : Rd I a u) : Rd I' a u := by
  rcases h with h | ⟨o, h⟩
  · exact .inl (e _ _ h)
  · exact .inr ⟨o, e _ _ h⟩
theorem same_t {a : Addr} {xs : List V} (e : Same I I') (h : SqT K I a xs) : SqT K I' a xs := by
  rcases h with h | h
  · exact .inl (same_rd e h)
  · exact .inr h
theorem LsL.mono {a : Addr} {xs : List V} (e : Same I I') (h : LsL K I a xs) : LsL K I' a xs := by
  rcases h with h | h
  · exact .inl (same_rd e h)
  · exact .inr h
mutual
theorem Rp.mono (e : Same I I') : ∀ {v : V} {d : PyData}, Rp K I v d → Rp K I' v d
  | _, _, .non => .non
  | _, _, .bl b => .bl b
  | _, _, .int i => .int i
  | _, _, .str x => .str x
  | _, _, .lst s a => .lst (LsL.mono e s) (RpAll.mono e a)
  | _, _, .tup s a => .tup (same_t e s) (RpAll.mono e a)
  | _, _, .dic s a => .dic (same_rd e s) (RpKv.mono e a)
  | _, _, .dit s a => .dit (same_rd e s) (RpKt.mono e a)
theorem RpAll.mono (e : Same I I') : ∀ {vs : List V} {ds : List PyData}, RpAll K I vs ds → RpAll K I' vs ds
  | _, _, .nil => .nil
  | _, _, .cons h t => .cons (Rp.mono e h) (RpAll.mono e t)
theorem RpKv.mono (e : Same I I') : ∀ {vs : List (Key × V)} {ds : List (PyData × PyData)}, RpKv K I vs ds → RpKv K I' vs ds
  | _, _, .nil => .nil
  | _, _, .cons h t => .cons (Rp.mono e h) (RpKv.mono e t)
theorem RpKt.mono (e : Same I I') : ∀ {vs : List TP} {ds : List (PyData × PyData)}, RpKt K I vs ds → RpKt K I' vs ds
  | _, _, .nil => .nil
  | _, _, .cons h1 h2 h3 h4 t => .cons h1 h2 (Rp.mono e h3) (Rp.mono e h4) (RpKt.mono e t)
end
theorem RpAll.length : ∀ {vs : List V} {ds : List PyData}, RpAll K I vs ds → vs.length = ds.length
  | _, _, .nil => rfl
  | _, _, .cons _ t => by simp [t.length]
theorem RpAll.get : ∀ {vs : List V} {ds : List PyData} {i : Nat} {d : PyData}, RpAll K I vs ds → ds[i]? = some d → ∃ v, vs[i]? = some v ∧ Rp K I v d
  | _, _, _, _, .nil, e => by simp at e
  | _, _, 0, _, .cons h _, e => by simp at e; subst e; exact ⟨_, rfl, h⟩
  | _, _, i + 1, d, .cons _ t, e => by
    obtain ⟨v, h1, h2⟩ := RpAll.get (i := i) (d := d) t (by simpa using e)
    exact ⟨v, by simpa using h1, h2⟩
theorem RpAll.app : ∀ {vs ws : List V} {ds es : List PyData}, RpAll K I vs ds → RpAll K I ws es → RpAll K I (vs ++ ws) (ds ++ es)
  | _, _, _, _, .nil, s => s
  | _, _, _, _, .cons h t, s => .cons h (t.app s)
theorem RpAll.takes : ∀ {vs : List V} {ds : List PyData} (n : Nat), RpAll K I vs ds → RpAll K I (vs.take n) (ds.take n)
  | _, _, 0, _ => .nil
  | _, _, _ + 1, .nil => .nil
  | _, _, n + 1, .cons h t => .cons h (t.takes n)
theorem RpAll.drops : ∀ {vs : List V} {ds : List PyData} (n : Nat), RpAll K I vs ds → RpAll K I (vs.drop n) (ds.drop n)
  | _, _, 0, h => h
  | _, _, _ + 1, .nil => .nil
  | _, _, n + 1, .cons _ t => t.drops n
theorem RpAll.rev : ∀ {vs : List V} {ds : List PyData}, RpAll K I vs ds → RpAll K I vs.reverse ds.reverse
  | _, _, .nil => .nil
  | _, _, .cons h t => by
    rw [List.reverse_cons, List.reverse_cons]
    exact t.rev.app (.cons h .nil)
theorem RpAll.sets : ∀ {vs : List V} {ds : List PyData} {v : V} {d : PyData} (i : Nat), RpAll K I vs ds → Rp K I v d → RpAll K I (vs.set i v) (ds.set i d)
  | _, _, _, _, _, .nil, _ => .nil
  | _, _, _, _, 0, .cons _ t, h => .cons h t
  | _, _, _, _, i + 1, .cons h0 t, h => .cons h0 (t.sets i h)
end
/-- no table of code objects -/
def NT (o : HO) : Prop := ∀ ps, o ≠ .tbl ps
theorem NT.lst {xs : List V} : NT (.lst xs) := fun _ h => by cases h
theorem NT.dK {xs : List (Key × V)} : NT (.dK xs) := fun _ h => by cases h
theorem NT.ext {φ : Heap → Prop} : NT (.ext φ) := fun _ h => by cases h
/-- the fields of a caught exception, told by two numbers -/
def fe (i : Int) : Nat := if 0 ≤ i then 2 * i.toNat else 2 * (-i).toNat + 1
def fldS (p q : Int) : Str := ⟨#[fe p, fe q]⟩
def isFld (x : Str) : Bool := x.cps.size == 2
def FldI (I : Hp) (p : Addr × Str) : Prop := ∃ fs : List (Str × V), I p.1 = some (.xd fs) ∧ ∀ a l : Int, p.2 = fldS a l → fs.lookup ("amount" : Str) = some (V.int a) ∧ fs.lookup ("limit" : Str) = some (V.int l)
def CodI (I H : Hp) (p : Addr × Str) : Prop := ∃ ps : Array Value, H p.1 = some (.tbl ps) ∧ I p.1 = none ∧ TriplesOk ps.toList ∧ ∀ (pos : Pos) (cv : Value), codeAmong pos ps.toList = some cv → ∃ c, cv = .ref c ∧ I c = some (LamX.CodeO c p.2)
/-- the tables: what they tell are frozen code objects (or an exception's fields) -/
def TabI (T : List (Addr × Str)) (I H : Hp) : Prop := ∀ p ∈ T, if isFld p.2 = true then FldI I p else CodI I H p
theorem TabI.tail {T : List (Addr × Str)} {p : Addr × Str} {I H : Hp} (t : TabI (p :: T) I H) : TabI T I H := fun q hq => t q (List.mem_cons_of_mem _ hq)
theorem kt_upd {H : Hp} {a : Addr} {u o : HO} (h : H a = some u) (n : NT u) : ∀ b ps, H b = some (.tbl ps) → upd H a o b = some (.tbl ps) := fun b ps e => by
  rw [upd_ne (fun z => by subst z; rw [h] at e; cases e; exact n _ rfl)]; exact e
theorem kt_new {H : Hp} {a : Addr} {o : HO} (h : H a = none) : ∀ b ps, H b = some (.tbl ps) → upd H a o b = some (.tbl ps) := fun b ps e => by
  rw [upd_ne (fun z => by subst z; rw [h] at e; cases e)]; exact e
theorem TabI.mono {T : List (Addr × Str)} {I H I' H' : Hp} (t : TabI T I H) (e : Same I I') (k : ∀ a ps, H a = some (.tbl ps) → H' a = some (.tbl ps)) (ni : ∀ a ps, H a = some (.tbl ps) → I a = none → I' a = none) : TabI T I' H' := fun p hp => by
  have tp := t p hp
  by_cases hf : isFld p.2 = true
  · rw [if_pos hf] at tp ⊢
    obtain ⟨fs, h1, h2⟩ := tp
    exact ⟨fs, e _ _ h1, h2⟩
  · rw [if_neg hf] at tp ⊢
    obtain ⟨ps, h1, h0, h2, h3⟩ := tp
    refine ⟨ps, k _ _ h1, ni _ _ h1 h0, h2, fun pos cv hc => ?_⟩
    obtain ⟨c, e1, e2⟩ := h3 pos cv hc
    exact ⟨c, e1, e _ _ e2⟩
section
variable {K : PySem.W.Frag} {I I' H H' : Hp}
/-- the rows of an owned list of owned lists -/
inductive Rows (K : PySem.W.Frag) (I H : Hp) : List Addr → List (List PyData) → Prop
  | nil : Rows K I H [] []
  | cons {a : Addr} {as : List Addr} {us : List V} {r : List PyData} {rs : List (List PyData)} : H a = some (.lst us) → RpAll K I us r → Rows K I H as rs → Rows K I H (a :: as) (r :: rs)
def RepO (K : PySem.W.Frag) (I H : Hp) : O → V → List Addr → Prop
  | .fr d, v, F => F = [] ∧ Rp K I v d
  | .ol ds, v, F => ∃ a vs, v = .ref a ∧ F = [a] ∧ H a = some (.lst vs) ∧ RpAll K I vs ds
  | .oo rs, v, F => ∃ a as, v = .ref a ∧ F = a :: as ∧ (a :: as).Nodup ∧ H a = some (.lst (as.map V.ref)) ∧ Rows K I H as rs
  | .od es, v, F => ∃ a, v = .ref a ∧ F = [a] ∧ ((∃ kvs, H a = some (.dK kvs) ∧ RpKv K I kvs es) ∨ ∃ ts, H a = some (dN a ts) ∧ RpKt K I ts es)
theorem Rows.mono {as : List Addr} {rs : List (List PyData)} (e : Same I I') (h : Rows K I H as rs) (k : ∀ a ∈ as, H' a = H a) : Rows K I' H' as rs := by
  induction h with
  | nil => exact .nil
  | cons h1 h2 _ ih => exact .cons (by rw [k _ (by simp)]; exact h1) (h2.mono e) (ih fun a ha => k a (by simp [ha]))
theorem Rows.domN {as : List Addr} {rs : List (List PyData)} (h : Rows K I H as rs) : ∀ a ∈ as, ∃ o, H a = some o ∧ NT o := by
  induction h with
  | nil => intro a ha; cases ha
  | cons h1 _ _ ih =>
    intro a ha
    rcases List.mem_cons.mp ha with rfl | ha
    · exact ⟨_, h1, NT.lst⟩
    · exact ih a ha
theorem Rows.frz {as : List Addr} {rs : List (List PyData)} (e : Same I I') (h : Rows K I H as rs) (k : ∀ a ∈ as, I' a = H a) : RpAll K I' (as.map V.ref) (rs.map PyData.list) := by
  induction h with
  | nil => exact .nil
  | cons h1 h2 _ ih => exact .cons (.lst (LsL.of (by rw [k _ (by simp)]; exact h1)) (h2.mono e)) (ih fun a ha => k a (by simp [ha]))
theorem RepO.mono {o : O} {v : V} {F : List Addr} (h : RepO K I H o v F) (e : Same I I') (k : ∀ a ∈ F, H' a = H a) : RepO K I' H' o v F := by
  cases o with
  | fr d => exact ⟨h.1, h.2.mono e⟩
  | ol ds =>
    obtain ⟨a, vs, rfl, rfl, h1, h2⟩ := h
    exact ⟨a, vs, rfl, rfl, by rw [k a (by simp)]; exact h1, h2.mono e⟩
  | oo rs =>
    obtain ⟨a, as, rfl, rfl, nd, h1, h2⟩ := h
    exact ⟨a, as, rfl, rfl, nd, by rw [k a (by simp)]; exact h1, h2.mono e fun b hb => k b (by simp [hb])⟩
  | od es =>
    obtain ⟨a, rfl, rfl, h⟩ := h
    refine ⟨a, rfl, rfl, ?_⟩
    rw [k a (by simp)]
    rcases h with ⟨kvs, h1, h2⟩ | ⟨ts, h1, h2⟩
    · exact .inl ⟨kvs, h1, h2.mono e⟩
    · exact .inr ⟨ts, h1, h2.mono e⟩
theorem RepO.domN {o : O} {v : V} {F : List Addr} (h : RepO K I H o v F) : ∀ a ∈ F, ∃ u, H a = some u ∧ NT u := by
  cases o with
  | fr d => intro a ha; rw [h.1] at ha; cases ha
  | ol ds =>
    obtain ⟨a, vs, rfl, rfl, h1, h2⟩ := h
    intro b hb
    simp at hb; subst hb
    exact ⟨_, h1, NT.lst⟩
  | oo rs =>
    obtain ⟨a, as, rfl, rfl, nd, h1, h2⟩ := h
    intro b hb
    rcases List.mem_cons.mp hb with rfl | hb
    · exact ⟨_, h1, NT.lst⟩
    · exact h2.domN b hb
  | od es =>
    obtain ⟨a, rfl, rfl, h⟩ := h
    intro b hb
    simp at hb; subst hb
    rcases h with ⟨kvs, h1, h2⟩ | ⟨ts, h1, h2⟩
    · exact ⟨_, h1, NT.dK⟩
    · exact ⟨_, h1, NT.ext⟩
theorem Rows.dom {as : List Addr} {rs : List (List PyData)} (h : Rows K I H as rs) : ∀ a ∈ as, ∃ o, H a = some o := fun a ha => let ⟨o, e, _⟩ := h.domN a ha; ⟨o, e⟩
theorem RepO.dom {o : O} {v : V} {F : List Addr} (h : RepO K I H o v F) : ∀ a ∈ F, ∃ u, H a = some u := fun a ha => let ⟨o, e, _⟩ := h.domN a ha; ⟨o, e⟩
/-- the heap with F frozen -/
def frz (I H : Hp) (F : List Addr) : Hp := fun a => if a ∈ F then H a else I a
theorem frz_same {F : List Addr} (d : ∀ a ∈ F, I a = none) : Same I (frz I H F) := fun a o e => by
  unfold frz
  rw [if_neg (fun h => by rw [d a h] at e; cases e)]
  exact e
theorem frz_ni {o : O} {v : V} {F : List Addr} {a : Addr} {ps : Array Value} (r : RepO K I H o v F) (h : H a = some (.tbl ps)) (h2 : I a = none) : frz I H F a = none := by
  unfold frz
  rw [if_neg (fun z => ?_)]
  · exact h2
  · obtain ⟨u, e, n⟩ := r.domN a z
    rw [h] at e; cases e; exact n _ rfl
theorem frz_sub {F : List Addr} (s : Same I H) : Same (frz I H F) H := fun a o e => by
  unfold frz at e
  split at e
  · exact e
  · exact s _ _ e
theorem RepO.frz {o : O} {v : V} {F : List Addr} (h : RepO K I H o v F) (d : ∀ a ∈ F, I a = none) : Rp K (frz I H F) v o.data := by
  have e := frz_same (H := H) d
  cases o with
  | fr d => exact h.2.mono e
  | ol ds =>
    obtain ⟨a, vs, rfl, rfl, h1, h2⟩ := h
    exact .lst (LsL.of (by unfold Dy.frz; rw [if_pos (by simp)]; exact h1)) (h2.mono e)
  | oo rs =>
    obtain ⟨a, as, rfl, rfl, nd, h1, h2⟩ := h
    refine .lst (LsL.of (by unfold Dy.frz; rw [if_pos (by simp)]; exact h1)) (h2.frz e fun b hb => ?_)
    unfold Dy.frz; rw [if_pos (by simp [hb])]
  | od es =>
    obtain ⟨a, rfl, rfl, h⟩ := h
    have z : Dy.frz I H [a] a = H a := by unfold Dy.frz; rw [if_pos (by simp)]
    rcases h with ⟨kvs, h1, h2⟩ | ⟨ts, h1, h2⟩
    · exact .dic (.inl (z.trans h1)) (h2.mono e)
    · exact .dit (.inl (z.trans h1)) (h2.mono e)
end
structure Step (I H : Hp) (S : Addr → Prop) (I' H' : Hp) (S' : Addr → Prop) : Prop where
  i1 : Same I I'
  fr : ∀ a o, H a = some o → ¬ S a → NT o → H' a = some o
  th : ∀ a o, H a = some o → ¬ S a → ∃ o', H' a = some o'
  s' : ∀ a, S' a → S a ∨ H a = none
  i' : ∀ a o, I' a = some o → I a = some o ∨ S a ∨ H a = none
section
variable {I H I1 H1 I2 H2 : Hp} {S S1 S2 : Addr → Prop}
theorem Step.of4 (i1 : Same I I1) (fr : ∀ a o, H a = some o → ¬ S a → H1 a = some o) (s' : ∀ a, S1 a → S a ∨ H a = none) (i' : ∀ a o, I1 a = some o → I a = some o ∨ S a ∨ H a = none) : Step I H S I1 H1 S1 :=
  ⟨i1, fun a o h n _ => fr a o h n, fun a o h n => ⟨o, fr a o h n⟩, s', i'⟩
theorem Step.refl : Step I H S I H S := ⟨Same.refl _, fun _ _ h _ _ => h, fun _ o h _ => ⟨o, h⟩, fun _ h => .inl h, fun _ _ h => .inl h⟩
theorem Step.back (a : Step I H S I1 H1 S1) {x : Addr} (h : S1 x ∨ H1 x = none) : S x ∨ H x = none := by
  rcases h with h | h
  · exact a.s' x h
  · cases q : H x with
    | none => exact .inr rfl
    | some o =>
      by_cases hs : S x
      · exact .inl hs
      · by_cases nt : NT o
        · rw [a.fr x o q hs nt] at h; cases h
        · obtain ⟨u, hu⟩ := a.th x o q hs
          rw [hu] at h; cases h
theorem Step.trans (a : Step I H S I1 H1 S1) (b : Step I1 H1 S1 I2 H2 S2) : Step I H S I2 H2 S2 := by
  have ns : ∀ x o, H x = some o → ¬ S x → ¬ S1 x := fun x o h hs h1 => by
    rcases a.s' x h1 with z | z
    · exact hs z
    · rw [h] at z; cases z
  refine ⟨a.i1.trans b.i1, fun x o h hs nt => ?_, fun x o h hs => ?_, fun x h => a.back (b.s' x h), fun x o h => ?_⟩
  · exact b.fr x o (a.fr x o h hs nt) (ns x o h hs) nt
  · obtain ⟨o1, h1⟩ := a.th x o h hs
    exact b.th x o1 h1 (ns x o h hs)
  · rcases b.i' x o h with z | z
    · exact a.i' x o z
    · exact .inr (a.back z)
/-- less is owned behind it -/
theorem Step.less (a : Step I H S I1 H1 S1) (h : ∀ x, S2 x → S1 x) : Step I H S I1 H1 S2 := ⟨a.i1, a.fr, a.th, fun x q => a.s' x (h x q), a.i'⟩
/-- something owned stands aside -/
theorem Step.aside (a : Step I H S I1 H1 S1) (T : Addr → Prop) (ht : ∀ x, T x → ∃ o, H x = some o) (hd : ∀ x, T x → ¬ S x) : Step I H (fun x => S x ∨ T x) I1 H1 (fun x => S1 x ∨ T x) := by
  refine ⟨a.i1, fun x o h hs => a.fr x o h fun z => hs (.inl z), fun x o h hs => a.th x o h fun z => hs (.inl z), fun x h => ?_, fun x o h => ?_⟩
  · rcases h with h | h
    · rcases a.s' x h with z | z
      · exact .inl (.inl z)
      · exact .inr z
    · exact .inl (.inr h)
  · rcases a.i' x o h with z | z | z
    · exact .inl z
    · exact .inr (.inl (.inl z))
    · exact .inr (.inr z)
end
/-- what is owned aside stays as it is -/
theorem Step.keeps {I H I1 H1 : Hp} {S S1 : Addr → Prop} (a : Step I H S I1 H1 S1) {F : List Addr} (hd : ∀ x ∈ F, ∃ o, H x = some o ∧ NT o) (hn : ∀ x ∈ F, ¬ S x) : ∀ x ∈ F, H1 x = H x := fun x hx => by
  obtain ⟨o, h, nt⟩ := hd x hx
  rw [h, a.fr x o h (hn x hx) nt]
/-- the slots that hold what they held at the entry, and that -/
abbrev Pn := List Nat × (Nat → V) × List (Addr × Str)
def Ow (F : Nat → List Addr) : Addr → Prop := fun a => ∃ i, a ∈ F i
structure Sim (K : PySem.W.Frag) (π : Pn) (I H : Hp) (σ : St) (env : Env) (F : Nat → List Addr) : Prop where
  len : env.length = σ.length
  rep : ∀ (i : Nat) (o : O), env[i]? = some (some o) → ∃ v, σ[i]? = some (some v) ∧ RepO K I H o v (F i)
  out : ∀ i : Nat, (∀ o, env[i]? ≠ some (some o)) → F i = []
  dis : ∀ (i j : Nat) (a : Addr), a ∈ F i → a ∈ F j → i = j
  djI : ∀ (i : Nat) (a : Addr), a ∈ F i → I a = none
  sub : Same I H
  pin : ∀ i ∈ π.1, σ[i]? = some (some (π.2.1 i))
  tab : TabI π.2.2 I H
section
variable {K : PySem.W.Frag} {π : Pn} {I H I' H' : Hp} {σ : St} {env : Env} {F : Nat → List Addr}
theorem Sim.domN (s : Sim K π I H σ env F) {i : Nat} {a : Addr} (h : a ∈ F i) : ∃ o, H a = some o ∧ NT o := by
  by_cases q : ∃ o, env[i]? = some (some o)
  · obtain ⟨o, q⟩ := q
    obtain ⟨v, _, r⟩ := s.rep i o q
    exact r.domN a h
  · rw [s.out i fun o e => q ⟨o, e⟩] at h; cases h
theorem Sim.dom (s : Sim K π I H σ env F) {i : Nat} {a : Addr} (h : a ∈ F i) : ∃ o, H a = some o := let ⟨o, e, _⟩ := s.domN h; ⟨o, e⟩
theorem Sim.domO (s : Sim K π I H σ env F) {a : Addr} (h : Ow F a) : ∃ o, H a = some o := let ⟨_, q⟩ := h; s.dom q
theorem Sim.ktO (s : Sim K π I H σ env F) {i : Nat} {a : Addr} {o : HO} (h : a ∈ F i) : ∀ b ps, H b = some (.tbl ps) → upd H a o b = some (.tbl ps) := by
  obtain ⟨u, e, n⟩ := s.domN h
  exact kt_upd e n
/-- a slot is changed -/
def upF (F : Nat → List Addr) (i : Nat) (R : List Addr) : Nat → List Addr := fun j => if j = i then R else F j
theorem upF_same {i : Nat} {R : List Addr} : upF F i R i = R := if_pos rfl
theorem upF_ne {i j : Nat} {R : List Addr} (h : j ≠ i) : upF F i R j = F j := if_neg h
/-- the frame over a greater frozen heap, the other slots' things untouched -/
theorem Sim.put (s : Sim K π I H σ env F) {i : Nat} {x : Option O} {sv : Option V} {R : List Addr} (hi : i < env.length) (e : Same I I') (sub : Same I' H')
    (k : ∀ j, j ≠ i → ∀ a ∈ F j, H' a = H a) (nI : ∀ j, j ≠ i → ∀ a ∈ F j, I' a = none) (nR : ∀ a ∈ R, I' a = none) (dR : ∀ j, j ≠ i → ∀ a ∈ F j, a ∉ R)
    (hx : ∀ o, x = some o → ∃ v, sv = some v ∧ RepO K I' H' o v R) (hn : x = none → R = []) (hp : i ∈ π.1 → sv = some (π.2.1 i)) (kt : ∀ a ps, H a = some (.tbl ps) → H' a = some (.tbl ps) := by exact fun _ _ h => h) (ni : ∀ a ps, H a = some (.tbl ps) → I a = none → I' a = none := by exact fun _ _ _ h => h) : Sim K π I' H' (σ.set i sv) (env.set i x) (upF F i R) := by
  refine ⟨by simp [s.len], fun j o q => ?_, fun j q => ?_, fun j l a h1 h2 => ?_, fun j a h => ?_, sub, fun p hp' => ?_, s.tab.mono e kt ni⟩
  · by_cases hj : j = i
    · subst hj
      rw [List.getElem?_set_self hi] at q
      obtain ⟨v, e1, r⟩ := hx o (Option.some.inj q)
      exact ⟨v, by rw [List.getElem?_set_self (by rw [← s.len]; exact hi), e1], by rw [upF_same]; exact r⟩
    · rw [List.getElem?_set_ne (Ne.symm hj)] at q
      obtain ⟨v, e1, r⟩ := s.rep j o q
      exact ⟨v, by rw [List.getElem?_set_ne (Ne.symm hj)]; exact e1, by rw [upF_ne hj]; exact r.mono e (k j hj)⟩
  · by_cases hj : j = i
    · subst hj
      rw [upF_same]
      cases x with
      | none => exact hn rfl
      | some o => exact absurd (List.getElem?_set_self hi) (q o)
    · rw [upF_ne hj]
      exact s.out j fun o z => q o (by rw [List.getElem?_set_ne (Ne.symm hj)]; exact z)
  · by_cases hj : j = i
    · by_cases hl : l = i
      · rw [hj, hl]
      · subst hj
        rw [upF_same] at h1
        rw [upF_ne hl] at h2
        exact absurd h1 (dR l hl a h2)
    · by_cases hl : l = i
      · subst hl
        rw [upF_same] at h2
        rw [upF_ne hj] at h1
        exact absurd h2 (dR j hj a h1)
      · rw [upF_ne hj] at h1
        rw [upF_ne hl] at h2
        exact s.dis j l a h1 h2
  · by_cases hj : j = i
    · subst hj; rw [upF_same] at h; exact nR a h
    · rw [upF_ne hj] at h; exact nI j hj a h
  · by_cases hj : p = i
    · subst hj
      rw [List.getElem?_set_self (by rw [← s.len]; exact hi), hp hp']
    · rw [List.getElem?_set_ne (Ne.symm hj)]; exact s.pin p hp'
/-- the frame as it is, over another heap -/
theorem Sim.heap (s : Sim K π I H σ env F) (e : Same I I') (sub : Same I' H') (k : ∀ a, Ow F a → H' a = H a) (nI : ∀ a, Ow F a → I' a = none) (kt : ∀ a ps, H a = some (.tbl ps) → H' a = some (.tbl ps) := by exact fun _ _ h => h) (ni : ∀ a ps, H a = some (.tbl ps) → I a = none → I' a = none := by exact fun _ _ _ h => h) : Sim K π I' H' σ env F :=
  ⟨s.len, fun i o q => let ⟨v, e1, r⟩ := s.rep i o q; ⟨v, e1, r.mono e fun a ha => k a ⟨i, ha⟩⟩, s.out, s.dis, fun i a h => nI a ⟨i, h⟩, sub, s.pin, s.tab.mono e kt ni⟩
theorem set_same {α : Type} : ∀ {l : List α} {i : Nat} {x : α}, l[i]? = some x → l.set i x = l
  | [], _, _, h => by simp at h
  | a :: l, 0, x, h => by simp at h; subst h; rfl
  | a :: l, i + 1, x, h => by
    rw [List.set_cons_succ, set_same (by simpa using h)]
end
/-- its value is o at v; R: what o owns -/
def Aft (K : PySem.W.Frag) (π : Pn) (I H : Hp) (F : Nat → List Addr) (σ : St) (env' : Env) (o : O) (v : V) (H' : Hp) : Prop :=
  ∃ I' F' R, RepO K I' H' o v R ∧ Sim K π I' H' σ env' F' ∧ (∀ a ∈ R, I' a = none) ∧ (∀ a, Ow F' a → a ∉ R) ∧ Step I H (Ow F) I' H' (fun a => Ow F' a ∨ a ∈ R)
/-- its value is the data d at v -/
def AftD (K : PySem.W.Frag) (π : Pn) (I H : Hp) (F : Nat → List Addr) (σ : St) (env' : Env) (d : PyData) (v : V) (H' : Hp) : Prop :=
  ∃ I' F', Rp K I' v d ∧ Sim K π I' H' σ env' F' ∧ Step I H (Ow F) I' H' (Ow F')
/-- behind a statement -/
def AftS (K : PySem.W.Frag) (π : Pn) (I H : Hp) (F : Nat → List Addr) (σ' : St) (env' : Env) (H' : Hp) : Prop :=
  ∃ I' F', Sim K π I' H' σ' env' F' ∧ Step I H (Ow F) I' H' (Ow F')
/-- an exception has come -/
def Err (T : List (Addr × Str)) (I H : Hp) (S : Addr → Prop) (H' : Hp) : Prop := ∃ I', Same I' H' ∧ TabI T I' H' ∧ Step I H S I' H' (fun _ => False)
section
variable {K : PySem.W.Frag} {π : Pn} {I H I1 H1 H2 : Hp} {σ σ' : St} {env : Env} {F F1 : Nat → List Addr} {o : O} {d : PyData} {v : V}
theorem Aft.frz (h : Aft K π I H F σ env o v H1) : AftD K π I H F σ env o.data v H1 := by
  obtain ⟨I', F', R, r, s, nR, dR, st⟩ := h
  have e : Same I' (Dy.frz I' H1 R) := frz_same nR
  refine ⟨Dy.frz I' H1 R, F', r.frz nR, s.heap e (frz_sub s.sub) (fun _ _ => rfl) (fun a ha => ?_) (fun _ _ h => h) (fun a ps h1 h2 => frz_ni r h1 h2), ⟨st.i1.trans e, st.fr, st.th, fun a ha => st.s' a (.inl ha), fun a u q => ?_⟩⟩
  · unfold Dy.frz; rw [if_neg (dR a ha)]; obtain ⟨i, hi⟩ := ha; exact s.djI i a hi
  · unfold Dy.frz at q
    split at q
    · exact .inr (st.s' a (.inr (by assumption)))
    · exact st.i' a u q
theorem AftD.toS (h : AftD K π I H F σ env d v H1) : AftS K π I H F σ env H1 := let ⟨I', F', _, s, st⟩ := h; ⟨I', F', s, st⟩
theorem AftD.aft (h : AftD K π I H F σ env d v H1) : Aft K π I H F σ env (.fr d) v H1 := by
  obtain ⟨I', F', r, s, st⟩ := h
  exact ⟨I', F', [], ⟨rfl, r⟩, s, fun a ha => (nomatch ha), fun a _ ha => (nomatch ha), st.less fun a ha => Or.elim ha id fun z => (nomatch z)⟩
theorem AftS.trans (st : Step I H (Ow F) I1 H1 (Ow F1)) (h : AftS K π I1 H1 F1 σ env H2) : AftS K π I H F σ env H2 := let ⟨I', F', s, t⟩ := h; ⟨I', F', s, st.trans t⟩
theorem AftD.trans (st : Step I H (Ow F) I1 H1 (Ow F1)) (h : AftD K π I1 H1 F1 σ env d v H2) : AftD K π I H F σ env d v H2 := let ⟨I', F', r, s, t⟩ := h; ⟨I', F', r, s, st.trans t⟩
theorem Aft.trans (st : Step I H (Ow F) I1 H1 (Ow F1)) (h : Aft K π I1 H1 F1 σ env o v H2) : Aft K π I H F σ env o v H2 := let ⟨I', F', R, r, s, a, b, t⟩ := h; ⟨I', F', R, r, s, a, b, st.trans t⟩
theorem Err.trans {T : List (Addr × Str)} {S S1 : Addr → Prop} (st : Step I H S I1 H1 S1) (h : Err T I1 H1 S1 H2) : Err T I H S H2 := by
  obtain ⟨I', s, t, k⟩ := h
  exact ⟨I', s, t, st.trans k⟩
theorem Err.of {T : List (Addr × Str)} {S S1 : Addr → Prop} (st : Step I H S I1 H1 S1) (s : Same I1 H1) (t : TabI T I1 H1) : Err T I H S H1 := ⟨I1, s, t, st.less fun _ z => z.elim⟩
end
end Dy
namespace Dy
open PySem PySem.Spec PyProof.Rows L2
/-- an exception of the program as HandS tells it: its class's address, its own dict -/
def XR (mg : Str → Option Value) (x : Exn) (c : Value) (d : Option Addr) (_H : Hp) : Prop := ∃ a, mg x.cls = some (.ref a) ∧ c = .ref a ∧ (x.args = [] → d = none) ∧ ∀ p q : Int, x.args = [.int p, .int q] → ∃ (dx : Addr) (fs : List (Str × V)), d = some dx ∧ _H dx = some (.xd fs) ∧ fs.lookup ("amount" : Str) = some (V.int p) ∧ fs.lookup ("limit" : Str) = some (V.int q)
/-- what is carried: the written part, the module's names, the pinned slots, the wish about exceptions -/
structure G where
  K : PySem.W.Frag
  mg : Str → Option Value
  pn : Pn
  E : XK
def G.err (g : G) (I H : Hp) (F : Nat → List Addr) (x : Exn) : Prop := ∀ H' c d, Err g.pn.2.2 I H (Ow F) H' → XR g.mg x c d H' → g.E c d H'
abbrev EF := Env → Res (O × Env)
abbrev TF := Env → Res (Bool × Env)
inductive Fl where
  | nx | bk | ct
  | rt (o : O)
abbrev SF := Env → Res (Fl × Env)
def tD (g : G) (f : EF) : TE := fun σ H Q => ∃ I env F, Sim g.K g.pn I H σ env F ∧ (f env).post (fun r => ∀ v H', Aft g.K g.pn I H F σ r.2 r.1 v H' → Q v H') (g.err I H F)
def tT (g : G) (f : TF) : TT := fun σ H Q => ∃ I env F, Sim g.K g.pn I H σ env F ∧ (f env).post (fun r => ∀ H', AftS g.K g.pn I H F σ r.2 H' → Q r.1 H') (g.err I H F)
def FlP (g : G) (D : Ends) (I H : Hp) (F : Nat → List Addr) : Fl × Env → Prop
  | (.nx, e) => ∀ σ' H', AftS g.K g.pn I H F σ' e H' → D.nx σ' H'
  | (.bk, e) => ∀ σ' H', AftS g.K g.pn I H F σ' e H' → D.bk σ' H'
  | (.ct, e) => ∀ σ' H', AftS g.K g.pn I H F σ' e H' → D.ct σ' H'
  | (.rt o, e) => ∀ v σ' H', Aft g.K g.pn I H F σ' e o v H' → D.rt v H'
def tS (g : G) (f : SF) : TS := fun D σ H => ∃ I env F, Sim g.K g.pn I H σ env F ∧ (f env).post (FlP g D I H F) (g.err I H F)
inductive AF where
  | v (f : EF)
  | s (i : Nat)
inductive AV where
  | d (x : PyData)
  | s (i : Nat)
def evA : List AF → Env → Res (List AV × Env)
  | [], e => .ok ([], e)
  | .v f :: as, e => f e >>= fun r => evA as r.2 >>= fun q => .ok (.d r.1.data :: q.1, q.2)
  | .s i :: as, e => match e[i]? with
    | some (some _) => evA as e >>= fun q => .ok (.s i :: q.1, q.2)
    | _ => .no
inductive RepAV (K : PySem.W.Frag) (I : Hp) (σ : St) : List AV → List V → Prop
  | nil : RepAV K I σ [] []
  | d {x : PyData} {v : V} {as : List AV} {vs : List V} : Rp K I v x → RepAV K I σ as vs → RepAV K I σ (.d x :: as) (v :: vs)
  | s {i : Nat} {v : V} {as : List AV} {vs : List V} : σ[i]? = some (some v) → RepAV K I σ as vs → RepAV K I σ (.s i :: as) (v :: vs)
def tArg (g : G) : AF → TE
  | .v f => tD g f
  | .s i => tVar i
def tA (g : G) (as : List AF) : TA := fun σ H Q => ∃ I env F, Sim g.K g.pn I H σ env F ∧
  (evA as env).post (fun r => ∀ vs H' I' F', Sim g.K g.pn I' H' σ r.2 F' → Step I H (Ow F) I' H' (Ow F') → RepAV g.K I' σ r.1 vs → Q vs H') (g.err I H F)
section
variable {g : G} {σ : St} {H : Hp}
theorem err_step {I I1 H1 : Hp} {F F1 : Nat → List Addr} {x : Exn} (st : Step I H (Ow F) I1 H1 (Ow F1)) (h : g.err I H F x) : g.err I1 H1 F1 x := fun H' c d e r => h H' c d (Err.trans st e) r
theorem tA_nil {Q : List V → Hp → Prop} (h : tA g [] σ H Q) : Q [] H := by
  obtain ⟨I, env, F, s, p⟩ := h
  exact p [] H I F s Step.refl .nil
theorem tA_cons {a : AF} {as : List AF} {Q : List V → Hp → Prop} (h : tA g (a :: as) σ H Q) : tArg g a σ H fun x H1 => tA g as σ H1 fun xs H2 => Q (x :: xs) H2 := by
  obtain ⟨I, env, F, s, p⟩ := h
  cases a with
  | v f =>
    refine ⟨I, env, F, s, ?_⟩
    unfold evA at p
    cases q : f env with
    | no => rw [q] at p; exact p
    | er x => rw [q] at p; exact p
    | ok r =>
      rw [q] at p
      intro v H1 af
      obtain ⟨I1, F1, rp, s1, st1⟩ := af.frz
      refine ⟨I1, r.2, F1, s1, ?_⟩
      rw [bind_ok] at p
      cases q2 : evA as r.2 with
      | no => rw [q2] at p; exact p
      | er x => rw [q2] at p; exact err_step st1 p
      | ok r2 =>
        rw [q2] at p
        intro vs H2 I2 F2 s2 st2 av
        exact p (v :: vs) H2 I2 F2 s2 (st1.trans st2) (.d (rp.mono st2.i1) av)
  | s i =>
    unfold evA at p
    cases q0 : env[i]? with
    | none => rw [q0] at p; exact p.elim
    | some y =>
      cases y with
      | none => rw [q0] at p; exact p.elim
      | some o =>
        rw [q0] at p
        obtain ⟨v, hv, _⟩ := s.rep i o q0
        refine ⟨v, hv, I, env, F, s, ?_⟩
        cases q2 : evA as env with
        | no => simp only [q2] at p; exact p
        | er x => simp only [q2] at p; exact p
        | ok r2 =>
          simp only [q2] at p
          intro vs H2 I2 F2 s2 st2 av
          exact p (v :: vs) H2 I2 F2 s2 st2 (.s hv av)
end
theorem PE.imp {X : Cx} {e : Expr} {t u : TE} (h : PE X e t) (i : ∀ σ H Q, u σ H Q → t σ H Q) : PE X e u := ⟨fun pins s σ H Q I q => h.run pins s σ H Q I (i σ H Q q)⟩
theorem PT.imp {X : Cx} {e : Expr} {t u : TT} (h : PT X e t) (i : ∀ σ H Q, u σ H Q → t σ H Q) : PT X e u := ⟨fun pins s σ H Q I q => h.run pins s σ H Q I (i σ H Q q)⟩
theorem PW.imp {X : Cx} {e : Expr} {t u : TT} (h : PW X e t) (i : ∀ σ H Q, u σ H Q → t σ H Q) : PW X e u := ⟨fun wh pins s σ H Q I q => h.run wh pins s σ H Q I (i σ H Q q)⟩
theorem PA.imp {X : Cx} {e : List Expr} {t u : TA} (h : PA X e t) (i : ∀ σ H Q, u σ H Q → t σ H Q) : PA X e u := ⟨fun ps pins s σ H Q I q => h.run ps pins s σ H Q I (i σ H Q q)⟩
theorem PS.imp {X : Cx} {e : Stmt} {t u : TS} (h : PS X e t) (i : ∀ D σ H, u D σ H → t D σ H) : PS X e u := ⟨fun pins s σ H D I q => h.run pins s σ H D I (i D σ H q)⟩
theorem PSs.imp {X : Cx} {e : List Stmt} {t u : TS} (h : PSs X e t) (i : ∀ D σ H, u D σ H → t D σ H) : PSs X e u := ⟨fun pins s σ H D I q => h.run pins s σ H D I (i D σ H q)⟩
theorem PI.imp {X : Cx} {tg e : Expr} {t u : TI} (h : PI X tg e t) (i : ∀ σ H Q, u σ H Q → t σ H Q) : PI X tg e u := ⟨fun pins s σ H Q I q => h.run pins s σ H Q I (i σ H Q q)⟩
theorem PG.imp {X : Cx} {e : Expr} {t u : TG} (h : PG X e t) (i : ∀ v σ H Q, u v σ H Q → t v σ H Q) : PG X e u := ⟨fun pins s σ H v w Q I r q => h.run pins s σ H v w Q I r (i v σ H Q q)⟩
def DE (g : G) (X : Cx) (e : Expr) (f : EF) : Prop := PE X e (tD g f)
def DX (g : G) (X : Cx) (e : Expr) (a : AF) : Prop := PE X e (tArg g a)
def DA (g : G) (X : Cx) (es : List Expr) (as : List AF) : Prop := PA X es (tA g as)
def DT (g : G) (X : Cx) (e : Expr) (f : TF) : Prop := PT X e (tT g f)
def DW (g : G) (X : Cx) (e : Expr) (f : TF) : Prop := PW X e (tT g f)
def DS (g : G) (X : Cx) (st : Stmt) (f : SF) : Prop := PS X st (tS g f)
def DSs (g : G) (X : Cx) (st : List Stmt) (f : SF) : Prop := PSs X st (tS g f)
section
variable {g : G} {X : Cx} {e : Expr} {es : List Expr}
theorem dx_v {f : EF} (h : DE g X e f) : DX g X e (.v f) := h
theorem dx_s {x : Str} {pos : Pos} (i : Nat) (h : PE X (.Name x pos) (tVar i)) : DX g X (.Name x pos) (.s i) := h
theorem da_nil : DA g X [] [] := PA.imp pa_nil fun σ H Q h => tA_nil h
theorem da_cons {a : AF} {as : List AF} (h : DX g X e a) (hr : DA g X es as) (hs : starEach (e :: es) X.env = (false, eval e X.env) :: starEach es X.env := by rfl) : DA g X (e :: es) (a :: as) :=
  PA.imp (pa_cons h hr hs) fun σ H Q h => tA_cons h
def fC (d : PyData) : EF := fun env => .ok (.fr d, env)
theorem aftC {I H : Hp} {F : Nat → List Addr} {σ : St} {env : Env} {d : PyData} {v : V} (s : Sim g.K g.pn I H σ env F) (r : Rp g.K I v d) : Aft g.K g.pn I H F σ env (.fr d) v H :=
  AftD.aft ⟨I, F, r, s, Step.refl⟩
theorem de_c {v : V} {d : PyData} (h : PE X e (tC v)) (r : ∀ I, Rp g.K I v d) : DE g X e (fC d) := PE.imp h fun σ H Q q => by
  obtain ⟨I, env, F, s, p⟩ := q
  exact p v H (aftC s (r I))
theorem de_int {i j pos} : DE g X (.Constant (.int i) j pos) (fC (.int i)) := de_c pe_int fun _ => .int i
theorem de_bl {b j pos} : DE g X (.Constant (.bool b) j pos) (fC (.bool b)) := de_c pe_bl fun _ => .bl b
theorem de_non {j pos} : DE g X (.Constant .none j pos) (fC .none) := de_c pe_non fun _ => .non
/-- a module's int -/
theorem de_gint {x : Str} {i : Int} {t : Tok} {pos : Pos} (hg : Gl X x) (hm : X.mg x = some (.int i t)) (hd : (x == ("__debug__" : Str)) = false := by decide) : DE g X (.Name x pos) (fC (.int i)) :=
  de_c (v := .int i) (pe_glob hg hm ⟨t, rfl⟩ hd) fun _ => .int i
/-- a name, its value frozen -/
def fV (i : Nat) : EF := fun env => match env[i]? with
  | some (some (.fr d)) => .ok (.fr d, env)
  | some (some o) => .ok (.fr o.data, env.set i (some (.fr o.data)))
  | _ => .no
theorem sim_frz {I H : Hp} {F : Nat → List Addr} {σ : St} {env : Env} {i : Nat} {o : O} (s : Sim g.K g.pn I H σ env F) (q : env[i]? = some (some o)) :
    ∃ v I', σ[i]? = some (some v) ∧ Rp g.K I' v o.data ∧ Sim g.K g.pn I' H σ (env.set i (some (.fr o.data))) (upF F i []) ∧ Step I H (Ow F) I' H (Ow (upF F i [])) := by
  obtain ⟨v, e1, r⟩ := s.rep i o q
  have nI : ∀ a ∈ F i, I a = none := fun a ha => s.djI i a ha
  have hi : i < env.length := by
    cases Nat.lt_or_ge i env.length with
    | inl h => exact h
    | inr h => rw [List.getElem?_eq_none h] at q; cases q
  have sm := frz_same (H := H) nI
  have rp := r.frz nI
  refine ⟨v, Dy.frz I H (F i), e1, rp, ?_, ?_⟩
  · have := s.put (i := i) (x := some (.fr o.data)) (sv := some v) (R := []) hi sm (frz_sub s.sub) (fun _ _ _ _ => rfl) (fun j hj a ha => ?_) (fun a ha => nomatch ha) (fun _ _ _ _ h => nomatch h) (fun o' e => ?_) (fun e => by cases e) (fun hp => ?_) (fun _ _ h => h) (fun a ps h1 h2 => frz_ni r h1 h2)
    · rw [set_same e1] at this; exact this
    · unfold Dy.frz; rw [if_neg (fun h => hj (s.dis j i a ha h))]; exact s.djI j a ha
    · cases e; exact ⟨v, rfl, rfl, rp⟩
    · have := s.pin i hp; rw [e1] at this; exact Option.some.inj this
  · refine Step.of4 sm (fun _ _ h _ => h) (fun a ⟨j, ha⟩ => ?_) (fun a u h => ?_)
    · by_cases hj : j = i
      · subst hj; rw [upF_same] at ha; cases ha
      · rw [upF_ne hj] at ha; exact .inl ⟨j, ha⟩
    · unfold Dy.frz at h
      split at h
      · exact .inr (.inl ⟨i, by assumption⟩)
      · exact .inl h
theorem de_v {x : Str} {pos : Pos} (i : Nat) (h : PE X (.Name x pos) (tVar i)) : DE g X (.Name x pos) (fV i) := PE.imp h fun σ H Q q => by
  obtain ⟨I, env, F, s, p⟩ := q
  unfold fV at p
  cases q : env[i]? with
  | none => rw [q] at p; exact p.elim
  | some y =>
    cases y with
    | none => rw [q] at p; exact p.elim
    | some o =>
      have key : (match o with | .fr d => Res.ok (O.fr d, env) | o => .ok (O.fr o.data, env.set i (some (.fr o.data)))) = .ok (O.fr o.data, env.set i (some (.fr o.data))) := by
        cases o with
        | fr d => show Res.ok (O.fr d, env) = Res.ok (O.fr d, env.set i (some (O.fr d))); rw [set_same q]
        | ol _ => rfl
        | oo _ => rfl
        | od _ => rfl
      rw [q] at p
      have p : (Res.ok (O.fr o.data, env.set i (some (.fr o.data)))).post (fun r => ∀ v H', Aft g.K g.pn I H F σ r.2 r.1 v H' → Q v H') (g.err I H F) := by
        rw [← key]; cases o <;> exact p
      obtain ⟨v, I', e1, rp, s', st⟩ := sim_frz s q
      exact ⟨v, e1, p v H (AftD.aft ⟨I', _, rp, s', st⟩)⟩
/-- a name whose thing goes out of the def -/
def fM (i : Nat) : EF := fun env => match env[i]? with
  | some (some o) => .ok (o, env.set i none)
  | _ => .no
theorem de_m {x : Str} {pos : Pos} (i : Nat) (h : PE X (.Name x pos) (tVar i)) : DE g X (.Name x pos) (fM i) := PE.imp h fun σ H Q q => by
  obtain ⟨I, env, F, s, p⟩ := q
  unfold fM at p
  cases q : env[i]? with
  | none => rw [q] at p; exact p.elim
  | some y =>
    cases y with
    | none => rw [q] at p; exact p.elim
    | some o =>
      rw [q] at p
      obtain ⟨v, e1, r⟩ := s.rep i o q
      have hi : i < env.length := by
        cases Nat.lt_or_ge i env.length with
        | inl h => exact h
        | inr h => rw [List.getElem?_eq_none h] at q; cases q
      refine ⟨v, e1, p v H ⟨I, upF F i [], F i, r, ?_, fun a ha => s.djI i a ha, fun a ⟨j, hj⟩ ha => ?_, ?_⟩⟩
      · have := s.put (i := i) (x := none) (sv := some v) (R := []) hi (Same.refl _) s.sub (fun _ _ _ _ => rfl) (fun j _ a ha => s.djI j a ha) (fun a ha => nomatch ha) (fun _ _ _ _ h => nomatch h) (fun o' e => by cases e) (fun _ => rfl) (fun hp => ?_)
        · rw [set_same e1] at this; exact this
        · have := s.pin i hp; rw [e1] at this; exact Option.some.inj this
      · by_cases h : j = i
        · subst h; rw [upF_same] at hj; cases hj
        · rw [upF_ne h] at hj; exact h (s.dis j i a hj ha)
      · refine Step.of4 (Same.refl _) (fun _ _ h _ => h) (fun a ha => .inl ?_) (fun _ _ h => .inl h)
        rcases ha with ⟨j, hj⟩ | ha
        · by_cases h : j = i
          · subst h; rw [upF_same] at hj; cases hj
          · rw [upF_ne h] at hj; exact ⟨j, hj⟩
        · exact ⟨i, ha⟩
end
/-- an argument that is read: data, or an owned list of data -/
def DiO (K : PySem.W.Frag) (I H : Hp) (a : Addr) (es : List (PyData × PyData)) : Prop := (∃ kvs, H a = some (.dK kvs) ∧ RpKv K I kvs es) ∨ ∃ ts, H a = some (dN a ts) ∧ RpKt K I ts es
def DrO (K : PySem.W.Frag) (I H : Hp) (a : Addr) (es : List (PyData × PyData)) : Prop := (∃ kvs, Rd H a (.dK kvs) ∧ RpKv K I kvs es) ∨ ∃ ts, Rd H a (dN a ts) ∧ RpKt K I ts es
theorem DiO.rd {K : PySem.W.Frag} {I H : Hp} {a : Addr} {es : List (PyData × PyData)} (h : DiO K I H a es) : DrO K I H a es := by
  rcases h with ⟨k, h1, h2⟩ | ⟨k, h1, h2⟩
  · exact .inl ⟨k, .inl h1, h2⟩
  · exact .inr ⟨k, .inl h1, h2⟩
def RpS (K : PySem.W.Frag) (I H : Hp) (v : V) (d : PyData) : Prop := Rp K I v d ∨ (∃ a vs ds, v = .ref a ∧ d = .list ds ∧ H a = some (.lst vs) ∧ RpAll K I vs ds) ∨ ∃ a es, v = .ref a ∧ d = .dict es ∧ DiO K I H a es
inductive RpSs (K : PySem.W.Frag) (I H : Hp) : List V → List PyData → Prop
  | nil : RpSs K I H [] []
  | cons {v : V} {d : PyData} {vs : List V} {ds : List PyData} : RpS K I H v d → RpSs K I H vs ds → RpSs K I H (v :: vs) (d :: ds)
def rsv (env : Env) : AV → Option PyData
  | .d x => some x
  | .s i => match env[i]? with
    | some (some (.fr d)) => some d
    | some (some (.ol ds)) => some (.list ds)
    | some (some (.od es)) => some (.dict es)
    | _ => none
def rsvs (env : Env) : List AV → Option (List PyData)
  | [] => some []
  | a :: as => match rsv env a, rsvs env as with
    | some d, some ds => some (d :: ds)
    | _, _ => none
theorem rsvs_rep {K : PySem.W.Frag} {π : Pn} {I H : Hp} {σ : St} {env : Env} {F : Nat → List Addr} (s : Sim K π I H σ env F) : ∀ {as : List AV} {vs : List V} {ds : List PyData}, RepAV K I σ as vs → rsvs env as = some ds → RpSs K I H vs ds
  | _, _, ds, .nil, h => by cases h; exact .nil
  | _, _, ds, .d (as := as) r t, h => by
    unfold rsvs at h
    cases q : rsvs env as with
    | none => rw [q] at h; cases h
    | some es => rw [q] at h; cases h; exact .cons (.inl r) (rsvs_rep s t q)
  | _, _, ds, .s (i := i) (as := as) r t, h => by
    unfold rsvs at h
    cases q : rsvs env as with
    | none => rw [q] at h; cases q9 : rsv env (.s i) <;> (rw [q9] at h; cases h)
    | some es =>
      rw [q] at h
      cases q2 : rsv env (.s i) with
      | none => rw [q2] at h; cases h
      | some d =>
        rw [q2] at h; cases h
        refine .cons ?_ (rsvs_rep s t q)
        simp only [rsv] at q2
        cases q3 : env[i]? with
        | none => rw [q3] at q2; cases q2
        | some y =>
          cases y with
          | none => rw [q3] at q2; cases q2
          | some o =>
            obtain ⟨w, e1, rp⟩ := s.rep i o q3
            rw [r] at e1; cases e1
            rw [q3] at q2
            cases o with
            | fr x => cases q2; exact .inl rp.2
            | ol xs =>
              cases q2
              obtain ⟨a, us, rfl, _, h1, h2⟩ := rp
              exact .inr (.inl ⟨a, us, xs, rfl, rfl, h1, h2⟩)
            | oo _ => cases q2
            | od es =>
              cases q2
              obtain ⟨a, rfl, _, h1⟩ := rp
              exact .inr (.inr ⟨a, es, rfl, rfl, h1⟩)
/-- what a new value adds -/
structure Grow (K : PySem.W.Frag) (I H I' H' : Hp) (o : O) (v : V) (R : List Addr) : Prop where
  rep : RepO K I' H' o v R
  i1 : Same I I'
  h1 : Same H H'
  sub : Same I' H'
  fresh : ∀ a ∈ R, H a = none
  nI : ∀ a ∈ R, I' a = none
  i' : ∀ a o, I' a = some o → I a = some o ∨ H a = none
theorem Grow.val {K : PySem.W.Frag} {I H : Hp} {d : PyData} {v : V} (s : Same I H) (r : Rp K I v d) : Grow K I H I H (.fr d) v [] :=
  ⟨⟨rfl, r⟩, Same.refl _, Same.refl _, s, fun _ h => (nomatch h), fun _ h => (nomatch h), fun _ _ h => .inl h⟩
theorem same_new {H : Hp} {p : Addr} {o : HO} (h : H p = none) : Same H (upd H p o) := fun b x e => by
  rw [upd_ne (ne_of_none e h)]; exact e
theorem none_of_same {I H : Hp} (s : Same I H) {a : Addr} (h : H a = none) : I a = none := by
  cases q : I a with
  | none => rfl
  | some o => rw [s a o q] at h; cases h
/-- a new list of its own -/
theorem Grow.lst {K : PySem.W.Frag} {I H : Hp} {ds : List PyData} {vs : List V} {p : Addr} (s : Same I H) (n : H p = none) (r : RpAll K I vs ds) : Grow K I H I (upd H p (.lst vs)) (.ol ds) (.ref p) [p] :=
  ⟨⟨p, vs, rfl, rfl, upd_same, r⟩, Same.refl _, same_new n, s.trans (same_new n), fun a h => by simp at h; subst h; exact n, fun a h => by simp at h; subst h; exact none_of_same s n, fun _ _ h => .inl h⟩
/-- a new tuple -/
theorem Grow.tup {K : PySem.W.Frag} {I H : Hp} {ds : List PyData} {vs : List V} {p : Addr} (s : Same I H) (n : H p = none) (r : RpAll K I vs ds) : Grow K I H (upd I p (.tup vs)) (upd H p (.tup vs)) (.fr (.tuple ds)) (.ref p) [] := by
  have nI := none_of_same s n
  have e : Same I (upd I p (.tup vs)) := same_new nI
  refine ⟨⟨rfl, .tup (SqT.of upd_same) (r.mono e)⟩, e, same_new n, fun b x q => ?_, fun _ h => (nomatch h), fun _ h => (nomatch h), fun a o q => ?_⟩
  · by_cases h : b = p
    · subst h; rw [upd_same] at q ⊢; exact q
    · rw [upd_ne h] at q ⊢; exact s b x q
  · by_cases h : a = p
    · subst h; exact .inr n
    · rw [upd_ne h] at q; exact .inl q
theorem Grow.aft {K : PySem.W.Frag} {π : Pn} {I H I' H' : Hp} {o : O} {v : V} {R : List Addr} {σ : St} {env : Env} {F : Nat → List Addr} (g : Grow K I H I' H' o v R) (s : Sim K π I H σ env F) : Aft K π I H F σ env o v H' := by
  have nF : ∀ a, Ow F a → I' a = none := fun a ⟨i, ha⟩ => by
    cases q : I' a with
    | none => rfl
    | some u =>
      rcases g.i' a u q with z | z
      · rw [s.djI i a ha] at z; cases z
      · obtain ⟨w, hw⟩ := s.dom ha; rw [z] at hw; cases hw
  refine ⟨I', F, R, g.rep, s.heap g.i1 g.sub (fun a ha => ?_) nF (fun a ps h => g.h1 a _ h) (fun a ps h1 h2 => by
    cases q : I' a with
    | none => rfl
    | some u =>
      rcases g.i' a u q with z | z
      · rw [h2] at z; cases z
      · rw [h1] at z; cases z), g.nI, fun a ha hr => ?_, Step.of4 g.i1 (fun a u h _ => g.h1 a u h) (fun a h => ?_) (fun a u h => ?_)⟩
  · obtain ⟨w, hw⟩ := s.domO ha; rw [hw, g.h1 a w hw]
  · obtain ⟨w, hw⟩ := s.domO ha; rw [g.fresh a hr] at hw; cases hw
  · rcases h with h | h
    · exact .inl h
    · exact .inr (g.fresh a h)
  · rcases g.i' a u h with z | z
    · exact .inl z
    · exact .inr (.inr z)
/-- the operation r of HandS does on data what f tells -/
def OpS (K : PySem.W.Frag) (r : List V → Hp → VK → Prop) (f : List PyData → Option O) : Prop :=
  ∀ (vs : List V) (ds : List PyData) (I H : Hp) (Q : VK) (o : O), Same I H → RpSs K I H vs ds → f ds = some o → (∀ v H' I' R, Grow K I H I' H' o v R → Q v H') → r vs H Q
def fOp (f : List PyData → Option O) (as : List AF) : EF := fun env => evA as env >>= fun r => match rsvs r.2 r.1 with
  | none => .no
  | some ds => match f ds with
    | none => .no
    | some o => .ok (o, r.2)
end Dy
namespace Dy
open PySem PySem.Spec PyProof.Rows L2
section
variable {g : G} {X : Cx} {a b c e : Expr} {es : List Expr} {pos : Pos}
theorem op_key {r : List V → Hp → VK → Prop} {f : List PyData → Option O} {as : List AF} {σ : St} {H : Hp} {Q : VK} (ops : OpS g.K r f) (h : tD g (fOp f as) σ H Q) : tA g as σ H fun vs H' => r vs H' Q := by
  obtain ⟨I, env, F, s, p⟩ := h
  refine ⟨I, env, F, s, ?_⟩
  unfold fOp at p
  cases q : evA as env with
  | no => rw [q] at p; exact p
  | er x => rw [q] at p; exact p
  | ok y =>
    rw [q, bind_ok] at p
    cases q2 : rsvs y.2 y.1 with
    | none => rw [q2] at p; exact p.elim
    | some ds =>
      cases q3 : f ds with
      | none => simp only [q2, q3] at p; exact p.elim
      | some o =>
        simp only [q2, q3] at p
        intro vs H' I' F' s' st av
        exact ops vs ds I' H' Q o s'.sub (rsvs_rep s' av q2) q3 fun v H'' I'' R gr => p v H'' (Aft.trans st (gr.aft s'))
def one (r : V → Hp → VK → Prop) : List V → Hp → VK → Prop
  | [x], H, Q => r x H Q
  | _, _, _ => False
def two (r : R2) : List V → Hp → VK → Prop
  | [x, y], H, Q => r x y H Q
  | _, _, _ => False
theorem tA2 {x y : AF} {σ : St} {H : Hp} {R : List V → Hp → Prop} (h : tA g [x, y] σ H R) : tArg g x σ H fun v H1 => tArg g y σ H1 fun u H2 => R [v, u] H2 := by
  have := tA_cons h
  cases x with
  | v f =>
    obtain ⟨I, env, F, s, p⟩ := this
    refine ⟨I, env, F, s, ?_⟩
    cases q : f env with
    | no => rw [q] at p; exact p
    | er x => rw [q] at p; exact p
    | ok r =>
      rw [q] at p
      intro v H1 af
      have p2 := tA_cons (p v H1 af)
      cases y with
      | v f2 =>
        obtain ⟨I2, env2, F2, s2, p3⟩ := p2
        refine ⟨I2, env2, F2, s2, ?_⟩
        cases q2 : f2 env2 with
        | no => rw [q2] at p3; exact p3
        | er x => rw [q2] at p3; exact p3
        | ok r2 => rw [q2] at p3; intro v2 H2 af2; exact tA_nil (p3 v2 H2 af2)
      | s j =>
        obtain ⟨u, hu, p3⟩ := p2
        exact ⟨u, hu, tA_nil p3⟩
  | s i =>
    obtain ⟨v, hv, p⟩ := this
    refine ⟨v, hv, ?_⟩
    have p2 := tA_cons p
    cases y with
    | v f2 =>
      obtain ⟨I2, env2, F2, s2, p3⟩ := p2
      refine ⟨I2, env2, F2, s2, ?_⟩
      cases q2 : f2 env2 with
      | no => rw [q2] at p3; exact p3
      | er x => rw [q2] at p3; exact p3
      | ok r2 => rw [q2] at p3; intro v2 H2 af2; exact tA_nil (p3 v2 H2 af2)
    | s j =>
      obtain ⟨u, hu, p3⟩ := p2
      exact ⟨u, hu, tA_nil p3⟩
theorem tArg_mono {x : AF} {σ : St} {H : Hp} {Q Q' : VK} (h : tArg g x σ H Q) (i : ∀ v H', Q v H' → Q' v H') : tArg g x σ H Q' := by
  cases x with
  | v f =>
    obtain ⟨I, env, F, s, p⟩ := h
    refine ⟨I, env, F, s, ?_⟩
    cases q : f env with
    | no => rw [q] at p; exact p
    | er x => rw [q] at p; exact p
    | ok r => rw [q] at p; exact fun v H' af => i _ _ (p v H' af)
  | s j =>
    obtain ⟨v, hv, q⟩ := h
    exact ⟨v, hv, i _ _ q⟩
theorem tA1 {x : AF} {σ : St} {H : Hp} {R : List V → Hp → Prop} (h : tA g [x] σ H R) : tArg g x σ H fun v H1 => R [v] H1 := tArg_mono (tA_cons h) fun _ _ q => tA_nil q
/-- a built-in function, a built-in type called -/
theorem de_callB {id : String} {x : Str} {p : Pos} {r : List V → Hp → VK → Prop} {f : List PyData → Option O} {as : List AF} (hc : CallR X (.builtin id) r) (ops : OpS g.K r f) (hg : Gl X x) (hm : X.mg x = none) (hv : bootBuiltins x = some (.builtin id)) (ha : DA g X (e :: es) as)
    (hn : x ≠ "__name__" := by decide) (hdb : (x == ("__debug__" : Str)) = false := by decide) (he : starEach (e :: es) X.env = (false, eval e X.env) :: starEach es X.env := by rfl) (hpl : (backTo pos (starEach es X.env)).any (·.1) = false := by rfl) :
    DE g X (.Call (.Name x p) (e :: es) [] pos) (fOp f as) := PE.imp (pe_callB hc hg hm hv ha hn hdb he hpl) fun σ H Q h => op_key ops h
theorem de_callTy {T : String} {x : Str} {p : Pos} {r : List V → Hp → VK → Prop} {f : List PyData → Option O} {as : List AF} (hc : CallR X (.type T) r) (ops : OpS g.K r f) (hg : Gl X x) (hm : X.mg x = none) (hv : bootBuiltins x = some (.type T)) (ha : DA g X (e :: es) as)
    (hn : x ≠ "__name__" := by decide) (hdb : (x == ("__debug__" : Str)) = false := by decide) (he : starEach (e :: es) X.env = (false, eval e X.env) :: starEach es X.env := by rfl) (hpl : (backTo pos (starEach es X.env)).any (·.1) = false := by rfl) :
    DE g X (.Call (.Name x p) (e :: es) [] pos) (fOp f as) := PE.imp (pe_callTy hc hg hm hv ha hn hdb he hpl) fun σ H Q h => op_key ops h
/-- a op b; a cmp b; a[b]; op a -/
theorem de_op {op : Operator} {r : R2} {f : List PyData → Option O} {x y : AF} (ho : OpR X (binaryOp op) r) (ops : OpS g.K (two r) f) (ha : DX g X a x) (hb : DX g X b y) : DE g X (.BinOp a op b pos) (fOp f [x, y]) :=
  PE.imp (pe_op ho ha hb) fun σ H Q h => tA2 (op_key ops h)
theorem de_cmp {op : CmpOp} {r : R2} {f : List PyData → Option O} {x y : AF} (ho : OpR X (compareOp op) r) (ops : OpS g.K (two r) f) (ha : DX g X a x) (hb : DX g X b y) (hm : behindInMarks op b = false) : DE g X (.Compare a [op] [b] pos) (fOp f [x, y]) :=
  PE.imp (pe_cmpR ho ha hb hm) fun σ H Q h => tA2 (op_key ops h)
theorem de_ix {r : R2} {f : List PyData → Option O} {x y : AF} (ho : IxR X r) (ops : OpS g.K (two r) f) (ha : DX g X a x) (hb : DX g X b y) (hs : PlainIx b) : DE g X (.Subscript a b pos) (fOp f [x, y]) :=
  PE.imp (pe_ix ho ha hb hs) fun σ H Q h => tA2 (op_key ops h)
theorem de_un {op : UnaryOp} {r : V → Hp → VK → Prop} {f : List PyData → Option O} {x : AF} (ho : UnR X (unaryOp op) r) (ops : OpS g.K (one r) f) (ha : DX g X a x) : DE g X (.UnaryOp op a pos) (fOp f [x]) :=
  PE.imp (pe_un ho ha) fun σ H Q h => tA1 (op_key ops h)
/-- arguments that are all data -/
def dvs : List AV → Option (List PyData)
  | [] => some []
  | .d x :: as => (dvs as).map (x :: ·)
  | .s _ :: _ => none
theorem dvs_rep {K : PySem.W.Frag} {I : Hp} {σ : St} : ∀ {as : List AV} {vs : List V} {ds : List PyData}, RepAV K I σ as vs → dvs as = some ds → RpAll K I vs ds
  | _, _, _, .nil, h => by cases h; exact .nil
  | _, _, _, .d (as := as) r t, h => by
    unfold dvs at h
    cases q : dvs as with
    | none => rw [q] at h; cases h
    | some es => rw [q] at h; cases h; exact .cons r (dvs_rep t q)
  | _, _, _, .s _ _, h => by cases h
def OpV (K : PySem.W.Frag) (r : List V → Hp → VK → Prop) (f : List PyData → Option O) : Prop :=
  ∀ (vs : List V) (ds : List PyData) (I H : Hp) (Q : VK) (o : O), Same I H → RpAll K I vs ds → f ds = some o → (∀ v H' I' R, Grow K I H I' H' o v R → Q v H') → r vs H Q
def fOv (f : List PyData → Option O) (as : List AF) : EF := fun env => evA as env >>= fun r => match dvs r.1 with
  | none => .no
  | some ds => match f ds with
    | none => .no
    | some o => .ok (o, r.2)
theorem ov_key {r : List V → Hp → VK → Prop} {f : List PyData → Option O} {as : List AF} {σ : St} {H : Hp} {Q : VK} (ops : OpV g.K r f) (h : tD g (fOv f as) σ H Q) : tA g as σ H fun vs H' => r vs H' Q := by
  obtain ⟨I, env, F, s, p⟩ := h
  refine ⟨I, env, F, s, ?_⟩
  unfold fOv at p
  cases q : evA as env with
  | no => rw [q] at p; exact p
  | er x => rw [q] at p; exact p
  | ok y =>
    rw [q, bind_ok] at p
    cases q2 : dvs y.1 with
    | none => rw [q2] at p; exact p.elim
    | some ds =>
      cases q3 : f ds with
      | none => simp only [q2, q3] at p; exact p.elim
      | some o =>
        simp only [q2, q3] at p
        intro vs H' I' F' s' st av
        exact ops vs ds I' H' Q o s'.sub (dvs_rep av q2) q3 fun v H'' I'' R gr => p v H'' (Aft.trans st (gr.aft s'))
/-- displays -/
def pTup (ds : List PyData) : Option O := if ds.length ≤ 100000 then some (.fr (.tuple ds)) else none
def pLst (ds : List PyData) : Option O := if ds.length ≤ 100000 then some (.ol ds) else none
theorem ov_tup {K : PySem.W.Frag} : OpV K (fun xs H1 Q => xs.length ≤ sizeLine ∧ ∀ p, H1 p = none → Q (.ref p) (upd H1 p (.tup xs))) pTup := fun vs ds I H Q o s r e k => by
  unfold pTup at e
  by_cases hz : ds.length ≤ 100000
  · rw [if_pos hz] at e; cases e
    exact ⟨by rw [r.length]; exact Nat.le_trans hz (by decide), fun p np => k _ _ _ _ (Grow.tup s np r)⟩
  · rw [if_neg hz] at e; cases e
theorem ov_lst {K : PySem.W.Frag} : OpV K (fun xs H1 Q => xs.length ≤ sizeLine ∧ ∀ p, H1 p = none → Q (.ref p) (upd H1 p (.lst xs))) pLst := fun vs ds I H Q o s r e k => by
  unfold pLst at e
  by_cases hz : ds.length ≤ 100000
  · rw [if_pos hz] at e; cases e
    exact ⟨by rw [r.length]; exact Nat.le_trans hz (by decide), fun p np => k _ _ _ _ (Grow.lst s np r)⟩
  · rw [if_neg hz] at e; cases e
theorem de_tup {x1} {as : List AF} (h : DA g X es as) : DE g X (.Tuple es x1 pos) (fOv pTup as) := PE.imp (pe_tup h) fun σ H Q q => ov_key ov_tup q
theorem de_lst {as : List AF} (h : DA g X es as) : DE g X (.List es pos) (fOv pLst as) := PE.imp (pe_lst h) fun σ H Q q => ov_key ov_lst q
/-- (a, *b) -/
def seqOf : PyData → Option (List PyData)
  | .list xs => some xs
  | .tuple xs => some xs
  | _ => none
def on1 (f : PyData → Option O) : List PyData → Option O
  | [a] => f a
  | _ => none
def on2 (f : PyData → PyData → Option O) : List PyData → Option O
  | [a, b] => f a b
  | _ => none
theorem ops1 {K : PySem.W.Frag} {r : V → Hp → VK → Prop} {f : PyData → Option O} (h : ∀ (v : V) (d : PyData) (I H : Hp) (Q : VK) (o : O), Same I H → RpS K I H v d → f d = some o → (∀ v H' I' R, Grow K I H I' H' o v R → Q v H') → r v H Q) : OpS K (one r) (on1 f) := by
  intro vs ds I H Q o s q e k
  match vs, ds, q with
  | _, _, .nil => simp [on1] at e
  | _, _, .cons q1 .nil => exact h _ _ I H Q o s q1 e k
  | _, _, .cons _ (.cons _ _) => simp [on1] at e
theorem ops2 {K : PySem.W.Frag} {r : R2} {f : PyData → PyData → Option O} (h : ∀ (v u : V) (d e : PyData) (I H : Hp) (Q : VK) (o : O), Same I H → RpS K I H v d → RpS K I H u e → f d e = some o → (∀ v H' I' R, Grow K I H I' H' o v R → Q v H') → r v u H Q) : OpS K (two r) (on2 f) := by
  intro vs ds I H Q o s q e k
  match vs, ds, q with
  | _, _, .nil => simp [on2] at e
  | _, _, .cons _ .nil => simp [on2] at e
  | _, _, .cons q1 (.cons q2 .nil) => exact h _ _ _ _ I H Q o s q1 q2 e k
  | _, _, .cons _ (.cons _ (.cons _ _)) => simp [on2] at e
def isL : PyData → Bool
  | .list _ => true
  | .dict _ => true
  | _ => false
def pStar (d x : PyData) : Option O := if isL d then none else match seqOf x with
  | some xs => if xs.length < 100000 then some (.fr (.tuple (d :: xs))) else none
  | none => none
theorem rps_rp {K : PySem.W.Frag} {I H : Hp} {v : V} {d : PyData} (h : RpS K I H v d) (n : isL d = false) : Rp K I v d := by
  rcases h with h | ⟨a, vs, ds, rfl, rfl, h1, h2⟩ | ⟨a, es, rfl, rfl, h1⟩
  · exact h
  · cases n
  · cases n
theorem rps_seq {K : PySem.W.Frag} {I H : Hp} {v : V} {d : PyData} {xs : List PyData} (s : Same I H) (h : RpS K I H v d) (e : seqOf d = some xs) : ∃ p vs, v = .ref p ∧ (SqT K H p vs ∨ SqL K H p vs) ∧ RpAll K I vs xs := by
  rcases h with h | ⟨a, vs, ds, rfl, rfl, h1, h2⟩ | ⟨a, es, rfl, rfl, h1⟩
  · cases h with
    | lst h1 h2 => cases e; exact ⟨_, _, rfl, .inr (h1.mono s).sq, h2⟩
    | tup h1 h2 => cases e; exact ⟨_, _, rfl, .inl (same_t s h1), h2⟩
    | non => cases e
    | bl => cases e
    | int => cases e
    | str => cases e
    | dic => cases e
    | dit => cases e
  · cases e; exact ⟨_, _, rfl, .inr (SqL.of h1), h2⟩
  · cases e
theorem de_tupS {x1 p1} {x y : AF} (ha : DX g X a x) (hb : DX g X b y) (h1 : starEach [a, .Starred b p1] X.env = (false, eval a X.env) :: starEach [.Starred b p1] X.env := by rfl) (h2 : PA X [.Starred b p1] (StX.tStar X.K (tArg g y) tNil)) (hK : X.K = g.K := by rfl) :
    DE g X (.Tuple [a, .Starred b p1] x1 pos) (fOp (on2 pStar) [x, y]) := PE.imp (pe_tup (pa_cons ha h2 h1)) fun σ H Q h => by
  refine tArg_mono (tA2 (op_key (r := two fun v u H1 Q => ∃ p xs, u = V.ref p ∧ (SqT X.K H1 p xs ∨ SqL X.K H1 p xs) ∧ (v :: (xs ++ [])).length ≤ sizeLine ∧ ∀ p, H1 p = none → Q (.ref p) (upd H1 p (.tup (v :: (xs ++ []))))) ?_ h)) fun v H1 q => tArg_mono q fun u H2 q => ?_
  · refine ops2 fun v u d x I H Q o s r1 r2 e k => ?_
    unfold pStar at e
    by_cases hd : isL d = true
    · rw [if_pos hd] at e; cases e
    · rw [if_neg hd] at e
      cases q : seqOf x with
      | none => simp only [q] at e; cases e
      | some xs =>
        simp only [q] at e
        by_cases hz : xs.length < 100000
        · rw [if_pos hz] at e; cases e
          obtain ⟨p, us, rfl, hs, ra⟩ := rps_seq s r2 q
          refine ⟨p, us, rfl, by rw [hK]; exact hs, ?_, fun p np => ?_⟩
          · rw [List.append_nil, List.length_cons, ra.length]; exact Nat.le_trans hz (by decide)
          · rw [List.append_nil]
            exact k _ _ _ _ (Grow.tup s np (.cons (rps_rp r1 (by simpa using hd)) ra))
        · rw [if_neg hz] at e; cases e
  · obtain ⟨p, xs, e, hs, q1, q2⟩ := q
    exact ⟨p, xs, e, hs, q1, q2⟩
end
end Dy
namespace Dy
open PySem PySem.Spec PyProof.Rows L2
theorem post_bind {α β : Type} {r : Res α} {k : α → Res β} {P : β → Prop} {E : Exn → Prop} : (r >>= k).post P E ↔ r.post (fun a => (k a).post P E) E := by
  cases r <;> exact Iff.rfl
theorem post_mono {α : Type} {r : Res α} {P P' : α → Prop} {E E' : Exn → Prop} (h : r.post P E) (hp : ∀ a, P a → P' a) (he : ∀ x, E x → E' x) : r.post P' E' := by
  cases r with
  | ok a => exact hp a h
  | er x => exact he x h
  | no => exact h
section
variable {g : G} {X : Cx} {a b c e : Expr} {es : List Expr} {pos : Pos} {σ : St} {H I : Hp} {env : Env} {F : Nat → List Addr}
theorem tD_seq {f : EF} {β : Type} {k : O × Env → Res β} {P : β → Prop} {Q : VK} (s : Sim g.K g.pn I H σ env F) (p : (f env >>= k).post P (g.err I H F))
    (h : ∀ r v H1, Aft g.K g.pn I H F σ r.2 r.1 v H1 → (k r).post P (g.err I H F) → Q v H1) : tD g f σ H Q :=
  ⟨I, env, F, s, post_mono (post_bind.mp p) (fun r q v H1 af => h r v H1 af q) fun _ z => z⟩
theorem tT_seq {f : TF} {β : Type} {k : Bool × Env → Res β} {P : β → Prop} {Q : Bool → Hp → Prop} (s : Sim g.K g.pn I H σ env F) (p : (f env >>= k).post P (g.err I H F))
    (h : ∀ r H1, AftS g.K g.pn I H F σ r.2 H1 → (k r).post P (g.err I H F) → Q r.1 H1) : tT g f σ H Q :=
  ⟨I, env, F, s, post_mono (post_bind.mp p) (fun r q H1 af => h r H1 af q) fun _ z => z⟩
def fB (f : EF) : TF := fun env => f env >>= fun r => match r.1 with
  | .fr (.bool b) => .ok (b, r.2)
  | _ => .no
theorem tB_key {f : EF} {Q : Bool → Hp → Prop} (h : tT g (fB f) σ H Q) : tD g f σ H fun x H1 => ∃ k, x = .bl k ∧ Q k H1 := by
  obtain ⟨I, env, F, s, p⟩ := h
  refine tD_seq s p fun r v H1 af q => ?_
  obtain ⟨o, e⟩ := r
  cases o with
  | ol _ => exact q.elim
  | oo _ => exact q.elim
  | od _ => exact q.elim
  | fr d =>
    cases d with
    | bool b =>
      obtain ⟨I', F', rp, s', st⟩ := af.frz
      cases rp
      exact ⟨b, rfl, q H1 ⟨I', F', s', st⟩⟩
    | _ => exact q.elim
theorem dt_val {f : EF} (h : DE g X e f) (he : ∀ whole, isTrue e X.env whole = (do let v ← whole; standAt e.pos; holding [v] (truthy v)) := by intro _; rfl) : DT g X e (fB f) :=
  PT.imp (pt_val h he) fun σ H Q q => tB_key q
theorem dt_cmp {op : CmpOp} {r : R2} {f : List PyData → Option O} {x y : AF} (ho : OpR X (compareOp op) r) (ops : OpS g.K (two r) f) (ha : DX g X a x) (hb : DX g X b y) (hm : behindInMarks op b = false) : DT g X (.Compare a [op] [b] pos) (fB (fOp f [x, y])) :=
  PT.imp (pt_cmpR ho ha hb hm) fun σ H Q h => tA2 (op_key ops (tB_key h))
def fNot (t : TF) : TF := fun env => t env >>= fun r => .ok (!r.1, r.2)
theorem dt_not {t : TF} (h : DT g X a t) : DT g X (.UnaryOp .Not a pos) (fNot t) := PT.imp (pt_not h) fun σ H Q q => by
  obtain ⟨I, env, F, s, p⟩ := q
  exact tT_seq s p fun r H1 af q => q H1 af
def fAndT (t u : TF) : TF := fun env => t env >>= fun r => if r.1 = true then u r.2 else .ok (false, r.2)
def fOrT (t u : TF) : TF := fun env => t env >>= fun r => if r.1 = true then .ok (true, r.2) else u r.2
theorem AftS.go {P : Prop} {H1 : Hp} {env' : Env} (af : AftS g.K g.pn I H F σ env' H1) (h : ∀ I1 F1, Sim g.K g.pn I1 H1 σ env' F1 → Step I H (Ow F) I1 H1 (Ow F1) → P) : P := let ⟨I1, F1, s, st⟩ := af; h I1 F1 s st
theorem dw_and1 {t : TF} (h : DT g X a t) : DW g X (.BoolOp .And [a] pos) t := pw_and1 h
theorem dw_or1 {t : TF} (h : DT g X a t) : DW g X (.BoolOp .Or [a] pos) t := pw_or1 h
theorem tT_again {u : TF} {Q : Bool → Hp → Prop} {H1 : Hp} {env' : Env} (af : AftS g.K g.pn I H F σ env' H1) (p : (u env').post (fun r => ∀ H', AftS g.K g.pn I H F σ r.2 H' → Q r.1 H') (g.err I H F)) : tT g u σ H1 Q :=
  af.go fun I1 F1 s1 st => ⟨I1, env', F1, s1, post_mono p (fun r q H' af' => q H' (AftS.trans st af')) fun x z => err_step st z⟩
theorem tD_again {f : EF} {Q : VK} {H1 : Hp} {env' : Env} (af : AftS g.K g.pn I H F σ env' H1) (p : (f env').post (fun r => ∀ v H', Aft g.K g.pn I H F σ r.2 r.1 v H' → Q v H') (g.err I H F)) : tD g f σ H1 Q :=
  af.go fun I1 F1 s1 st => ⟨I1, env', F1, s1, post_mono p (fun r q v H' af' => q v H' (Aft.trans st af')) fun x z => err_step st z⟩
theorem dw_and {t u : TF} (ha : DT g X a t) (hb : DW g X (.BoolOp .And (b :: es) pos) u) : DW g X (.BoolOp .And (a :: b :: es) pos) (fAndT t u) := PW.imp (pw_and ha hb) fun σ H Q h => by
  obtain ⟨I, env, F, s, p⟩ := h
  refine tT_seq s p fun r H1 af q => ?_
  by_cases hr : r.1 = true
  · rw [if_pos hr] at q ⊢; exact tT_again af q
  · rw [if_neg hr] at q ⊢; exact q H1 af
theorem dw_or {t u : TF} (ha : DT g X a t) (hb : DW g X (.BoolOp .Or (b :: es) pos) u) : DW g X (.BoolOp .Or (a :: b :: es) pos) (fOrT t u) := PW.imp (pw_or ha hb) fun σ H Q h => by
  obtain ⟨I, env, F, s, p⟩ := h
  refine tT_seq s p fun r H1 af q => ?_
  by_cases hr : r.1 = true
  · rw [if_pos hr] at q ⊢; exact q H1 af
  · rw [if_neg hr] at q ⊢; exact tT_again af q
theorem dw_t {t : TF} (h : DW g X e t) : DT g X e t := PW.pt h
def fAnd (f k : EF) : EF := fun env => fB f env >>= fun r => if r.1 = true then k r.2 else .ok (.fr (.bool false), r.2)
def fOr (f k : EF) : EF := fun env => fB f env >>= fun r => if r.1 = true then .ok (.fr (.bool true), r.2) else k r.2
theorem de_one {op} {f : EF} (h : DE g X a f) : DE g X (.BoolOp op [a] pos) f := pe_one h
theorem tB_seq {f : EF} {β : Type} {k : Bool × Env → Res β} {P : β → Prop} {Q : VK} (s : Sim g.K g.pn I H σ env F) (p : (fB f env >>= k).post P (g.err I H F))
    (h : ∀ r H1, AftS g.K g.pn I H F σ r.2 H1 → (k r).post P (g.err I H F) → Q (.bl r.1) H1) : tD g f σ H Q := by
  refine tD_seq (k := fun r => (match r.1 with | .fr (.bool b) => Res.ok (b, r.2) | _ => .no) >>= k) s (by
    unfold fB at p
    rw [post_bind] at p ⊢
    rw [post_bind] at p
    exact post_mono p (fun r q => post_bind.mpr q) fun _ z => z) fun r v H1 af q => ?_
  obtain ⟨o, e⟩ := r
  cases o with
  | ol _ => exact q.elim
  | oo _ => exact q.elim
  | od _ => exact q.elim
  | fr d =>
    cases d with
    | bool b =>
      obtain ⟨I', F', rp, s', st⟩ := af.frz
      cases rp
      exact h (b, e) H1 ⟨I', F', s', st⟩ q
    | _ => exact q.elim
theorem rbl {K : PySem.W.Frag} {I : Hp} {b : Bool} : Rp K I (.bl b) (.bool b) := .bl b
theorem AftS.val {H1 : Hp} {env' : Env} {d : PyData} {v : V} (af : AftS g.K g.pn I H F σ env' H1) (r : ∀ I, Rp g.K I v d) : Aft g.K g.pn I H F σ env' (.fr d) v H1 :=
  af.go fun I1 F1 s1 st => AftD.aft ⟨I1, F1, r I1, s1, st⟩
theorem de_and {f k : EF} (ha : DE g X a f) (hb : DE g X (.BoolOp .And (b :: es) pos) k) : DE g X (.BoolOp .And (a :: b :: es) pos) (fAnd f k) := PE.imp (pe_and ha hb) fun σ H Q h => by
  obtain ⟨I, env, F, s, p⟩ := h
  refine tB_seq s p fun r H1 af q => ⟨r.1, rfl, ?_⟩
  by_cases hr : r.1 = true
  · rw [if_pos hr] at q ⊢; exact tD_again af q
  · rw [if_neg hr] at q ⊢; exact q _ H1 (af.val fun _ => rbl)
def fNotV (f : EF) : EF := fun env => fB f env >>= fun r => .ok (.fr (.bool (!r.1)), r.2)
theorem de_not {f : EF} (ha : DE g X a f) : DE g X (.UnaryOp .Not a pos) (fNotV f) := PE.imp (pe_not ha) fun σ H Q h => by
  obtain ⟨I, env, F, s, p⟩ := h
  exact tB_seq s p fun r H1 af q => ⟨r.1, rfl, q _ H1 (af.val fun _ => rbl)⟩
def fIf (t : TF) (f k : EF) : EF := fun env => t env >>= fun r => if r.1 = true then f r.2 else k r.2
theorem de_if {t : TF} {f k : EF} (hc : DT g X c t) (ha : DE g X a f) (hb : DE g X b k) : DE g X (.IfExp c a b pos) (fIf t f k) := PE.imp (pe_ifExp hc ha hb) fun σ H Q h => by
  obtain ⟨I, env, F, s, p⟩ := h
  refine tT_seq s p fun r H1 af q => ?_
  by_cases hr : r.1 = true
  · rw [if_pos hr] at q ⊢; exact tD_again af q
  · rw [if_neg hr] at q ⊢; exact tD_again af q
/-- a < b < c of ints -/
def ints2 : Option (List PyData) → Option (Int × Int)
  | some [.int i, .int j] => some (i, j)
  | _ => none
def ints1 : Option (List PyData) → Option Int
  | some [.int i] => some i
  | _ => none
theorem ints2_inv {x : Option (List PyData)} {i j : Int} (h : ints2 x = some (i, j)) : x = some [.int i, .int j] := by
  unfold ints2 at h
  split at h
  · cases h; rfl
  · cases h
theorem ints1_inv {x : Option (List PyData)} {i : Int} (h : ints1 x = some i) : x = some [.int i] := by
  unfold ints1 at h
  split at h
  · cases h; rfl
  · cases h
def fChI (c1 c2 : Int → Int → Bool) (x y z : AF) : EF := fun env => evA [x, y] env >>= fun r => match ints2 (rsvs r.2 r.1) with
  | some ij => if c1 ij.1 ij.2 = true then evA [z] r.2 >>= fun q => match ints1 (rsvs q.2 q.1) with
      | some k => .ok (.fr (.bool (c2 ij.2 k)), q.2)
      | none => .no
    else .ok (.fr (.bool false), r.2)
  | none => .no
theorem rpss_int {K : PySem.W.Frag} {I H : Hp} {v : V} {i : Int} (h : RpS K I H v (.int i)) : v = .int i := by
  rcases h with h | ⟨_, _, _, _, e, _⟩ | ⟨_, _, _, e, _⟩
  · cases h; rfl
  · cases e
  · cases e
theorem ch_key {c1 c2 : Int → Int → Bool} {x y z : AF} {Q : VK} (h : tD g (fChI c1 c2 x y z) σ H Q) : tArg g x σ H fun v H1 => tArg g y σ H1 fun u H2 => rI0 (fun i j => .bl (c1 i j)) v u H2 fun w H3 => ∃ k, w = .bl k ∧
    (if k = true then tArg g z σ H3 fun w' H4 => rI0 (fun i j => .bl (c2 i j)) u w' H4 Q else Q (.bl false) H3) := by
  obtain ⟨I, env, F, s, p⟩ := h
  have key : tA g [x, y] σ H (fun vs H2 => ∃ v u, vs = [v, u] ∧ rI0 (fun i j => .bl (c1 i j)) v u H2 fun w H3 => ∃ k, w = .bl k ∧ (if k = true then tArg g z σ H3 fun w' H4 => rI0 (fun i j => .bl (c2 i j)) u w' H4 Q else Q (.bl false) H3)) := by
    refine ⟨I, env, F, s, post_mono (post_bind.mp p) (fun r q vs H' I' F' s' st av => ?_) fun _ z => z⟩
    cases q2 : ints2 (rsvs r.2 r.1) with
    | none => simp only [q2] at q; exact q.elim
    | some ij =>
      obtain ⟨i, j⟩ := ij
      simp only [q2] at q
      have rr := rsvs_rep s' av (ints2_inv q2)
      match vs, rr with
      | _, .cons r1 (.cons r2 .nil) =>
        cases rpss_int r1
        cases rpss_int r2
        refine ⟨_, _, rfl, i, j, rfl, rfl, c1 i j, rfl, ?_⟩
        by_cases hc : c1 i j = true
        · rw [if_pos hc] at q ⊢
          refine tArg_mono (tA1 (R := fun vs H4 => ∃ w', vs = [w'] ∧ rI0 (fun i j => .bl (c2 i j)) (V.int j) w' H4 Q) ⟨I', r.2, F', s', post_mono (post_bind.mp q) (fun r3 q3 vs3 H3 I3 F3 s3 st3 av3 => ?_) fun x zz => err_step st zz⟩) fun w' H4 ⟨_, e4, q4⟩ => by cases e4; exact q4
          cases q5 : ints1 (rsvs r3.2 r3.1) with
          | none => simp only [q5] at q3; exact q3.elim
          | some k =>
            simp only [q5] at q3
            have rr3 := rsvs_rep s3 av3 (ints1_inv q5)
            match vs3, rr3 with
            | _, .cons r1 .nil =>
              cases rpss_int r1
              exact ⟨_, rfl, j, k, rfl, rfl, q3 _ H3 (AftS.val ⟨I3, F3, s3, st.trans st3⟩ fun _ => rbl)⟩
        · rw [if_neg hc] at q ⊢
          exact q _ H' (AftS.val ⟨I', F', s', st⟩ fun _ => rbl)
  refine tArg_mono (tA2 key) fun v H1 q => tArg_mono q fun u H2 q => ?_
  obtain ⟨v', u', e, q⟩ := q
  cases e
  exact q
theorem de_chI {op op' : CmpOp} {c1 c2 : Int → Int → Bool} {x y z : AF} (ho : OpR X (compareOp op) (rI0 fun i j => .bl (c1 i j))) (ho' : OpR X (compareOp op') (rI0 fun i j => .bl (c2 i j))) (h : ∀ {ta tb tc : TE}, PE X a ta → PE X b tb → PE X c tc → PE X e (tChain (rI0 fun i j => .bl (c1 i j)) (rI0 fun i j => .bl (c2 i j)) ta tb tc))
    (ha : DX g X a x) (hb : DX g X b y) (hc : DX g X c z) : DE g X e (fChI c1 c2 x y z) := PE.imp (h ha hb hc) fun σ H Q q => ch_key q
theorem dt_chI {c1 c2 : Int → Int → Bool} {x y z : AF} (h : ∀ {ta tb tc : TE}, PE X a ta → PE X b tb → PE X c tc → PT X e (tTest (tChain (rI0 fun i j => .bl (c1 i j)) (rI0 fun i j => .bl (c2 i j)) ta tb tc)))
    (ha : DX g X a x) (hb : DX g X b y) (hc : DX g X c z) : DT g X e (fB (fChI c1 c2 x y z)) := PT.imp (h ha hb hc) fun σ H Q q => ch_key (tB_key q)
variable {st : Stmt} {rest : List Stmt} {D : Ends}
theorem FlP_step {I1 H1 : Hp} {F1 : Nat → List Addr} {r : Fl × Env} (st : Step I H (Ow F) I1 H1 (Ow F1)) (h : FlP g D I H F r) : FlP g D I1 H1 F1 r := by
  obtain ⟨fl, e⟩ := r
  cases fl with
  | nx => exact fun σ' H' af => h σ' H' (AftS.trans st af)
  | bk => exact fun σ' H' af => h σ' H' (AftS.trans st af)
  | ct => exact fun σ' H' af => h σ' H' (AftS.trans st af)
  | rt o => exact fun v σ' H' af => h v σ' H' (Aft.trans st af)
def fSeq (s t : SF) : SF := fun env => s env >>= fun r => match r.1 with
  | .nx => t r.2
  | _ => .ok r
def fSkip : SF := fun env => .ok (.nx, env)
def fNo : SF := fun _ => .no
theorem dss_nil : DSs g X [] fSkip := PSs.imp pss_nil fun D σ H h => by
  obtain ⟨I, env, F, s, p⟩ := h
  exact p σ H ⟨I, F, s, Step.refl⟩
theorem dss_one {f : SF} (h : DS g X st f) : DSs g X [st] f := pss_one h
theorem tS_again {f : SF} {σ' : St} {H1 : Hp} {env' : Env} (af : AftS g.K g.pn I H F σ' env' H1) (p : (f env').post (FlP g D I H F) (g.err I H F)) : tS g f D σ' H1 := by
  obtain ⟨I1, F1, s, st⟩ := af
  exact ⟨I1, env', F1, s, post_mono p (fun r q => FlP_step st q) fun x z => err_step st z⟩
theorem dss_cons {f k : SF} (h1 : DS g X st f) (h2 : DSs g X rest k) : DSs g X (st :: rest) (fSeq f k) := PSs.imp (pss_cons h1 h2) fun D σ H h => by
  obtain ⟨I, env, F, s, p⟩ := h
  refine ⟨I, env, F, s, post_mono (post_bind.mp p) (fun r q => ?_) fun _ z => z⟩
  obtain ⟨fl, e⟩ := r
  cases fl with
  | nx => exact fun σ' H' af => tS_again af q
  | bk => exact q
  | ct => exact q
  | rt o => exact q
theorem ds_never : DS g X st fNo := PS.imp ps_never fun D σ H h => let ⟨_, _, _, _, p⟩ := h; p
def fRet (f : EF) : SF := fun env => f env >>= fun r => .ok (.rt r.1, r.2)
theorem ds_ret {f : EF} (h : DE g X e f) : DS g X (.Return (some e) pos) (fRet f) := PS.imp (ps_ret h) fun D σ H h => by
  obtain ⟨I, env, F, s, p⟩ := h
  exact tD_seq s p fun r v H1 af q => q v σ H1 af
def fEx (f : EF) : SF := fun env => f env >>= fun r => .ok (.nx, r.2)
theorem ds_expr {f : EF} (h : DE g X e f) (hs : swapsWith e none pos.line X.env = pure false := by rfl) : DS g X (.Expr e pos) (fEx f) := PS.imp (ps_expr h hs) fun D σ H h => by
  obtain ⟨I, env, F, s, p⟩ := h
  exact tD_seq s p fun r v H1 af q => q σ H1 af.frz.toS
def fIfS (t : TF) (f k : SF) : SF := fun env => t env >>= fun r => if r.1 = true then f r.2 else k r.2
theorem ds_if {t : TF} {f k : SF} {s1 s2 : List Stmt} (hc : DT g X c t) (ha : DSs g X s1 f) (hb : DSs g X s2 k) : DS g X (.If c s1 s2 pos) (fIfS t f k) := PS.imp (ps_if hc ha hb) fun D σ H h => by
  obtain ⟨I, env, F, s, p⟩ := h
  refine tT_seq s p fun r H1 af q => ?_
  by_cases hr : r.1 = true
  · rw [if_pos hr] at q ⊢; exact tS_again af q
  · rw [if_neg hr] at q ⊢; exact tS_again af q
theorem ow_up {i : Nat} {R : List Addr} {x : Addr} (h : Ow (upF F i R) x) : Ow F x ∨ x ∈ R := by
  obtain ⟨j, hj⟩ := h
  by_cases e : j = i
  · subst e; rw [upF_same] at hj; exact .inr hj
  · rw [upF_ne e] at hj; exact .inl ⟨j, hj⟩
/-- what an expression gave is stored in slot i -/
theorem Aft.store {i : Nat} {o : O} {v : V} {H1 : Hp} {env' : Env} (hi : i < env'.length) (hp : i ∉ g.pn.1) (af : Aft g.K g.pn I H F σ env' o v H1) : AftS g.K g.pn I H F (σ.set i (some v)) (env'.set i (some o)) H1 := by
  obtain ⟨I', F', R, r, s, nR, dR, st⟩ := af
  refine ⟨I', upF F' i R, s.put hi (Same.refl _) s.sub (fun _ _ _ _ => rfl) (fun j _ a ha => s.djI j a ha) nR (fun j _ a ha => dR a ⟨j, ha⟩) (fun o' e => ?_) (fun e => by cases e) (fun h => absurd h hp), st.less fun a ha => ow_up ha⟩
  cases e; exact ⟨v, rfl, r⟩
def fSet (i : Nat) (f : EF) : SF := fun env => f env >>= fun r => if i < r.2.length then .ok (.nx, r.2.set i (some r.1)) else .no
theorem set_key {i : Nat} {f : EF} (hp : i ∉ g.pn.1) (h : tS g (fSet i f) D σ H) : tAsg (tD g f) (gName i) D σ H := by
  obtain ⟨I, env, F, s, p⟩ := h
  refine tD_seq s p fun r v H1 af q => ?_
  by_cases hi : i < r.2.length
  · rw [if_pos hi] at q; exact q _ _ (af.store hi hp)
  · rw [if_neg hi] at q; exact q.elim
theorem ds_set {i : Nat} {x : Str} {f : EF} {pos' : Pos} (hN : X.N.Nodup) (hi : X.N[i]? = some x) (hx : Loc X.env.scope x) (hp : i ∉ g.pn.1) (he : DE g X e f) (hs : swapsWith e (some (.Name x pos')) pos.line X.env = pure false := by rfl)
    (hf : X.fn x = true ∨ X.env.scope.names.lookup x = some .local := by first | exact .inl rfl | exact .inr rfl | assumption) : DS g X (.Assign [.Name x pos'] e pos) (fSet i f) := PS.imp (ps_set hN hi hx he hs hf) fun D σ H h => set_key hp h
inductive T1 where
  | n (i : Nat)
  | t (is : List Nat)
def T1.slots : T1 → List Nat
  | .n i => [i]
  | .t is => is
inductive Tg where
  | nm (i : Nat)
  | tu (is : List Nat)
  | tl (is : List Nat)
  | tw (ts : List T1)
def gNames : List Nat → TGs
  | [] => gNil
  | i :: is => gCons (gName i) (gNames is)
def gW (K : PySem.W.Frag) : List T1 → TGs
  | [] => gNil
  | .n i :: ts => gCons (gName i) (gW K ts)
  | .t is :: ts => gCons (gTup K is.length (gNames is)) (gW K ts)
def rdT (K : PySem.W.Frag) : Tg → TG
  | .nm i => gName i
  | .tu is => gTup K is.length (gNames is)
  | .tl is => gUnl K is.length (gNames is)
  | .tw ts => gTup K ts.length (gW K ts)
def Tg.slots : Tg → List Nat
  | .nm i => [i]
  | .tu is => is
  | .tl is => is
  | .tw ts => ts.flatMap T1.slots
def setAll : List Nat → List PyData → Env → Option Env
  | [], [], e => some e
  | i :: is, d :: ds, e => if i < e.length then setAll is ds (e.set i (some (.fr d))) else none
  | _, _, _ => none
def setW : List T1 → List PyData → Env → Option Env
  | [], [], e => some e
  | .n i :: ts, d :: ds, e => if i < e.length then setW ts ds (e.set i (some (.fr d))) else none
  | .t is :: ts, .tuple xs :: ds, e => match setAll is xs e with
    | some e' => setW ts ds e'
    | none => none
  | _, _, _ => none
def asT : Tg → PyData → Env → Res Env
  | .nm i, d, e => ofO (setAll [i] [d] e)
  | .tu is, .tuple ds, e => ofO (setAll is ds e)
  | .tl is, .list ds, e => ofO (setAll is ds e)
  | .tw ts, .tuple ds, e => ofO (setW ts ds e)
  | _, _, _ => .no
/-- σ' is σ but for some slots -/
def Only' (is : List Nat) (σ σ' : St) : Prop := σ'.length = σ.length ∧ ∀ i, i ∉ is → σ'[i]? = σ[i]?
theorem names_key : ∀ (is : List Nat) {vs : List V} {ds : List PyData} {σ : St} {env env' : Env} {F : Nat → List Addr} {I H : Hp} {Q : St → Hp → Prop}, (∀ i ∈ is, i ∉ g.pn.1) → Sim g.K g.pn I H σ env F → RpAll g.K I vs ds → setAll is ds env = some env' →
    (∀ σ' F', Only' is σ σ' → Sim g.K g.pn I H σ' env' F' → (∀ a, Ow F' a → Ow F a) → Q σ' H) → gNames is vs σ H Q
  | [], _, _, σ, env, env', F, I, H, Q, _, s, .nil, e, k => by cases e; exact ⟨rfl, k σ F ⟨rfl, fun _ _ => rfl⟩ s fun _ z => z⟩
  | [], _, _, _, _, _, _, _, _, _, _, _, .cons _ _, e, _ => by cases e
  | _ :: _, _, _, _, _, _, _, _, _, _, _, _, .nil, e, _ => by cases e
  | i :: is, _, _, σ, env, env', F, I, H, Q, hp, s, .cons (v := v) (d := d) r t, e, k => by
    unfold setAll at e
    by_cases hi : i < env.length
    · rw [if_pos hi] at e
      refine ⟨v, _, rfl, ?_⟩
      have s1 : Sim g.K g.pn I H (σ.set i (some v)) (env.set i (some (.fr d))) (upF F i []) := s.put hi (Same.refl _) s.sub (fun _ _ _ _ => rfl) (fun j _ a ha => s.djI j a ha) (fun _ h => nomatch h) (fun _ _ _ _ h => nomatch h) (fun o e => by cases e; exact ⟨v, rfl, rfl, r⟩) (fun e => by cases e) (fun h => absurd h (hp i (by simp)))
      refine names_key is (fun j hj => hp j (by simp [hj])) s1 t e fun σ' F' ho s' hF => k σ' F' ⟨by rw [ho.1, List.length_set], fun j hj => ?_⟩ s' fun a ha => ?_
      · simp only [List.mem_cons, not_or] at hj
        rw [ho.2 j hj.2, List.getElem?_set_ne (Ne.symm hj.1)]
      · rcases ow_up (hF a ha) with z | z
        · exact z
        · cases z
    · rw [if_neg hi] at e; cases e
theorem setAll_len : ∀ (is : List Nat) (ds : List PyData) (a b : Env), setAll is ds a = some b → ds.length = is.length := by
  intro is
  induction is with
  | nil => intro ds a b h; cases ds <;> simp [setAll] at h ⊢
  | cons i is ih =>
    intro ds a b h
    cases ds with
    | nil => simp [setAll] at h
    | cons d ds =>
      unfold setAll at h
      split at h
      · simp [ih _ _ _ h]
      · cases h
theorem setW_len : ∀ (ts : List T1) (ds : List PyData) (a b : Env), setW ts ds a = some b → ds.length = ts.length
  | [], [], _, _, _ => rfl
  | [], _ :: _, _, _, h => by simp [setW] at h
  | .n i :: ts, [], _, _, h => by simp [setW] at h
  | .t is :: ts, [], _, _, h => by simp [setW] at h
  | .n i :: ts, d :: ds, a, b, h => by
    unfold setW at h
    split at h
    · simp [setW_len ts ds _ _ h]
    · cases h
  | .t is :: ts, d :: ds, a, b, h => by
    cases d with
    | tuple xs =>
      simp only [setW] at h
      split at h
      · simp [setW_len ts ds _ _ h]
      · cases h
    | _ => simp [setW] at h
theorem w_key : ∀ (ts : List T1) {vs : List V} {ds : List PyData} {σ : St} {env env' : Env} {F : Nat → List Addr} {I H : Hp} {Q : St → Hp → Prop}, (∀ i ∈ ts.flatMap T1.slots, i ∉ g.pn.1) → Sim g.K g.pn I H σ env F → RpAll g.K I vs ds → setW ts ds env = some env' →
    (∀ σ' F', Only' (ts.flatMap T1.slots) σ σ' → Sim g.K g.pn I H σ' env' F' → (∀ a, Ow F' a → Ow F a) → Q σ' H) → gW g.K ts vs σ H Q
  | [], _, _, σ, env, env', F, I, H, Q, _, s, .nil, e, k => by cases e; exact ⟨rfl, k σ F ⟨rfl, fun _ _ => rfl⟩ s fun _ z => z⟩
  | [], _, _, _, _, _, _, _, _, _, _, _, .cons _ _, e, _ => by cases e
  | .n _ :: _, _, _, _, _, _, _, _, _, _, _, _, .nil, e, _ => by cases e
  | .t _ :: _, _, _, _, _, _, _, _, _, _, _, _, .nil, e, _ => by cases e
  | .n i :: ts, _, _, σ, env, env', F, I, H, Q, hp, s, .cons (v := v) (d := d) r t, e, k => by
    unfold setW at e
    by_cases hi : i < env.length
    · rw [if_pos hi] at e
      refine ⟨v, _, rfl, ?_⟩
      have s1 : Sim g.K g.pn I H (σ.set i (some v)) (env.set i (some (.fr d))) (upF F i []) := s.put hi (Same.refl _) s.sub (fun _ _ _ _ => rfl) (fun j _ a ha => s.djI j a ha) (fun _ h => nomatch h) (fun _ _ _ _ h => nomatch h) (fun o e => by cases e; exact ⟨v, rfl, rfl, r⟩) (fun e => by cases e) (fun h => absurd h (hp i (by simp [T1.slots])))
      refine w_key ts (fun j hj => hp j (by rw [List.flatMap_cons]; exact List.mem_append_right _ hj)) s1 t e fun σ' F' ho s' hF => k σ' F' ⟨by rw [ho.1, List.length_set], fun j hj => ?_⟩ s' fun a ha => ?_
      · rw [List.flatMap_cons] at hj
        have h1 : j ≠ i := fun z => hj (List.mem_append_left _ (by simp [T1.slots, z]))
        rw [ho.2 j fun z => hj (List.mem_append_right _ z), List.getElem?_set_ne (Ne.symm h1)]
      · rcases ow_up (hF a ha) with z | z
        · exact z
        · cases z
    · rw [if_neg hi] at e; cases e
  | .t is :: ts, _, _, σ, env, env', F, I, H, Q, hp, s, .cons (v := v) (d := d) r t, e, k => by
    cases d with
    | tuple xs =>
      simp only [setW] at e
      cases q : setAll is xs env with
      | none => rw [q] at e; cases e
      | some e1 =>
        rw [q] at e
        cases r with
        | tup h1 h2 =>
          refine ⟨_, _, rfl, _, _, rfl, same_t s.sub h1, by rw [h2.length]; exact setAll_len _ _ _ _ q, names_key is (fun j hj => hp j (by rw [List.flatMap_cons]; exact List.mem_append_left _ hj)) s h2 q fun σ1 F1 ho1 s1 hF1 => ?_⟩
          refine w_key ts (fun j hj => hp j (by rw [List.flatMap_cons]; exact List.mem_append_right _ hj)) s1 t e fun σ' F' ho s' hF => k σ' F' ⟨by rw [ho.1, ho1.1], fun j hj => ?_⟩ s' fun a ha => hF1 a (hF a ha)
          rw [List.flatMap_cons] at hj
          rw [ho.2 j fun z => hj (List.mem_append_right _ z), ho1.2 j fun z => hj (List.mem_append_left _ z)]
    | _ => simp [setW] at e
theorem tg_key {t : Tg} {v : V} {d : PyData} {env' : Env} {Q : St → Hp → Prop} (hp : ∀ i ∈ t.slots, i ∉ g.pn.1) (s : Sim g.K g.pn I H σ env F) (r : Rp g.K I v d) (e : asT t d env = .ok env')
    (k : ∀ σ' F', Only' t.slots σ σ' → Sim g.K g.pn I H σ' env' F' → (∀ a, Ow F' a → Ow F a) → Q σ' H) : rdT g.K t v σ H Q := by
  have ofs : ∀ {x : Option Env}, ofO x = .ok env' → x = some env' := fun {x} h => by cases x <;> cases h; rfl
  cases t with
  | nm i =>
    have := names_key [i] hp s (.cons r .nil) (ofs e) k
    obtain ⟨v', r', e1, q⟩ := this
    cases e1
    exact q.2
  | tu is =>
    cases r with
    | tup h1 h2 =>
      have e := ofs e
      have hl : ∀ (is : List Nat) (ds : List PyData) (a b : Env), setAll is ds a = some b → ds.length = is.length := by
        intro is
        induction is with
        | nil => intro ds a b h; cases ds <;> simp [setAll] at h ⊢
        | cons i is ih =>
          intro ds a b h
          cases ds with
          | nil => simp [setAll] at h
          | cons d ds =>
            unfold setAll at h
            split at h
            · simp [ih _ _ _ h]
            · cases h
      exact ⟨_, _, rfl, same_t s.sub h1, by rw [h2.length]; exact hl _ _ _ _ e, names_key is hp s h2 e k⟩
    | _ => cases e
  | tl is =>
    cases r with
    | lst h1 h2 =>
      have e := ofs e
      have hl : ∀ (is : List Nat) (ds : List PyData) (a b : Env), setAll is ds a = some b → ds.length = is.length := by
        intro is
        induction is with
        | nil => intro ds a b h; cases ds <;> simp [setAll] at h ⊢
        | cons i is ih =>
          intro ds a b h
          cases ds with
          | nil => simp [setAll] at h
          | cons d ds =>
            unfold setAll at h
            split at h
            · simp [ih _ _ _ h]
            · cases h
      exact ⟨_, _, rfl, (h1.mono s.sub).sq, by rw [h2.length]; exact hl _ _ _ _ e, names_key is hp s h2 e k⟩
    | _ => cases e
  | tw ts =>
    cases r with
    | tup h1 h2 =>
      have e := ofs e
      exact ⟨_, _, rfl, same_t s.sub h1, by rw [h2.length]; exact setW_len _ _ _ _ e, w_key ts hp s h2 e k⟩
    | _ => cases e
/-- a, b = e -/
def fAsT (t : Tg) (f : EF) : SF := fun env => f env >>= fun r => asT t r.1.data r.2 >>= fun e => .ok (.nx, e)
def ItOk (K : PySem.W.Frag) (I0 : Hp) (J : It) (ds : List PyData) : Prop := ∀ (I H : Hp) (i : Nat), Same I0 I → Same I H →
  (∀ d, ds[i]? = some d → J.go i H ∧ ∀ x H', J.yld i H x H' → ∃ I', Grow K I H I' H' (.fr d) x []) ∧ (ds.length = i → J.stop i H)
abbrev IF := Env → Res (List PyData × Env)
def tI (g : G) (f : IF) : TI := fun σ H R => ∃ I env F, Sim g.K g.pn I H σ env F ∧ (f env).post (fun r => ∀ J H' I' F', Sim g.K g.pn I' H' σ r.2 F' → Step I H (Ow F) I' H' (Ow F') → ItOk g.K I' J r.1 → R J H') (g.err I H F)
def DI (g : G) (X : Cx) (tg iter : Expr) (f : IF) : Prop := PI X tg iter (tI g f)
def fFor (t : Tg) (body : SF) : List PyData → SF
  | [], env => .ok (.nx, env)
  | d :: ds, env => asT t d env >>= fun e => body e >>= fun r => match r.1 with
    | .nx => fFor t body ds r.2
    | .ct => fFor t body ds r.2
    | .bk => .ok (.nx, r.2)
    | .rt o => .ok (.rt o, r.2)
def fForS (f : IF) (t : Tg) (body : SF) : SF := fun env => f env >>= fun r => fFor t body r.1 r.2
theorem asT_er {t : Tg} {d : PyData} {x : Exn} : asT t d env ≠ .er x := by
  unfold asT ofO
  split <;> (try split) <;> exact fun h => by cases h
theorem for_key {J : It} {ds : List PyData} {t : Tg} {body : SF} (hp : ∀ i ∈ t.slots, i ∉ g.pn.1) (s : Sim g.K g.pn I H σ env F) (ok : ItOk g.K I J ds) (p : (fFor t body ds env).post (FlP g D I H F) (g.err I H F)) :
    ∃ W : Nat → Nat → St → Hp → Prop, (∃ m, W 0 m σ H) ∧ ∀ i m σ H, W i m σ H →
      (J.stop i H ∧ D.nx σ H) ∨ (J.go i H ∧ ∃ N : St → Hp → Prop, (∀ σ' H', N σ' H' → ∃ m', m' < m ∧ W (i + 1) m' σ' H') ∧ ∀ x H', J.yld i H x H' → rdT g.K t x σ H' fun σ2 H2 => tS g body { D with nx := N, ct := N, bk := D.nx } σ2 H2) := by
  let L : List PyData → St → Hp → Prop := fun ds' σ H => ∃ I1 env F, Sim g.K g.pn I1 H σ env F ∧ Same I I1 ∧ (fFor t body ds' env).post (FlP g D I1 H F) (g.err I1 H F)
  refine ⟨fun i m σ H => m = ds.length - i ∧ i ≤ ds.length ∧ L (ds.drop i) σ H, ⟨ds.length, by simp, Nat.zero_le _, I, env, F, s, Same.refl _, p⟩, ?_⟩
  rintro i m σ H ⟨rfl, hi, I1, env, F, s, sm, p⟩
  by_cases hlt : i < ds.length
  · have hd : ds[i]? = some ds[i] := List.getElem?_eq_getElem hlt
    have dr : ds.drop i = ds[i] :: ds.drop (i + 1) := List.drop_eq_getElem_cons hlt
    rw [dr] at p
    have ok1 := (ok I1 H i sm s.sub).1 _ hd
    refine .inr ⟨ok1.1, L (ds.drop (i + 1)), fun σ' H' n => ⟨ds.length - (i + 1), by omega, rfl, hlt, n⟩, fun x H' y => ?_⟩
    obtain ⟨I2, gr⟩ := ok1.2 x H' y
    have p2 := post_bind.mp p
    cases q2 : asT t ds[i] env with
    | no => rw [q2] at p2; exact p2.elim
    | er x => exact absurd q2 asT_er
    | ok e' =>
      rw [q2] at p2
      obtain ⟨I3, F3, rp, s3, st3⟩ := (gr.aft s).frz
      refine tg_key hp s3 rp q2 fun σ' F'' _ s'' hF => ?_
      have st4 := st3.less hF
      refine ⟨I3, e', F'', s'', post_mono (post_bind.mp p2) (fun r q => ?_) fun x z => err_step st4 z⟩
      obtain ⟨fl, e⟩ := r
      have nxt : (fFor t body (ds.drop (i + 1)) e).post (FlP g D I1 H F) (g.err I1 H F) → ∀ σ5 H5, AftS g.K g.pn I3 H' F'' σ5 e H5 → L (ds.drop (i + 1)) σ5 H5 := fun q σ5 H5 af => by
        obtain ⟨I5, F5, s5, st5⟩ := af
        have st6 := st4.trans st5
        exact ⟨I5, e, F5, s5, sm.trans st6.i1, post_mono q (fun r z => FlP_step st6 z) fun x z => err_step st6 z⟩
      cases fl with
      | nx => exact fun σ5 H5 af => nxt q σ5 H5 af
      | ct => exact fun σ5 H5 af => nxt q σ5 H5 af
      | bk => exact fun σ5 H5 af => q σ5 H5 (AftS.trans st4 af)
      | rt o => exact fun v σ5 H5 af => q v σ5 H5 (Aft.trans st4 af)
  · have e : i = ds.length := by omega
    subst e
    rw [List.drop_length] at p
    exact .inl ⟨(ok I1 H _ sm s.sub).2 rfl, p σ H ⟨I1, F, s, Step.refl⟩⟩
theorem ds_for {f : IF} {t : Tg} {body : SF} {tg iter : Expr} {sb : List Stmt} (hp : ∀ i ∈ t.slots, i ∉ g.pn.1) (hps : PassesOwn (model X.prog X.w) X.A X.env X.xe) (hc : X.calm = true) (hi : DI g X tg iter f) (hg : PG X tg (rdT g.K t)) (hb : DSs g X sb body)
    (hs : ∀ x, foldedSetIterable iter X.env x = pure x := by intro _; rfl) : DS g X (.For tg iter sb [] pos) (fForS f t body) := PS.imp (ps_for hps hc hi hg hb hs) fun D σ H h => by
  obtain ⟨I, env, F, s, p⟩ := h
  refine ⟨I, env, F, s, post_mono (post_bind.mp p) (fun r q J H' I' F' s' st ok => ?_) fun _ z => z⟩
  exact for_key hp s' ok (post_mono q (fun r z => FlP_step st z) fun x z => err_step st z)
end
end Dy
namespace Dy
open PySem PySem.Spec PyProof.Rows L2
def wipeE (env : Env) : List Nat → Env
  | [] => env
  | v :: vs => (wipeE env vs).set v none
theorem wipe_get {α : Type} (w : List (Option α) → List Nat → List (Option α)) (h0 : ∀ l, w l [] = l) (h1 : ∀ l v vs, w l (v :: vs) = (w l vs).set v none) (l : List (Option α)) : ∀ (vs : List Nat) (i : Nat), (w l vs)[i]? = if i ∈ vs then (if i < l.length then some none else none) else l[i]? := by
  have hl : ∀ vs, (w l vs).length = l.length := by
    intro vs
    induction vs with
    | nil => rw [h0]
    | cons v vs ih => rw [h1, List.length_set, ih]
  intro vs
  induction vs with
  | nil => intro i; rw [h0, if_neg (by simp)]
  | cons v vs ih =>
    intro i
    rw [h1]
    by_cases hv : v = i
    · subst hv
      rw [if_pos (by simp)]
      by_cases hi : v < l.length
      · rw [if_pos hi, List.getElem?_set_self (by rw [hl]; exact hi)]
      · rw [if_neg hi, List.getElem?_eq_none (by rw [List.length_set, hl]; omega)]
    · rw [List.getElem?_set_ne hv, ih i]
      by_cases hi : i ∈ vs
      · rw [if_pos hi, if_pos (List.mem_cons_of_mem _ hi)]
      · rw [if_neg hi, if_neg (by simp only [List.mem_cons, not_or]; exact ⟨fun e => hv e.symm, hi⟩)]
theorem wipe_at (σ : St) (vs : List Nat) (i : Nat) : (wipe σ vs)[i]? = if i ∈ vs then (if i < σ.length then some none else none) else σ[i]? := wipe_get wipe (fun _ => rfl) (fun _ _ _ => rfl) σ vs i
theorem wipeE_at (e : Env) (vs : List Nat) (i : Nat) : (wipeE e vs)[i]? = if i ∈ vs then (if i < e.length then some none else none) else e[i]? := wipe_get wipeE (fun _ => rfl) (fun _ _ _ => rfl) e vs i
theorem wipeE_length (e : Env) : ∀ vs : List Nat, (wipeE e vs).length = e.length
  | [] => rfl
  | v :: vs => by unfold wipeE; rw [List.length_set, wipeE_length e vs]
theorem wipe_only {vs is : List Nat} {σ σ2 : St} (hs : ∀ i ∈ is, i ∈ vs) (h : Only' is (wipe σ vs) σ2) : wipe σ2 vs = wipe σ vs := by
  have hl : σ2.length = σ.length := by rw [h.1, wipe_length]
  refine List.ext_getElem? fun i => ?_
  rw [wipe_at, wipe_at, hl]
  by_cases hi : i ∈ vs
  · rw [if_pos hi, if_pos hi]
  · rw [if_neg hi, if_neg hi, h.2 i fun z => hi (hs i z), wipe_at, if_neg hi]
def clF (F : Nat → List Addr) (vs : List Nat) : Nat → List Addr := fun i => if i ∈ vs then [] else F i
theorem clF_ow {F : Nat → List Addr} {vs : List Nat} {a : Addr} (h : Ow (clF F vs) a) : Ow F a := by
  obtain ⟨i, hi⟩ := h
  unfold clF at hi
  split at hi
  · cases hi
  · exact ⟨i, hi⟩
section
variable {K : PySem.W.Frag} {π : Pn} {I H I' H' : Hp} {σ : St} {env e : Env} {F F' : Nat → List Addr}
theorem Sim.wipe (s : Sim K π I H σ env F) {vs : List Nat} (hp : ∀ i ∈ vs, i ∉ π.1) : Sim K π I H (L2.wipe σ vs) (wipeE env vs) (clF F vs) := by
  refine ⟨by rw [wipeE_length, wipe_length, s.len], fun i o q => ?_, fun i q => ?_, fun i j a h1 h2 => ?_, fun i a h => ?_, s.sub, fun i hi => ?_, s.tab⟩
  · rw [wipeE_at] at q
    by_cases h : i ∈ vs
    · rw [if_pos h] at q; split at q <;> cases q
    · rw [if_neg h] at q
      obtain ⟨v, e1, r⟩ := s.rep i o q
      exact ⟨v, by rw [wipe_at, if_neg h]; exact e1, by unfold clF; rw [if_neg h]; exact r⟩
  · unfold clF
    by_cases h : i ∈ vs
    · rw [if_pos h]
    · rw [if_neg h]; exact s.out i fun o z => q o (by rw [wipeE_at, if_neg h]; exact z)
  · unfold clF at h1 h2
    split at h1
    · cases h1
    · split at h2
      · cases h2
      · exact s.dis i j a h1 h2
  · unfold clF at h
    split at h
    · cases h
    · exact s.djI i a h
  · rw [wipe_at, if_neg fun z => hp i z hi]; exact s.pin i hi
/-- behind the block: its own slots as they were, where they held data -/
def frO : Option (Option O) → Option O
  | some (some (.fr d)) => some (.fr d)
  | _ => none
def unw (env e : Env) : List Nat → Env
  | [] => e
  | v :: vs => (unw env e vs).set v (frO env[v]?)
theorem unw_length (env e : Env) : ∀ vs : List Nat, (unw env e vs).length = e.length
  | [] => rfl
  | v :: vs => by unfold unw; rw [List.length_set, unw_length env e vs]
theorem unw_at (env e : Env) : ∀ (vs : List Nat) (i : Nat), (unw env e vs)[i]? = if i ∈ vs then (if i < e.length then some (frO env[i]?) else none) else e[i]?
  | [], i => by rw [if_neg (by simp)]; rfl
  | v :: vs, i => by
    unfold unw
    by_cases hv : v = i
    · subst hv
      rw [if_pos (by simp)]
      by_cases hi : v < e.length
      · rw [if_pos hi, List.getElem?_set_self (by rw [unw_length]; exact hi)]
      · rw [if_neg hi, List.getElem?_eq_none (by rw [List.length_set, unw_length]; omega)]
    · rw [List.getElem?_set_ne hv, unw_at env e vs i]
      by_cases hi : i ∈ vs
      · rw [if_pos hi, if_pos (List.mem_cons_of_mem _ hi)]
      · rw [if_neg hi, if_neg (by simp only [List.mem_cons, not_or]; exact ⟨fun e => hv e.symm, hi⟩)]
theorem Sim.unwipe (s0 : Sim K π I H σ env F) (sm : Same I I') {vs : List Nat} (hp : ∀ i ∈ vs, i ∉ π.1) (s : Sim K π I' H' (L2.wipe σ vs) e F') : Sim K π I' H' σ (unw env e vs) (clF F' vs) := by
  have hl : e.length = σ.length := by rw [s.len, wipe_length]
  refine ⟨by rw [unw_length, hl], fun i o q => ?_, fun i q => ?_, fun i j a h1 h2 => ?_, fun i a h => ?_, s.sub, fun i hi => s0.pin i hi, s.tab⟩
  · rw [unw_at] at q
    by_cases h : i ∈ vs
    · rw [if_pos h] at q
      by_cases hi : i < e.length
      · rw [if_pos hi] at q
        have q := Option.some.inj q
        unfold frO at q
        cases q3 : env[i]? with
        | none => rw [q3] at q; cases q
        | some y =>
          cases y with
          | none => rw [q3] at q; cases q
          | some o' =>
            rw [q3] at q
            cases o' with
            | fr d =>
              cases q
              obtain ⟨v, e1, r⟩ := s0.rep i _ q3
              exact ⟨v, e1, by unfold clF; rw [if_pos h]; exact ⟨rfl, r.2.mono sm⟩⟩
            | ol _ => cases q
            | oo _ => cases q
            | od _ => cases q
      · rw [if_neg hi] at q; cases q
    · rw [if_neg h] at q
      obtain ⟨v, e1, r⟩ := s.rep i o q
      rw [wipe_at, if_neg h] at e1
      exact ⟨v, e1, by unfold clF; rw [if_neg h]; exact r⟩
  · unfold clF
    by_cases h : i ∈ vs
    · rw [if_pos h]
    · rw [if_neg h]; exact s.out i fun o z => q o (by rw [unw_at, if_neg h]; exact z)
  · unfold clF at h1 h2
    split at h1
    · cases h1
    · split at h2
      · cases h2
      · exact s.dis i j a h1 h2
  · unfold clF at h
    split at h
    · cases h
    · exact s.djI i a h
end
theorem Step.one {I H I1 H1 : Hp} {S S1 : Addr → Prop} (a : Step I H S I1 H1 S1) {D : Addr} {o : HO} (h : H D = some o) (n : ¬ S D) (i : I D = none) (nt : NT o := by exact NT.lst) : H1 D = some o ∧ ¬ S1 D ∧ I1 D = none := by
  refine ⟨a.fr D o h n nt, fun z => ?_, ?_⟩
  · rcases a.s' D z with y | y
    · exact n y
    · rw [h] at y; cases y
  · cases q : I1 D with
    | none => rfl
    | some u =>
      rcases a.i' D u q with y | y | y
      · rw [i] at y; cases y
      · exact (n y).elim
      · rw [h] at y; cases y
def nE {α : Type} : Res α → Res α
  | .er _ => .no
  | x => x
theorem nE_post {α : Type} {r : Res α} {P : α → Prop} {E E' : Exn → Prop} (h : (nE r).post P E) : r.post P E' := by
  cases r with
  | ok a => exact h
  | er x => exact h.elim
  | no => exact h
def lcL (vs : List Nat) (t : Tg) (test : TF) (elt : EF) : List PyData → Env → List PyData → Res (List PyData × Env)
  | [], e, acc => .ok (acc, e)
  | d :: ds, e, acc => asT t d e >>= fun e1 => nE (test e1) >>= fun b => if b.1 = true then nE (elt b.2) >>= fun r => if acc.length < 100000 then lcL vs t test elt ds (wipeE r.2 vs) (acc ++ [r.1.data]) else .no
    else lcL vs t test elt ds (wipeE b.2 vs) acc
def fLc (fi : IF) (vs : List Nat) (t : Tg) (test : TF) (elt : EF) : EF := fun env => fi env >>= fun r => lcL vs t test elt r.1 (wipeE r.2 vs) [] >>= fun q => .ok (.ol q.1, unw r.2 q.2 vs)
def fYes : TF := fun env => .ok (true, env)
def G.nox (g : G) : G := { g with E := fun _ _ _ => False }
section
variable {g : G} {X : Cx} {a b c e : Expr} {es : List Expr} {pos : Pos} {σ : St} {H I : Hp} {env : Env} {F : Nat → List Addr}
theorem lcL_er {vs : List Nat} {t : Tg} {test : TF} {elt : EF} : ∀ {ds : List PyData} {e : Env} {acc : List PyData} {x : Exn}, lcL vs t test elt ds e acc ≠ .er x
  | [], _, _, _ => fun h => by cases h
  | d :: ds, e, acc, x => fun h => by
    unfold lcL at h
    cases q : asT t d e with
    | no => rw [q] at h; cases h
    | er y => exact asT_er q
    | ok e1 =>
      rw [q, bind_ok] at h
      cases q2 : test e1 with
      | no => rw [q2] at h; cases h
      | er y => rw [q2] at h; cases h
      | ok b =>
        rw [q2] at h
        have h : (if b.1 = true then nE (elt b.2) >>= fun r => if acc.length < 100000 then lcL vs t test elt ds (wipeE r.2 vs) (acc ++ [r.1.data]) else .no else lcL vs t test elt ds (wipeE b.2 vs) acc) = .er x := h
        by_cases hb : b.1 = true
        · rw [if_pos hb] at h
          cases q3 : elt b.2 with
          | no => rw [q3] at h; cases h
          | er y => rw [q3] at h; cases h
          | ok r =>
            rw [q3] at h
            have h : (if acc.length < 100000 then lcL vs t test elt ds (wipeE r.2 vs) (acc ++ [r.1.data]) else .no) = .er x := h
            split at h
            · exact lcL_er h
            · cases h
        · rw [if_neg hb] at h; exact lcL_er h
theorem lc_key {fi : IF} {vs : List Nat} {t : Tg} {test : TF} {elt : EF} {Q : VK} (hp : ∀ i ∈ vs, i ∉ g.pn.1) (hv : ∀ i ∈ t.slots, i ∈ vs) (h : tD g (fLc fi vs t test elt) σ H Q) : tLc (tI g fi) (rdT g.K t) (tT g.nox test) (tD g.nox elt) vs σ H Q := by
  obtain ⟨I, env, F, s, p⟩ := h
  refine ⟨I, env, F, s, post_mono (post_bind.mp p) (fun r q J H1 I1 F1 s1 st1 ok D nD => ?_) fun _ z => z⟩
  have nI : I1 D = none := none_of_same s1.sub nD
  have nF : ∀ {F2 : Nat → List Addr}, F2 = F1 → ¬ Ow F2 D := fun e z => by subst e; obtain ⟨o, ho⟩ := s1.domO z; rw [nD] at ho; cases ho
  let PP : List PyData × Env → Prop := fun q => ∀ v H', Aft g.K g.pn I H F σ (unw r.2 q.2 vs) (.ol q.1) v H' → Q v H'
  let L : List PyData → Hp → Prop := fun ds H2 => ∃ I2 e F2 acc us, Sim g.K g.pn I2 H2 (wipe σ vs) e F2 ∧ H2 D = some (.lst us) ∧ RpAll g.K I2 us acc ∧ I2 D = none ∧ ¬ Ow F2 D ∧ Step I1 H1 (Ow F1) I2 H2 (fun a => Ow F2 a ∨ a = D) ∧
    (lcL vs t test elt ds e acc).post PP (fun _ => False)
  have q0 : (lcL vs t test elt r.1 (wipeE r.2 vs) []).post PP (fun _ => False) := by
    have q := post_bind.mp q
    cases z : lcL vs t test elt r.1 (wipeE r.2 vs) [] with
    | no => rw [z] at q; exact q
    | er x => exact absurd z lcL_er
    | ok y => rw [z] at q; exact q
  refine ⟨fun i m H2 => m = r.1.length - i ∧ i ≤ r.1.length ∧ L (r.1.drop i) H2, ⟨r.1.length, by simp, Nat.zero_le _, I1, wipeE r.2 vs, clF F1 vs, [], [], ?_, upd_same, .nil, nI, fun z => nF rfl (clF_ow z), ?_, q0⟩, ?_⟩
  · refine (s1.wipe hp).heap (Same.refl _) (s1.sub.trans (same_new nD)) (fun a ha => ?_) (fun a ⟨i, hi⟩ => (s1.wipe hp).djI i a hi) (kt_new nD)
    rw [upd_ne]; intro z; subst z; exact nF rfl (clF_ow ha)
  · refine Step.of4 (Same.refl _) (fun a o h _ => same_new nD a o h) (fun a h => ?_) (fun a o h => .inl h)
    rcases h with h | h
    · exact .inl (clF_ow h)
    · subst h; exact .inr nD
  · rintro i m H2 ⟨rfl, hi, I2, e, F2, acc, us, s2, hD, ra, iD, oD, st2, p2⟩
    have sm : Same I1 I2 := st2.i1
    by_cases hlt : i < r.1.length
    · have hd : r.1[i]? = some r.1[i] := List.getElem?_eq_getElem hlt
      have dr : r.1.drop i = r.1[i] :: r.1.drop (i + 1) := List.drop_eq_getElem_cons hlt
      rw [dr] at p2
      have ok1 := (ok I2 H2 i sm s2.sub).1 _ hd
      refine .inr ⟨ok1.1, L (r.1.drop (i + 1)), fun H' n => ⟨r.1.length - (i + 1), by omega, rfl, hlt, n⟩, fun x H3 y => ?_⟩
      obtain ⟨I3, gr⟩ := ok1.2 x H3 y
      obtain ⟨I4, F4, rp, s4, st4⟩ := (gr.aft s2).frz
      have p3 := post_bind.mp p2
      cases q2 : asT t r.1[i] e with
      | no => rw [q2] at p3; exact p3.elim
      | er x => exact absurd q2 asT_er
      | ok e1 =>
        rw [q2] at p3
        refine tg_key (fun j hj => hp j (hv j hj)) s4 rp q2 fun σ2 F5 ho s5 hF => ?_
        have wσ := wipe_only hv ho
        refine ⟨wσ, ?_⟩
        have st5 := st4.less hF
        obtain ⟨d1, d2, d3⟩ := st5.one hD oD iD
        have TD : ∀ x, x = D → ∃ o, H2 x = some o := fun x e => by subst e; exact ⟨_, hD⟩
        have TN : ∀ x, x = D → ¬ Ow F2 x := fun x e => by subst e; exact oD
        refine ⟨I4, e1, F5, s5, post_mono (nE_post (post_bind.mp p3)) (fun b pb H6 af => ?_) fun _ z => z⟩
        obtain ⟨I6, F6, s6, st6⟩ := af
        have st56 := st5.trans st6
        obtain ⟨b1, b2, b3⟩ := st56.one hD oD iD
        by_cases hb : b.1 = true
        · rw [if_pos hb] at pb ⊢
          refine ⟨I6, b.2, F6, s6, post_mono (nE_post (post_bind.mp pb)) (fun r7 p7 v7 H7 af7 => ?_) fun _ z => z⟩
          obtain ⟨I8, F8, rp8, s8, st8⟩ := af7.frz
          have st58 := st56.trans st8
          obtain ⟨c1, c2, c3⟩ := st58.one hD oD iD
          by_cases hz : acc.length < 100000
          · rw [if_pos hz] at p7
            refine ⟨us, c1, by rw [ra.length]; exact Nat.lt_of_lt_of_le hz (by decide), I8, wipeE r7.2 vs, clF F8 vs, acc ++ [r7.1.data], us ++ [v7], ?_, upd_same, (ra.mono st58.i1).app (.cons rp8 .nil), c3, fun z => c2 (clF_ow z), ?_, p7⟩
            · rw [← wσ]
              refine (s8.wipe hp).heap (Same.refl _) (fun a o h => ?_) (fun a ha => ?_) (fun a ⟨j, hj⟩ => (s8.wipe hp).djI j a hj) (kt_upd c1 NT.lst)
              · rw [upd_ne (fun z => by subst z; rw [c3] at h; cases h)]; exact s8.sub a o h
              · rw [upd_ne]; intro z; subst z; exact c2 (clF_ow ha)
            · refine st2.trans ((st58.aside (fun x => x = D) TD TN).trans (Step.of4 (Same.refl _) (fun a o h n => ?_) (fun a h => ?_) (fun a o h => .inl h)))
              · rw [upd_ne fun z => n (.inr z)]; exact h
              · rcases h with h | h
                · exact .inl (.inl (clF_ow h))
                · exact .inl (.inr h)
          · rw [if_neg hz] at p7; exact p7.elim
        · rw [if_neg hb] at pb ⊢
          refine ⟨I6, wipeE b.2 vs, clF F6 vs, acc, us, ?_, b1, ra.mono st56.i1, b3, fun z => b2 (clF_ow z), ?_, pb⟩
          · rw [← wσ]; exact s6.wipe hp
          · refine st2.trans ((st56.aside (fun x => x = D) TD TN).less fun a h => ?_)
            rcases h with h | h
            · exact .inl (clF_ow h)
            · exact .inr h
    · have e0 : i = r.1.length := by omega
      subst e0
      rw [List.drop_length] at p2
      refine .inl ⟨(ok I2 H2 _ sm s2.sub).2 rfl, p2 _ _ ⟨I2, clF F2 vs, [D], ⟨D, us, rfl, rfl, hD, ra⟩, s1.unwipe sm hp s2, fun a ha => ?_, fun a ha hr => ?_, ?_⟩⟩
      · simp at ha; subst ha; exact iD
      · simp at hr; subst hr; exact oD (clF_ow ha)
      · refine st1.trans (st2.less fun a h => ?_)
        rcases h with h | h
        · exact .inl (clF_ow h)
        · simp at h; exact .inr h
theorem pts_yes : PTs X [] (tT g fYes) := ⟨fun pins s σ H Q I h => pts_nil.run pins s σ H Q I (by
  obtain ⟨I, env, F, s, p⟩ := h
  exact p H ⟨I, F, s, Step.refl⟩)⟩
theorem de_lc {elt tg iter : Expr} {ifs : List Expr} {scope : Scope} {own : List (Str × Nat)} {fi : IF} {t : Tg} {test : TF} {fe : EF} (hp : ∀ i ∈ own.map (·.2), i ∉ g.pn.1) (hv : ∀ i ∈ t.slots, i ∈ own.map (·.2)) (hc : X.calm = true) (hN : X.N.Nodup) (hi : DI g X tg iter fi) (ok : BlkOk X.N X.env.scope scope own)
    (hg : ∀ (s : Shared) (H : Hp) (C : Addr) (cl : List (Str × Addr)) (fp : List Addr), PG (X.blk s H scope (compEnvC scope cl C X.env) fp) tg (rdT g.K t)) (ht : ∀ (s : Shared) (H : Hp) (C : Addr) (cl : List (Str × Addr)) (fp : List Addr), PTs (X.blk s H scope (compEnvC scope cl C X.env) fp) ifs (tT g.nox test))
    (he : ∀ (s : Shared) (H : Hp) (C : Addr) (cl : List (Str × Addr)) (fp : List Addr), DE g.nox (X.blk s H scope (compEnvC scope cl C X.env) fp) elt fe) (hs : ∀ x, foldedSetIterable iter X.env x = pure x := by intro _; rfl) :
    DE g X (.ListComp elt [⟨tg, iter, ifs, 0⟩] scope pos) (fLc fi (own.map (·.2)) t test fe) := PE.imp (pe_lc hc hN hi ok hg ht he hs) fun σ H Q h => lc_key hp hv h
/-- y = [..] -/
theorem ds_setLc {i : Nat} {y : Str} {py : Pos} {elt tg iter : Expr} {ifs : List Expr} {scope : Scope} {own : List (Str × Nat)} {spos : Pos} {fi : IF} {t : Tg} {test : TF} {fe : EF} (hpi : i ∉ g.pn.1) (hp : ∀ i ∈ own.map (·.2), i ∉ g.pn.1) (hv : ∀ i ∈ t.slots, i ∈ own.map (·.2)) (hc : X.calm = true) (hN : X.N.Nodup) (hy : X.N[i]? = some y) (hyl : X.env.scope.names.lookup y = some .local)
    (hsw : swapsWith (.ListComp elt [⟨tg, iter, ifs, 0⟩] scope pos) (some (.Name y py)) spos.line X.env = pure true) (hi : DI g X tg iter fi) (ok : BlkOk X.N X.env.scope scope own)
    (hg : ∀ (s : Shared) (H : Hp) (C : Addr) (cl : List (Str × Addr)) (fp : List Addr), PG (X.blk s H scope (compEnvC scope cl C X.env) fp) tg (rdT g.K t)) (ht : ∀ (s : Shared) (H : Hp) (C : Addr) (cl : List (Str × Addr)) (fp : List Addr), PTs (X.blk s H scope (compEnvC scope cl C X.env) fp) ifs (tT g.nox test))
    (he : ∀ (s : Shared) (H : Hp) (C : Addr) (cl : List (Str × Addr)) (fp : List Addr), DE g.nox (X.blk s H scope (compEnvC scope cl C X.env) fp) elt fe) (hs : ∀ x, foldedSetIterable iter X.env x = pure x := by intro _; rfl) :
    DS g X (.Assign [.Name y py] (.ListComp elt [⟨tg, iter, ifs, 0⟩] scope pos) spos) (fSet i (fLc fi (own.map (·.2)) t test fe)) := PS.imp (ps_setLc hc hN hy hyl hsw hi ok hg ht he hs) fun D σ H h => by
  have := set_key hpi h
  exact lc_key hp hv this
end
end Dy
namespace Dy
open PySem PySem.Spec PyProof.Rows L2
structure FnG (P : Program) (w : World) (K : PySem.W.Frag) (mg : Str → Option Value) (base : Heap) (k : Nat) (f : Addr) (fd : FuncData) (ps : List Str) (sp : Sp) : Prop where
  len : ∀ vs H Q E, sp vs H Q E → vs.length = ps.length
  run : ∀ (A : Around) (outer : List PySem.Env) (s : Shared) (H : Hp) (args : Args) (us : List Value) (vs : List V) (Q : VK) (E : XK), A.guards = some [] → Room k A → L2.Env0 P w K mg base A outer s H → BindsTo s fd args (ps.zip us) → Vals vs us →
    sp vs H Q E → codeAny (model P w) A (.call (.ref f) args) (CR (L2.CX P w) outer P w H s Q E) s
end Dy
namespace Dy
open PySem PySem.Spec PyProof.Rows L2
theorem FnG.mono {P : Program} {w : World} {K : PySem.W.Frag} {mg : Str → Option Value} {base : Heap} {j k : Nat} {f : Addr} {fd : FuncData} {ps : List Str} {sp : Sp} (F : FnG P w K mg base j f fd ps sp) (h : j ≤ k) : FnG P w K mg base k f fd ps sp :=
  ⟨F.len, fun A outer s H args us vs Q E hg hr => F.run A outer s H args us vs Q E hg (hr.mono h)⟩
theorem FnG.imp {P : Program} {w : World} {K : PySem.W.Frag} {mg : Str → Option Value} {base : Heap} {k : Nat} {f : Addr} {fd : FuncData} {ps : List Str} {sp sp' : Sp} (F : FnG P w K mg base k f fd ps sp) (h : ∀ vs H Q E, sp' vs H Q E → sp vs H Q E) : FnG P w K mg base k f fd ps sp' :=
  ⟨fun vs H Q E q => F.len vs H Q E (h _ _ _ _ q), fun A outer s H args us vs Q E hg hr he hb hv hs => F.run A outer s H args us vs Q E hg hr he hb hv (h _ _ _ _ hs)⟩
/-- by its body -/
theorem fnG_ofc {P : Program} {w : World} {K : PySem.W.Frag} {mg : Str → Option Value} {base : Heap} {k : Nat} {x qual : Str} {st : Stmt} {f : Addr} {fd : FuncData} {N ps : List Str} {sp : Sp} (F : Fun K x qual st f fd) (S : FnScope N ps (defScope st))
    (len : ∀ vs H Q E, sp vs H Q E → vs.length = ps.length)
    (body : ∀ (cdv : Value) (hcv : fd.code = cdv) (A : Around) (outer : List PySem.Env) (s : Shared) (H : Hp) (vs : List V) (Q : VK) (E : XK), (A.deeper (envOfC qual (defScope st) s.heap.objs.size f cdv)).guards = some [] → Room k (A.deeper (envOfC qual (defScope st) s.heap.objs.size f cdv)) → sp vs H Q E →
      ∃ t, PSs (cxOf (L2.CX P w) P w K mg base N qual (defScope st) f cdv A outer s H E) (defBody st) t ∧ t { nx := fun _ H' => Q .non H', rt := Q } (L2.start N vs) H) : FnG P w K mg base (k + 1) f fd ps sp := by
  obtain ⟨oc, od, kV, doc, pm, an, cdv, ct, osl, rfl, lk, hcd⟩ := F.ex
  refine ⟨len, ?_⟩
  intro A outer s H args us vs Q E hg hr e0 hb r hsp
  have KX : K.In s.heap := e0.mod.kin.keeps (fun b o e => (e0.bs b o e).1)
  have lim : s.heap.NoLimit := e0.mod.nolimit.keeps (fun b o e => (e0.bs b o e).1)
  have hk : ∀ y ∈ ps.zip us, (defScope st).names.lookup y.1 = some .local ∨ ((defScope st).names.lookup y.1 = some .cell ∧ ((cellsFrom (s.heap.objs.size + 1) (defScope st).names []).lookup y.1).isSome = true) := by
    intro y hy
    rcases S.par y.1 (List.of_mem_zip hy).1 with q | q
    · exact Or.inl q
    · exact Or.inr ⟨q, PySem.W.cellsFrom_some _ _ _ (Or.inl q)⟩
  refine codeAny_call_function hr.depth (KX f _ lk) rfl S.co S.gen rfl (PySem.W.codeRec_of KX hcd) (hb _ _ _ _ ?_)
  refine wpAny_newFunctionEnv_cells S.kind hk (fun env he s1 hc => ?_)
  subst he
  refine ⟨lim.keeps hc.toInCall.keep, codeAny_func ?_⟩
  obtain ⟨t, ht, hq⟩ := body cdv rfl A outer s H vs Q E hg (hr.deeper _) hsp
  have J : Inv (cxOf (L2.CX P w) P w K mg base N qual (defScope st) f cdv A outer s H E) [] (L2.start N vs) H s1 := inv_start S hr.hd e0 (len vs H Q E hsp) r hc
  refine wpAny_mono (ht.run [] s1 (L2.start N vs) H _ J hq) (fun fl s' hs => ?_) (fun e s' hs => hs)
  cases fl with
  | ret u =>
    obtain ⟨v, σ', H', J', rv, q⟩ := hs
    exact ⟨v, H', J'.os, J'.bare, J'.base, J'.hok, rv, q⟩
  | next =>
    obtain ⟨σ', H', J', q⟩ := hs
    exact ⟨.non, H', J'.os, J'.bare, J'.base, J'.hok, rfl, q⟩
  | brk =>
    obtain ⟨_, _, _, q⟩ := hs
    exact q.elim
  | cont =>
    obtain ⟨_, _, _, q⟩ := hs
    exact q.elim
section
variable {X : Cx} {k : Nat} {f : Addr} {fd : FuncData} {ps : List Str} {sp : Sp} {E : XK} {x : Str} {p pos : Pos} {e : Expr} {es : List Expr} {t : TA}
theorem runG {pins : List (Addr × Obj)} {σ : St} {H : Hp} {s : Shared} {Q : VK} {us : List Value} {vs : List V} (F : FnG X.prog X.w X.K X.mg X.base k f fd ps sp) (hg : X.A.guards = some []) (hr : Room k X.A) (hb : Binds X.K fd ps []) (hx : Passes (L2.CX X.prog X.w) X E)
    (J : Inv X pins σ H s) (r : Vals vs us) (h : sp vs H Q E) : wpAny (model X.prog X.w) X.A (call (.ref f) us) (EP X pins σ Q) X.xe s := by
  have hl : (us ++ []).length = ps.length := by rw [List.append_nil, ← r.length]; exact F.len _ _ _ _ h
  have hb' := hb s us J.kIn hl
  rw [List.append_nil] at hb'
  refine wpAny_call (codeAny_mono (F.run X.A X.stack s H ⟨us, []⟩ us vs Q E hg hr J.env0 hb' r h) (fun y s' hq => ?_))
  cases y with
  | error u => exact hx pins σ H s u s' J hq
  | ok fl =>
    cases fl with
    | ret u => exact J.after hq
    | next => exact hq.elim
    | brk => exact hq.elim
    | cont => exact hq.elim
theorem peG (F : FnG X.prog X.w X.K X.mg X.base k f fd ps sp) (hgd : X.A.guards = some []) (hr : Room k X.A) (hg : Gl X x) (hm : X.mg x = some (.ref f)) (hk : PySem.W.keepIn X.K (.ref f) = true) (hb : Binds X.K fd ps []) (hx : Passes (L2.CX X.prog X.w) X E)
    (ha : PA X (e :: es) t) (hdb : (x == ("__debug__" : Str)) = false := by decide) (he : starEach (e :: es) X.env = (false, eval e X.env) :: starEach es X.env := by rfl) (hpl : (backTo pos (starEach es X.env)).any (·.1) = false := by rfl) :
    PE X (.Call (.Name x p) (e :: es) [] pos) (fun σ H Q => t σ H fun vs H1 => sp vs H1 Q E) := by
  refine ⟨fun pins s σ H Q J h => wpAny_Call_Name_kw (ld_glob J hg hm ?_ hdb)⟩
  refine PySem.W.callWith_K (h₀ := X.base) J.ok.mod.kin hk (thn (ha.run pos pins s σ H _ J h) ?_) he hpl
  rintro us s1 ⟨vs, H1, J1, r, q⟩
  exact ⟨J1.kIn, runG F hgd hr hb hx J1 r q⟩
end
abbrev Fn := List O → Res (O × List O)
def p0 (T : List (Addr × Str)) : Pn := ([], fun _ => .non, T)
def spD (K : PySem.W.Frag) (mg : Str → Option Value) (T : List (Addr × Str)) (m : Fn) : Sp := fun vs H Q E => ∃ I os F, Sim K (p0 T) I H (vs.map some) (os.map some) F ∧
  (m os).post (fun r => ∀ v H', Aft K (p0 T) I H F (vs.map some) (r.2.map some) r.1 v H' → Q v H') (fun x => ∀ H' c d, Err T I H (Ow F) H' → XR mg x c d H' → E c d H')
def isFr : O → Bool
  | .fr _ => true
  | _ => false
def okA (rp : List Nat) : Nat → List O → Bool
  | _, [] => true
  | k, o :: os => (rp.contains k || isFr o) && okA rp (k + 1) os
def bkA (rp : List Nat) (e : Env) : Nat → List O → Option (List O)
  | _, [] => some []
  | k, o :: os => match (if rp.contains k then (e[k]?).join else some o), bkA rp e (k + 1) os with
    | some o', some os' => some (o' :: os')
    | _, _ => none
def fnM (n N : Nat) (rp : List Nat) (body : SF) : Fn := fun os => if os.length = n ∧ okA rp 0 os = true then
    body (os.map some ++ List.replicate (N - n) none) >>= fun r => match bkA rp r.2 0 os with
      | none => .no
      | some os' => match r.1 with
        | .rt o => .ok (o, os')
        | .nx => .ok (.fr .none, os')
        | _ => .no
  else .no
theorem okA_at {rp : List Nat} : ∀ {os : List O} {k i : Nat} {o : O}, okA rp k os = true → os[i]? = some o → k + i ∉ rp → isFr o = true
  | [], _, _, _, _, h, _ => by simp at h
  | o :: os, k, 0, _, h, e, n => by
    simp at e; subst e
    unfold okA at h
    simp only [Bool.and_eq_true, Bool.or_eq_true, List.contains_iff_mem] at h
    rcases h.1 with z | z
    · exact absurd z n
    · exact z
  | o :: os, k, i + 1, _, h, e, n => by
    unfold okA at h
    simp only [Bool.and_eq_true] at h
    exact okA_at (k := k + 1) (i := i) h.2 (by simpa using e) (by rwa [Nat.add_right_comm k 1 i, Nat.add_assoc])
theorem bkA_at {rp : List Nat} {e : Env} : ∀ {os os' : List O} {k i : Nat} {o' : O}, bkA rp e k os = some os' → os'[i]? = some o' → (k + i ∈ rp ∧ e[k + i]? = some (some o')) ∨ (k + i ∉ rp ∧ os[i]? = some o')
  | [], _, _, _, _, h, e1 => by cases h; simp at e1
  | o :: os, os', k, i, o', h, e1 => by
    unfold bkA at h
    cases q1 : (if rp.contains k then (e[k]?).join else some o) with
    | none => rw [q1] at h; cases h
    | some y =>
      cases q2 : bkA rp e (k + 1) os with
      | none => rw [q1, q2] at h; cases h
      | some ys =>
        rw [q1, q2] at h; cases h
        cases i with
        | zero =>
          simp at e1; subst e1
          by_cases hk : k ∈ rp
          · left
            refine ⟨hk, ?_⟩
            rw [if_pos (by simpa using hk)] at q1
            rw [Nat.add_zero]
            cases z : e[k]? with
            | none => rw [z] at q1; cases q1
            | some w => rw [z] at q1; cases w <;> cases q1; rfl
          · right
            refine ⟨hk, ?_⟩
            rw [if_neg (by simpa using hk)] at q1
            simpa using q1
        | succ i =>
          rcases bkA_at q2 (i := i) (o' := o') (by simpa using e1) with ⟨a, b⟩ | ⟨a, b⟩
          · exact .inl ⟨by rwa [Nat.add_right_comm k 1 i, Nat.add_assoc] at a, by rwa [Nat.add_right_comm k 1 i, Nat.add_assoc] at b⟩
          · exact .inr ⟨by rwa [Nat.add_right_comm k 1 i, Nat.add_assoc] at a, by simpa using b⟩
theorem bkA_len {rp : List Nat} {e : Env} : ∀ {os os' : List O} {k : Nat}, bkA rp e k os = some os' → os'.length = os.length
  | [], _, _, h => by cases h; rfl
  | o :: os, os', k, h => by
    unfold bkA at h
    cases q1 : (if rp.contains k then (e[k]?).join else some o) with
    | none => rw [q1] at h; cases h
    | some y =>
      cases q2 : bkA rp e (k + 1) os with
      | none => rw [q1, q2] at h; cases h
      | some ys => rw [q1, q2] at h; cases h; simp [bkA_len q2]
theorem getm {α : Type} {l : List α} {i : Nat} {x : α} (h : (l.map some)[i]? = some (some x)) : l[i]? = some x := by
  rw [List.getElem?_map] at h
  cases q : l[i]? with
  | none => rw [q] at h; cases h
  | some y => rw [q] at h; cases h; rfl
theorem putm {α : Type} {l : List α} {i : Nat} {x : α} (h : l[i]? = some x) : (l.map some)[i]? = some (some x) := by rw [List.getElem?_map, h]; rfl
/-- back in the caller: the arguments behind the body -/
theorem back_args {T : List (Addr × Str)} {K : PySem.W.Frag} {I H : Hp} {F : Nat → List Addr} {vs : List V} {os os' : List O} {rp : List Nat} {π : Pn} {σ' : St} {e : Env} {o : O} {v : V} {H' : Hp} (s0 : Sim K (p0 T) I H (vs.map some) (os.map some) F) (hπ : π.1 = rp) (hT : π.2.2 = T) (hv : ∀ i ∈ rp, vs[i]? = some (π.2.1 i))
    (hok : okA rp 0 os = true) (hb : bkA rp e 0 os = some os') (af : Aft K π I H F σ' e o v H') : Aft K (p0 T) I H F (vs.map some) (os'.map some) o v H' := by
  obtain ⟨I', F', R, r, s, nR, dR, st⟩ := af
  have hl : os'.length = vs.length := by
    have h1 := bkA_len hb
    have h2 := s0.len
    simp only [List.length_map] at h2
    omega
  let F2 : Nat → List Addr := fun i => if i ∈ rp then F' i else []
  have ow : ∀ a, Ow F2 a → Ow F' a := fun a ⟨i, hi⟩ => by
    by_cases h : i ∈ rp
    · exact ⟨i, by simpa [F2, h] using hi⟩
    · simp [F2, h] at hi
  refine ⟨I', F2, R, r, ⟨by simp [hl], fun i y q => ?_, fun i q => ?_, fun i j a h1 h2 => ?_, fun i a h => ?_, s.sub, (fun i hi => by cases hi), (by rw [← hT] at *; exact s.tab)⟩, nR, fun a ha => dR a (ow a ha), st.less fun a h => h.elim (fun z => .inl (ow a z)) .inr⟩
  · have q := getm q
    rcases bkA_at hb q with ⟨h1, h2⟩ | ⟨h1, h2⟩
    · rw [Nat.zero_add] at h1 h2
      obtain ⟨u, e1, rr⟩ := s.rep i y h2
      have e2 := s.pin i (by rw [hπ]; exact h1)
      rw [e1] at e2; cases e2
      exact ⟨_, putm (hv i h1), by simpa [F2, h1] using rr⟩
    · rw [Nat.zero_add] at h1
      have fr := okA_at hok h2 (by rw [Nat.zero_add]; exact h1)
      cases y with
      | fr d =>
        obtain ⟨u, e1, rr⟩ := s0.rep i _ (putm h2)
        exact ⟨u, e1, by simp [F2, h1, RepO]; exact rr.2.mono st.i1⟩
      | ol _ => cases fr
      | oo _ => cases fr
      | od _ => cases fr
  · by_cases h : i ∈ rp
    · have h1 := hv i h
      have hi : i < os'.length := by
        rw [hl]
        cases Nat.lt_or_ge i vs.length with
        | inl z => exact z
        | inr z => rw [List.getElem?_eq_none z] at h1; cases h1
      exact absurd (putm (List.getElem?_eq_getElem hi)) (q _)
    · simp [F2, h]
  · by_cases h : i ∈ rp
    · by_cases h' : j ∈ rp
      · exact s.dis i j a (by simpa [F2, h] using h1) (by simpa [F2, h'] using h2)
      · simp [F2, h'] at h2
    · simp [F2, h] at h1
  · by_cases h' : i ∈ rp
    · exact s.djI i a (by simpa [F2, h'] using h)
    · simp [F2, h'] at h
theorem sim_start {T : List (Addr × Str)} {K : PySem.W.Frag} {I H : Hp} {F : Nat → List Addr} {vs : List V} {os : List O} {N : List Str} {rp : List Nat} {n : Nat} (s0 : Sim K (p0 T) I H (vs.map some) (os.map some) F) (hv : vs.length = n) (hrp : ∀ i ∈ rp, i < n) :
    Sim K (rp, (fun i => vs.getD i .non), T) I H (L2.start N vs) (os.map some ++ List.replicate (N.length - n) none) F := by
  have hl := s0.len
  simp only [List.length_map] at hl
  have low : ∀ i, i < vs.length → (L2.start N vs)[i]? = (vs.map some)[i]? := fun i h => by unfold L2.start; rw [List.getElem?_append_left (by simpa using h)]
  have env : ∀ i o, (os.map some ++ List.replicate (N.length - n) none)[i]? = some (some o) → (os.map some)[i]? = some (some o) := fun i o q => by
    by_cases h : i < os.length
    · rwa [List.getElem?_append_left (by simpa using h)] at q
    · rw [List.getElem?_append_right (by simpa using h), List.getElem?_replicate] at q
      split at q <;> cases q
  refine ⟨by unfold L2.start; simp [hl, hv], fun i o q => ?_, fun i q => s0.out i fun o z => q o ?_, s0.dis, s0.djI, s0.sub, fun i hi => ?_, s0.tab⟩
  · have q := env i o q
    obtain ⟨v, e1, r⟩ := s0.rep i o q
    refine ⟨v, ?_, r⟩
    rw [low i (by
      cases Nat.lt_or_ge i vs.length with
      | inl z => exact z
      | inr z => rw [List.getElem?_eq_none (by simpa using z)] at e1; cases e1)]
    exact e1
  · rw [List.getElem?_append_left (by
      cases Nat.lt_or_ge i os.length with
      | inl h => simpa using h
      | inr h => rw [List.getElem?_eq_none (by simpa using h)] at z; cases z)]
    exact z
  · have h := hrp i hi
    rw [low i (by omega), List.getElem?_map]
    show Option.map some vs[i]? = some (some (vs.getD i .non))
    rw [List.getD_eq_getElem?_getD, List.getElem?_eq_getElem (by omega)]
    rfl
/-- THE RULE for a def -/
theorem fnDc {T : List (Addr × Str)} {P : Program} {w : World} {K : PySem.W.Frag} {mg : Str → Option Value} {base : Heap} {k : Nat} {x qual : Str} {st : Stmt} {f : Addr} {fd : FuncData} {N ps : List Str} {n nN : Nat} {rp : List Nat} {m : SF} (F : Fun K x qual st f fd) (S : FnScope N ps (defScope st)) (hn : ps.length = n) (hN : N.length = nN) (hrp : ∀ i ∈ rp, i < n)
    (body : ∀ (cdv : Value) (hcv : fd.code = cdv) (A : Around) (outer : List PySem.Env) (s : Shared) (H : Hp) (pv : Nat → V) (E : XK), (A.deeper (envOfC qual (defScope st) s.heap.objs.size f cdv)).guards = some [] → Room k (A.deeper (envOfC qual (defScope st) s.heap.objs.size f cdv)) →
      DSs ⟨K, mg, (rp, pv, T), E⟩ (cxOf (L2.CX P w) P w K mg base N qual (defScope st) f cdv A outer s H E) (defBody st) m) : FnG P w K mg base (k + 1) f fd ps (spD K mg T (fnM n nN rp m)) := by
  have ln : ∀ {vs : List V} {H : Hp} {Q : VK} {E : XK}, spD K mg T (fnM n nN rp m) vs H Q E → ∃ I os F, Sim K (p0 T) I H (vs.map some) (os.map some) F ∧ os.length = n ∧ okA rp 0 os = true ∧ vs.length = n ∧
      (m (os.map some ++ List.replicate (nN - n) none) >>= fun r => match bkA rp r.2 0 os with
      | none => .no
      | some os' => match r.1 with
        | .rt o => .ok (o, os')
        | .nx => .ok (.fr .none, os')
        | _ => .no).post (fun r => ∀ v H', Aft K (p0 T) I H F (vs.map some) (r.2.map some) r.1 v H' → Q v H') (fun x => ∀ H' c d, Err T I H (Ow F) H' → XR mg x c d H' → E c d H') := by
    rintro vs H Q E ⟨I, os, F, s, p⟩
    unfold fnM at p
    by_cases h : os.length = n ∧ okA rp 0 os = true
    · rw [if_pos h] at p
      have hl := s.len
      simp only [List.length_map] at hl
      exact ⟨I, os, F, s, h.1, h.2, by omega, p⟩
    · rw [if_neg h] at p; exact p.elim
  refine fnG_ofc F S (fun vs H Q E h => ?_) fun cdv hcv A outer s H vs Q E hg hr h => ?_
  · obtain ⟨_, _, _, _, _, _, h, _⟩ := ln h
    rw [hn, h]
  · obtain ⟨I, os, F, sim, h1, h2, h3, p⟩ := ln h
    refine ⟨_, body cdv hcv A outer s H (fun i => vs.getD i .non) E hg hr, I, _, F, sim_start (N := N) sim h3 hrp, ?_⟩
    rw [hN]
    refine post_mono (post_bind.mp p) (fun r q => ?_) fun x z => z
    obtain ⟨fl, e⟩ := r
    have hv : ∀ i ∈ rp, vs[i]? = some (vs.getD i .non) := fun i hi => by
      have := hrp i hi
      rw [List.getD_eq_getElem?_getD, List.getElem?_eq_getElem (by omega)]; rfl
    cases qb : bkA rp e 0 os with
    | none => simp only [qb] at q; exact q.elim
    | some os' =>
      simp only [qb] at q
      cases fl with
      | rt o => exact fun v σ' H' af => q v H' (back_args sim rfl rfl hv h2 qb af)
      | nx => exact fun σ' H' ⟨I', F', s', st'⟩ => q .non H' (back_args sim rfl rfl hv h2 qb (AftD.aft ⟨I', F', .non, s', st'⟩))
      | bk => exact q.elim
      | ct => exact q.elim
theorem fnD {T : List (Addr × Str)} {P : Program} {w : World} {K : PySem.W.Frag} {mg : Str → Option Value} {base : Heap} {k : Nat} {x qual : Str} {st : Stmt} {f : Addr} {fd : FuncData} {N ps : List Str} {n nN : Nat} {rp : List Nat} {m : SF} (F : Fun K x qual st f fd) (S : FnScope N ps (defScope st)) (hn : ps.length = n) (hN : N.length = nN) (hrp : ∀ i ∈ rp, i < n)
    (body : ∀ (cdv : Value) (A : Around) (outer : List PySem.Env) (s : Shared) (H : Hp) (pv : Nat → V) (E : XK), (A.deeper (envOfC qual (defScope st) s.heap.objs.size f cdv)).guards = some [] → Room k (A.deeper (envOfC qual (defScope st) s.heap.objs.size f cdv)) →
      DSs ⟨K, mg, (rp, pv, T), E⟩ (cxOf (L2.CX P w) P w K mg base N qual (defScope st) f cdv A outer s H E) (defBody st) m) : FnG P w K mg base (k + 1) f fd ps (spD K mg T (fnM n nN rp m)) :=
  fnDc F S hn hN hrp fun cdv _ => body cdv
def sl : List AV → Nat → Option Nat
  | [], _ => none
  | .s j :: as, i => if j = i then some 0 else (sl as i).map (· + 1)
  | .d _ :: as, i => (sl as i).map (· + 1)
def ndS : List AV → Bool
  | [] => true
  | .d _ :: as => ndS as
  | .s i :: as => (sl as i).isNone && ndS as
def rsO (env : Env) : List AV → Option (List O)
  | [] => some []
  | .d x :: as => (rsO env as).map (.fr x :: ·)
  | .s i :: as => match (env[i]?).join, rsO env as with
    | some o, some os => some (o :: os)
    | _, _ => none
def putB : List AV → List O → Env → Env
  | .d _ :: as, _ :: os, e => putB as os e
  | .s i :: as, o :: os, e => putB as os (e.set i (some o))
  | _, _, e => e
def fCall (m : Fn) (as : List AF) : EF := fun env => evA as env >>= fun r => match rsO r.2 r.1 with
  | none => .no
  | some os => if ndS r.1 = true then m os >>= fun q => .ok (q.1, putB r.1 q.2 r.2) else .no
theorem sl_some : ∀ {as : List AV} {i k : Nat}, sl as i = some k → as[k]? = some (.s i)
  | [], _, _, h => by cases h
  | .s j :: as, i, k, h => by
    unfold sl at h
    by_cases e : j = i
    · rw [if_pos e] at h; cases h; subst e; rfl
    · rw [if_neg e] at h
      cases q : sl as i with
      | none => rw [q] at h; cases h
      | some k' => rw [q] at h; cases h; simpa using sl_some q
  | .d _ :: as, i, k, h => by
    unfold sl at h
    cases q : sl as i with
    | none => rw [q] at h; cases h
    | some k' => rw [q] at h; cases h; simpa using sl_some q
theorem sl_of : ∀ {as : List AV} {i k : Nat}, ndS as = true → as[k]? = some (.s i) → sl as i = some k
  | [], _, _, _, h => by simp at h
  | .s j :: as, i, 0, n, h => by
    simp at h; subst h
    unfold sl; rw [if_pos rfl]
  | .s j :: as, i, k + 1, n, h => by
    unfold ndS at n
    simp only [Bool.and_eq_true] at n
    have q := sl_of (k := k) n.2 (by simpa using h)
    have hj : j ≠ i := fun e => by subst e; rw [q] at n; exact absurd n.1 (by simp)
    unfold sl; rw [if_neg hj, q]; rfl
  | .d _ :: as, i, 0, n, h => by simp at h
  | .d _ :: as, i, k + 1, n, h => by
    have q : sl as i = some k := sl_of (as := as) (k := k) n (by simpa using h)
    unfold sl; rw [q]; rfl
theorem putB_len : ∀ {as : List AV} {os : List O} {e : Env}, (putB as os e).length = e.length
  | [], _, _ => rfl
  | .d _ :: _, [], _ => rfl
  | .s _ :: _, [], _ => rfl
  | .d _ :: as, _ :: os, e => by unfold putB; exact putB_len
  | .s i :: as, o :: os, e => by unfold putB; rw [putB_len, List.length_set]
theorem putB_at : ∀ {as : List AV} {os : List O} {e : Env} {i : Nat}, ndS as = true → os.length = as.length → (∀ j, (sl as j).isSome = true → j < e.length) → (putB as os e)[i]? = match sl as i with
    | some k => (os[k]?).map some
    | none => e[i]?
  | [], _, _, _, _, _, _ => rfl
  | .d _ :: as, [], _, _, _, h, _ => by cases h
  | .s _ :: as, [], _, _, _, h, _ => by cases h
  | .d _ :: as, o :: os, e, i, n, h, b => by
    unfold putB sl
    rw [putB_at (as := as) (i := i) n (by simpa using h) fun j hj => b j (by unfold sl; cases q : sl as j <;> simp [q] at hj ⊢)]
    cases sl as i <;> rfl
  | .s j :: as, o :: os, e, i, n, h, b => by
    unfold ndS at n
    simp only [Bool.and_eq_true] at n
    unfold putB sl
    rw [putB_at (i := i) n.2 (by simpa using h) fun j' hj => by
      rw [List.length_set]
      refine b j' ?_
      unfold sl
      split
      · rfl
      · cases q : sl as j' <;> simp [q] at hj ⊢]
    by_cases e1 : j = i
    · subst e1
      rw [if_pos rfl]
      cases q : sl as j with
      | some k => rw [q] at n; exact absurd n.1 (by simp)
      | none =>
        show (e.set j (some o))[j]? = _
        rw [List.getElem?_set_self (b j (by unfold sl; rw [if_pos rfl]; rfl))]; rfl
    · rw [if_neg e1]
      cases q : sl as i with
      | none =>
        show (e.set j (some o))[i]? = _
        rw [List.getElem?_set_ne e1]; rfl
      | some k => rfl
theorem rsO_len {env : Env} : ∀ {as : List AV} {os : List O}, rsO env as = some os → os.length = as.length
  | [], _, h => by cases h; rfl
  | .d x :: as, os, h => by
    unfold rsO at h
    cases q : rsO env as with
    | none => rw [q] at h; cases h
    | some y => rw [q] at h; cases h; simp [rsO_len q]
  | .s i :: as, os, h => by
    unfold rsO at h
    cases q1 : (env[i]?).join with
    | none => rw [q1] at h; cases h
    | some o =>
      cases q : rsO env as with
      | none => rw [q1, q] at h; cases h
      | some y => rw [q1, q] at h; cases h; simp [rsO_len q]
theorem rsO_at {env : Env} : ∀ {as : List AV} {os : List O} {k : Nat} {o : O}, rsO env as = some os → os[k]? = some o → (∃ x, as[k]? = some (.d x) ∧ o = .fr x) ∨ (∃ i, as[k]? = some (.s i) ∧ env[i]? = some (some o))
  | [], _, _, _, h, e => by cases h; simp at e
  | .d x :: as, os, k, o, h, e => by
    unfold rsO at h
    cases q : rsO env as with
    | none => rw [q] at h; cases h
    | some y =>
      rw [q] at h; cases h
      cases k with
      | zero => simp at e; subst e; exact .inl ⟨x, rfl, rfl⟩
      | succ k => rcases rsO_at (k := k) q (by simpa using e) with ⟨x, a, b⟩ | ⟨i, a, b⟩
                  · exact .inl ⟨x, by simpa using a, b⟩
                  · exact .inr ⟨i, by simpa using a, b⟩
  | .s i :: as, os, k, o, h, e => by
    unfold rsO at h
    cases q1 : (env[i]?).join with
    | none => rw [q1] at h; cases h
    | some o1 =>
      cases q : rsO env as with
      | none => rw [q1, q] at h; cases h
      | some y =>
        rw [q1, q] at h; cases h
        cases k with
        | zero =>
          simp at e; subst e
          refine .inr ⟨i, rfl, ?_⟩
          cases z : env[i]? with
          | none => rw [z] at q1; cases q1
          | some w => rw [z] at q1; cases w <;> cases q1; rfl
        | succ k => rcases rsO_at (k := k) q (by simpa using e) with ⟨x, a, b⟩ | ⟨i, a, b⟩
                    · exact .inl ⟨x, by simpa using a, b⟩
                    · exact .inr ⟨i, by simpa using a, b⟩
theorem av_len {K : PySem.W.Frag} {I : Hp} {σ : St} : ∀ {as : List AV} {vs : List V}, RepAV K I σ as vs → vs.length = as.length
  | _, _, .nil => rfl
  | _, _, .d _ t => by simp [av_len t]
  | _, _, .s _ t => by simp [av_len t]
theorem av_at {K : PySem.W.Frag} {I : Hp} {σ : St} : ∀ {as : List AV} {vs : List V} {k : Nat} {a : AV}, RepAV K I σ as vs → as[k]? = some a → ∃ v, vs[k]? = some v ∧ (match a with | .d x => Rp K I v x | .s i => σ[i]? = some (some v))
  | _, _, _, _, .nil, h => by simp at h
  | _, _, 0, _, .d r t, h => by simp at h; subst h; exact ⟨_, rfl, r⟩
  | _, _, 0, _, .s r t, h => by simp at h; subst h; exact ⟨_, rfl, r⟩
  | _, _, k + 1, a, .d r t, h => by obtain ⟨v, h1, h2⟩ := av_at (k := k) t (by simpa using h); exact ⟨v, by simpa using h1, h2⟩
  | _, _, k + 1, a, .s r t, h => by obtain ⟨v, h1, h2⟩ := av_at (k := k) t (by simpa using h); exact ⟨v, by simpa using h1, h2⟩
section
variable {g : G} {σ : St} {I H : Hp} {env : Env} {F : Nat → List Addr}
/-- the caller's frame lends some of its slots -/
def lend (as : List AV) (F : Nat → List Addr) : Nat → List Addr := fun k => match as[k]? with
  | some (.s i) => F i
  | _ => []
theorem sim_lend {K : PySem.W.Frag} {π : Pn} {as : List AV} {vs : List V} {os : List O} (s : Sim K π I H σ env F) (nd : ndS as = true) (av : RepAV K I σ as vs) (ro : rsO env as = some os) : Sim K (p0 π.2.2) I H (vs.map some) (os.map some) (lend as F) := by
  refine ⟨by simp [rsO_len ro, av_len av], fun k o q => ?_, fun k q => ?_, fun k l a h1 h2 => ?_, fun k a h => ?_, s.sub, (fun i hi => by cases hi), s.tab⟩
  · rcases rsO_at ro (getm q) with ⟨x, h1, rfl⟩ | ⟨i, h1, h2⟩
    · obtain ⟨v, e1, r⟩ := av_at av h1
      exact ⟨v, putm e1, by unfold lend; rw [h1]; exact ⟨rfl, r⟩⟩
    · obtain ⟨v, e1, r⟩ := av_at av h1
      obtain ⟨v', e2, r'⟩ := s.rep i o h2
      have r : σ[i]? = some (some v) := r
      rw [r] at e2; cases e2
      exact ⟨v, putm e1, by unfold lend; rw [h1]; exact r'⟩
  · unfold lend
    cases z : as[k]? with
    | none => rfl
    | some y =>
      cases y with
      | d x => rfl
      | s i =>
        have hk : k < os.length := by
          rw [rsO_len ro]
          cases Nat.lt_or_ge k as.length with
          | inl h => exact h
          | inr h => rw [List.getElem?_eq_none h] at z; cases z
        exact absurd (putm (List.getElem?_eq_getElem hk)) (q _)
  · unfold lend at h1 h2
    cases z1 : as[k]? with
    | none => rw [z1] at h1; cases h1
    | some y1 =>
      cases z2 : as[l]? with
      | none => rw [z2] at h2; cases h2
      | some y2 =>
        rw [z1] at h1; rw [z2] at h2
        cases y1 with
        | d _ => cases h1
        | s i =>
          cases y2 with
          | d _ => cases h2
          | s j =>
            have e := s.dis i j a h1 h2
            subst e
            have e1 := sl_of nd z1
            rw [sl_of nd z2] at e1
            exact (Option.some.inj e1).symm
  · unfold lend at h
    cases z1 : as[k]? with
    | none => rw [z1] at h; cases h
    | some y =>
      rw [z1] at h
      cases y with
      | d _ => cases h
      | s i => exact s.djI i a h
theorem lend_ow {as : List AV} {a : Addr} (h : Ow (lend as F) a) : ∃ (k i : Nat), as[k]? = some (AV.s i) ∧ a ∈ F i := by
  obtain ⟨k, hk⟩ := h
  unfold lend at hk
  cases z : as[k]? with
  | none => rw [z] at hk; cases hk
  | some y =>
    rw [z] at hk
    cases y with
    | d _ => cases hk
    | s i => exact ⟨k, i, z, hk⟩
theorem back_call {K : PySem.W.Frag} {π : Pn} {as : List AV} {vs : List V} {os os' : List O} {o : O} {v : V} {H' : Hp} (s : Sim K π I H σ env F) (nd : ndS as = true) (av : RepAV K I σ as vs) (ro : rsO env as = some os)
    (af : Aft K (p0 π.2.2) I H (lend as F) (vs.map some) (os'.map some) o v H') : Aft K π I H F σ (putB as os' env) o v H' := by
  obtain ⟨I', FA, R, r, sA, nR, dR, st⟩ := af
  have hlo : os'.length = as.length := by
    have := sA.len
    simp only [List.length_map] at this
    rw [this, av_len av]
  have hin : ∀ j, (sl as j).isSome = true → j < env.length := fun j hj => by
    cases q : sl as j with
    | none => rw [q] at hj; cases hj
    | some k =>
      obtain ⟨w, _, e1⟩ := av_at av (sl_some q)
      have e1 : σ[j]? = some (some w) := e1
      rw [s.len]
      cases Nat.lt_or_ge j σ.length with
      | inl h => exact h
      | inr h => rw [List.getElem?_eq_none h] at e1; cases e1
  let F2 : Nat → List Addr := fun i => match sl as i with
    | some k => FA k
    | none => F i
  have notL : ∀ i, sl as i = none → ∀ a ∈ F i, ¬ Ow (lend as F) a := fun i hn a ha h => by
    obtain ⟨k, j, e1, e2⟩ := lend_ow h
    have e := s.dis i j a ha e2
    subst e
    rw [sl_of nd e1] at hn; cases hn
  have F2s : ∀ {i k}, sl as i = some k → F2 i = FA k := fun {i k} h => by show (match sl as i with | some k => FA k | none => F i) = _; rw [h]
  have F2n : ∀ {i}, sl as i = none → F2 i = F i := fun {i} h => by show (match sl as i with | some k => FA k | none => F i) = _; rw [h]
  have keepH : ∀ i, sl as i = none → ∀ a ∈ F i, H' a = H a := fun i hn a ha => by
    obtain ⟨u, hu, nu⟩ := s.domN ha
    rw [hu, st.fr a u hu (notL i hn a ha) nu]
  have nA : ∀ i, sl as i = none → ∀ a ∈ F i, ∀ k, a ∉ FA k := fun i hn a ha k hk => by
    obtain ⟨u, hu⟩ := s.dom ha
    rcases st.s' a (.inl ⟨k, hk⟩) with z | z
    · exact notL i hn a ha z
    · rw [hu] at z; cases z
  have ow : ∀ a, Ow F2 a → Ow FA a ∨ ∃ i, sl as i = none ∧ a ∈ F i := fun a ⟨i, hi⟩ => by
    cases q : sl as i with
    | some k => rw [F2s q] at hi; exact .inl ⟨k, hi⟩
    | none => rw [F2n q] at hi; exact .inr ⟨i, q, hi⟩
  refine ⟨I', F2, R, r, ⟨by rw [putB_len, s.len], fun i y q => ?_, fun i q => ?_, fun i j a h1 h2 => ?_, fun i a h => ?_, sA.sub, s.pin, sA.tab⟩, nR, fun a ha hr => ?_, ⟨st.i1, fun a u h n nt => ?_, fun a u h n => ?_, fun a h => ?_, fun a u h => ?_⟩⟩
  · rw [putB_at nd hlo hin] at q
    cases z : sl as i with
    | none =>
      rw [z] at q
      obtain ⟨w, e1, rr⟩ := s.rep i y q
      exact ⟨w, e1, by rw [F2n z]; exact rr.mono st.i1 (keepH i z)⟩
    | some k =>
      rw [z] at q
      have q : (os'[k]?).map some = some (some y) := q
      cases z2 : os'[k]? with
      | none => rw [z2] at q; cases q
      | some y' =>
        rw [z2] at q; cases q
        obtain ⟨w, e1, rr⟩ := sA.rep k y (putm z2)
        obtain ⟨w', e2, e3⟩ := av_at av (sl_some z)
        have e3 : σ[i]? = some (some w') := e3
        have := getm e1
        rw [e2] at this; cases this
        exact ⟨_, e3, by rw [F2s z]; exact rr⟩
  · cases z : sl as i with
    | none =>
      rw [F2n z]
      exact s.out i fun o hz => q o (by rw [putB_at nd hlo hin, z]; exact hz)
    | some k =>
      rw [F2s z]
      refine sA.out k fun o hz => q o ?_
      rw [putB_at nd hlo hin, z]
      show (os'[k]?).map some = some (some o)
      rw [getm hz]; rfl
  · cases z1 : sl as i with
    | none =>
      rw [F2n z1] at h1
      cases z2 : sl as j with
      | none => rw [F2n z2] at h2; exact s.dis i j a h1 h2
      | some l => rw [F2s z2] at h2; exact absurd h2 (nA i z1 a h1 l)
    | some k =>
      rw [F2s z1] at h1
      cases z2 : sl as j with
      | none => rw [F2n z2] at h2; exact absurd h1 (nA j z2 a h2 k)
      | some l =>
        rw [F2s z2] at h2
        have e := sA.dis k l a h1 h2
        subst e
        have := sl_some z1
        rw [sl_some z2] at this
        cases this; rfl
  · cases z1 : sl as i with
    | none =>
      rw [F2n z1] at h
      cases q : I' a with
      | none => rfl
      | some u =>
        rcases st.i' a u q with y | y | y
        · rw [s.djI i a h] at y; cases y
        · exact (notL i z1 a h y).elim
        · obtain ⟨w, hw⟩ := s.dom h; rw [y] at hw; cases hw
    | some k => rw [F2s z1] at h; exact sA.djI k a h
  · rcases ow a ha with z | ⟨i, hn, hi⟩
    · exact dR a z hr
    · obtain ⟨u, hu⟩ := s.dom hi
      rcases st.s' a (.inr hr) with z | z
      · exact notL i hn a hi z
      · rw [hu] at z; cases z
  · refine st.fr a u h (fun z => n ?_) nt
    obtain ⟨k, i, _, hi⟩ := lend_ow z
    exact ⟨i, hi⟩
  · refine st.th a u h fun z => n ?_
    obtain ⟨k, i, _, hi⟩ := lend_ow z
    exact ⟨i, hi⟩
  · have lo : ∀ a, Ow (lend as F) a → Ow F a := fun a z => by obtain ⟨k, i, _, hi⟩ := lend_ow z; exact ⟨i, hi⟩
    rcases h with h | h
    · rcases ow a h with z | ⟨i, _, hi⟩
      · rcases st.s' a (.inl z) with y | y
        · exact .inl (lo a y)
        · exact .inr y
      · exact .inl ⟨i, hi⟩
    · rcases st.s' a (.inr h) with y | y
      · exact .inl (lo a y)
      · exact .inr y
  · rcases st.i' a u h with z | z | z
    · exact .inl z
    · obtain ⟨k, i, _, hi⟩ := lend_ow z
      exact .inr (.inl ⟨i, hi⟩)
    · exact .inr (.inr z)
theorem call_key {m : Fn} {as : List AF} {Q : VK} (h : tD g (fCall m as) σ H Q) : tA g as σ H fun vs H1 => spD g.K g.mg g.pn.2.2 m vs H1 Q g.E := by
  obtain ⟨I, env, F, s, p⟩ := h
  refine ⟨I, env, F, s, post_mono (post_bind.mp p) (fun r q vs H' I' F' s' st av => ?_) fun _ z => z⟩
  cases qo : rsO r.2 r.1 with
  | none => simp only [qo] at q; exact q.elim
  | some os =>
    simp only [qo] at q
    by_cases nd : ndS r.1 = true
    · rw [if_pos nd] at q
      refine ⟨I', os, lend r.1 F', sim_lend s' nd av qo, post_mono (post_bind.mp q) (fun y z v H'' af => ?_) fun x z H'' c d er xr => ?_⟩
      · exact z v H'' (Aft.trans st (back_call s' nd av qo af))
      · refine z H'' c d (Err.trans st ?_) xr
        obtain ⟨I2, e1, e2, k⟩ := er
        have lo : ∀ a, Ow (lend r.1 F') a → Ow F' a := fun a z => by obtain ⟨_, i, _, hi⟩ := lend_ow z; exact ⟨i, hi⟩
        refine ⟨I2, e1, e2, k.i1, fun a u hu n => k.fr a u hu fun z => n (lo a z), fun a u hu n => k.th a u hu fun z => n (lo a z), fun a z => z.elim, fun a u z => ?_⟩
        rcases k.i' a u z with y | y | y
        · exact .inl y
        · exact .inr (.inl (lo a y))
        · exact .inr (.inr y)
    · rw [if_neg nd] at q; exact q.elim
end
section
variable {g : G} {X : Cx} {k : Nat} {f : Addr} {fd : FuncData} {ps : List Str} {m : Fn} {x : Str} {p pos : Pos} {e : Expr} {es : List Expr} {as : List AF}
theorem de_call (F : FnG X.prog X.w X.K X.mg X.base k f fd ps (spD g.K g.mg g.pn.2.2 m)) (hgd : X.A.guards = some []) (hr : Room k X.A) (hg : Gl X x) (hm : X.mg x = some (.ref f)) (hk : PySem.W.keepIn X.K (.ref f) = true) (hb : Binds X.K fd ps []) (hx : Passes (L2.CX X.prog X.w) X g.E)
    (ha : DA g X (e :: es) as) (hdb : (x == ("__debug__" : Str)) = false := by decide) (he : starEach (e :: es) X.env = (false, eval e X.env) :: starEach es X.env := by rfl) (hpl : (backTo pos (starEach es X.env)).any (·.1) = false := by rfl) :
    DE g X (.Call (.Name x p) (e :: es) [] pos) (fCall m as) := PE.imp (peG F hgd hr hg hm hk hb hx ha hdb he hpl) fun σ H Q h => call_key h
end
end Dy
namespace Dy
open PySem PySem.Spec PyProof.Rows L2
/-- the law is called where nothing is tracked but the script -/
theorem lawG {P : Program} {w : World} {K : PySem.W.Frag} {mg mb : Str → Option Value} {k : Nat} {fa a : Addr} {fd : FuncData} {x : Str} {sp : Sp} {s1 : Shared} {vs : List Value} {ns : List Int}
    (KX : K.In s1.heap) (hns : s1.heap.Ns mainGlobals mg) (hb : s1.heap.Ns builtinsNs mb) (hbb : ∀ x : Str, x ≠ "__name__" → mb x = bootBuiltins x) (hlim : s1.heap.NoLimit) (hgs : s1.gens = #[])
    (ha : s1.heap.get? a = some { cls := .type "list", data := .seq vs.toArray }) (hi : IntsAre vs ns) (hl : ns.length ≤ sizeLine) (hr : Room k callerA)
    (F : ∀ base : Heap, K.In base → base.Ns mainGlobals mg → FnG P w K mg base k fa fd [x] sp) (bind : ∀ (s : Shared) (u : Value), BindsTo s fd ⟨[u], []⟩ [(x, u)])
    (hsp : ∀ H : Hp, LsL K H a (ns.map V.int) → sp [.ref a] H (fun v _ => v = .bl true) fun _ _ _ => False) :
    codeAny (model P w) callerA (.call (.ref fa) ⟨[.ref a], []⟩) (fun r s' => r = .ok (.ret (.bool true)) ∧ OldK s1.heap s'.heap ∧ s'.os = s1.os ∧ AllBare s'.gens) s1 := by
  have rv := vals_ints hi
  have hlen := hi.length
  suffices core : ∀ H : Hp, (∀ b, H b = none ∨ ∃ o xs, H b = some (.frz o (.lst xs))) → LsL K H a (ns.map V.int) → HOk P w H s1.heap → (∀ b, H b ≠ none → b = a) → (H a ≠ none → K.lookup a = none) →
      codeAny (model P w) callerA (.call (.ref fa) ⟨[.ref a], []⟩) (fun r s' => r = .ok (.ret (.bool true)) ∧ OldK s1.heap s'.heap ∧ s'.os = s1.os ∧ AllBare s'.gens) s1 by
    cases hk : K.lookup a with
    | some o =>
      have e := KX a o hk
      rw [ha] at e
      cases e
      refine core (fun _ => none) (fun _ => Or.inl rfl) (Or.inr ⟨vs, _, hk, by rw [hlen]; exact hl, rv⟩) (fun b u z => ?_) (fun b z => (z rfl).elim) (fun z => (z rfl).elim)
      · exact absurd (show (none : Option HO) = some u from z) (by simp)
    | none =>
      let o1 : Obj := { cls := .type "list", data := .seq vs.toArray }
      refine core (fun b => if b = a then some (.frz o1 (.lst (ns.map V.int))) else none) (fun b => ?_) (Or.inl (Or.inr ⟨o1, if_pos rfl⟩)) (fun b u z => ?_) (fun b z => ?_) (fun _ => hk)
      · by_cases h : b = a
        · exact Or.inr ⟨o1, _, if_pos h⟩
        · exact Or.inl (if_neg h)
      · by_cases h : b = a
        · have z' := (if_pos h).symm.trans z
          cases z'
          rw [h]
          exact ⟨ha, by rw [List.length_map]; exact hl, vs, _, rv, ha⟩
        · have z' := (if_neg h).symm.trans z
          cases z'
      · by_cases h : b = a
        · exact h
        · exact (z (if_neg h)).elim
  intro H hO hS hok hA hK
  have up : ∀ {b : Addr} {o : Obj}, s1.heap.get? b = some o → H b = none → (hidT s1.heap H).get? b = some o := fun e n => hidT_get e n
  have free : ∀ {b : Addr} {o : Obj} {es : Array DictEntry} {ep : Nat}, s1.heap.get? b = some o → o.data = .dict es ep → H b = none := by
    intro b o es ep e d
    cases q : H b with
    | none => rfl
    | some u =>
      have z : b = a := hA b (by rw [q]; exact fun h => by cases h)
      rw [z, ha] at e
      cases e
      exact absurd (show Data.seq vs.toArray _ = Data.dict es ep from d) (by intro h; cases h)
  have ns' : ∀ {b : Addr} {m : Str → Option Value}, s1.heap.Ns b m → (hidT s1.heap H).Ns b m := by
    rintro b m ⟨o, es, ep, e, d, r⟩
    exact ⟨o, es, ep, up e (free e d), d, r⟩
  have kin : K.In (hidT s1.heap H) := by
    intro b o e
    refine up (KX b o e) ?_
    cases q : H b with
    | none => rfl
    | some u =>
      have z : b = a := hA b (by rw [q]; exact fun h => by cases h)
      subst z
      rw [hK (by rw [q]; exact fun h => by cases h)] at e
      cases e
  have hM : Mod K mg (hidT s1.heap H) := by
    refine ⟨kin, ns' hns, ⟨mb, ns' hb, hbb⟩, ?_⟩
    obtain ⟨mc, h1, h2⟩ := hlim
    exact ⟨mc, ns' h1, h2⟩
  have e0 : L2.Env0 P w K mg (hidT s1.heap H) callerA [] s1 H :=
    { frames := rfl, mod := hM, bs := fun b o e => of_hidT e, bsz := Nat.le_of_eq (hidT_size _ _), funs := trivial, frf := fun b z => (nomatch (show b ∈ ([] : List Addr) from z)), hok := hok, bare := .of_eq hgs }
  refine codeAny_mono ((F _ kin (ns' hns)).run callerA [] s1 H ⟨[.ref a], []⟩ [.ref a] [.ref a] _ _ rfl hr e0 (bind s1 (.ref a)) (.cons rfl .nil) (hsp H hS)) ?_
  intro r s' h
  cases r with
  | error e =>
    obtain ⟨_, _, _, _, _, _, _, _, _, _, _, _, z⟩ := h
    exact z.elim
  | ok fl =>
    cases fl with
    | next => exact h.elim
    | brk => exact h.elim
    | cont => exact h.elim
    | ret u =>
      obtain ⟨v, H', os, bare, un, hok', r', q⟩ := h
      have q : v = .bl true := q
      subst q
      cases (show u = Value.bool true from r')
      refine ⟨rfl, OldK.of_keep (fun b o e => ?_), os, bare⟩
      rcases hO b with z | ⟨ob, xs, z⟩
      · exact un.keep b o e z (fun h => by cases (show b ∈ ([] : List Addr) from h)) (by simp)
      · obtain ⟨e1, _⟩ := hok b _ z
        obtain ⟨e2, _⟩ := hok' b _ (un.frzs b ob _ z)
        rw [e] at e1; cases e1
        exact e2
/-- the goal behind k_head, k_fill -/
theorem walkG {l : PySem.W.OpenLaw} {n k : Nat} {q : Program} {loose : List Str} {XP : (Str → Option Value) → Heap → Prop} {YP : World → Heap → Prop} {d : DefRec} {K : Params → PySem.W.Frag} {sp : PySem.W.Frag → (Str → Option Value) → Sp} {x : Str}
    (hn : l.most = some n) (hn2 : n ≤ sizeLine) (hdf : d.params.defaults = []) (hr : Room k callerA) (hY : ∀ (w : World) (h : Heap), YP w h → (K w.params).In h)
    (F : ∀ (w : World) (mg : Str → Option Value) (fa : Addr) (h : Heap), (K w.params).In h → h.Ns mainGlobals mg → mg d.name = some (.ref fa) →
      ∃ fd : FuncData, (∀ (s : Shared) (u : Value), BindsTo s fd ⟨[u], []⟩ [(x, u)]) ∧ ∀ base : Heap, (K w.params).In base → base.Ns mainGlobals mg → FnG l.prog w (K w.params) mg base k fa fd [x] (sp (K w.params) mg))
    (hsp : ∀ (K : PySem.W.Frag) (mg : Str → Option Value) (H : Hp) (a : Addr) (ns : List Int), ns.length ≤ n → (∀ z ∈ ns, Builtin.Int.intBits z ≤ 1048576) → LsL K H a (ns.map V.int) → sp K mg [.ref a] H (fun v _ => v = .bl true) fun _ _ _ => False) :
    PySem.W.WalkO q loose XP YP l.row.toRowW d [] (fun f vs => PySem.call f vs) := by
  refine Att.attach_callB hn hdf ?_
  intro w s0 s1 mg mb fa o pm cd doc a vs ns G Y ho hd hcd hmg hobj hints hlen hbits hgs
  obtain ⟨fd, hb, hF⟩ := F w mg fa _ (hY w _ Y) G.T.g hmg
  exact lawG (hY w _ Y) G.T.g G.T.b G.T.builtins G.T.nolimit hgs hobj hints (Nat.le_trans hlen hn2) hr hF hb (fun H hS => hsp _ mg H a ns hlen hbits hS)
/-- the script's ints as data -/
theorem rp_ints {K : PySem.W.Frag} {I : Hp} : ∀ ns : List Int, RpAll K I (ns.map V.int) (ns.map PyData.int)
  | [] => .nil
  | n :: ns => .cons (.int n) (rp_ints ns)
/-- a law whose mirror says True at every script -/
theorem law_ok {K : PySem.W.Frag} {mg : Str → Option Value} {H : Hp} {a : Addr} {ns : List Int} {m : Fn} {os' : List O} (h : m [.fr (.list (ns.map PyData.int))] = .ok (.fr (.bool true), os')) (hS : LsL K H a (ns.map V.int)) :
    spD K mg [] m [.ref a] H (fun v _ => v = .bl true) fun _ _ _ => False := by
  refine ⟨H, [.fr (.list (ns.map PyData.int))], fun _ => [], ⟨rfl, fun i o q => ?_, fun _ _ => rfl, fun i j a h => (nomatch h), fun i a h => (nomatch h), Same.refl _, (fun i hi => (nomatch hi)), fun p hp => (nomatch hp)⟩, ?_⟩
  · cases i with
    | zero =>
      cases q
      exact ⟨_, rfl, rfl, .lst hS (rp_ints ns)⟩
    | succ i => simp at q
  · rw [h]
    intro v H' ⟨I', F', R, r, _⟩
    cases r.2
    rfl
end Dy
namespace Dy
open PySem PySem.Spec PyProof.Rows L2
open AutoSeq1 (wpAny_loadPart')
theorem meets_enum1 {v : Value} {o : Obj} {Hh : Heap → Prop} (B : Begins v o Hh) :
    Meets (Builtin.«enumerate.__new__» ⟨[.type "enumerate", v], []⟩) (fun _ R s => Hh s.heap ∧ R (.ok (.ret (.ref (s.heap.push o).objs.size))) { s with heap := (s.heap.push o).push { cls := .type "enumerate", data := .fields #[.none, .bool false, .ref s.heap.objs.size, rawInt 0, .none, .none] } }) :=
  .of_wp fun prog w A R s h => by
    obtain ⟨hp, gg, dd, tk, os⟩ := s
    obtain ⟨h1, h⟩ := h
    have hsub := sub_enumerate
    have q1 : ∀ {A' : Around} {E : Value → Shared → Prop} {Q : Value → Shared → Prop}, Q (.ref hp.objs.size) ⟨hp.push o, gg, dd, tk, os⟩ → wpAny (model prog w) A' (pyIter v) Q E ⟨hp, gg, dd, tk, os⟩ := by
      intro A' E Q q
      exact B.iter prog w _ _ ⟨hp, gg, dd, tk, os⟩ _ h1 q
    wp_walk using q1
    refine wpAny_stack_any fun stk => wpAny_pure ?_
    split
    · rename_i c _ _ _ _ _
      cases (c == Value.type "enumerate") <;> (wp_walk using q1; exact ⟨_, rfl, h⟩)
    · wp_walk using q1
      exact ⟨_, rfl, h⟩
theorem call_enum1 {prog : Program} {w : World} {A : Around} {E : Value → Shared → Prop} {s : Shared} {v : Value} {o : Obj} {Hh : Heap → Prop} {Q : Value → Shared → Prop} (B : Begins v o Hh) (h1 : Hh s.heap)
    (h : ∀ h', IsEnum h' (s.heap.objs.size + 1) s.heap.objs.size 0 .none → h'.get? s.heap.objs.size = some o → (∀ b o, s.heap.get? b = some o → h'.get? b = some o) → Q (.ref (s.heap.objs.size + 1)) { s with heap := h' }) :
    wpAny (model prog w) A (call (.type "enumerate") [v]) Q E s := by
  refine callType_new F.called_enumerate (by decide) (F.typeCall_enumerate_1 _) (F.newCall_enumerate_1 _) (fun obj => F.args_object_init_2 obj _) F.entry_enumerate_new (meets_enum1 B) ⟨h1, ?_⟩
  have hz : (s.heap.push o).objs.size = s.heap.objs.size + 1 := Heap.size_push ..
  let en : Obj := { cls := .type "enumerate", data := .fields #[.none, .bool false, .ref s.heap.objs.size, rawInt 0, .none, .none] }
  have he : IsEnum ((s.heap.push o).push en) (s.heap.objs.size + 1) s.heap.objs.size 0 .none := by
    have q := Heap.get?_push_size (s.heap.push o) (o := en) rfl
    rw [hz] at q
    exact q
  show _ ∧ _
  rw [hz]
  exact ⟨⟨_, he, rfl⟩, h _ he (Heap.get?_push_of_some _ (Heap.get?_push_size _ B.free)) fun b u x => Heap.get?_push_of_some _ (Heap.get?_push_of_some _ x)⟩
def SqX (t : Bool) (K : PySem.W.Frag) (H : Hp) (a : Addr) (xs : List V) : Prop := if t = true then SqT K H a xs else SqL K H a xs
def IsX (t : Bool) (h : Heap) (a : Addr) (items : Array Value) : Prop := if t = true then h.IsTuple a items else h.IsList a items
def ItX (t : Bool) (h : Heap) (it a : Addr) (i : Nat) : Prop := if t = true then h.IsTupleIter it a i else h.IsListIter it a i
def itO (t : Bool) (a : Addr) : Obj := if t = true then { cls := .type "tuple_iterator", data := .fields #[.ref a, .int 0 0] } else { cls := .type "list_iterator", data := .fields #[.ref a, .int 0 0] }
theorem begX (t : Bool) (a : Addr) (items : Array Value) : Begins (.ref a) (itO t a) fun h => IsX t h a items := by
  cases t
  · exact begins_list a items
  · exact begins_tuple a items
theorem itX_new {t : Bool} {h : Heap} {it a : Addr} (e : h.get? it = some (itO t a)) : ItX t h it a 0 := by
  cases t
  · exact ⟨_, e, rfl, rfl⟩
  · exact ⟨_, e, rfl, rfl⟩
theorem drX {prog : Program} {w : World} {A : Around} (hh : A.handled = none) (t : Bool) (it a : Addr) (hne : a ≠ it) (items : Array Value) : Draws prog w A it [it, a] items.size (fun i v => items[i]? = some v) (fun i h => ItX t h it a i ∧ IsX t h a items) := by
  cases t
  · exact Draws.list hh it a hne items
  · exact Draws.tuple hh it a hne items
theorem itX_obj {t : Bool} {h : Heap} {it a : Addr} {i : Nat} (x : ItX t h it a i) : ∃ o, h.get? it = some o ∧ ∀ v, o.data ≠ .cell v := by
  cases t
  · obtain ⟨o, e, _, d⟩ := x
    exact ⟨o, e, fun v z => by rw [d] at z; cases z⟩
  · obtain ⟨o, e, _, d⟩ := x
    exact ⟨o, e, fun v z => by rw [d] at z; cases z⟩
theorem itX_at {t : Bool} {h h' : Heap} {it a : Addr} {i : Nat} (x : ItX t h it a i) (k : ∀ o, h.get? it = some o → h'.get? it = some o) : ItX t h' it a i := by
  cases t
  · obtain ⟨o, e, r⟩ := x
    exact ⟨o, k o e, r⟩
  · obtain ⟨o, e, r⟩ := x
    exact ⟨o, k o e, r⟩
section
variable {X : Cx} {pins : List (Addr × Obj)} {σ : St} {H : Hp} {s : Shared} {a : Addr} {xs ys : List V} {t : Bool}
theorem invX (J : Inv X pins σ H s) (h : SqX t X.K H a xs) : ∃ its : List Value, Vals xs its ∧ IsX t s.heap a its.toArray ∧ a < s.heap.objs.size := by
  cases t
  · obtain ⟨its, r, p, _⟩ := J.list h
    exact ⟨its, r, p.isList, by obtain ⟨_, _, e, _⟩ := p; exact Heap.lt_size e⟩
  · obtain ⟨its, r, p, _⟩ := J.tuple h
    exact ⟨its, r, p, by obtain ⟨_, e, _⟩ := p; exact Heap.lt_size e⟩
theorem invX_inj (J : Inv X pins σ H s) (h : SqX t X.K H a xs) (h' : SqX t X.K H a ys) : xs = ys := by
  cases t
  · exact J.list_inj h h'
  · exact J.tuple_inj h h'
end
/-- enumerate -/
def ItEn (t : Bool) (K : PySem.W.Frag) (a : Addr) : It :=
  ⟨fun i H => ∃ (xs : List V) (x : V), SqX t K H a xs ∧ xs[i]? = some x, fun i H v H' => ∃ T x, v = .ref T ∧ H T = none ∧ H' = upd H T (.tup [.int (i : Nat), x]) ∧ ∀ xs, SqX t K H a xs → xs[i]? = some x, fun i H => ∃ xs : List V, SqX t K H a xs ∧ xs.length = i⟩
theorem turn_en {P : Program} {w : World} {K : PySem.W.Frag} {elts : List Expr} {kk : Nat} {tpos : Pos} (t : Bool) (a e it : Addr) (hai : a ≠ it) (hae : a ≠ e) :
    Turn P w K (.Tuple elts kk tpos) (ItEn t K a) [e, it] e (fun i h => (∃ old, IsEnum h e it ((i : Nat) : Int) old) ∧ ItX t h it a i ∧ e ≠ it) where
  mem := by simp
  obj := by
    rintro i h ⟨⟨old, he⟩, hx, _⟩ b hb
    simp only [List.mem_cons, List.not_mem_nil, or_false] at hb
    rcases hb with rfl | rfl
    · exact ⟨_, he, fun v q => nomatch q⟩
    · exact itX_obj hx
  keep := by
    rintro i h h' ⟨⟨old, he⟩, hx, hne⟩ k
    exact ⟨⟨old, k e (by simp) _ he⟩, itX_at hx fun o q => k it (by simp) o q, hne⟩
  item := by
    intro X hP hw hK hc i pins s σ H E J hf stt hg
    subst hP hw hK
    obtain ⟨⟨old, he⟩, hit, hne⟩ := stt
    obtain ⟨xs, x, hq, hx⟩ := hg
    obtain ⟨its, rv, p, _⟩ := invX J hq
    obtain ⟨u, hu, ru⟩ := rv.get hx
    have hel : e < s.heap.objs.size := Heap.lt_size he
    have hil : it < s.heap.objs.size := by obtain ⟨_, q, _⟩ := itX_obj hit; exact Heap.lt_size q
    have hi : i < its.toArray.size := by
      rw [List.size_toArray]
      cases Nat.lt_or_ge i its.length with
      | inl z => exact z
      | inr z => rw [List.getElem?_eq_none z] at hu; cases hu
    refine wpAny_pyNext_enum_itemD (drX (A := X.A.in1) (J.ok.hd hc) t it a hai its.toArray) he ⟨hit, p⟩ hi hne (by simp only [List.mem_cons, List.not_mem_nil, or_false, not_or]; exact ⟨hne, Ne.symm hae⟩) fun y h' tk hy ho hst hT hsz hk => ?_
    have ey : y = u := by
      have hy : its.toArray[i]? = some y := hy
      have : its[i]? = some y := by simpa using hy
      rw [hu] at this; exact (Option.some.inj this).symm
    subst ey
    refine ⟨_, rfl, wpAny_letOwnedTupleGo_enum (s := { s with heap := h', toks := tk + 1 }) ho fun h'' he' sb => ?_⟩
    have hT2 : h''.get? s.heap.objs.size = some { cls := .type "tuple", data := .seq #[.int i tk, y] } := (sb.2 _ (Nat.ne_of_gt hel)).trans hT
    have nw : ObjOk X.prog X.w (upd H s.heap.objs.size (.tup [.int (i : Nat), x])) h'' s.heap.objs.size (.tup [.int (i : Nat), x]) :=
      ⟨by show 2 ≤ sizeLine; decide, [.int i tk, y], .cons ⟨_, rfl⟩ (.cons ru .nil), ⟨_, hT2, rfl, _, rfl⟩⟩
    have J1 : Inv X pins σ (upd H s.heap.objs.size (.tup [.int (i : Nat), x])) { s with heap := h'', toks := tk + 1 } := by
      refine J.turnedNew (ch := [e, it]) (fun b ob hb q => ?_) hf (Nat.le_refl _) nw
      simp only [List.mem_cons, List.not_mem_nil, or_false, not_or] at hb
      exact (sb.2 b hb.1).trans (hk b ob hb.1 hb.2 q)
    refine ⟨.ref s.heap.objs.size, _, J1, rfl, ⟨_, x, rfl, J.hok.fresh (Nat.le_refl _), rfl, fun ys hy => by rw [invX_inj J hy hq]; exact hx⟩, ⟨⟨y, ?_⟩, itX_at hst.1 fun o q => (sb.2 it (Ne.symm hne)).trans q, hne⟩, fun b hb => ?_⟩
    · have e1 : ((i + 1 : Nat) : Int) = (i : Int) + 1 := by omega
      rw [e1]
      exact he'
    · simp only [List.mem_cons, List.not_mem_nil, or_false] at hb
      have hb' : b < s.heap.objs.size := by rcases hb with rfl | rfl <;> assumption
      rw [upd_ne (Nat.ne_of_lt hb')]
      exact (hf b (by simpa using hb)).1
  done := by
    intro X hP hw hK hc i pins s σ H E J hf stt hg
    subst hP hw hK
    obtain ⟨⟨old, he⟩, hit, hne⟩ := stt
    obtain ⟨xs, hq, hx⟩ := hg
    obtain ⟨its, rv, p, _⟩ := invX J hq
    obtain ⟨f0, f1, f2, f3, f4, f5⟩ := hf it (by simp)
    have hn : its.toArray.size = i := by rw [List.size_toArray, ← rv.length]; exact hx
    have D := drX (prog := X.prog) (w := X.w) (A := X.A.in1) (J.ok.hd hc) t it a hai its.toArray
    rw [hn] at D
    exact wpAny_pyNext_enum_endD D he ⟨hit, p⟩ fun h' eb => ⟨rfl, J.turned (t' := s.toks) (fun b o hb q => eb b o hb q) f0 f1 f3 f4 f5⟩
  self := by
    rintro A i s Q E ⟨⟨_, he⟩, _⟩ h
    exact wpAny_pyIter_enum he h
def iEn (K : PySem.W.Frag) (ta : TA) : TI := fun σ H R => ta σ H fun vs H1 => ∃ a t xs, vs = [.ref a] ∧ SqX t K H1 a xs ∧ R (ItEn t K a) H1
theorem pi_en {X : Cx} {e : Expr} {ta : TA} {p pos tpos : Pos} {elts : List Expr} {kk : Nat} (hg : Gl X "enumerate") (hm : X.mg "enumerate" = none) (ha : PA X [e] ta) (hs : starEach [e] X.env = [(false, eval e X.env)] := by rfl) :
    PI X (.Tuple elts kk tpos) (.Call (.Name "enumerate" p) [e] [] pos) (iEn X.K ta) := by
  refine ⟨fun pins s σ H R J h => ?_⟩
  refine Call_ (ld_blt J hg hm boot_enumerate (PyProof.Rows.callWith_type1 (thn (ha.run pos pins s σ H _ J h) ?_) hs rfl))
  rintro us s1 ⟨vs, H1, J1, r1, a, t, xs, rfl, hq, q⟩
  cases r1 with
  | cons r rr =>
    cases rr
    cases r
    obtain ⟨its, rv, p', hlt⟩ := invX J1 hq
    refine call_enum1 (begX t a its.toArray) p' fun h' he hit hk => wpAny_pyIter_enum he ?_
    have J2 : Inv X pins σ H1 { s1 with heap := h' } := J1.kept (t' := s1.toks) hk
    refine ⟨s1.heap.objs.size + 1, [s1.heap.objs.size + 1, s1.heap.objs.size], _, _, H1, rfl, J2, turn_en t a (s1.heap.objs.size + 1) s1.heap.objs.size (Nat.ne_of_lt hlt) (Nat.ne_of_lt (Nat.lt_succ_of_lt hlt)), ⟨⟨.none, he⟩, itX_new hit, Nat.succ_ne_self _⟩, fun b hb => ?_, q⟩
    have hle : s1.heap.objs.size ≤ b := by
      simp only [List.mem_cons, List.not_mem_nil, or_false] at hb
      rcases hb with z | z
      · rw [z]; exact Nat.le_succ _
      · rw [z]; exact Nat.le_refl _
    exact J1.fpOk hle (J1.hok.fresh hle)
end Dy
namespace Dy
open PySem PySem.Spec PyProof.Rows L2
def kindK : PyData → Option Bool
  | .int _ => some false
  | .str _ => some false
  | .tuple xs => match keysOf xs with
    | some ks => if NestedKey.depthAll ks ≤ 7 then some true else none
    | none => none
  | _ => none
def okK (es : List (PyData × PyData)) (k : PyData) : Bool := match kindK k with
  | none => false
  | some b => match es with
    | [] => true
    | e :: _ => decide (kindK e.1 = some b)
def dAt (es : List (PyData × PyData)) (k : PyData) : Option PyData := (es.find? fun e => PyData.eqv e.1 k).map (·.2)
def dPut (es : List (PyData × PyData)) (k v : PyData) : List (PyData × PyData) := if (dAt es k).isSome = true then es.map fun e => if PyData.eqv e.1 k = true then (e.1, v) else e else es ++ [(k, v)]
mutual
theorem key_eqv : ∀ {a b : PyData} {n m : NestedKey}, keyOf a = some n → keyOf b = some m → PyData.eqv a b = NestedKey.beq n m
  | .none, b, n, m, ha, hb => by
    simp only [keyOf, Option.some.injEq] at ha; subst ha
    cases b <;> simp only [keyOf, Option.some.injEq, Option.map_eq_some_iff, reduceCtorEq] at hb
    · subst hb; rfl
    · subst hb; rfl
    · obtain ⟨ks, _, rfl⟩ := hb; rfl
  | .int i, b, n, m, ha, hb => by
    simp only [keyOf, Option.some.injEq] at ha; subst ha
    cases b <;> simp only [keyOf, Option.some.injEq, Option.map_eq_some_iff, reduceCtorEq] at hb
    · subst hb; rfl
    · subst hb
      simp only [PyData.eqv, NestedKey.beq]
      by_cases h : i = ‹Int› <;> simp [h]
    · obtain ⟨ks, _, rfl⟩ := hb; rfl
  | .tuple xs, b, n, m, ha, hb => by
    simp only [keyOf, Option.map_eq_some_iff] at ha
    obtain ⟨ks, h1, rfl⟩ := ha
    cases b with
    | none => simp only [keyOf, Option.some.injEq] at hb; subst hb; rfl
    | int i => simp only [keyOf, Option.some.injEq] at hb; subst hb; rfl
    | tuple ys =>
      simp only [keyOf, Option.map_eq_some_iff] at hb
      obtain ⟨ls, h2, rfl⟩ := hb
      simp only [PyData.eqv, NestedKey.beq]
      exact keys_eqv h1 h2
    | bool _ => simp [keyOf] at hb
    | str _ => simp [keyOf] at hb
    | list _ => simp [keyOf] at hb
    | dict _ => simp [keyOf] at hb
  | .bool _, _, _, _, ha, _ => by simp [keyOf] at ha
  | .str _, _, _, _, ha, _ => by simp [keyOf] at ha
  | .list _, _, _, _, ha, _ => by simp [keyOf] at ha
  | .dict _, _, _, _, ha, _ => by simp [keyOf] at ha
theorem keys_eqv : ∀ {a b : List PyData} {n m : List NestedKey}, keysOf a = some n → keysOf b = some m → PyData.eqvAll a b = NestedKey.beqAll n m
  | [], b, n, m, ha, hb => by
    simp only [keysOf, Option.some.injEq] at ha; subst ha
    cases b with
    | nil => simp only [keysOf, Option.some.injEq] at hb; subst hb; rfl
    | cons y ys =>
      simp only [keysOf, Option.bind_eq_some_iff, Option.map_eq_some_iff] at hb
      obtain ⟨k, _, ks, _, rfl⟩ := hb; rfl
  | x :: xs, b, n, m, ha, hb => by
    simp only [keysOf, Option.bind_eq_some_iff, Option.map_eq_some_iff] at ha
    obtain ⟨k, h1, ks, h2, rfl⟩ := ha
    cases b with
    | nil => simp only [keysOf, Option.some.injEq] at hb; subst hb; rfl
    | cons y ys =>
      simp only [keysOf, Option.bind_eq_some_iff, Option.map_eq_some_iff] at hb
      obtain ⟨l, h3, ls, h4, rfl⟩ := hb
      simp only [PyData.eqvAll, NestedKey.beqAll]
      rw [key_eqv h1 h3, keys_eqv h2 h4]
end
theorem key_dec {a b : PyData} {n m : NestedKey} (ha : keyOf a = some n) (hb : keyOf b = some m) : PyData.eqv a b = decide (n = m) := by rw [NestedKey.decide_eq]; exact key_eqv ha hb
theorem kD_dec (a b : Key) : PyData.eqv (kD a) (kD b) = decide (a = b) := by
  cases a <;> cases b <;> simp [kD, PyData.eqv]
  · rename_i x y; by_cases h : x = y <;> simp [h]
  · rename_i x y; by_cases h : x = y <;> simp [h]
mutual
theorem hash_any (w w' : World) : ∀ {a : PyData} {n : NestedKey}, keyOf a = some n → n.hash w = n.hash w'
  | .none, n, ha => by simp only [keyOf, Option.some.injEq] at ha; subst ha; rfl
  | .int i, n, ha => by simp only [keyOf, Option.some.injEq] at ha; subst ha; rfl
  | .tuple xs, n, ha => by
    simp only [keyOf, Option.map_eq_some_iff] at ha
    obtain ⟨ks, h1, rfl⟩ := ha
    simp only [NestedKey.hash]
    rw [hashes_any w w' h1]
  | .bool _, _, ha => by simp [keyOf] at ha
  | .str _, _, ha => by simp [keyOf] at ha
  | .list _, _, ha => by simp [keyOf] at ha
  | .dict _, _, ha => by simp [keyOf] at ha
theorem hashes_any (w w' : World) : ∀ {a : List PyData} {n : List NestedKey}, keysOf a = some n → NestedKey.hashes w n = NestedKey.hashes w' n
  | [], n, ha => by simp only [keysOf, Option.some.injEq] at ha; subst ha; rfl
  | x :: xs, n, ha => by
    simp only [keysOf, Option.bind_eq_some_iff, Option.map_eq_some_iff] at ha
    obtain ⟨k, h1, ks, h2, rfl⟩ := ha
    simp only [NestedKey.hashes]
    rw [hash_any w w' h1, hashes_any w w' h2]
end
theorem kind_t {k : PyData} (h : kindK k = some true) : ∃ n, keyOf k = some n ∧ n.depth ≤ 8 ∧ ∃ xs, k = .tuple xs := by
  cases k <;> simp only [kindK, reduceCtorEq, Option.some.injEq] at h
  rename_i xs
  split at h
  · rename_i ks q
    split at h
    · rename_i hz
      exact ⟨.tup ks, by simp [keyOf, q], by simp only [NestedKey.depth]; omega, _, rfl⟩
    · cases h
  · cases h
theorem kind_of {k : PyData} {n : NestedKey} (h1 : keyOf k = some n) (h2 : n.depth ≤ 8) {xs : List PyData} (h3 : k = .tuple xs) : kindK k = some true := by
  subst h3
  simp only [keyOf, Option.map_eq_some_iff] at h1
  obtain ⟨ks, h1, rfl⟩ := h1
  simp only [NestedKey.depth] at h2
  simp only [kindK, h1]
  rw [if_pos (by omega)]
theorem kind_f {k : PyData} (h : kindK k = some false) : ∃ y : Key, k = kD y := by
  cases k <;> simp only [kindK, reduceCtorEq, Option.some.injEq] at h
  · exact ⟨.inl _, rfl⟩
  · exact ⟨.inr _, rfl⟩
  · split at h
    · split at h <;> cases h
    · cases h
theorem kind_kD (y : Key) : kindK (kD y) = some false := by cases y <;> rfl
inductive VN (K : PySem.W.Frag) (I : Hp) : List (PyData × PyData) → List YP → Prop
  | nil : VN K I [] []
  | cons {kd d : PyData} {k : NestedKey} {b : Addr} {v : V} {u : Value} {es : List (PyData × PyData)} {ys : List YP} : keyOf kd = some k → k.depth ≤ 8 → Rp K I (.ref b) kd → Rp K I v d → RelV v u → VN K I es ys → VN K I ((kd, d) :: es) ((k, b, u) :: ys)
inductive VKs (K : PySem.W.Frag) (I : Hp) : List (PyData × PyData) → List (Key × Value) → Prop
  | nil : VKs K I [] []
  | cons {k : Key} {d : PyData} {v : V} {u : Value} {es : List (PyData × PyData)} {vs : List (Key × Value)} : Rp K I v d → RelV v u → VKs K I es vs → VKs K I ((kD k, d) :: es) ((k, u) :: vs)
section
variable {K : PySem.W.Frag} {I : Hp}
theorem VN.of : ∀ {ts : List TP} {es : List (PyData × PyData)} {ys : List YP}, RpKt K I ts es → Paired PY ts ys → VN K I es ys
  | _, _, _, .nil, .nil => .nil
  | _, _, _, .cons (kd := kd) h1 h2 h3 h4 t, .cons (b := y) p q => by
    obtain ⟨k, b, u⟩ := y
    obtain ⟨e1, e2, e3⟩ := p
    dsimp only at e1 e2 e3
    subst e1 e2
    exact .cons h1 h2 h3 h4 e3 (VN.of t q)
theorem VN.back : ∀ {es : List (PyData × PyData)} {ys : List YP}, VN K I es ys → ∃ ts, RpKt K I ts es ∧ Paired PY ts ys
  | _, _, .nil => ⟨[], .nil, .nil⟩
  | _, _, .cons h1 h2 h3 h4 h5 t => by
    obtain ⟨ts, a, b⟩ := VN.back t
    exact ⟨_, .cons h1 h2 h3 h4 a, .cons ⟨rfl, rfl, h5⟩ b⟩
theorem VN.length : ∀ {es : List (PyData × PyData)} {ys : List YP}, VN K I es ys → es.length = ys.length
  | _, _, .nil => rfl
  | _, _, .cons _ _ _ _ _ t => by simp [t.length]
theorem VKs.of : ∀ {kvs : List (Key × V)} {es : List (PyData × PyData)} {vs : List (Key × Value)}, RpKv K I kvs es → KV kvs vs → VKs K I es vs
  | _, _, _, .nil, .nil => .nil
  | _, _, _, .cons h t, .cons (b := y) p q => by
    obtain ⟨k, u⟩ := y
    obtain ⟨e1, e2⟩ := p
    dsimp only at e1 e2
    subst e1
    exact .cons h e2 (VKs.of t q)
theorem VKs.back : ∀ {es : List (PyData × PyData)} {vs : List (Key × Value)}, VKs K I es vs → ∃ kvs, RpKv K I kvs es ∧ KV kvs vs
  | _, _, .nil => ⟨[], .nil, .nil⟩
  | _, _, .cons h1 h2 t => by
    obtain ⟨ts, a, b⟩ := VKs.back t
    exact ⟨_, .cons h1 a, .cons ⟨rfl, h2⟩ b⟩
theorem VKs.length : ∀ {es : List (PyData × PyData)} {ys : List (Key × Value)}, VKs K I es ys → es.length = ys.length
  | _, _, .nil => rfl
  | _, _, .cons _ _ t => by simp [t.length]
theorem VN.at {kd : PyData} {n : NestedKey} (hk : keyOf kd = some n) : ∀ {es : List (PyData × PyData)} {ys : List YP}, VN K I es ys → (atKey ys n = none ∧ dAt es kd = none) ∨ ∃ b u v d, atKey ys n = some (b, u) ∧ dAt es kd = some d ∧ Rp K I v d ∧ RelV v u
  | _, _, .nil => .inl ⟨rfl, rfl⟩
  | _, _, .cons (kd := kd') (k := k') (b := b') h1 h2 h3 h4 h5 t => by
    have e := key_dec h1 hk
    by_cases c : k' = n
    · subst c
      right
      refine ⟨b', _, _, _, ?_, ?_, h4, h5⟩
      · unfold atKey; rw [List.find?_cons_of_pos (by simp)]; rfl
      · unfold dAt; rw [List.find?_cons_of_pos (by simp [e])]; rfl
    · rcases VN.at hk t with ⟨a1, a2⟩ | ⟨b, u, v, d, a1, a2, a3⟩
      · left
        refine ⟨?_, ?_⟩
        · simpa [atKey, List.find?_cons, c] using a1
        · simpa [dAt, List.find?_cons, e, c] using a2
      · right
        refine ⟨b, u, v, d, ?_, ?_, a3⟩
        · simpa [atKey, List.find?_cons, c] using a1
        · simpa [dAt, List.find?_cons, e, c] using a2
theorem VKs.at (k : Key) : ∀ {es : List (PyData × PyData)} {ys : List (Key × Value)}, VKs K I es ys → (valueAt ys k = none ∧ dAt es (kD k) = none) ∨ ∃ u v d, valueAt ys k = some u ∧ dAt es (kD k) = some d ∧ Rp K I v d ∧ RelV v u
  | _, _, .nil => .inl ⟨rfl, rfl⟩
  | _, _, .cons (k := k') h4 h5 t => by
    have e := kD_dec k' k
    by_cases c : k' = k
    · subst c
      right
      refine ⟨_, _, _, ?_, ?_, h4, h5⟩
      · unfold valueAt; rw [List.find?_cons_of_pos (by simp)]; rfl
      · unfold dAt; rw [List.find?_cons_of_pos (by simp [e])]; rfl
    · rcases VKs.at k t with ⟨a1, a2⟩ | ⟨u, v, d, a1, a2, a3⟩
      · left
        refine ⟨?_, ?_⟩
        · simpa [valueAt, List.find?_cons, c] using a1
        · simpa [dAt, List.find?_cons, e, c] using a2
      · right
        refine ⟨u, v, d, ?_, ?_, a3⟩
        · simpa [valueAt, List.find?_cons, c] using a1
        · simpa [dAt, List.find?_cons, e, c] using a2
theorem VN.app : ∀ {es fs : List (PyData × PyData)} {ys zs : List YP}, VN K I es ys → VN K I fs zs → VN K I (es ++ fs) (ys ++ zs)
  | _, _, _, _, .nil, s => s
  | _, _, _, _, .cons h1 h2 h3 h4 h5 t, s => .cons h1 h2 h3 h4 h5 (t.app s)
theorem VKs.app : ∀ {es fs : List (PyData × PyData)} {ys zs : List (Key × Value)}, VKs K I es ys → VKs K I fs zs → VKs K I (es ++ fs) (ys ++ zs)
  | _, _, _, _, .nil, s => s
  | _, _, _, _, .cons h4 h5 t, s => .cons h4 h5 (t.app s)
theorem VN.upd {kd d : PyData} {n : NestedKey} {v : V} {u : Value} (hk : keyOf kd = some n) (rv : Rp K I v d) (ru : RelV v u) : ∀ {es : List (PyData × PyData)} {ys : List YP}, VN K I es ys →
    VN K I (es.map fun e => if PyData.eqv e.1 kd = true then (e.1, d) else e) (ys.map (putAt n u))
  | _, _, .nil => .nil
  | _, _, .cons (kd := kd') (k := k') h1 h2 h3 h4 h5 t => by
    have e := key_dec h1 hk
    have ih := VN.upd hk rv ru t
    simp only [List.map_cons]
    by_cases c : k' = n
    · simp only [e, c, decide_true, if_true, putAt]; exact .cons (c ▸ h1) (c ▸ h2) h3 rv ru ih
    · simp only [e, c, decide_false, Bool.false_eq_true, if_false, putAt]; exact .cons h1 h2 h3 h4 h5 ih
theorem VKs.upd {k : Key} {d : PyData} {v : V} {u : Value} (rv : Rp K I v d) (ru : RelV v u) : ∀ {es : List (PyData × PyData)} {ys : List (Key × Value)}, VKs K I es ys →
    VKs K I (es.map fun e => if PyData.eqv e.1 (kD k) = true then (e.1, d) else e) (ys.map fun kv => if kv.1 = k then (kv.1, u) else kv)
  | _, _, .nil => .nil
  | _, _, .cons (k := k') h4 h5 t => by
    have e := kD_dec k' k
    have ih := VKs.upd (k := k) rv ru t
    simp only [List.map_cons]
    by_cases c : k' = k
    · subst c; rw [if_pos (by rw [e]; simp), if_pos rfl]; exact .cons rv ru ih
    · rw [if_neg (by rw [e]; simp [c]), if_neg c]; exact .cons h4 h5 ih
theorem VN.put {kd d : PyData} {n : NestedKey} {b : Addr} {v : V} {u : Value} {es : List (PyData × PyData)} {ys : List YP} (hk : keyOf kd = some n) (h8 : n.depth ≤ 8) (rb : Rp K I (.ref b) kd) (rv : Rp K I v d) (ru : RelV v u) (h : VN K I es ys) :
    VN K I (dPut es kd d) (storedH ys n b u) := by
  unfold dPut storedH
  rcases h.at hk with ⟨a1, a2⟩ | ⟨b', u', v', d', a1, a2, _⟩
  · rw [a1, a2]; exact h.app (.cons hk h8 rb rv ru .nil)
  · rw [a1, a2]; exact h.upd hk rv ru
theorem VKs.put {k : Key} {d : PyData} {v : V} {u : Value} {es : List (PyData × PyData)} {ys : List (Key × Value)} (rv : Rp K I v d) (ru : RelV v u) (h : VKs K I es ys) : VKs K I (dPut es (kD k) d) (stored ys k u) := by
  have ea : (ys.any fun kv => decide (kv.1 = k)) = (valueAt ys k).isSome := by
    clear h
    induction ys with
    | nil => rfl
    | cons x xs ih => by_cases c : x.1 = k <;> simp [valueAt, List.find?_cons, c] <;> simpa [valueAt] using ih
  unfold dPut stored
  rw [ea]
  rcases h.at k with ⟨a1, a2⟩ | ⟨u', v', d', a1, a2, _⟩
  · rw [a1, a2]; exact h.app (.cons rv ru .nil)
  · rw [a1, a2]; exact h.upd rv ru
theorem dPut_len (es : List (PyData × PyData)) (k v : PyData) : (dPut es k v).length ≤ es.length + 1 := by
  unfold dPut; split <;> simp
theorem VN.key : ∀ {es : List (PyData × PyData)} {ys : List YP}, VN K I es ys → ∀ y ∈ ys, ∃ kd, keyOf kd = some y.1 ∧ y.1.depth ≤ 8 ∧ Rp K I (.ref y.2.1) kd
  | _, _, .nil, y, hy => nomatch hy
  | _, _, .cons h1 h2 h3 _ _ t, y, hy => by
    rcases List.mem_cons.mp hy with rfl | hy
    · exact ⟨_, h1, h2, h3⟩
    · exact t.key y hy
end
section
variable {X : Cx} {pins : List (Addr × Obj)} {σ : St} {I H : Hp} {s : Shared} {a : Addr} {es : List (PyData × PyData)} {k : PyData}
mutual
theorem key_is (J : Inv X pins σ H s) (sm : Same I H) : ∀ {d : PyData} {v : V} {n : NestedKey} {u : Value}, Rp X.K I v d → keyOf d = some n → RelV v u → NestedIs s.heap n u
  | .none, v, n, u, r, h, ru => by cases r; simp only [keyOf, Option.some.injEq] at h; subst h; cases (show u = Value.none from ru); exact .none
  | .int i, v, n, u, r, h, ru => by cases r; simp only [keyOf, Option.some.injEq] at h; subst h; obtain ⟨t, rfl⟩ := ru; exact .int _ _
  | .tuple xs, v, n, u, r, h, ru => by
    simp only [keyOf, Option.map_eq_some_iff] at h
    obtain ⟨ks, h1, rfl⟩ := h
    cases r with
    | @tup a vs _ hs ha =>
      cases (show u = Value.ref a from ru)
      obtain ⟨its, rv, ⟨o, h2, h3, m, h4⟩, _⟩ := J.tuple (same_t sm hs)
      exact .tup h2 h3 h4 (by simpa using keys_are J sm ha h1 rv)
  | .bool _, _, _, _, _, h, _ => by simp [keyOf] at h
  | .str _, _, _, _, _, h, _ => by simp [keyOf] at h
  | .list _, _, _, _, _, h, _ => by simp [keyOf] at h
  | .dict _, _, _, _, _, h, _ => by simp [keyOf] at h
theorem keys_are (J : Inv X pins σ H s) (sm : Same I H) : ∀ {ds : List PyData} {vs : List V} {ns : List NestedKey} {us : List Value}, RpAll X.K I vs ds → keysOf ds = some ns → Vals vs us → NestedAll s.heap ns us
  | [], vs, ns, us, r, h, rv => by
    cases r; cases rv
    simp only [keysOf, Option.some.injEq] at h; subst h; exact .nil
  | d :: ds, vs, ns, us, r, h, rv => by
    simp only [keysOf, Option.bind_eq_some_iff, Option.map_eq_some_iff] at h
    obtain ⟨k, h1, ks, h2, rfl⟩ := h
    cases r with
    | cons r1 r2 =>
      cases rv with
      | cons v1 v2 => exact .cons (key_is J sm r1 h1 v1) (keys_are J sm r2 h2 v2)
end
theorem rp_tup_ref {K : PySem.W.Frag} {v : V} {xs : List PyData} (h : Rp K I v (.tuple xs)) : ∃ b, v = .ref b := by cases h; exact ⟨_, rfl⟩
theorem rpkt_kind {K : PySem.W.Frag} {ts : List TP} {ys : List YP} (h : RpKt K I ts es) (p : Paired PY ts ys) : ∀ e ∈ es, kindK e.1 = some true := by
  induction es generalizing ts ys with
  | nil => intro e he; cases he
  | cons x es ih =>
    cases h with
    | cons h1 h2 h3 h4 t =>
      cases p with
      | @cons _ y _ _ p q =>
        intro e he
        rcases List.mem_cons.mp he with he | he
        · subst he
          obtain ⟨_, e2, _⟩ := p
          dsimp only at e2 ⊢
          subst e2
          cases h3 with
          | tup a b => exact kind_of h1 h2 rfl
          | lst a b => simp [keyOf] at h1
          | dic a b => simp [keyOf] at h1
          | dit a b => simp [keyOf] at h1
        · exact ih t q e he
theorem rd_obj {P : Program} {w : World} {H : Hp} {h : Heap} {a : Addr} {u : HO} (ok : HOk P w H h) (e : Rd H a u) : ObjOk P w H h a u := by
  rcases e with e | ⟨o, e⟩
  · exact ok a _ e
  · exact (show h.get? a = some o ∧ ObjOk P w H h a u from ok a _ e).2
theorem viewT {ts : List TP} (J : Inv X pins σ H s) (sm : Same I H) (h1 : Rd H a (dN a ts)) (h2 : RpKt X.K I ts es) :
    ∃ ys, VN X.K I es ys ∧ s.heap.DictOfH (nestedKind X.prog X.w) a ys ∧ es.length ≤ sizeLine ∧ (a == sysModules) = false := by
  obtain ⟨⟨hd, z, ys, py, o, es', ep, e1, e2, e3, e4, e5⟩, _⟩ := (rd_obj J.hok h1)
  have vn := VN.of h2 py
  refine ⟨ys, vn, ⟨o, es', ep, e1, e2, e3, e4 X.w, fun y hy => ?_, e5⟩, by rw [vn.length, ← Paired.length py]; exact z, hd⟩
  obtain ⟨kd, q1, q2, q3⟩ := vn.key y hy
  exact ⟨key_is J sm q3 q1 rfl, q2⟩
/-- a dict with tuples for keys, or empty -/
theorem viewN (J : Inv X pins σ H s) (sm : Same I H) (h : DrO X.K I H a es) (ok : okK es k = true) (hk : kindK k = some true) :
    ∃ ys, VN X.K I es ys ∧ s.heap.DictOfH (nestedKind X.prog X.w) a ys ∧ es.length ≤ sizeLine ∧ (a == sysModules) = false := by
  rcases h with ⟨kvs, h1, h2⟩ | ⟨ts, h1, h2⟩
  · have : es = [] := by
      cases h2 with
      | nil => rfl
      | cons r t => unfold okK at ok; rw [hk] at ok; simp only [decide_eq_true_eq] at ok; rw [kind_kD] at ok; cases ok
    subst this
    cases h2
    obtain ⟨z, hd, vs, rel, o, es', ep, e1, e2, e3, e4, e5, e6⟩ := dk_rd J.hok h1
    cases rel
    have e4' : es'.toList = [] := by
      have := e5
      cases q : es'.toList with
      | nil => rfl
      | cons x r => rw [q] at this; cases this
    exact ⟨[], .nil, ⟨o, es', ep, e1, e2, e3, e4', (fun x hx => by cases hx), List.nodup_nil⟩, Nat.zero_le _, hd⟩
  · exact viewT J sm h1 h2
theorem viewK {y : Key} (J : Inv X pins σ H s) (h : DrO X.K I H a es) (ok : okK es (kD y) = true) :
    ∃ vs, VKs X.K I es vs ∧ s.heap.DictOf (mixKind X.prog X.w) a vs ∧ es.length ≤ sizeLine ∧ (a == sysModules) = false := by
  rcases h with ⟨kvs, h1, h2⟩ | ⟨ts, h1, h2⟩
  · obtain ⟨z, hd, vs, rel, dd⟩ := dk_rd J.hok h1
    have vk := VKs.of h2 rel
    exact ⟨vs, vk, dd, by rw [vk.length, ← rel.length]; exact z, hd⟩
  · obtain ⟨⟨hd, z, ys, py, o, es', ep, e1, e2, e3, e4, e5⟩, _⟩ := (rd_obj J.hok h1)
    have : es = [] := by
      cases es with
      | nil => rfl
      | cons x r =>
        have := rpkt_kind h2 py x (by simp)
        unfold okK at ok; rw [kind_kD] at ok; simp only [decide_eq_true_eq] at ok
        rw [this] at ok; cases ok
    subst this
    cases h2; cases py
    have e4' : es' = #[] := by simpa using e4 X.w
    subst e4'
    exact ⟨[], .nil, ⟨o, #[], ep, e1, e2, e3, (fun e he => by simp at he), .nil, List.nodup_nil⟩, Nat.zero_le _, hd⟩
end
section
variable {P : Program} {w : World} {K : PySem.W.Frag} {I H : Hp} {h : Heap} {a : Addr} {es : List (PyData × PyData)}
theorem mkN {ys : List YP} (v : VN K I es ys) (d : h.DictOfH (nestedKind P w) a ys) (z : es.length ≤ sizeLine) (hd : (a == sysModules) = false) : ∃ ts, RpKt K I ts es ∧ ∀ H', ObjOk P w H' h a (dN a ts) := by
  obtain ⟨ts, r, p⟩ := v.back
  obtain ⟨o, es', ep, e1, e2, e3, e4, e5, e6⟩ := d
  have hl : ts.length ≤ sizeLine := by rw [Paired.length p, ← v.length]; exact z
  refine ⟨ts, r, fun H' => ⟨⟨hd, hl, ys, p, o, es', ep, e1, e2, e3, fun w' => ?_, e6⟩, ⟨o, e1⟩, ?_⟩⟩
  · rw [e4]
    refine List.map_congr_left fun y hy => ?_
    obtain ⟨kd, q1, _, _⟩ := v.key y hy
    unfold entryOfKey
    show DictEntry.mk (y.1.hash w) _ _ = _
    rw [hash_any w w' q1]
  · rintro h1 h2 ⟨_, _, ys2, p2, o2, es2, ep2, f1, f2, f3, f4, f5⟩ k
    exact ⟨hd, hl, ys2, p2, o2, es2, ep2, k _ f1, f2, f3, f4, f5⟩
end
/-- d[k] -/
def rDG (K : PySem.W.Frag) : R2 := fun x y H Q => ∃ a I es k d, x = .ref a ∧ Same I H ∧ DrO K I H a es ∧ Rp K I y k ∧ okK es k = true ∧ dAt es k = some d ∧ ∀ v, Rp K I v d → Q v H
/-- k in d -/
def rDI (K : PySem.W.Frag) (n : Bool) : R2 := fun y x H Q => ∃ a I es k, x = .ref a ∧ Same I H ∧ DrO K I H a es ∧ Rp K I y k ∧ okK es k = true ∧ Q (.bl (Bool.xor n (dAt es k).isSome)) H
/-- len(d) -/
def rDL (K : PySem.W.Frag) : List V → Hp → VK → Prop := fun xs H Q => ∃ a I es, xs = [.ref a] ∧ Same I H ∧ DrO K I H a es ∧ Q (.int ((es.length : Nat) : Int)) H
section
variable {X : Cx} {pins : List (Addr × Obj)} {σ : St} {I H : Hp} {s : Shared} {a : Addr} {es : List (PyData × PyData)} {k d : PyData} {y : V} {u : Value} {A : Around} {E : Value → Shared → Prop}
theorem kD_rel {k : Key} (r : Rp X.K I y (kD k)) : y = kV k := by
  cases k with
  | inl i => cases r; rfl
  | inr x => cases r; rfl
theorem okK_kind (h : okK es k = true) : kindK k = some true ∨ kindK k = some false := by
  unfold okK at h
  cases q : kindK k with
  | none => rw [q] at h; cases h
  | some b => cases b
              · exact .inr rfl
              · exact .inl rfl
theorem room8 {A : Around} (hu : A.units + 10 < cLine) : (nestedKind X.prog X.w).room A.in1 := by
  show A.in1.units + 8 < cLine
  have : A.in1.units = A.units + 1 := rfl
  omega
theorem di_typeIs (J : Inv X pins σ H s) (h : DrO X.K I H a es) : s.TypeIs (.ref a) "dict" ∧ (∀ b, Value.ref a = .ref b → ∃ ob, s.heap.get? b = some ob ∧ ob.dict = none) ∧ (a == sysModules) = false := by
  rcases h with ⟨kvs, h1, h2⟩ | ⟨ts, h1, h2⟩
  · exact isD_at J (.inl ⟨kvs, h1⟩)
  · obtain ⟨⟨hd, z, ys, py, o, es', ep, e1, e2, e3, e4, e5⟩, _⟩ := (rd_obj J.hok h1)
    exact ⟨⟨o, e1, e2.1⟩, fun b q => by cases q; exact ⟨o, e1, e2.2.1⟩, hd⟩
theorem dd_get {Q : Value → Shared → Prop} (hu : A.units + 10 < cLine) (J : Inv X pins σ H s) (sm : Same I H) (h : DrO X.K I H a es) (ry : Rp X.K I y k) (ru : RelV y u) (ok : okK es k = true) (hd : dAt es k = some d)
    (q : ∀ v w' s', Inv X pins σ H s' → Rp X.K I v d → RelV v w' → Q w' s') : wpAny (model X.prog X.w) A (getItem (.ref a) u) Q E s := by
  rcases okK_kind ok with hk | hk
  · obtain ⟨n, h1, h2, xs, rfl⟩ := kind_t hk
    obtain ⟨b, rfl⟩ := rp_tup_ref ry
    cases (show u = Value.ref b from ru)
    obtain ⟨ys, vn, dd, z, hs⟩ := viewN J sm h ok hk
    rcases vn.at h1 with ⟨_, e⟩ | ⟨b', u', v', d', e1, e2, e3, e4⟩
    · rw [e] at hd; cases hd
    · rw [e2] at hd; cases hd
      exact wpAny_getItem_heap (room8 hu) ⟨key_is J sm ry h1 rfl, h2⟩ dd e1 (q v' u' _ (J.tok _) e3 e4)
  · obtain ⟨k, rfl⟩ := kind_f hk
    obtain ⟨vs, vk, dd, z, hs⟩ := viewK J h ok
    have ey := kD_rel ry
    subst ey
    rcases vk.at k with ⟨_, e⟩ | ⟨u', v', d', e1, e2, e3, e4⟩
    · rw [e] at hd; cases hd
    · rw [e2] at hd; cases hd
      exact wpAny_getItem_of (kV_is ru) dd.mapOf e1 (q v' u' _ (J.tok _) e3 e4)
theorem ix_dict (hu : X.A.units + 10 < cLine) : IxR X (rDG X.K) := by
  intro value slice pins s σ H x y v u Q J rx ry h hs
  obtain ⟨a, I, es, k, d, rfl, sm, hd, rk, ok, e, q⟩ := h
  cases (show v = Value.ref a from rx)
  have hT := (di_typeIs J hd).1
  unfold subscriptTail
  refine wpAny_bind ?_
  rw [getitemInPython_of_ne hT.not_modules]
  refine wpAny_bind (wpAny_specialOf hT PySem.F.slot_dict_getitem.lookup ?_)
  have fin : wpAny (model X.prog X.w) X.A (subscripted slice false (.ref a) u) (fun r s₃ => wpAny (model X.prog X.w) X.A (letTemporaryGo value (.ref a) r >>= fun _ => pure r) (EP X pins σ Q) X.xe s₃) X.xe s := by
    rw [hs]
    exact wpAny_operating (dd_get hu J sm hd rk ry ok e fun v' w' s' J' r1 r2 => wpAny_bind (wpAny_letTemporaryGo (wpAny_pure ⟨v', H, J', r2, q v' r1⟩)))
  first
    | exact wpAny_pure (wpAny_bind fin)
    | exact wpAny_bind (wpAny_pure (wpAny_bind fin))
    | exact wpAny_bind fin
theorem dd_nin {Q : Value → Shared → Prop} (hu : A.units + 10 < cLine) (J : Inv X pins σ H s) (sm : Same I H) (h : DrO X.K I H a es) (ry : Rp X.K I y k) (ru : RelV y u) (ok : okK es k = true)
    (q : ∀ s', Inv X pins σ H s' → Q (.bool (!(dAt es k).isSome)) s') : wpAny (model X.prog X.w) A (compareOp .NotIn u (.ref a)) Q E s := by
  rcases okK_kind ok with hk | hk
  · obtain ⟨n, h1, h2, xs, rfl⟩ := kind_t hk
    obtain ⟨b, rfl⟩ := rp_tup_ref ry
    cases (show u = Value.ref b from ru)
    obtain ⟨ys, vn, dd, z, hs⟩ := viewN J sm h ok hk
    refine wpAny_notIn_heap (room8 hu) ⟨key_is J sm ry h1 rfl, h2⟩ hs dd ?_
    have : (atKey ys n).isSome = (dAt es (.tuple xs)).isSome := by
      rcases vn.at h1 with ⟨e1, e2⟩ | ⟨b', u', v', d', e1, e2, _⟩ <;> rw [e1, e2] <;> rfl
    rw [this]; exact q _ (J.tok _)
  · obtain ⟨k, rfl⟩ := kind_f hk
    obtain ⟨vs, vk, dd, z, hs⟩ := viewK J h ok
    have ey := kD_rel ry
    subst ey
    refine wpAny_notIn_of (kV_is ru) hs dd.mapOf ?_
    have : (valueAt vs k).isSome = (dAt es (kD k)).isSome := by
      rcases vk.at k with ⟨e1, e2⟩ | ⟨u', v', d', e1, e2, _⟩ <;> rw [e1, e2] <;> rfl
    rw [this]; exact q _ (J.tok _)
theorem op_ninDD (hu : X.A.units + 10 < cLine) : OpR X (compareOp .NotIn) (rDI X.K true) := by
  intro pins s σ H x y v u Q J rx ry h
  obtain ⟨a, I, es, k, rfl, sm, hd, rk, ok, q⟩ := h
  cases (show u = Value.ref a from ry)
  exact dd_nin hu J sm hd rk rx ok fun s' J' => ⟨.bl (!(dAt es k).isSome), H, J', rfl, by simpa using q⟩
theorem rpkv_len {K : PySem.W.Frag} : ∀ {kvs : List (Key × V)} {es : List (PyData × PyData)}, RpKv K I kvs es → kvs.length = es.length
  | _, _, .nil => rfl
  | _, _, .cons _ t => by simp [rpkv_len t]
theorem call_lenDD : CallR X (.builtin "len") (rDL X.K) := by
  intro pins s σ H xs us Q J r h
  obtain ⟨a, I, es, rfl, sm, hd, q⟩ := h
  obtain ⟨u, rfl, rx⟩ := vals1 r
  cases (show u = Value.ref a from rx)
  rcases hd with ⟨kvs, h1, h2⟩ | ⟨ts, h1, h2⟩
  · refine d_len J h1 fun t s' J' => ?_
    rw [rpkv_len h2]
    exact ⟨.int _, H, J', ⟨t, rfl⟩, q⟩
  · obtain ⟨ys, vn, dd, z, hd⟩ := viewT J sm h1 h2
    refine call_len_dictH hd dd (by rw [← vn.length]; rw [sizeLine_eq] at z; omega) ?_
    rw [← vn.length]
    exact ⟨.int _, H, J.tok _, ⟨_, rfl⟩, q⟩
end
end Dy
namespace Dy
open PySem PySem.Spec PyProof.Rows L2
section
variable {K : PySem.W.Frag} {I H : Hp} {v u : V} {d e : PyData}
mutual
theorem Rp.dp (s : Same I H) : ∀ {v : V} {d : PyData}, Rp K I v d → d.canLay0 = true → Dp K H v d
  | _, _, .non, _ => .non
  | _, _, .bl b, _ => .bl b
  | _, _, .int i, _ => .int i
  | _, _, .str x, _ => .str x
  | _, _, .lst h a, c => .lst (h.mono s).sq (RpAll.dp s a (by simpa [PyData.canLay0] using c))
  | _, _, .tup h a, c => .tup (same_t s h) (RpAll.dp s a (by simpa [PyData.canLay0] using c))
  | _, _, .dic h a, c => by simp [PyData.canLay0] at c
  | _, _, .dit h a, c => by simp [PyData.canLay0] at c
theorem RpAll.dp (s : Same I H) : ∀ {vs : List V} {ds : List PyData}, RpAll K I vs ds → PyData.canLayAll0 ds = true → DpAll K H vs ds
  | _, _, .nil, _ => .nil
  | _, _, .cons h t, c => by
    simp only [PyData.canLayAll0, Bool.and_eq_true] at c
    exact .cons (Rp.dp s h c.1) (RpAll.dp s t c.2)
end
theorem RpS.dp (s : Same I H) (h : RpS K I H v d) (c : d.canLay0 = true) : Dp K H v d := by
  rcases h with h | ⟨a, vs, ds, rfl, rfl, h1, h2⟩ | ⟨a, es, rfl, rfl, h1⟩
  · exact h.dp s c
  · exact .lst (SqL.of h1) (h2.dp s (by simpa [PyData.canLay0] using c))
  · simp [PyData.canLay0] at c
theorem RpS.int {i : Int} (h : RpS K I H v (.int i)) : v = .int i := rpss_int h
theorem RpS.str {x : Str} (h : RpS K I H v (.str x)) : v = .str x := by
  rcases h with h | ⟨_, _, _, _, e, _⟩ | ⟨_, _, _, e, _⟩
  · cases h; rfl
  · cases e
  · cases e
theorem RpS.bl {x : Bool} (h : RpS K I H v (.bool x)) : v = .bl x := by
  rcases h with h | ⟨_, _, _, _, e, _⟩ | ⟨_, _, _, e, _⟩
  · cases h; rfl
  · cases e
  · cases e
theorem RpS.non (h : RpS K I H v .none) : v = .non := by
  rcases h with h | ⟨_, _, _, _, e, _⟩ | ⟨_, _, _, e, _⟩
  · cases h; rfl
  · cases e
  · cases e
theorem RpS.lst {ds : List PyData} (s : Same I H) (h : RpS K I H v (.list ds)) : ∃ a vs, v = .ref a ∧ LsL K H a vs ∧ RpAll K I vs ds := by
  rcases h with h | ⟨a, vs, ds, rfl, e, h1, h2⟩ | ⟨_, _, _, e, _⟩
  · cases h with
    | lst h1 h2 => exact ⟨_, _, rfl, h1.mono s, h2⟩
  · cases e; exact ⟨a, vs, rfl, .of h1, h2⟩
  · cases e
theorem RpS.tup {ds : List PyData} (s : Same I H) (h : RpS K I H v (.tuple ds)) : ∃ a vs, v = .ref a ∧ SqT K H a vs ∧ RpAll K I vs ds := by
  rcases h with h | ⟨_, _, _, _, e, _⟩ | ⟨_, _, _, e, _⟩
  · cases h with
    | tup h1 h2 => exact ⟨_, _, rfl, same_t s h1, h2⟩
  · cases e
  · cases e
theorem RpAll.ints : ∀ {vs : List V} {ns : List Int}, RpAll K I vs (ns.map PyData.int) → vs = ns.map V.int
  | _, [], h => by cases h; rfl
  | _, n :: ns, h => by
    cases h with
    | cons h t => cases h; rw [RpAll.ints t]; rfl
theorem RpAll.bools : ∀ {vs : List V} {ns : List Bool}, RpAll K I vs (ns.map PyData.bool) → vs = ns.map V.bl
  | _, [], h => by cases h; rfl
  | _, n :: ns, h => by
    cases h with
    | cons h t => cases h; rw [RpAll.bools t]; rfl
/-- all ints, all truths -/
def intsOf : List PyData → Option (List Int)
  | [] => some []
  | .int i :: ds => (intsOf ds).map (i :: ·)
  | _ => none
def boolsOf : List PyData → Option (List Bool)
  | [] => some []
  | .bool i :: ds => (boolsOf ds).map (i :: ·)
  | _ => none
theorem intsOf_inv : ∀ {ds : List PyData} {ns : List Int}, intsOf ds = some ns → ds = ns.map PyData.int
  | [], _, h => by cases h; rfl
  | .int i :: ds, ns, h => by
    unfold intsOf at h
    cases q : intsOf ds with
    | none => rw [q] at h; cases h
    | some ms => rw [q] at h; cases h; rw [intsOf_inv q]; rfl
  | .none :: _, _, h => by cases h
  | .bool _ :: _, _, h => by cases h
  | .str _ :: _, _, h => by cases h
  | .list _ :: _, _, h => by cases h
  | .tuple _ :: _, _, h => by cases h
  | .dict _ :: _, _, h => by cases h
theorem boolsOf_inv : ∀ {ds : List PyData} {ns : List Bool}, boolsOf ds = some ns → ds = ns.map PyData.bool
  | [], _, h => by cases h; rfl
  | .bool i :: ds, ns, h => by
    unfold boolsOf at h
    cases q : boolsOf ds with
    | none => rw [q] at h; cases h
    | some ms => rw [q] at h; cases h; rw [boolsOf_inv q]; rfl
  | .none :: _, _, h => by cases h
  | .int _ :: _, _, h => by cases h
  | .str _ :: _, _, h => by cases h
  | .list _ :: _, _, h => by cases h
  | .tuple _ :: _, _, h => by cases h
  | .dict _ :: _, _, h => by cases h
theorem boolsOf_map (ns : List Bool) : boolsOf (ns.map PyData.bool) = some ns := by
  induction ns with
  | nil => rfl
  | cons n ns ih => rw [List.map_cons, boolsOf, ih]; rfl
end
theorem OpR.or {X : Cx} {f : Value → Value → Sem Value} {r r' : R2} (h : OpR X f r) (h' : OpR X f r') : OpR X f (fun x y H Q => r x y H Q ∨ r' x y H Q) := by
  intro pins s σ H x y v u Q J rx ry q
  rcases q with q | q
  · exact h pins s σ H x y v u Q J rx ry q
  · exact h' pins s σ H x y v u Q J rx ry q
section
variable {X : Cx} {K : PySem.W.Frag}
def rCatL (K : PySem.W.Frag) : R2 := fun x y H Q => ∃ l b xs zs, x = .ref l ∧ y = .ref b ∧ LsL K H l xs ∧ LsL K H b zs ∧ xs.length + zs.length ≤ sizeLine ∧ ∀ p, H p = none → Q (.ref p) (upd H p (.lst (xs ++ zs)))
theorem op_catL : OpR X (binaryOp .Add) (rCatL X.K) := by
  rintro pins s σ H x y v u Q J rx ry ⟨l, b, xs, zs, rfl, rfl, hl, hb, hz, q⟩
  cases rx
  cases ry
  obtain ⟨z, its, n, r, e0, e⟩ := hl.obj J
  obtain ⟨z2, its2, n2, r2, e20, e2⟩ := hb.obj J
  refine PySem.P.add_list e e2 ?_ (by rw [List.size_toArray, List.size_toArray, ← e0, ← e20]; exact hz)
  rw [show its.toArray ++ its2.toArray = (its ++ its2).toArray by simp]
  exact ⟨.ref _, _, J.lnew (t' := s.toks) (r.append r2) (by rw [List.length_append]; exact hz), rfl, q _ J.fresh⟩
def rAddS' : R2 := fun x y H Q => ∃ i j, x = .str i ∧ y = .str j ∧ i.length + j.length ≤ sizeLine ∧ Q (.str (i ++ j)) H
/-- + -/
def rAdd (K : PySem.W.Frag) : R2 := fun x y H Q => (rI0 (fun i j => .int (i + j)) x y H Q ∨ rCatL K x y H Q) ∨ (rCatA K x y H Q ∨ rAddS' x y H Q)
theorem op_addA : OpR X (binaryOp .Add) (rAdd X.K) := (op_add.or op_catL).or (op_catA.or op_add_str)
def pAdd : PyData → PyData → Option O
  | .int i, .int j => some (.fr (.int (i + j)))
  | .list xs, .list ys => if xs.length + ys.length ≤ 1000000 then some (.ol (xs ++ ys)) else none
  | .tuple xs, .tuple ys => if xs.length + ys.length ≤ 1000000 then some (.fr (.tuple (xs ++ ys))) else none
  | .str x, .str y => if x.length + y.length ≤ 1000000 then some (.fr (.str (x ++ y))) else none
  | _, _ => none
theorem six {n : Nat} (h : n ≤ 1000000) : n ≤ sizeLine := Nat.le_trans h (by decide)
theorem os_add : OpS K (two (rAdd K)) (on2 pAdd) := ops2 fun v u d e I H Q o s r1 r2 q k => by
  unfold pAdd at q
  split at q
  · cases q
    rw [r1.int, r2.int]
    exact .inl (.inl ⟨_, _, rfl, rfl, k _ _ _ _ (Grow.val s (.int _))⟩)
  · split at q
    · rename_i hz
      cases q
      obtain ⟨a, vs, rfl, h1, h2⟩ := r1.lst s
      obtain ⟨b, ws, rfl, h3, h4⟩ := r2.lst s
      exact .inl (.inr ⟨a, b, vs, ws, rfl, rfl, h1, h3, by rw [h2.length, h4.length]; exact six hz, fun p np => k _ _ _ _ (Grow.lst s np (h2.app h4))⟩)
    · cases q
  · split at q
    · rename_i hz
      cases q
      obtain ⟨a, vs, rfl, h1, h2⟩ := r1.tup s
      obtain ⟨b, ws, rfl, h3, h4⟩ := r2.tup s
      refine .inr (.inl ⟨a, b, vs, ws, rfl, rfl, h1, h3, by rw [h2.length, h4.length]; exact six hz, fun e => ?_, fun _ e => ?_, fun _ _ p np => k _ _ _ _ (Grow.tup s np (h2.app h4))⟩)
      · subst e
        cases h2
        exact k _ _ _ _ (Grow.val s (rps_rp r2 rfl))
      · subst e
        cases h4
        rw [List.append_nil] at k
        exact k _ _ _ _ (Grow.val s (rps_rp r1 rfl))
    · cases q
  · split at q
    · rename_i hz
      cases q
      rw [r1.str, r2.str]
      exact .inr (.inr ⟨_, _, rfl, rfl, six hz, k _ _ _ _ (Grow.val s (.str _))⟩)
    · cases q
  · cases q
def pSub : PyData → PyData → Option O
  | .int i, .int j => some (.fr (.int (i - j)))
  | _, _ => none
theorem os_sub : OpS K (two (rI0 fun i j => .int (i - j))) (on2 pSub) := ops2 fun v u d e I H Q o s r1 r2 q k => by
  unfold pSub at q
  split at q
  · cases q
    rw [r1.int, r2.int]
    exact ⟨_, _, rfl, rfl, k _ _ _ _ (Grow.val s (.int _))⟩
  · cases q
/-- * -/
def smI (i : Int) : Bool := decide (-(2 ^ 64) < i ∧ i < 2 ^ 64)
def muOk (i j : Int) : Bool := smI j || (smI i || decide (i.natAbs.log2 + j.natAbs.log2 < 1000000))
theorem muOk_ok {i j : Int} (h : muOk i j = true) : IntMulOk i j := by
  unfold muOk smI at h
  simp only [Bool.or_eq_true, decide_eq_true_eq] at h
  rcases h with h | h | h
  · exact CMul.ok (.inr h)
  · exact CMul.ok (.inl h)
  · exact CMulW.ok h
theorem op_mulM : OpR X (binaryOp .Mult) (rI (fun i j => muOk i j = true) fun i j => .int (i * j)) := opI fun _ _ _ _ _ _ _ hc q => mul_int q (muOk_ok hc)
def rRepL (K : PySem.W.Frag) : R2 := fun x y H Q => ∃ l k xs, x = .ref l ∧ y = .int k ∧ LsL K H l xs ∧ -(2 ^ 63) ≤ k ∧ k < 2 ^ 63 ∧ xs.length * k.toNat ≤ sizeLine ∧ ∀ p, H p = none → Q (.ref p) (upd H p (.lst (List.replicate k.toNat xs).flatten))
def pMul : PyData → PyData → Option O
  | .int i, .int j => if muOk i j = true then some (.fr (.int (i * j))) else none
  | .list xs, .int k => if k ≤ 100000 ∧ -100000 ≤ k ∧ xs.length * k.toNat ≤ 1000000 then some (.ol (List.replicate k.toNat xs).flatten) else none
  | .tuple xs, .int k => if xs.length ≤ 1000 ∧ 2 ≤ k ∧ k ≤ 1000 ∧ xs ≠ [] then some (.fr (.tuple (List.replicate k.toNat xs).flatten)) else none
  | _, _ => none
theorem RpAll.rep {I : Hp} {vs : List V} {ds : List PyData} (h : RpAll K I vs ds) : ∀ n : Nat, RpAll K I (List.replicate n vs).flatten (List.replicate n ds).flatten
  | 0 => .nil
  | n + 1 => by
    rw [List.replicate_succ, List.replicate_succ, List.flatten_cons, List.flatten_cons]
    exact h.app (h.rep n)
/-- // and % -/
def pDiv : PyData → PyData → Option O
  | .int i, .int j => if 0 < j ∧ j < 1073741824 then some (.fr (.int (i / j))) else none
  | _, _ => none
def pMod : PyData → PyData → Option O
  | .int i, .int j => if 0 < j then some (.fr (.int (i % j))) else none
  | _, _ => none
theorem os_mod : OpS K (two (rI (fun _ j => 0 < j) fun i j => .int (i % j))) (on2 pMod) := ops2 fun v u d e I H Q o s r1 r2 q k => by
  unfold pMod at q
  split at q
  · split at q
    · rename_i hc
      cases q
      rw [r1.int, r2.int]
      exact ⟨_, _, rfl, rfl, hc, k _ _ _ _ (Grow.val s (.int _))⟩
    · cases q
  · cases q
def pPow : PyData → PyData → Option O
  | .int i, .int j => if 0 ≤ j ∧ j ≤ 1000000 ∧ i.natAbs < 2 ^ 64 then some (.fr (.int (i ^ j.toNat))) else none
  | _, _ => none
theorem os_pow : OpS K (two (rI CPow fun i j => .int (i ^ j.toNat))) (on2 pPow) := ops2 fun v u d e I H Q o s r1 r2 q k => by
  unfold pPow at q
  split at q
  · split at q
    · rename_i hc
      cases q
      rw [r1.int, r2.int]
      exact ⟨_, _, rfl, rfl, hc, k _ _ _ _ (Grow.val s (.int _))⟩
    · cases q
  · cases q
def pNeg : PyData → Option O
  | .int i => some (.fr (.int (-i)))
  | _ => none
theorem os_neg : OpS K (one (rU fun i => .int (-i))) (on1 pNeg) := ops1 fun v d I H Q o s r1 q k => by
  unfold pNeg at q
  split at q
  · cases q
    rw [r1.int]
    exact ⟨_, rfl, k _ _ _ _ (Grow.val s (.int _))⟩
  · cases q
def cmI (c : Int → Int → Bool) : PyData → PyData → Option O
  | .int i, .int j => some (.fr (.bool (c i j)))
  | _, _ => none
theorem os_cmI {c : Int → Int → Bool} : OpS K (two (rI0 fun i j => .bl (c i j))) (on2 (cmI c)) := ops2 fun v u d e I H Q o s r1 r2 q k => by
  unfold cmI at q
  split at q
  · cases q
    rw [r1.int, r2.int]
    exact ⟨_, _, rfl, rfl, k _ _ _ _ (Grow.val s rbl)⟩
  · cases q
def shp (d : PyData) : Bool := SeqAt.shaped d
def pEq (d e : PyData) : Option O := match d, e with
  | .str a, .str b => some (.fr (.bool (decide (a = b))))
  | d, e => if shp d = true ∧ shp e = true then some (.fr (.bool (PyData.eqv d e))) else none
def pNe (d e : PyData) : Option O := match d, e with
  | .str a, .str b => some (.fr (.bool (!decide (a = b))))
  | d, e => if shp d = true ∧ shp e = true then some (.fr (.bool (!PyData.eqv d e))) else none
def rEqA (K : PySem.W.Frag) : R2 := fun x y H Q => rEqD K x y H Q ∨ rEq x y H Q
def rNeA (K : PySem.W.Frag) : R2 := fun x y H Q => rNeD K x y H Q ∨ rNe x y H Q
theorem op_eqA (hu : X.A.units + 64 < cLine) : OpR X (compareOp .Eq) (rEqA X.K) := (op_eqD hu).or op_eq
theorem op_neA (hu : X.A.units + 64 < cLine) : OpR X (compareOp .NotEq) (rNeA X.K) := (op_neD hu).or op_ne
theorem dec_str {a b : Str} : decide (V.str a = V.str b) = decide (a = b) := by
  by_cases h : a = b
  · subst h; simp
  · rw [decide_eq_false h, decide_eq_false fun z => h (V.str.inj z)]
theorem os_eq : OpS K (two (rEqA K)) (on2 pEq) := ops2 fun v u d e I H Q o s r1 r2 q k => by
  unfold pEq at q
  split at q
  · cases q
    rw [r1.str, r2.str]
    exact .inr ⟨rfl, by rw [dec_str]; exact k _ _ _ _ (Grow.val s rbl)⟩
  · split at q
    · rename_i hc
      cases q
      exact .inl ⟨_, _, r1.dp s (SeqAt.canLay_of_shaped hc.1), r2.dp s (SeqAt.canLay_of_shaped hc.2), hc.1, hc.2, k _ _ _ _ (Grow.val s rbl)⟩
    · cases q
theorem os_ne : OpS K (two (rNeA K)) (on2 pNe) := ops2 fun v u d e I H Q o s r1 r2 q k => by
  unfold pNe at q
  split at q
  · cases q
    rw [r1.str, r2.str]
    exact .inr ⟨rfl, by rw [dec_str]; exact k _ _ _ _ (Grow.val s rbl)⟩
  · split at q
    · rename_i hc
      cases q
      exact .inl ⟨_, _, r1.dp s (SeqAt.canLay_of_shaped hc.1), r2.dp s (SeqAt.canLay_of_shaped hc.2), hc.1, hc.2, k _ _ _ _ (Grow.val s rbl)⟩
    · cases q
def isN : PyData → Bool
  | .none => true
  | _ => false
def pIs (d e : PyData) : Option O := if isN e = true then some (.fr (.bool (isN d))) else none
def pIsn (d e : PyData) : Option O := if isN e = true then some (.fr (.bool (!isN d))) else none
def pNin : PyData → PyData → Option O
  | d, .list ds => if shp d = true ∧ shp (.list ds) = true then some (.fr (.bool (!ds.any fun z => PyData.eqv z d))) else none
  | _, _ => none
theorem os_nin : OpS K (two (rNotInD K)) (on2 pNin) := ops2 fun v u d e I H Q o s r1 r2 q k => by
  unfold pNin at q
  split at q
  · split at q
    · rename_i hc
      cases q
      exact ⟨_, _, r1.dp s (SeqAt.canLay_of_shaped hc.1), r2.dp s (SeqAt.canLay_of_shaped hc.2), hc.1, hc.2, k _ _ _ _ (Grow.val s rbl)⟩
    · cases q
  · cases q
def pIx : PyData → PyData → Option O
  | .list xs, .int i => (atI xs i).map .fr
  | .tuple xs, .int i => (atI xs i).map .fr
  | .str z, .int i => if z.length ≤ 1000000 then (atI z.cps.toList i).map fun c => .fr (.str ⟨#[c]⟩) else none
  | .dict es, k => if okK es k = true then (dAt es k).map .fr else none
  | _, _ => none
theorem okK_isL {es : List (PyData × PyData)} {k : PyData} (h : okK es k = true) : isL k = false := by
  cases k <;> first | rfl | (unfold okK kindK at h; cases h)
theorem rps_dict {I H : Hp} {v : V} {es : List (PyData × PyData)} (s : Same I H) (h : RpS K I H v (.dict es)) : ∃ a, v = .ref a ∧ DrO K I H a es := by
  rcases h with h | ⟨_, _, _, _, e, _⟩ | ⟨a, es', rfl, e, h⟩
  · cases h with
    | dic h1 h2 => exact ⟨_, rfl, .inl ⟨_, same_rd s h1, h2⟩⟩
    | dit h1 h2 => exact ⟨_, rfl, .inr ⟨_, same_rd s h1, h2⟩⟩
  · cases e
  · cases e; exact ⟨a, rfl, h.rd⟩
def rIxD (K : PySem.W.Frag) : R2 := fun x y H Q => rIx K x y H Q ∨ rDG K x y H Q
theorem ixD {X : Cx} (hu : X.A.units + 65 < cLine) : IxR X (rIxD X.K) := ix_seq.or (ix_dict (by omega))
theorem atI_rep {I : Hp} {vs : List V} {ds : List PyData} {i : Int} {d : PyData} (r : RpAll K I vs ds) (h : atI ds i = some d) : ∃ v, atI vs i = some v ∧ Rp K I v d := by
  unfold atI at h ⊢
  rw [r.length]
  cases q : ixN ds.length i with
  | none => rw [q] at h; cases h
  | some j =>
    rw [q] at h
    exact r.get h
theorem os_ix : OpS K (two (rIxD K)) (on2 pIx) := ops2 fun v u d e I H Q o s r1 r2 q k => by
  unfold pIx at q
  split at q
  · rename_i xs i
    cases z : atI xs i with
    | none => rw [z] at q; cases q
    | some x =>
      rw [z] at q; cases q
      obtain ⟨a, vs, rfl, h1, h2⟩ := r1.lst s
      obtain ⟨y, h3, h4⟩ := atI_rep h2 z
      rw [r2.int]
      exact .inl (.inl ⟨a, vs, i, y, rfl, rfl, h1.sq, h3, k _ _ _ _ (Grow.val s h4)⟩)
  · rename_i xs i
    cases z : atI xs i with
    | none => rw [z] at q; cases q
    | some x =>
      rw [z] at q; cases q
      obtain ⟨a, vs, rfl, h1, h2⟩ := r1.tup s
      obtain ⟨y, h3, h4⟩ := atI_rep h2 z
      rw [r2.int]
      exact .inl (.inr (.inl ⟨a, vs, i, y, rfl, rfl, h1, h3, k _ _ _ _ (Grow.val s h4)⟩))
  · rename_i z i
    split at q
    · rename_i hz
      cases y : atI z.cps.toList i with
      | none => rw [y] at q; cases q
      | some c =>
        rw [y] at q; cases q
        rw [r1.str, r2.int]
        exact .inl (.inr (.inr ⟨z, i, c, rfl, rfl, six hz, y, k _ _ _ _ (Grow.val s (.str _))⟩))
    · cases q
  · rename_i es
    split at q
    · rename_i hc
      cases z : dAt es e with
      | none => rw [z] at q; cases q
      | some x =>
        rw [z] at q; cases q
        obtain ⟨a, rfl, h1⟩ := rps_dict s r1
        exact .inr ⟨a, I, es, e, x, rfl, s, h1, rps_rp r2 (okK_isL hc), hc, z, fun v r => k _ _ _ _ (Grow.val s r)⟩
    · cases q
  · cases q
def cutD {α : Type} (xs : List α) (lo hi : Option Int) : List α := (xs.drop (HT.sIx xs.length 0 lo)).take (HT.sIx xs.length xs.length hi - HT.sIx xs.length 0 lo)
theorem cut_rep {I : Hp} {vs : List V} {ds : List PyData} (r : RpAll K I vs ds) (lo hi : Option Int) : RpAll K I (cutV vs lo hi) (cutD ds lo hi) := by
  unfold cutV cutD
  rw [r.length]
  exact (r.drops _).takes _
def pSl (d : PyData) (lo hi : Option Int) : Option O := match d with
  | .list xs => some (.ol (cutD xs lo hi))
  | .tuple xs => some (.fr (.tuple (cutD xs lo hi)))
  | .str z => if z.length ≤ 1000000 then some (.fr (.str (cutS z lo hi))) else none
  | _ => none
def rSlX' (K : PySem.W.Frag) : V → Option Int → Option Int → Hp → VK → Prop := fun x lo hi H Q => (rSlL K x lo hi H Q ∨ rSlA K x lo hi H Q) ∨ rSlS x lo hi H Q
theorem sl_any : SlR X (rSlX' X.K) := (sl_list.or sl_tupA).or sl_str
theorem os_sl {v : V} {d : PyData} {lo hi : Option Int} {I H : Hp} {Q : VK} {o : O} (s : Same I H) (r1 : RpS K I H v d) (q : pSl d lo hi = some o) (k : ∀ v H' I' R, Grow K I H I' H' o v R → Q v H') : rSlX' K v lo hi H Q := by
  unfold pSl at q
  split at q
  · cases q
    obtain ⟨a, vs, rfl, h1, h2⟩ := r1.lst s
    exact .inl (.inl ⟨a, vs, rfl, h1.sq, fun p np => k _ _ _ _ (Grow.lst s np (cut_rep h2 lo hi))⟩)
  · cases q
    obtain ⟨a, vs, rfl, h1, h2⟩ := r1.tup s
    refine .inl (.inr ⟨a, vs, rfl, h1, fun e => ?_, fun _ p np => k _ _ _ _ (Grow.tup s np (cut_rep h2 lo hi))⟩)
    rename_i xs
    have ec : cutD xs lo hi = xs := by
      unfold cutD
      rw [← h2.length, e.1, e.2, List.drop_zero, Nat.sub_zero, h2.length, List.take_length]
    rw [ec] at k
    exact k _ _ _ _ (Grow.val s (rps_rp r1 rfl))
  · split at q
    · rename_i hz
      cases q
      rw [r1.str]
      exact .inr ⟨_, rfl, six hz, k _ _ _ _ (Grow.val s (.str _))⟩
    · cases q
  · cases q
end
section
variable {g : G} {X : Cx} {a b c e : Expr} {pos p2 : Pos} {σ : St} {H : Hp}
def sl3 (r : V → Option Int → Option Int → Hp → VK → Prop) : List V → Hp → VK → Prop
  | [x, .int i, .int j], H, Q => r x (some i) (some j) H Q
  | _, _, _ => False
def pSl2l : PyData → PyData → Option O
  | d, .int i => pSl d (some i) none
  | _, _ => none
def pSl2h : PyData → PyData → Option O
  | d, .int i => pSl d none (some i)
  | _, _ => none
theorem de_slLo {x y : AF} (ha : DX g X a x) (hb : DX g X b y) (hK : X.K = g.K := by rfl) : DE g X (.Subscript a (.Slice (some b) none none p2) pos) (fOp (on2 pSl2l) [x, y]) :=
  PE.imp (pe_slice sl_any ha (po_some hb) po_none) fun σ H Q h => by
    refine tArg_mono (tA2 (op_key (r := two fun v u H1 Q => ∃ i, u = V.int i ∧ rSlX' X.K v (some i) none H1 Q) ?_ h)) fun v H1 q => tArg_mono q fun u H2 q => q
    refine ops2 fun v u d e I H Q o s r1 r2 q k => ?_
    unfold pSl2l at q
    split at q
    · rw [r2.int, hK]
      exact ⟨_, rfl, os_sl s r1 q k⟩
    · cases q
theorem de_slHi {x y : AF} (ha : DX g X a x) (hb : DX g X b y) (hK : X.K = g.K := by rfl) : DE g X (.Subscript a (.Slice none (some b) none p2) pos) (fOp (on2 pSl2h) [x, y]) :=
  PE.imp (pe_slice sl_any ha po_none (po_some hb)) fun σ H Q h => by
    refine tArg_mono (tA2 (op_key (r := two fun v u H1 Q => ∃ i, u = V.int i ∧ rSlX' X.K v none (some i) H1 Q) ?_ h)) fun v H1 q => tArg_mono q fun u H2 q => q
    refine ops2 fun v u d e I H Q o s r1 r2 q k => ?_
    unfold pSl2h at q
    split at q
    · rw [r2.int, hK]
      exact ⟨_, rfl, os_sl s r1 q k⟩
    · cases q
end
end Dy
namespace Dy
open PySem PySem.Spec PyProof.Rows L2
section
variable {X : Cx} {K : PySem.W.Frag}
theorem op_repL : OpR X (binaryOp .Mult) (rRepL X.K) := by
  rintro pins s σ H x y v u Q J rx ry ⟨l, k, xs, rfl, rfl, hL, h1, h2, hz, q⟩
  cases rx
  obtain ⟨t, rfl⟩ := ry
  obtain ⟨z, its, n, r, hl, e⟩ := hL.obj J
  have a1 : its.toArray.size * k.toNat ≤ sizeLine := by
    rw [List.size_toArray, ← hl]
    exact hz
  have a2 : ¬ its.toArray.size * k.toNat > (2 ^ 63 - 1) / 8 := Nat.not_lt.mpr (Nat.le_trans a1 (by decide))
  have a3 : ¬ (!Builtin.List.listFitsIndex k) = true := by rw [fitsIndex_both h1 h2]; decide
  have a4 : ¬ Builtin.List.listTooLong (its.toArray.size * k.toNat) = true := by rw [notLongL a1]; decide
  have a5 : List.foldl (fun x1 x2 => x1 ++ x2) #[] (List.replicate (if its.toArray.isEmpty = true then 0 else k.toNat) its.toArray) = (List.replicate k.toNat its).flatten.toArray := by
    rw [size_rep]
    cases its with
    | nil => simp
    | cons b c => rfl
  refine wpAny_binaryOp_repeat_ref (T := "list") (U := "int") (by decide) ⟨_, e, rfl⟩ (fun s' => typeIs_int s' k t) noFill_list_mul F.fills_int_mul F.slot_int_rmul repeat_list F.slot_int_index.lookup ?_
  refine call_meets F.slot_int_rmul (typeIs_int s k t) F.entry_int_rmul (F.args_int_rmul_2 _ _) (int___rmul___int_list k t l its.toArray n) ⟨e, rfl, ⟨_, e, rfl⟩, ?_⟩
  refine call_meets F.slot_list_mul ⟨_, e, rfl⟩ F.entry_list_mul (F.args_list_mul_2 _ _) (AutoListH.list___mul___list_int_3 l its.toArray n k t a3 a2 a4) ⟨e, ?_⟩
  rw [a5]
  exact ⟨.ref _, _, J.lnew (t' := s.toks) (r.rep k.toNat) (by rw [PyProof.Rows.lm_len_rep_flat, Nat.mul_comm]; exact hz), rfl, q _ J.fresh⟩
def rMulA (K : PySem.W.Frag) : R2 := fun x y H Q => (rI (fun i j => muOk i j = true) (fun i j => .int (i * j)) x y H Q ∨ rRepL K x y H Q) ∨ rRepT K x y H Q
theorem op_mulA : OpR X (binaryOp .Mult) (rMulA X.K) := (op_mulM.or op_repL).or op_repT
theorem os_mul : OpS K (two (rMulA K)) (on2 pMul) := ops2 fun v u d e I H Q o s r1 r2 q k => by
  unfold pMul at q
  split at q
  · split at q
    · rename_i hc
      cases q
      rw [r1.int, r2.int]
      exact .inl (.inl ⟨_, _, rfl, rfl, hc, k _ _ _ _ (Grow.val s (.int _))⟩)
    · cases q
  · split at q
    · rename_i hc
      cases q
      obtain ⟨a, vs, rfl, h1, h2⟩ := r1.lst s
      rw [r2.int]
      exact .inl (.inr ⟨a, _, vs, rfl, rfl, h1, by omega, by omega, by rw [h2.length]; exact six hc.2.2, fun p np => k _ _ _ _ (Grow.lst s np (h2.rep _))⟩)
    · cases q
  · split at q
    · rename_i hc
      cases q
      obtain ⟨a, vs, rfl, h1, h2⟩ := r1.tup s
      rw [r2.int]
      refine .inr ⟨a, _, vs, rfl, rfl, h1, fun z => ?_, hc.2.1, hc.2.2.1, by rw [h2.length]; exact hc.1, fun p np => k _ _ _ _ (Grow.tup s np (h2.rep _))⟩
      subst z
      cases h2
      exact hc.2.2.2 rfl
    · cases q
  · cases q
theorem ops1c {r : List V → Hp → VK → Prop} {f : PyData → Option O} (h : ∀ (v : V) (d : PyData) (I H : Hp) (Q : VK) (o : O), Same I H → RpS K I H v d → f d = some o → (∀ v H' I' R, Grow K I H I' H' o v R → Q v H') → r [v] H Q) : OpS K r (on1 f) := by
  intro vs ds I H Q o s q e k
  match vs, ds, q with
  | _, _, .nil => simp [on1] at e
  | _, _, .cons q1 .nil => exact h _ _ I H Q o s q1 e k
  | _, _, .cons _ (.cons _ _) => simp [on1] at e
def pLen : PyData → Option O
  | .list xs => some (.fr (.int xs.length))
  | .tuple xs => some (.fr (.int xs.length))
  | .str x => if x.length ≤ 1000000 then some (.fr (.int x.length)) else none
  | .dict es => some (.fr (.int es.length))
  | _ => none
def rLenD (K : PySem.W.Frag) : List V → Hp → VK → Prop := fun xs H Q => (∃ x n, xs = [x] ∧ LenV K x H n ∧ Q (.int n) H) ∨ rDL K xs H Q
theorem call_lenA {X : Cx} : CallR X (.builtin "len") (rLenD X.K) := by
  intro pins s σ H xs us Q I r h
  rcases h with h | h
  · exact call_len pins s σ H xs us Q I r h
  · exact call_lenDD pins s σ H xs us Q I r h
theorem os_len : OpS K (rLenD K) (on1 pLen) := ops1c fun v d I H Q o s r1 q k => by
  unfold pLen at q
  split at q
  · cases q
    obtain ⟨a, vs, rfl, h1, h2⟩ := r1.lst s
    rw [← h2.length] at k
    exact .inl ⟨_, _, rfl, .inl ⟨vs, h1.sq, rfl⟩, k _ _ _ _ (Grow.val s (.int _))⟩
  · cases q
    obtain ⟨a, vs, rfl, h1, h2⟩ := r1.tup s
    rw [← h2.length] at k
    exact .inl ⟨_, _, rfl, .inr ⟨vs, h1, rfl⟩, k _ _ _ _ (Grow.val s (.int _))⟩
  · split at q
    · rename_i hz
      cases q
      rw [r1.str]
      exact .inl ⟨_, _, rfl, ⟨six hz, rfl⟩, k _ _ _ _ (Grow.val s (.int _))⟩
    · cases q
  · cases q
    obtain ⟨a, rfl, h1⟩ := rps_dict s r1
    exact .inr ⟨a, I, _, rfl, s, h1, k _ _ _ _ (Grow.val s (.int _))⟩
  · cases q
def pAll : PyData → Option O
  | .list xs => (boolsOf xs).map fun ns => .fr (.bool (ns.all id))
  | _ => none
theorem os_all : OpS K (rAll K) (on1 pAll) := ops1c fun v d I H Q o s r1 q k => by
  unfold pAll at q
  split at q
  · rename_i xs
    cases z : boolsOf xs with
    | none => rw [z] at q; cases q
    | some ns =>
      rw [z] at q; cases q
      obtain ⟨a, vs, rfl, h1, h2⟩ := r1.lst s
      rw [boolsOf_inv z] at h2
      rw [h2.bools] at h1
      exact ⟨a, ns, rfl, h1.sq, k _ _ _ _ (Grow.val s rbl)⟩
  · cases q
/-- the greatest, the least of some ints -/
def maxL : List Int → Int
  | [] => 0
  | [a] => a
  | a :: b :: r => max a (maxL (b :: r))
def minL : List Int → Int
  | [] => 0
  | [a] => a
  | a :: b :: r => min a (minL (b :: r))
theorem maxL_ge : ∀ {ns : List Int} {y : Int}, y ∈ ns → y ≤ maxL ns
  | [a], y, h => by simp at h; subst h; exact Int.le_refl _
  | a :: b :: r, y, h => by
    unfold maxL
    rcases List.mem_cons.mp h with e | h
    · subst e; omega
    · have := maxL_ge h; omega
theorem maxL_mem : ∀ {ns : List Int}, ns ≠ [] → maxL ns ∈ ns
  | [], h => absurd rfl h
  | [a], _ => by simp [maxL]
  | a :: b :: r, _ => by
    have ih := maxL_mem (ns := b :: r) (by simp)
    unfold maxL
    by_cases h : a ≤ maxL (b :: r)
    · rw [Int.max_eq_right h]; exact List.mem_cons_of_mem _ ih
    · rw [Int.max_eq_left (by omega)]; exact List.mem_cons_self
theorem minL_le : ∀ {ns : List Int} {y : Int}, y ∈ ns → minL ns ≤ y
  | [a], y, h => by simp at h; subst h; exact Int.le_refl _
  | a :: b :: r, y, h => by
    unfold minL
    rcases List.mem_cons.mp h with e | h
    · subst e; omega
    · have := minL_le h; omega
theorem minL_mem : ∀ {ns : List Int}, ns ≠ [] → minL ns ∈ ns
  | [], h => absurd rfl h
  | [a], _ => by simp [minL]
  | a :: b :: r, _ => by
    have ih := minL_mem (ns := b :: r) (by simp)
    unfold minL
    by_cases h : a ≤ minL (b :: r)
    · rw [Int.min_eq_left h]; exact List.mem_cons_self
    · rw [Int.min_eq_right (by omega)]; exact List.mem_cons_of_mem _ ih
def rMax' (K : PySem.W.Frag) : List V → Hp → VK → Prop := fun xs H Q => (∃ i j, xs = [.int i, .int j] ∧ Q (.int (if j > i then j else i)) H) ∨ rMax K xs H Q
def rMin' (K : PySem.W.Frag) : List V → Hp → VK → Prop := fun xs H Q => (∃ i j, xs = [.int i, .int j] ∧ Q (.int (if j < i then j else i)) H) ∨ rMin K xs H Q
theorem cl_max (hc : X.calm = true) : CallR X (.builtin "max") (rMax' X.K) := (call_max2 hc).or (cr_max hc)
theorem cl_min (hc : X.calm = true) : CallR X (.builtin "min") (rMin' X.K) := (call_min2 hc).or (cr_min hc)
def pMax : List PyData → Option O
  | [.int i, .int j] => some (.fr (.int (max i j)))
  | [.list xs] => match intsOf xs with
    | some (n :: ns) => some (.fr (.int (maxL (n :: ns))))
    | _ => none
  | _ => none
def pMin : List PyData → Option O
  | [.int i, .int j] => some (.fr (.int (min i j)))
  | [.list xs] => match intsOf xs with
    | some (n :: ns) => some (.fr (.int (minL (n :: ns))))
    | _ => none
  | _ => none
theorem os_max : OpS K (rMax' K) pMax := fun vs ds I H Q o s r q k => by
  unfold pMax at q
  split at q
  · rename_i i j
    cases q
    match vs, r with
    | _, .cons r1 (.cons r2 .nil) =>
      rw [r1.int, r2.int]
      refine .inl ⟨i, j, rfl, ?_⟩
      have e : (if j > i then j else i) = max i j := by split <;> omega
      rw [e]
      exact k _ _ _ _ (Grow.val s (.int _))
  · rename_i xs
    match vs, r with
    | _, .cons r1 .nil =>
      split at q
      · rename_i n ns z
        cases q
        obtain ⟨a, vs, rfl, h1, h2⟩ := r1.lst s
        rw [intsOf_inv z] at h2
        rw [h2.ints] at h1
        refine .inr ⟨a, n :: ns, rfl, h1.sq, by simp, fun m hm hb => ?_⟩
        have e : m = maxL (n :: ns) := Int.le_antisymm (maxL_ge hm) (hb _ (maxL_mem (by simp)))
        rw [e]
        exact k _ _ _ _ (Grow.val s (.int _))
      · cases q
  · cases q
theorem os_min : OpS K (rMin' K) pMin := fun vs ds I H Q o s r q k => by
  unfold pMin at q
  split at q
  · rename_i i j
    cases q
    match vs, r with
    | _, .cons r1 (.cons r2 .nil) =>
      rw [r1.int, r2.int]
      refine .inl ⟨i, j, rfl, ?_⟩
      have e : (if j < i then j else i) = min i j := by split <;> omega
      rw [e]
      exact k _ _ _ _ (Grow.val s (.int _))
  · rename_i xs
    match vs, r with
    | _, .cons r1 .nil =>
      split at q
      · rename_i n ns z
        cases q
        obtain ⟨a, vs, rfl, h1, h2⟩ := r1.lst s
        rw [intsOf_inv z] at h2
        rw [h2.ints] at h1
        refine .inr ⟨a, n :: ns, rfl, h1.sq, by simp, fun m hm hb => ?_⟩
        have e : m = minL (n :: ns) := Int.le_antisymm (hb _ (minL_mem (by simp))) (minL_le hm)
        rw [e]
        exact k _ _ _ _ (Grow.val s (.int _))
      · cases q
  · cases q
def pList (d : PyData) : Option O := (seqOf d).map .ol
def pTuple (d : PyData) : Option O := (seqOf d).map fun xs => .fr (.tuple xs)
theorem os_tuple : OpS K (fun xs H Q => ∃ p ys, xs = [.ref p] ∧ ((SqL K H p ys ∧ ∀ l, H l = none → Q (.ref l) (upd H l (.tup ys))) ∨ (SqT K H p ys ∧ Q (.ref p) H))) (on1 pTuple) := ops1c fun v d I H Q o s r1 q k => by
  unfold pTuple at q
  cases d with
  | list xs =>
    cases q
    obtain ⟨p, vs, rfl, h1, h2⟩ := r1.lst s
    exact ⟨p, vs, rfl, .inl ⟨h1.sq, fun l nl => k _ _ _ _ (Grow.tup s nl h2)⟩⟩
  | tuple xs =>
    cases q
    obtain ⟨p, vs, rfl, h1, h2⟩ := r1.tup s
    exact ⟨p, vs, rfl, .inr ⟨h1, k _ _ _ _ (Grow.val s (rps_rp r1 rfl))⟩⟩
  | _ => cases q
def pInt : PyData → Option O
  | .int i => some (.fr (.int i))
  | .bool b => some (.fr (.int (if b then 1 else 0)))
  | _ => none
theorem os_int : OpS K (fun xs H Q => (∃ i, xs = [.int i] ∧ Q (.int i) H) ∨ ∃ k, xs = [.bl k] ∧ Q (.int (if k then 1 else 0)) H) (on1 pInt) := ops1c fun v d I H Q o s r1 q k => by
  unfold pInt at q
  split at q
  · cases q
    rw [r1.int]
    exact .inl ⟨_, rfl, k _ _ _ _ (Grow.val s (.int _))⟩
  · cases q
    rw [r1.bl]
    exact .inr ⟨_, rfl, k _ _ _ _ (Grow.val s (.int _))⟩
  · cases q
/-- isinstance -/
inductive Ty where
  | int | bool | str | list | tuple | dict
def Ty.name : Ty → String
  | .int => "int"
  | .bool => "bool"
  | .str => "str"
  | .list => "list"
  | .tuple => "tuple"
  | .dict => "dict"
def tyN : PyData → String
  | .none => "NoneType"
  | .bool _ => "bool"
  | .int _ => "int"
  | .str _ => "str"
  | .list _ => "list"
  | .tuple _ => "tuple"
  | .dict _ => "dict"
def isA : Ty → PyData → Bool
  | .int, .int _ => true
  | .int, .bool _ => true
  | .bool, .bool _ => true
  | .str, .str _ => true
  | .list, .list _ => true
  | .tuple, .tuple _ => true
  | .dict, .dict _ => true
  | _, _ => false
theorem isA_kit (t : Ty) (d : PyData) : kitB (tyN d) t.name = some (isA t d) := by
  cases t <;> cases d <;> first | rfl | (show kitB _ _ = _; decide +kernel)
/-- a value's type, with the dicts of tuples -/
inductive TyY (K : PySem.W.Frag) (H : Hp) : V → Value → Prop where
  | base {x : V} {t : Value} (h : TyOf K H x t) : TyY K H x t
  | wide {x : V} {t : Value} (h : TyX K H x t) : TyY K H x t
  | dn {a : Addr} {ts : List TP} (e : Rd H a (dN a ts)) : TyY K H (.ref a) (.type "dict")
  | dkf {a : Addr} {o : Obj} {kvs : List (Key × V)} (e : H a = some (.frz o (.dK kvs))) : TyY K H (.ref a) (.type "dict")
theorem TyY.dk {K : PySem.W.Frag} {H : Hp} {a : Addr} {kvs : List (Key × V)} (e : Rd H a (.dK kvs)) : TyY K H (.ref a) (.type "dict") := by
  rcases e with e | ⟨o, e⟩
  · exact .base (.dK e)
  · exact .dkf e
theorem kit_ofY {X : Cx} {pins : List (Addr × Obj)} {σ : St} {H : Hp} {s : Shared} {x : V} {u t : Value} (I : Inv X pins σ H s) (rx : RelV x u) (ty : TyY X.K H x t) : ∃ P : Heap → Prop, PySem.W.KitX X.K u t P ∧ P s.heap ∧ u ≠ .builtin "__main__.__loader__#opaque" := by
  cases ty with
  | base h => exact kit_of I rx (.base h)
  | wide h => exact kit_of I rx h
  | @dn a ts e =>
    cases (show u = Value.ref a from rx)
    have ok : ObjOk X.prog X.w H s.heap a (dN a ts) := by
      rcases e with e | ⟨ob, e⟩
      · exact I.hok a _ e
      · exact (show ObjOk X.prog X.w H s.heap a (.frz ob (dN a ts)) from I.hok a _ e).2
    obtain ⟨⟨_, _, ys, _, o, es, ep, h1, h2, _⟩, _⟩ := ok
    exact ⟨_, PySem.W.kitx_dict, ⟨o, h1, h2.1⟩, fun z => nomatch z⟩
  | @dkf a ob kvs e =>
    cases (show u = Value.ref a from rx)
    obtain ⟨_, _, _, vs, _, p⟩ := (show ObjOk X.prog X.w H s.heap a (.frz ob (.dK kvs)) from I.hok a _ e)
    obtain ⟨o, es, ep, h1, h2, _⟩ := p
    exact ⟨_, PySem.W.kitx_dict, ⟨o, h1, h2.1⟩, fun z => nomatch z⟩
def rIsiY (K : PySem.W.Frag) : List V → Hp → VK → Prop := fun xs H Q => ∃ (x c : V) (t u : Value) (b : Bool), xs = [x, c] ∧ ClsV c u ∧ TyY K H x t ∧ PySem.W.kitOne K t u = some b ∧ Q (.bl b) H
theorem call_isiY {X : Cx} : CallR X (.builtin "isinstance") (rIsiY X.K) := by
  intro pins s σ H xs us Q I r h
  obtain ⟨x, c, t, u, b, rfl, k, ty, e, q⟩ := h
  obtain ⟨u1, u2, rfl, r1, r2⟩ := vals2 r
  have e2 := k.eq r2
  subst e2
  obtain ⟨P, Z, p, hx⟩ := kit_ofY I r1 ty
  exact PySem.W.kia_one Z I.kIn p e hx fun tk => ⟨.bl b, H, I.tok tk, rfl, q⟩
theorem tyX {I H : Hp} {v : V} {d : PyData} (s : Same I H) (h : RpS K I H v d) : TyY K H v (.type (tyN d)) := by
  rcases h with h | ⟨a, vs, ds, rfl, rfl, h1, _⟩ | ⟨a, es, rfl, rfl, ⟨kvs, h1, _⟩ | ⟨ts, h1, _⟩⟩
  · cases h with
    | non => exact .base .non
    | bl b => exact .base (.bl b)
    | int i => exact .base (.int i)
    | str x => exact .base (.str x)
    | lst h1 _ =>
      rcases h1.mono s with (h1 | ⟨o, h1⟩) | ⟨its, n, h1, _⟩
      · exact .base (.lst h1)
      · exact .base (.frz h1)
      · exact .wide (.kList h1 rfl)
    | tup h1 _ =>
      rcases same_t s h1 with (h1 | ⟨o, h1⟩) | ⟨o, its, n, h1, h2, _⟩
      · exact .base (.tup h1)
      · exact .wide (.fTuple h1)
      · exact .wide (.kTuple h1 h2)
    | dic h1 _ => exact .dk (same_rd s h1)
    | dit h1 _ => exact .dn (same_rd s h1)
  · exact .base (.lst h1)
  · exact .base (.dK h1)
  · exact .dn (.inl h1)
end
section
variable {g : G} {X : Cx} {a b c e : Expr} {pos p p2 : Pos} {σ : St} {H : Hp}
theorem de_isi {x : AF} {n : Str} (t : Ty) (hg : Gl X "isinstance") (hm : X.mg "isinstance" = none) (hv : bootBuiltins "isinstance" = some (.builtin "isinstance")) (ha : DX g X a x) (hT : PE X (.Name n p2) (tC (.ty t.name))) (hK : X.K = g.K := by rfl)
    (h1 : starEach [a, .Name n p2] X.env = (false, eval a X.env) :: starEach [.Name n p2] X.env := by rfl) (h2 : starEach [.Name n p2] X.env = (false, eval (.Name n p2) X.env) :: starEach [] X.env := by rfl) (h3 : (backTo pos (starEach [.Name n p2] X.env)).any (·.1) = false := by rfl) :
    DE g X (.Call (.Name "isinstance" p) [a, .Name n p2] [] pos) (fOp (on1 fun d => some (.fr (.bool (isA t d)))) [x]) :=
  PE.imp (pe_callB call_isiY hg hm hv (pa_cons ha (pa_cons hT pa_nil h2) h1) (by decide) (by decide) h1 h3) fun σ H Q h => by
    refine tArg_mono (tA1 (op_key (r := one fun v H1 Q => rIsiY X.K [v, .ty t.name] H1 Q) ?_ h)) fun v H1 q => q
    refine ops1 fun v d I H Q o s r1 q k => ?_
    cases q
    exact ⟨v, .ty t.name, .type (tyN d), .type t.name, isA t d, rfl, .ty _, by rw [hK]; exact tyX s r1, kit_ty (isA_kit t d), k _ _ _ _ (Grow.val s rbl)⟩
def fSq (a : AF) : IF := fun env => evA [a] env >>= fun r => match dvs r.1 with
  | some [d] => match seqOf d with
    | some xs => .ok (xs, r.2)
    | none => .no
  | _ => .no
theorem it_l {K : PySem.W.Frag} {I H : Hp} {a : Addr} {vs : List V} {ds : List PyData} (h : LsL K I a vs) (r : RpAll K I vs ds) : ItOk K I (Itl K a) ds := fun I2 H2 i s1 s2 => by
  have hq : SqL K H2 a vs := (h.mono (s1.trans s2)).sq
  refine ⟨fun d hd => ?_, fun e => ⟨vs, hq, by rw [r.length]; omega⟩⟩
  obtain ⟨v, hv, rp⟩ := r.get hd
  refine ⟨⟨vs, v, hq, hv⟩, fun x H' y => ?_⟩
  obtain ⟨rfl, y⟩ := y
  have := y vs hq
  rw [hv] at this; cases this
  exact ⟨I2, Grow.val s2 (rp.mono s1)⟩
theorem it_t {K : PySem.W.Frag} {I H : Hp} {a : Addr} {vs : List V} {ds : List PyData} (h : SqT K I a vs) (r : RpAll K I vs ds) : ItOk K I (Itt K a) ds := fun I2 H2 i s1 s2 => by
  have hq : SqT K H2 a vs := same_t (s1.trans s2) h
  refine ⟨fun d hd => ?_, fun e => ⟨vs, hq, by rw [r.length]; omega⟩⟩
  obtain ⟨v, hv, rp⟩ := r.get hd
  refine ⟨⟨vs, v, hq, hv⟩, fun x H' y => ?_⟩
  obtain ⟨rfl, y⟩ := y
  have := y vs hq
  rw [hv] at this; cases this
  exact ⟨I2, Grow.val s2 (rp.mono s1)⟩
theorem di_seq {tg : Expr} {x : AF} (ha : DX g X a x) (hK : X.K = g.K := by rfl) : DI g X tg a (fSq x) := by
  refine ⟨fun pins s σ H R J h => ?_⟩
  obtain ⟨I, env, F, sm, p⟩ := h
  unfold fSq at p
  cases q : evA [x] env with
  | no => rw [q] at p; exact p.elim
  | er y =>
    rw [q] at p
    have ps : g.err I H F y := p
    refine (pi_list ha).run pins s σ H R J ?_
    refine tA1 (R := fun vs H1 => ∃ v, vs = [v] ∧ ∃ a, v = .ref a ∧ (∃ xs, SqL X.K H1 a xs) ∧ R (Itl X.K a) H1) ⟨I, env, F, sm, by rw [q]; exact ps⟩ |> fun h => tArg_mono h fun v H1 ⟨_, e, z⟩ => by cases e; exact z
  | ok r =>
    rw [q, bind_ok] at p
    cases q2 : dvs r.1 with
    | none => rw [q2] at p; exact p.elim
    | some ds =>
      match ds, q2 with
      | [], q2 => rw [q2] at p; exact p.elim
      | _ :: _ :: _, q2 => rw [q2] at p; exact p.elim
      | [d], q2 =>
        rw [q2] at p
        have ps := p
        cases d with
        | list xs =>
          have ps : ∀ J H' I' F', Sim g.K g.pn I' H' σ r.2 F' → Step I H (Ow F) I' H' (Ow F') → ItOk g.K I' J xs → R J H' := ps
          refine (pi_list ha).run pins s σ H R J ?_
          have key : tA g [x] σ H (fun vs H1 => ∃ v, vs = [v] ∧ ∃ a, v = .ref a ∧ (∃ xs, SqL X.K H1 a xs) ∧ R (Itl X.K a) H1) := by
            refine ⟨I, env, F, sm, ?_⟩
            rw [q]
            intro vs H' I' F' s' st av
            match vs, dvs_rep av q2 with
            | [v], .cons rp .nil =>
              cases rp with
              | lst h1 h2 =>
                rw [hK]
                exact ⟨_, rfl, _, rfl, ⟨_, (h1.mono s'.sub).sq⟩, ps _ _ _ _ s' st (it_l (H := H') h1 h2)⟩
          exact tArg_mono (tA1 key) fun v H1 ⟨_, e, z⟩ => by cases e; exact z
        | tuple xs =>
          have ps : ∀ J H' I' F', Sim g.K g.pn I' H' σ r.2 F' → Step I H (Ow F) I' H' (Ow F') → ItOk g.K I' J xs → R J H' := ps
          refine (pi_tup ha).run pins s σ H R J ?_
          have key : tA g [x] σ H (fun vs H1 => ∃ v, vs = [v] ∧ ∃ a, v = .ref a ∧ (∃ xs, SqT X.K H1 a xs) ∧ R (Itt X.K a) H1) := by
            refine ⟨I, env, F, sm, ?_⟩
            rw [q]
            intro vs H' I' F' s' st av
            match vs, dvs_rep av q2 with
            | [v], .cons rp .nil =>
              cases rp with
              | tup h1 h2 =>
                rw [hK]
                exact ⟨_, rfl, _, rfl, ⟨_, same_t s'.sub h1⟩, ps _ _ _ _ s' st (it_t (H := H') h1 h2)⟩
          exact tArg_mono (tA1 key) fun v H1 ⟨_, e, z⟩ => by cases e; exact z
        | none => exact ps.elim
        | bool _ => exact ps.elim
        | int _ => exact ps.elim
        | str _ => exact ps.elim
        | dict _ => exact ps.elim
end
end Dy
namespace Dy
open PySem PySem.Spec PyProof.Rows L2
section
variable {g : G} {X : Cx} {a b c e : Expr} {es : List Expr} {pos p tpos : Pos} {σ : St} {H : Hp} {elts : List Expr} {kk : Nat} {tg : Expr}
def rng (lo : Int) (n : Nat) : List PyData := (List.range n).map fun k : Nat => PyData.int (lo + (k : Int))
theorem it_r {K : PySem.W.Frag} {I : Hp} {lo : Int} {n : Nat} : ItOk K I (Itr lo n) (rng lo n) := fun I2 H2 i s1 s2 => by
  unfold rng
  refine ⟨fun d hd => ?_, fun e => ?_⟩
  · rw [List.getElem?_map] at hd
    cases q : (List.range n)[i]? with
    | none => rw [q] at hd; cases hd
    | some k =>
      rw [q] at hd; cases hd
      obtain ⟨hk, e⟩ := List.getElem?_eq_some_iff.mp q
      rw [List.length_range] at hk
      rw [List.getElem_range] at e
      subst e
      refine ⟨hk, fun x H' y => ?_⟩
      obtain ⟨rfl, rfl⟩ := y
      exact ⟨I2, Grow.val s2 (.int _)⟩
  · rw [List.length_map, List.length_range] at e
    exact Nat.le_of_eq e
def fR1 (x : AF) : IF := fun env => evA [x] env >>= fun r => match ints1 (rsvs r.2 r.1) with
  | some n => if n ≤ 1000000000 ∧ -1000000000 ≤ n then .ok (rng 0 n.toNat, r.2) else .no
  | none => .no
theorem di_r1 {x : AF} (hg : Gl X "range") (hm : X.mg "range" = none) (ha : DA g X [a] [x]) (hs : starEach [a] X.env = [(false, eval a X.env)] := by rfl) : DI g X tg (.Call (.Name "range" p) [a] [] pos) (fR1 x) :=
  PI.imp (pi_range1 hg hm ha hs) fun σ H R h => by
    obtain ⟨I, env, F, s, p⟩ := h
    refine ⟨I, env, F, s, post_mono (post_bind.mp p) (fun r q vs H' I' F' s' st av => ?_) fun _ z => z⟩
    cases q2 : ints1 (rsvs r.2 r.1) with
    | none => simp only [q2] at q; exact q.elim
    | some n =>
      simp only [q2] at q
      by_cases hz : n ≤ 1000000000 ∧ -1000000000 ≤ n
      · rw [if_pos hz] at q
        match vs, rsvs_rep s' av (ints1_inv q2) with
        | _, .cons r1 .nil =>
          cases rpss_int r1
          exact ⟨n, rfl, by omega, by omega, q _ _ _ _ s' st it_r⟩
      · rw [if_neg hz] at q; exact q.elim
def fR2 (x y : AF) : IF := fun env => evA [x, y] env >>= fun r => match ints2 (rsvs r.2 r.1) with
  | some n => if n.1 ≤ 1000000000 ∧ -1000000000 ≤ n.1 ∧ n.2 ≤ 1000000000 ∧ -1000000000 ≤ n.2 then .ok (rng n.1 (n.2 - n.1).toNat, r.2) else .no
  | none => .no
theorem di_r2 {x y : AF} (hg : Gl X "range") (hm : X.mg "range" = none) (ha : DA g X [a, b] [x, y]) (hs : starEach [a, b] X.env = [(false, eval a X.env), (false, eval b X.env)] := by rfl) (hs2 : starEach [b] X.env = [(false, eval b X.env)] := by rfl) :
    DI g X tg (.Call (.Name "range" p) [a, b] [] pos) (fR2 x y) := PI.imp (pi_range2 hg hm ha hs hs2) fun σ H R h => by
    obtain ⟨I, env, F, s, p⟩ := h
    refine ⟨I, env, F, s, post_mono (post_bind.mp p) (fun r q vs H' I' F' s' st av => ?_) fun _ z => z⟩
    cases q2 : ints2 (rsvs r.2 r.1) with
    | none => simp only [q2] at q; exact q.elim
    | some n =>
      obtain ⟨i, j⟩ := n
      simp only [q2] at q
      by_cases hz : i ≤ 1000000000 ∧ -1000000000 ≤ i ∧ j ≤ 1000000000 ∧ -1000000000 ≤ j
      · rw [if_pos hz] at q
        match vs, rsvs_rep s' av (ints2_inv q2) with
        | _, .cons r1 (.cons r2 .nil) =>
          cases rpss_int r1
          cases rpss_int r2
          exact ⟨i, j, rfl, ⟨by omega, by omega, by omega, by omega⟩, q _ _ _ _ s' st it_r⟩
      · rw [if_neg hz] at q; exact q.elim
def enumD : Nat → List PyData → List PyData
  | _, [] => []
  | i, d :: ds => .tuple [.int (i : Nat), d] :: enumD (i + 1) ds
theorem enumD_at : ∀ {ds : List PyData} {k i : Nat} {x : PyData}, (enumD k ds)[i]? = some x → ∃ d, ds[i]? = some d ∧ x = .tuple [.int ((k + i : Nat) : Int), d]
  | [], _, _, _, h => by simp [enumD] at h
  | d :: ds, k, 0, x, h => by
    unfold enumD at h
    simp at h; subst h
    exact ⟨d, rfl, rfl⟩
  | d :: ds, k, i + 1, x, h => by
    unfold enumD at h
    obtain ⟨y, h1, h2⟩ := enumD_at (ds := ds) (k := k + 1) (i := i) (x := x) (by simpa using h)
    exact ⟨y, by simpa using h1, by rw [h2]; congr 3; omega⟩
theorem enumD_len : ∀ (ds : List PyData) (k : Nat), (enumD k ds).length = ds.length
  | [], _ => rfl
  | d :: ds, k => by unfold enumD; rw [List.length_cons, enumD_len ds, List.length_cons]
def zipD : List PyData → List PyData → List PyData
  | x :: xs, y :: ys => .tuple [x, y] :: zipD xs ys
  | _, _ => []
theorem sqX_of {K : PySem.W.Frag} {I : Hp} {v : V} {d : PyData} {xs : List PyData} (h : Rp K I v d) (e : seqOf d = some xs) : ∃ a t vs, v = .ref a ∧ (∀ I', Same I I' → SqX t K I' a vs) ∧ RpAll K I vs xs := by
  cases h with
  | lst h1 h2 => cases e; exact ⟨_, false, _, rfl, fun I' s => (h1.mono s).sq, h2⟩
  | tup h1 h2 => cases e; exact ⟨_, true, _, rfl, fun I' s => same_t s h1, h2⟩
  | non => cases e
  | bl => cases e
  | int => cases e
  | str => cases e
  | dic => cases e
  | dit => cases e
theorem growT {K : PySem.W.Frag} {I H : Hp} {T : Addr} {vs : List V} {ds : List PyData} (s : Same I H) (n : H T = none) (r : RpAll K I vs ds) : ∃ I', Grow K I H I' (upd H T (.tup vs)) (.fr (.tuple ds)) (.ref T) [] := ⟨_, Grow.tup s n r⟩
def fEn (x : AF) : IF := fun env => fSq x env >>= fun r => .ok (enumD 0 r.1, r.2)
theorem di_en {x : AF} (hg : Gl X "enumerate") (hm : X.mg "enumerate" = none) (ha : DA g X [a] [x]) (hK : X.K = g.K := by rfl) (hs : starEach [a] X.env = [(false, eval a X.env)] := by rfl) : DI g X (.Tuple elts kk tpos) (.Call (.Name "enumerate" p) [a] [] pos) (fEn x) :=
  PI.imp (pi_en hg hm ha hs) fun σ H R h => by
    obtain ⟨I, env, F, s, p⟩ := h
    unfold fEn fSq at p
    refine ⟨I, env, F, s, post_mono (post_bind.mp (post_bind.mp p)) (fun r q vs H' I' F' s' st av => ?_) fun _ z => z⟩
    cases q2 : dvs r.1 with
    | none => simp only [q2] at q; exact q.elim
    | some ds =>
      simp only [q2] at q
      match ds, vs, dvs_rep av q2 with
      | [], _, .nil => exact q.elim
      | _ :: _ :: _, _, .cons _ (.cons _ _) => exact q.elim
      | [d], [v], .cons rp .nil =>
        cases q3 : seqOf d with
        | none => simp only [q3] at q; exact q.elim
        | some xs =>
          simp only [q3] at q
          obtain ⟨a, t, ws, rfl, hq, ra⟩ := sqX_of rp q3
          rw [hK]
          refine ⟨a, t, ws, rfl, hq H' s'.sub, q _ _ _ _ s' st fun I2 H2 i s1 s2 => ⟨fun z hz => ?_, fun e => ⟨ws, hq H2 (s1.trans s2), by rw [ra.length, ← e, enumD_len]⟩⟩⟩
          obtain ⟨x, hx, rfl⟩ := enumD_at hz
          obtain ⟨w, hw, rw'⟩ := ra.get hx
          refine ⟨⟨ws, w, hq H2 (s1.trans s2), hw⟩, fun y H3 hy => ?_⟩
          obtain ⟨T, x', rfl, nT, rfl, hy⟩ := hy
          have := hy ws (hq H2 (s1.trans s2))
          rw [hw] at this; cases this
          rw [Nat.zero_add]
          exact growT s2 nT (.cons (.int _) (.cons (rw'.mono s1) .nil))
def fZp (x y : AF) : IF := fun env => evA [x, y] env >>= fun r => match dvs r.1 with
  | some [d, e] => match seqOf d, seqOf e with
    | some xs, some ys => .ok (zipD xs ys, r.2)
    | _, _ => .no
  | _ => .no
theorem Sim.own {K : PySem.W.Frag} {π : Pn} {I H : Hp} {σ : St} {env : Env} {F : Nat → List Addr} {i : Nat} {ds : List PyData} (s : Sim K π I H σ env F) (q : env[i]? = some (some (.ol ds))) :
    ∃ a vs, σ[i]? = some (some (.ref a)) ∧ H a = some (.lst vs) ∧ RpAll K I vs ds ∧ ∀ vs' ds', RpAll K I vs' ds' → AftS K π I H F σ (env.set i (some (.ol ds'))) (upd H a (.lst vs')) := by
  obtain ⟨v, e1, a, vs, rfl, hF, h1, h2⟩ := s.rep i _ q
  refine ⟨a, vs, e1, h1, h2, fun vs' ds' r => ?_⟩
  have hi : i < env.length := by
    cases Nat.lt_or_ge i env.length with
    | inl h => exact h
    | inr h => rw [List.getElem?_eq_none h] at q; cases q
  have ha : a ∈ F i := by rw [hF]; simp
  have nI := s.djI i a ha
  have ne : ∀ j, j ≠ i → ∀ b ∈ F j, b ≠ a := fun j hj b hb e => by subst e; exact hj (s.dis j i b hb ha)
  refine ⟨I, upF F i [a], ?_, Step.of4 (Same.refl _) (fun b o h n => ?_) (fun b h => ?_) (fun _ _ h => .inl h)⟩
  · have := s.put (i := i) (x := some (.ol ds')) (sv := some (.ref a)) (R := [a]) (H' := upd H a (.lst vs')) hi (Same.refl _) (fun b o h => ?_) (fun j hj b hb => ?_) (fun j _ b hb => s.djI j b hb) (fun b hb => ?_) (fun j hj b hb h => ?_) (fun o e => ?_) (fun e => by cases e) (fun hp => ?_) (s.ktO ha)
    · rw [set_same e1] at this; exact this
    · rw [upd_ne (fun e => by subst e; rw [nI] at h; cases h)]; exact s.sub b o h
    · rw [upd_ne (ne j hj b hb)]
    · simp at hb; subst hb; exact nI
    · simp at h; exact ne j hj b hb h
    · cases e; exact ⟨_, rfl, a, vs', rfl, rfl, upd_same, r⟩
    · have := s.pin i hp; rw [e1] at this; exact Option.some.inj this
  · rw [upd_ne (fun e => by subst e; exact n ⟨i, ha⟩)]; exact h
  · rcases ow_up h with z | z
    · exact .inl z
    · simp at z; subst z; exact .inl ⟨i, ha⟩
/-- x.append(e) -/
def fApp (i : Nat) (f : EF) : SF := fun env => match env[i]? with
  | some (some (.ol _)) => f env >>= fun r => match r.2[i]? with
    | some (some (.ol ds)) => if ds.length < 1000000 then .ok (.nx, r.2.set i (some (.ol (ds ++ [r.1.data])))) else .no
    | _ => .no
  | _ => .no
theorem ds_app {i : Nat} {x : Str} {px apos cpos spos : Pos} {f : EF} (hx : PE X (.Name x px) (tVar i)) (he : DE g X e f)
    (h2 : attributeBase (.Name x px) "append" X.env (eval (.Name x px) X.env) = eval (.Name x px) X.env := by rfl)
    (h3 : ((backTo cpos (starEach [e] X.env)).all (fun x => !x.1) && (backToKw cpos (keywordEach [] X.env)).all (fun x => x.1.isSome)
      && decide ([e].length + ([] : List Keyword).length + (if ([] : List Keyword).isEmpty then 0 else 1) < 30)) = true := by rfl)
    (h4 : (apos.endLine == cpos.line) = true := by rfl) (h5 : starEach [e] X.env = (false, eval e X.env) :: starEach [] X.env := by rfl)
    (hs : swapsWith (.Call (.Attribute (.Name x px) "append" apos) [e] [] cpos) none spos.line X.env = pure false := by rfl) :
    DS g X (.Expr (.Call (.Attribute (.Name x px) "append" apos) [e] [] cpos) spos) (fApp i f) := PS.imp (ps_expr (pe_bm PySem.F.plainAttrs_list PySem.F.slot_list_append PySem.F.type_list_append mt_append hx (pa_cons he pa_nil h5) h2 h3 h4 h5 rfl) hs) fun D σ H q => by
  obtain ⟨I, env, F, s, p⟩ := q
  unfold fApp at p
  split at p
  · rename_i ds0 q0
    obtain ⟨a, vs, e1, h1, h2, _⟩ := s.own q0
    refine ⟨.ref a, e1, .inl ⟨rfl, vs, SqL.of h1⟩, ?_⟩
    refine tD_seq s p fun r v H1 af q => ?_
    obtain ⟨I', F', rp, s', st⟩ := af.frz
    split at q
    · rename_i ds q1
      by_cases hz : ds.length < 1000000
      · rw [if_pos hz] at q
        obtain ⟨a', vs', e1', h1', h2', up⟩ := s'.own q1
        rw [e1] at e1'; cases e1'
        exact ⟨a, vs', v, rfl, rfl, h1', by rw [h2'.length]; exact Nat.lt_of_lt_of_le hz (by decide), q _ _ (AftS.trans st (up _ _ (h2'.app (.cons rp .nil))))⟩
      · rw [if_neg hz] at q; exact q.elim
    · exact q.elim
  · exact p.elim
/-- x[k] = e -/
def fSetI (i : Nat) (y : AF) (f : EF) : SF := fun env => f env >>= fun r => match r.2[i]? with
  | some (some (.ol _)) => evA [y] r.2 >>= fun q => match ints1 (rsvs q.2 q.1) with
    | none => .no
    | some k => match q.2[i]? with
      | some (some (.ol ds)) => match ixN ds.length k with
        | some j => .ok (.nx, q.2.set i (some (.ol (ds.set j r.1.data))))
        | none => .no
      | _ => .no
  | _ => .no
theorem ds_setI {i : Nat} {x : Str} {px spos : Pos} {f : EF} {y : AF} (hx : PE X (.Name x px) (tVar i)) (hk : DX g X b y) (he : DE g X e f)
    (ha : ∀ v, assign (.Subscript (.Name x px) b pos) X.env v = (do
      let ov ← holding [v] (eval (.Name x px) X.env)
      let iv ← holding [v, ov] (eval b X.env)
      standAt pos
      holding [v, ov, iv] (setItem ov iv v)
      release [v, ov, iv] []) := by intro _; rfl)
    (hs : swapsWithSole [.Subscript (.Name x px) b pos] e spos.line X.env = pure false := by rfl) (hw : swappedStores [.Subscript (.Name x px) b pos] e X.env = pure none := by rfl)
    (h1 : (assignEach [.Subscript (.Name x px) b pos] X.env).map (·.2) = [assign (.Subscript (.Name x px) b pos) X.env] := by rfl) :
    DS g X (.Assign [.Subscript (.Name x px) b pos] e spos) (fSetI i y f) := PS.imp (ps_asg he (pg_sub hx hk set_list ha) hs hw h1) fun D σ H q => by
  obtain ⟨I, env, F, s, p⟩ := q
  refine tD_seq s p fun r v H1 af q => ?_
  obtain ⟨I', F', rp, s', st⟩ := af.frz
  split at q
  · rename_i ds0 q0
    obtain ⟨w, hw, _⟩ := s'.rep i _ q0
    refine ⟨w, hw, ?_⟩
    refine tArg_mono (tA1 (R := fun vs H3 => ∃ u, vs = [u] ∧ rSetL w u v H3 fun H4 => D.nx σ H4) ⟨I', r.2, F', s', post_mono (post_bind.mp q) (fun r3 q3 vs3 H3 I3 F3 s3 st3 av3 => ?_) fun x zz => err_step st zz⟩) fun u H3 ⟨_, e3, z⟩ => by cases e3; exact z
    cases q5 : ints1 (rsvs r3.2 r3.1) with
    | none => simp only [q5] at q3; exact q3.elim
    | some k =>
      simp only [q5] at q3
      have rr3 := rsvs_rep s3 av3 (ints1_inv q5)
      match vs3, rr3 with
      | _, .cons r1 .nil =>
        cases rpss_int r1
        refine ⟨_, rfl, ?_⟩
        split at q3
        · rename_i ds q6
          obtain ⟨a, vs, e1, h1, h2, up⟩ := s3.own q6
          rw [hw] at e1; cases e1
          cases q7 : ixN ds.length k with
          | none => simp only [q7] at q3; exact q3.elim
          | some j =>
            simp only [q7] at q3
            exact ⟨a, vs, k, j, rfl, rfl, h1, by rw [h2.length]; exact q7, q3 _ _ (AftS.trans (st.trans st3) (up _ _ (h2.sets j (rp.mono st3.i1))))⟩
        · exact q3.elim
  · exact q.elim
end
end Dy
namespace Dy
open PySem PySem.Spec PyProof.Rows L2
mutual
def rw8 : PyData → Nat
  | .none => 4
  | .bool _ => 5
  | .int i => i.natAbs.log2 + 2
  | .str x => (reprText x).length
  | .list xs => rw8s xs + 2
  | .tuple xs => rw8s xs + 2
  | .dict _ => 0
def rw8s : List PyData → Nat
  | [] => 0
  | x :: xs => rw8 x + 2 + rw8s xs
end
theorem listText_le (ts : List Str) : (listText ts).length ≤ piled ts + 2 := by
  cases ts with
  | nil => decide +kernel
  | cons t r =>
    have h := textFrom_length_pos r 1 (("[" : Str) ++ (if (0 : Nat) > 0 then ", " else "" : String) ++ t) (Nat.succ_pos 0)
    have e : ((("[" : Str) ++ (if (0 : Nat) > 0 then ", " else "" : String) ++ t)).length = 1 + t.length := by
      rw [strLen_append, strLen_append]; rfl
    have hX : (listText (t :: r)).length = (textFrom 0 "[" (t :: r)).length + 1 := by
      show (textFrom 0 "[" (t :: r) ++ "]").length = _
      rw [strLen_append]; rfl
    have hY : (textFrom 0 "[" (t :: r)).length = (textFrom 1 (("[" : Str) ++ (if (0 : Nat) > 0 then ", " else "" : String) ++ t) r).length := rfl
    rw [hX, hY, h, e, piled_cons]; omega
mutual
theorem shown_len : ∀ d : PyData, d.canLay0 = true → d.shown.length ≤ rw8 d
  | .none, _ => by decide +kernel
  | .bool b, _ => by cases b <;> decide +kernel
  | .int i, _ => by
    show (Str.ofString (toString i)).length ≤ i.natAbs.log2 + 2
    rw [PySem.ofString_length]
    exact int_text_length_le (k := i.natAbs.log2 + 1) (by omega) (by omega)
  | .str x, _ => Nat.le_refl _
  | .list xs, h => by
    have := shown_len_all xs (by simpa [PyData.canLay0] using h)
    have := listText_le (PyData.shownAll xs)
    show (listText (PyData.shownAll xs)).length ≤ rw8s xs + 2
    omega
  | .tuple xs, h => by
    have := shown_len_all xs (by simpa [PyData.canLay0] using h)
    have := fmt_text (PyData.shownAll xs)
    show (tupleText (PyData.shownAll xs)).length ≤ rw8s xs + 2
    omega
  | .dict _, h => by simp [PyData.canLay0] at h
theorem shown_len_all : ∀ ds : List PyData, PyData.canLayAll0 ds = true → piled (PyData.shownAll ds) ≤ rw8s ds
  | [], _ => Nat.le_refl _
  | d :: ds, h => by
    have h' : d.canLay0 = true ∧ PyData.canLayAll0 ds = true := by simpa [PyData.canLayAll0] using h
    have h1 := shown_len d h'.1
    have h2 := shown_len_all ds h'.2
    show piled (d.shown :: PyData.shownAll ds) ≤ rw8 d + 2 + rw8s ds
    rw [piled_cons]
    omega
end
def rOk (d : PyData) : Bool := d.canLay0 && (d.showable && decide (d.depth ≤ 64 ∧ rw8 d ≤ 16777216))
def pRepr (d : PyData) : Option O := if rOk d = true then some (.fr (.str d.shown)) else none
section
variable {X : Cx}
def rRepr (K : PySem.W.Frag) : List V → Hp → VK → Prop := fun xs H Q => ∃ x d, xs = [x] ∧ Dp K H x d ∧ d.showable = true ∧ d.hasDict = false ∧ d.depth ≤ 64 ∧ d.shown.length ≤ sizeLine ∧ Q (.str d.shown) H
theorem cr_repr {k : Nat} (hg : X.A.guards = some []) (hr : Room k X.A) : CallR X (.builtin "repr") (rRepr X.K) := by
  intro pins s σ H xs us Q J r h
  obtain ⟨x, d, rfl, hd, h1, h2, h3, h4, q⟩ := h
  obtain ⟨u, rfl, ru⟩ := vals1 r
  obtain ⟨as, rd⟩ := Dp.reads J d x u hd ru
  have hu := hr.un
  cases rd with
  | none => exact PySem.P.repr_of_none ⟨.str _, H, J.tok _, ⟨_, rfl⟩, q⟩
  | bool b => cases b <;> exact PySem.P.repr_of_bool ⟨.str _, H, J.tok _, ⟨_, rfl⟩, q⟩
  | int i t => exact PySem.P.repr_of_int (by simpa [PyData.showable] using h1) ⟨.str _, H, J.tok _, ⟨_, rfl⟩, q⟩
  | str y t => exact PySem.P.repr_of_str ⟨.str _, H, J.tok _, ⟨_, rfl⟩, q⟩ h4
  | list e1 e2 e3 e4 =>
    exact repr_of_reads' (.list e1 e2 e3 e4) h1 (PyData.noDict_hsm h2) hg (by omega) (fun _ _ z => z) (fun h' u tk k => ⟨.str _, H, J.kept (t' := tk) fun b ob q => k b ob q, ⟨_, rfl⟩, q⟩) h4
  | tuple e1 e2 e3 e4 =>
    exact repr_of_reads' (.tuple e1 e2 e3 e4) h1 (PyData.noDict_hsm h2) hg (by omega) (fun _ _ z => z) (fun h' u tk k => ⟨.str _, H, J.kept (t' := tk) fun b ob q => k b ob q, ⟨_, rfl⟩, q⟩) h4
  | dict e1 e2 e3 e4 e5 => simp [PyData.hasDict] at h2
theorem os_repr {K : PySem.W.Frag} : OpS K (rRepr K) (on1 pRepr) := ops1c fun v d I H Q o s r1 q k => by
  unfold pRepr at q
  split at q
  · rename_i hc
    cases q
    unfold rOk at hc
    simp only [Bool.and_eq_true, decide_eq_true_eq] at hc
    obtain ⟨c1, c2, c3, c4⟩ := hc
    exact ⟨v, d, rfl, r1.dp s c1, c2, PyData.hasDict_of_canLay d c1, c3, Nat.le_trans (shown_len d c1) (Nat.le_trans c4 (by decide)), k _ _ _ _ (Grow.val s (.str _))⟩
  · cases q
end
def pRev : PyData → Option O
  | .list xs => some (.ol xs.reverse)
  | _ => none
section
variable {g : G} {X : Cx} {a b c e : Expr} {es : List Expr} {pos p1 p2 p3 : Pos} {σ : St} {H I : Hp} {env : Env} {F : Nat → List Addr} {D : Ends}
theorem de_rev {x : AF} {k : Nat} (ha : DX g X a x) (hK : X.K = g.K := by rfl) : DE g X (.Subscript a (.Slice none none (some (.UnaryOp .USub (.Constant (.int 1) k p1) p2)) p3) pos) (fOp (on1 pRev) [x]) :=
  PE.imp (pe_revL ha) fun σ H Q h => by
    refine tArg_mono (tA1 (op_key (r := one fun v H1 Q => ∃ a xs, v = V.ref a ∧ SqL X.K H1 a xs ∧ ∀ p, H1 p = none → Q (.ref p) (upd H1 p (.lst xs.reverse))) ?_ h)) fun v H1 q => q
    refine ops1 fun v d I H Q o s r1 q k => ?_
    unfold pRev at q
    split at q
    · cases q
      obtain ⟨a, vs, rfl, h1, h2⟩ := r1.lst s
      exact ⟨a, vs, rfl, by rw [hK]; exact h1.sq, fun p np => k _ _ _ _ (Grow.lst s np h2.rev)⟩
    · cases q
def fPar (i j : Nat) (f1 f2 : EF) : SF := fun env => f1 env >>= fun r1 => f2 r1.2 >>= fun r2 => if i < r2.2.length ∧ j < r2.2.length ∧ i ≠ j then .ok (.nx, (r2.2.set i (some r1.1)).set j (some r2.1)) else .no
theorem par_key {i j : Nat} {f1 f2 : EF} (hi : i ∉ g.pn.1) (hj : j ∉ g.pn.1) (h : tS g (fPar i j f1 f2) D σ H) :
    tD g f1 σ H fun v H1 => tD g f2 σ H1 fun w H2 => ∀ H3, Same H2 H3 → D.nx ((σ.set i (some v)).set j (some w)) H3 := by
  obtain ⟨I, env, F, s, p⟩ := h
  refine tD_seq s p fun r1 v H1 af q => ?_
  obtain ⟨I1, F1, R1, rp1, s1, n1, d1, st1⟩ := af
  have q' : (f2 r1.2 >>= fun r2 => if i < r2.2.length ∧ j < r2.2.length ∧ i ≠ j then Res.ok (Fl.nx, (r2.2.set i (some r1.1)).set j (some r2.1)) else .no).post (FlP g D I H F) (g.err I1 H1 F1) :=
    post_mono q (fun _ z => z) fun x z => err_step (st1.less fun a ha => .inl ha) z
  refine tD_seq s1 q' fun r2 w H2 af2 q2 => ?_
  obtain ⟨I2, F2, R2, rp2, s2, n2, d2, st2⟩ := af2
  intro H3 sm
  by_cases hc : i < r2.2.length ∧ j < r2.2.length ∧ i ≠ j
  · rw [if_pos hc] at q2
    have dm1 : ∀ a ∈ R1, ∃ o, H1 a = some o := rp1.dom
    have k1 : ∀ a ∈ R1, H2 a = H1 a := st2.keeps rp1.domN fun a ha hz => d1 a hz ha
    have dm2 : ∀ a ∈ R2, ∃ o, H2 a = some o := rp2.dom
    have nI2 : ∀ a ∈ R1, I2 a = none := fun a ha => by
      cases q : I2 a with
      | none => rfl
      | some u =>
        rcases st2.i' a u q with z | z | z
        · rw [n1 a ha] at z; cases z
        · exact (d1 a z ha).elim
        · obtain ⟨o, ho⟩ := dm1 a ha; rw [z] at ho; cases ho
    have dF2 : ∀ a, Ow F2 a → a ∉ R1 := fun a ha hr => by
      rcases st2.s' a (.inl ha) with z | z
      · exact d1 a z hr
      · obtain ⟨o, ho⟩ := dm1 a hr; rw [z] at ho; cases ho
    have dR : ∀ a ∈ R1, a ∉ R2 := fun a hr h2 => by
      rcases st2.s' a (.inr h2) with z | z
      · exact d1 a z hr
      · obtain ⟨o, ho⟩ := dm1 a hr; rw [z] at ho; cases ho
    have k3 : ∀ a o, H2 a = some o → H3 a = some o := fun a o h => sm a o h
    have e3 : ∀ {a}, (∃ o, H2 a = some o) → H3 a = H2 a := fun {a} ⟨o, h⟩ => by rw [h, k3 a o h]
    have s3 : Sim g.K g.pn I2 H3 σ r2.2 F2 := s2.heap (Same.refl _) (s2.sub.trans sm) (fun a ha => e3 (s2.domO ha)) (fun a ⟨l, hl⟩ => s2.djI l a hl) (fun a ps h => sm a _ h)
    have r1' : RepO g.K I2 H3 r1.1 v R1 := rp1.mono st2.i1 fun a ha => by
      rw [e3 (by obtain ⟨o, ho⟩ := dm1 a ha; exact ⟨o, by rw [k1 a ha]; exact ho⟩), k1 a ha]
    have r2' : RepO g.K I2 H3 r2.1 w R2 := rp2.mono (Same.refl _) fun a ha => e3 (dm2 a ha)
    have s4 : Sim g.K g.pn I2 H3 (σ.set i (some v)) (r2.2.set i (some r1.1)) (upF F2 i R1) :=
      s3.put hc.1 (Same.refl _) s3.sub (fun _ _ _ _ => rfl) (fun l _ a ha => s3.djI l a ha) nI2 (fun l _ a ha => dF2 a ⟨l, ha⟩) (fun o e => by cases e; exact ⟨v, rfl, r1'⟩) (fun e => by cases e) (fun h => absurd h hi)
    have s5 : Sim g.K g.pn I2 H3 ((σ.set i (some v)).set j (some w)) ((r2.2.set i (some r1.1)).set j (some r2.1)) (upF (upF F2 i R1) j R2) :=
      s4.put (by rw [List.length_set]; exact hc.2.1) (Same.refl _) s4.sub (fun _ _ _ _ => rfl) (fun l _ a ha => s4.djI l a ha) n2 (fun l _ a ha hr => by
        rcases ow_up (⟨l, ha⟩ : Ow (upF F2 i R1) a) with z | z
        · exact d2 a z hr
        · exact dR a z hr) (fun o e => by cases e; exact ⟨w, rfl, r2'⟩) (fun e => by cases e) (fun h => absurd h hj)
    refine q2 _ _ ⟨I2, _, s5, ?_⟩
    have stA := st2.aside (fun a => a ∈ R1) dm1 (fun a ha hz => d1 a hz ha)
    refine (st1.trans stA).trans (Step.of4 (Same.refl _) (fun a o h _ => k3 a o h) (fun a ha => ?_) (fun a o h => .inl h))
    rcases ow_up ha with z | z
    · rcases ow_up z with y | y
      · exact .inl (.inl (.inl y))
      · exact .inl (.inr y)
    · exact .inl (.inl (.inr z))
  · rw [if_neg hc] at q2; exact q2.elim
theorem ds_par {i j : Nat} {x y : Str} {f1 f2 : EF} {px py pt : Pos} {kt k2 pt2} (hpi : i ∉ g.pn.1) (hpj : j ∉ g.pn.1) (hc : X.calm = true) (hN : X.N.Nodup) (hi : X.N[i]? = some x) (hj : X.N[j]? = some y) (hij : i ≠ j)
    (hx : X.env.scope.names.lookup x = some .local) (hy : X.env.scope.names.lookup y = some .local) (ha : DE g X a f1) (hb : DE g X b f2)
    (hw : swappedStores [.Tuple [.Name x px, .Name y py] kt pt] (.Tuple [a, b] k2 pt2) X.env = pure (some [x, y]) := by rfl)
    (h1 : starEach [a, b] X.env = (false, eval a X.env) :: starEach [b] X.env := by rfl) (h2 : starEach [b] X.env = (false, eval b X.env) :: starEach [] X.env := by rfl)
    (hs : swapsWithSole [.Tuple [.Name x px, .Name y py] kt pt] (.Tuple [a, b] k2 pt2) pos.line X.env = pure false := by rfl) :
    DS g X (.Assign [.Tuple [.Name x px, .Name y py] kt pt] (.Tuple [a, b] k2 pt2) pos) (fPar i j f1 f2) := PS.imp (ps_par hc hN hi hj hij hx hy (pa_cons ha (pa_cons hb pa_nil h2) h1) hw hs) fun D σ H h => by
  refine tArg_mono (x := .v f1) (par_key hpi hpj h) fun v H1 q => tArg_mono (x := .v f2) q fun w H2 q => ?_
  exact ⟨v, w, rfl, q H2 (Same.refl _)⟩
/-- one of the names is a cell -/
theorem ds_parC {i j : Nat} {tg : Expr} {f1 f2 : EF} {k2 pt2} (hpi : i ∉ g.pn.1) (hpj : j ∉ g.pn.1) (hg : PG X tg (rdT g.K (.tu [i, j]))) (ha : DE g X a f1) (hb : DE g X b f2)
    (h1 : starEach [a, b] X.env = (false, eval a X.env) :: starEach [b] X.env := by rfl) (h2 : starEach [b] X.env = (false, eval b X.env) :: starEach [] X.env := by rfl)
    (hs : swapsWithSole [tg] (.Tuple [a, b] k2 pt2) pos.line X.env = pure false := by rfl) (hw : swappedStores [tg] (.Tuple [a, b] k2 pt2) X.env = pure none := by rfl)
    (h3 : (assignEach [tg] X.env).map (·.2) = [assign tg X.env] := by rfl) :
    DS g X (.Assign [tg] (.Tuple [a, b] k2 pt2) pos) (fPar i j f1 f2) := PS.imp (ps_asg (pe_tup (pa_cons ha (pa_cons hb pa_nil h2) h1)) hg hs hw h3) fun D σ H h => by
  refine tArg_mono (x := .v f1) (par_key hpi hpj h) fun v H1 q => tArg_mono (x := .v f2) q fun w H2 q => ?_
  refine ⟨by show 2 ≤ sizeLine; decide, fun p np => ?_⟩
  exact ⟨_, _, rfl, SqT.of upd_same, rfl, _, _, rfl, _, _, rfl, rfl, q _ (same_new np)⟩
end
end Dy
namespace Dy
open PySem PySem.Spec PyProof.Rows L2
/-- a def of the module by its mirror -/
def CallOk (P : Program) (w : World) (K : PySem.W.Frag) (mg : Str → Option Value) (T : List (Addr × Str)) (k : Nat) (x : Str) (ps : List Str) (m : Fn) : Prop :=
  ∃ f fd, mg x = some (.ref f) ∧ PySem.W.keepIn K (.ref f) = true ∧ Binds K fd ps [] ∧ ∀ base, FnG P w K mg base k f fd ps (spD K mg T m)
theorem CallOk.mono {P : Program} {w : World} {K : PySem.W.Frag} {mg : Str → Option Value} {T : List (Addr × Str)} {j k : Nat} {x : Str} {ps : List Str} {m : Fn} (h : CallOk P w K mg T j x ps m) (l : j ≤ k) : CallOk P w K mg T k x ps m := by
  obtain ⟨f, fd, h1, h2, h3, h4⟩ := h
  exact ⟨f, fd, h1, h2, h3, fun b => (h4 b).mono l⟩
theorem callOk_of {T : List (Addr × Str)} {P : Program} {w : World} {K : PySem.W.Frag} {mg : Str → Option Value} {k : Nat} {x qual : Str} {st : Stmt} {f : Addr} {fd : FuncData} {ps : List Str} {m : Fn} (F : Fun K x qual st f fd) (hm : mg x = some (.ref f)) (hb : Binds K fd ps []) (h : ∀ base, FnG P w K mg base k f fd ps (spD K mg T m)) : CallOk P w K mg T k x ps m :=
  ⟨f, fd, hm, F.kp, hb, h⟩
theorem ru64 {k : Nat} {A : Around} (h : Room k A) : A.units + 64 < cLine := by have := h.un; omega
theorem ru65 {k : Nat} {A : Around} (h : Room k A) : A.units + 65 < cLine := by have := h.un; omega
section
variable {T : List (Addr × Str)} {g : G} {X : Cx} {k : Nat} {ps : List Str} {m : Fn} {x : Str} {p pos : Pos} {e : Expr} {es : List Expr} {as : List AF}
theorem dcall (c : CallOk X.prog X.w X.K X.mg T k x ps m) (hgd : X.A.guards = some []) (hr : Room k X.A) (hg : Gl X x) (hx : Passes (L2.CX X.prog X.w) X g.E)
    (ha : DA g X (e :: es) as) (hK : g.K = X.K := by rfl) (hM : g.mg = X.mg := by rfl) (hT : g.pn.2.2 = T := by rfl) (hdb : (x == ("__debug__" : Str)) = false := by decide) (he : starEach (e :: es) X.env = (false, eval e X.env) :: starEach es X.env := by rfl) (hpl : (backTo pos (starEach es X.env)).any (·.1) = false := by rfl) :
    DE g X (.Call (.Name x p) (e :: es) [] pos) (fCall m as) := by
  obtain ⟨f, fd, h1, h2, h3, h4⟩ := c
  have h5 := h4 X.base
  exact de_call (X := X) (by rw [hK, hM, hT]; exact h5) hgd hr hg h1 h2 h3 hx ha hdb he hpl
end
theorem npn {is rp : List Nat} (h : (is.all fun i => !rp.contains i) = true) : ∀ i ∈ is, i ∉ rp := fun i hi hr => by
  have := List.all_eq_true.mp h i hi
  rw [List.contains_iff_mem.mpr hr] at this
  cases this
theorem np1 {i : Nat} {rp : List Nat} (h : rp.contains i = false) : i ∉ rp := fun hr => by
  rw [List.contains_iff_mem.mpr hr] at h
  cases h
theorem bt_len : bootBuiltins "len" = some (.builtin "len") := by decide +kernel
theorem bt_max : bootBuiltins "max" = some (.builtin "max") := by decide +kernel
theorem bt_min : bootBuiltins "min" = some (.builtin "min") := by decide +kernel
theorem bt_all : bootBuiltins "all" = some (.builtin "all") := by decide +kernel
theorem bt_repr : bootBuiltins "repr" = some (.builtin "repr") := by decide +kernel
theorem bt_isinstance : bootBuiltins "isinstance" = some (.builtin "isinstance") := by decide +kernel
theorem bt_tuple : bootBuiltins "tuple" = some (.type "tuple") := by decide +kernel
theorem bt_int : bootBuiltins "int" = some (.type "int") := by decide +kernel
theorem bt_bool : bootBuiltins "bool" = some (.type "bool") := by decide +kernel
section
variable {X : Cx} {x : Str} {pos : Pos}
/-- a built-in type's name -/
theorem pty {T : String} (hg : Gl X x) (hm : X.mg x = none) (hv : bootBuiltins x = some (.type T)) (hn : x ≠ "__name__" := by decide) (hd : (x == ("__debug__" : Str)) = false := by decide) : PE X (.Name x pos) (tC (.ty T)) := by
  exact pe_bltn hg hm hv rfl hn hd
end
end Dy
namespace Dy
open PySem
section
variable (env : Env) (i j n m : Nat) (f k : EF) (t u : TF) (s s' : SF) (as : List AF) (x y z : AF) (d : PyData)
theorem a_seq : fSeq s s' env = s env >>= fun r => match r.1 with | .nx => s' r.2 | _ => .ok r := rfl
theorem a_ifS : fIfS t s s' env = t env >>= fun r => if r.1 = true then s r.2 else s' r.2 := rfl
theorem a_B : fB f env = f env >>= fun r => match r.1 with | .fr (.bool b) => .ok (b, r.2) | _ => .no := rfl
theorem a_op (g : List PyData → Option O) : fOp g as env = evA as env >>= fun r => match rsvs r.2 r.1 with | none => .no | some ds => match g ds with | none => .no | some o => .ok (o, r.2) := rfl
theorem a_ov (g : List PyData → Option O) : fOv g as env = evA as env >>= fun r => match dvs r.1 with | none => .no | some ds => match g ds with | none => .no | some o => .ok (o, r.2) := rfl
theorem a_ev0 : evA [] env = .ok ([], env) := rfl
theorem a_evv : evA (.v f :: as) env = f env >>= fun r => evA as r.2 >>= fun q => .ok (.d r.1.data :: q.1, q.2) := rfl
theorem a_evs : evA (.s i :: as) env = match env[i]? with | some (some _) => evA as env >>= fun q => .ok (.s i :: q.1, q.2) | _ => .no := rfl
theorem a_C : fC d env = .ok (.fr d, env) := rfl
theorem a_V : fV i env = match env[i]? with | some (some (.fr d)) => .ok (.fr d, env) | some (some o) => .ok (.fr o.data, env.set i (some (.fr o.data))) | _ => .no := rfl
theorem a_M : fM i env = match env[i]? with | some (some o) => .ok (o, env.set i none) | _ => .no := rfl
theorem a_set : fSet i f env = f env >>= fun r => if i < r.2.length then .ok (.nx, r.2.set i (some r.1)) else .no := rfl
theorem a_setI : fSetI i y f env = f env >>= fun r => match r.2[i]? with
  | some (some (.ol _)) => evA [y] r.2 >>= fun q => match Dy.ints1 (rsvs q.2 q.1) with
    | none => .no
    | some k => match q.2[i]? with
      | some (some (.ol ds)) => match L2.ixN ds.length k with
        | some j => .ok (.nx, q.2.set i (some (.ol (ds.set j r.1.data))))
        | none => .no
      | _ => .no
  | _ => .no := rfl
theorem a_app : fApp i f env = match env[i]? with
  | some (some (.ol _)) => f env >>= fun r => match r.2[i]? with
    | some (some (.ol ds)) => if ds.length < 1000000 then .ok (.nx, r.2.set i (some (.ol (ds ++ [r.1.data])))) else .no
    | _ => .no
  | _ => .no := rfl
theorem a_ret : fRet f env = f env >>= fun r => .ok (.rt r.1, r.2) := rfl
theorem a_ex : fEx f env = f env >>= fun r => .ok (.nx, r.2) := rfl
theorem a_skip : fSkip env = .ok (.nx, env) := rfl
theorem a_no : fNo env = .no := rfl
theorem a_not : fNot t env = t env >>= fun r => .ok (!r.1, r.2) := rfl
theorem a_andT : fAndT t u env = t env >>= fun r => if r.1 = true then u r.2 else .ok (false, r.2) := rfl
theorem a_orT : fOrT t u env = t env >>= fun r => if r.1 = true then .ok (true, r.2) else u r.2 := rfl
theorem a_and : fAnd f k env = fB f env >>= fun r => if r.1 = true then k r.2 else .ok (.fr (.bool false), r.2) := rfl
theorem a_or : fOr f k env = fB f env >>= fun r => if r.1 = true then .ok (.fr (.bool true), r.2) else k r.2 := rfl
theorem a_notV : fNotV f env = fB f env >>= fun r => .ok (.fr (.bool (!r.1)), r.2) := rfl
theorem a_if : fIf t f k env = t env >>= fun r => if r.1 = true then f r.2 else k r.2 := rfl
theorem a_par : fPar i j f k env = f env >>= fun r1 => k r1.2 >>= fun r2 => if i < r2.2.length ∧ j < r2.2.length ∧ i ≠ j then .ok (.nx, (r2.2.set i (some r1.1)).set j (some r2.1)) else .no := rfl
theorem a_call (m : Fn) : fCall m as env = evA as env >>= fun r => match rsO r.2 r.1 with | none => .no | some os => if ndS r.1 = true then m os >>= fun q => .ok (q.1, putB r.1 q.2 r.2) else .no := rfl
theorem a_forS (g : IF) (w : Tg) : fForS g w s env = g env >>= fun r => fFor w s r.1 r.2 := rfl
theorem a_sq : fSq x env = evA [x] env >>= fun r => match dvs r.1 with | some [d] => (match seqOf d with | some xs => .ok (xs, r.2) | none => .no) | _ => .no := rfl
theorem a_r1 : fR1 x env = evA [x] env >>= fun r => match Dy.ints1 (rsvs r.2 r.1) with | some n => if n ≤ 1000000000 ∧ -1000000000 ≤ n then .ok (rng 0 n.toNat, r.2) else .no | none => .no := rfl
theorem a_r2 : fR2 x y env = evA [x, y] env >>= fun r => match Dy.ints2 (rsvs r.2 r.1) with | some n => if n.1 ≤ 1000000000 ∧ -1000000000 ≤ n.1 ∧ n.2 ≤ 1000000000 ∧ -1000000000 ≤ n.2 then .ok (rng n.1 (n.2 - n.1).toNat, r.2) else .no | none => .no := rfl
theorem a_en : fEn x env = fSq x env >>= fun r => .ok (enumD 0 r.1, r.2) := rfl
theorem a_zp : fZp x y env = evA [x, y] env >>= fun r => match dvs r.1 with | some [d, e] => (match seqOf d, seqOf e with | some xs, some ys => .ok (zipD xs ys, r.2) | _, _ => .no) | _ => .no := rfl
theorem a_asT (w : Tg) : fAsT w f env = f env >>= fun r => asT w r.1.data r.2 >>= fun e => .ok (.nx, e) := rfl
theorem a_chI (c1 c2 : Int → Int → Bool) : fChI c1 c2 x y z env = evA [x, y] env >>= fun r => match Dy.ints2 (rsvs r.2 r.1) with
  | some ij => if c1 ij.1 ij.2 = true then evA [z] r.2 >>= fun q => match Dy.ints1 (rsvs q.2 q.1) with
      | some k => .ok (.fr (.bool (c2 ij.2 k)), q.2)
      | none => .no
    else .ok (.fr (.bool false), r.2)
  | none => .no := rfl
theorem a_yes : fYes env = .ok (true, env) := rfl
theorem a_lc (g : IF) (vs : List Nat) (w : Tg) : fLc g vs w t f env = g env >>= fun r => lcL vs w t f r.1 (wipeE r.2 vs) [] >>= fun q => .ok (.ol q.1, unw r.2 q.2 vs) := rfl
theorem a_fn (rp : List Nat) (os : List O) : fnM n m rp s os = if os.length = n ∧ okA rp 0 os = true then
    s (os.map some ++ List.replicate (m - n) none) >>= fun r => match bkA rp r.2 0 os with
      | none => .no
      | some os' => match r.1 with
        | .rt o => .ok (o, os')
        | .nx => .ok (.fr .none, os')
        | _ => .no
  else .no := rfl
end
section
variable (i j : Int) (xs ys : List PyData) (d e : PyData) (a b : Str) (t : Bool) (rs : List (List PyData))
theorem d_fr : (O.fr d).data = d := rfl
theorem d_ol : (O.ol xs).data = .list xs := rfl
theorem f_fr : isFr (.fr d) = true := rfl
theorem q_addI : pAdd (.int i) (.int j) = some (.fr (.int (i + j))) := rfl
theorem q_addL : pAdd (.list xs) (.list ys) = if xs.length + ys.length ≤ 1000000 then some (.ol (xs ++ ys)) else none := rfl
theorem q_addT : pAdd (.tuple xs) (.tuple ys) = if xs.length + ys.length ≤ 1000000 then some (.fr (.tuple (xs ++ ys))) else none := rfl
theorem q_addS : pAdd (.str a) (.str b) = if a.length + b.length ≤ 1000000 then some (.fr (.str (a ++ b))) else none := rfl
theorem q_sub : pSub (.int i) (.int j) = some (.fr (.int (i - j))) := rfl
theorem q_div : pDiv (.int i) (.int j) = if 0 < j ∧ j < 1073741824 then some (.fr (.int (i / j))) else none := rfl
theorem q_mod : pMod (.int i) (.int j) = if 0 < j then some (.fr (.int (i % j))) else none := rfl
theorem q_pow : pPow (.int i) (.int j) = if 0 ≤ j ∧ j ≤ 1000000 ∧ i.natAbs < 2 ^ 64 then some (.fr (.int (i ^ j.toNat))) else none := rfl
theorem q_neg : pNeg (.int i) = some (.fr (.int (-i))) := rfl
theorem q_cm (c : Int → Int → Bool) : cmI c (.int i) (.int j) = some (.fr (.bool (c i j))) := rfl
theorem q_isN : isN .none = true := rfl
theorem q_isI : isN (.int i) = false := rfl
theorem q_isS : isN (.str a) = false := rfl
theorem q_isT : isN (.tuple xs) = false := rfl
theorem q_isL : isN (.list xs) = false := rfl
theorem q_isB : isN (.bool t) = false := rfl
theorem q_lenL : pLen (.list xs) = some (.fr (.int xs.length)) := rfl
theorem q_lenT : pLen (.tuple xs) = some (.fr (.int xs.length)) := rfl
theorem q_tupL : pTuple (.list xs) = some (.fr (.tuple xs)) := rfl
theorem q_tupT : pTuple (.tuple xs) = some (.fr (.tuple xs)) := rfl
theorem q_lstL : pList (.list xs) = some (.ol xs) := rfl
theorem q_lstT : pList (.tuple xs) = some (.ol xs) := rfl
theorem q_revL : pRev (.list xs) = some (.ol xs.reverse) := rfl
theorem q_slL : pSl2l (.list xs) (.int i) = some (.ol (cutD xs (some i) none)) := rfl
theorem q_slT : pSl2l (.tuple xs) (.int i) = some (.fr (.tuple (cutD xs (some i) none))) := rfl
theorem q_shL : pSl2h (.list xs) (.int i) = some (.ol (cutD xs none (some i))) := rfl
theorem q_shT : pSl2h (.tuple xs) (.int i) = some (.fr (.tuple (cutD xs none (some i)))) := rfl
theorem q_sqL : seqOf (.list xs) = some xs := rfl
theorem q_sqT : seqOf (.tuple xs) = some xs := rfl
theorem q_intI : pInt (.int i) = some (.fr (.int i)) := rfl
theorem q_max2 : pMax [.int i, .int j] = some (.fr (.int (max i j))) := rfl
theorem q_min2 : pMin [.int i, .int j] = some (.fr (.int (min i j))) := rfl
theorem q_aII : isA .int (.int i) = true := rfl
theorem q_aBI : isA .bool (.int i) = false := rfl
theorem q_aTI : isA .tuple (.int i) = false := rfl
theorem q_aTT : isA .tuple (.tuple xs) = true := rfl
theorem q_aLL : isA .list (.list xs) = true := rfl
theorem q_aTL : isA .tuple (.list xs) = false := rfl
theorem q_aIT : isA .int (.tuple xs) = false := rfl
end
theorem lc_inv {vs : List Nat} {t : Tg} {test : TF} {elt : EF} (P : Nat → Env → List PyData → Prop) (ds : List PyData) {env : Env} {acc : List PyData} (h0 : P 0 env acc)
    (step : ∀ k d e acc, ds[k]? = some d → P k e acc → ∃ e1 b e2, asT t d e = .ok e1 ∧ test e1 = .ok (b, e2) ∧ (b = false → P (k + 1) (wipeE e2 vs) acc) ∧ (b = true → ∃ o e3, elt e2 = .ok (o, e3) ∧ acc.length < 100000 ∧ P (k + 1) (wipeE e3 vs) (acc ++ [o.data]))) :
    ∃ e acc', lcL vs t test elt ds env acc = .ok (acc', e) ∧ P ds.length e acc' := by
  suffices h : ∀ (xs : List PyData) (k : Nat) (env : Env) (acc : List PyData), ds.drop k = xs → k ≤ ds.length → P k env acc → ∃ e acc', lcL vs t test elt xs env acc = .ok (acc', e) ∧ P ds.length e acc' from h ds 0 env acc rfl (Nat.zero_le _) h0
  intro xs
  induction xs with
  | nil =>
    intro k env acc hd hk hp
    have hl : ds.length ≤ k := List.drop_eq_nil_iff.mp hd
    have : k = ds.length := by omega
    subst this
    exact ⟨env, acc, rfl, hp⟩
  | cons x xs ih =>
    intro k env acc hd hk hp
    have hlt : k < ds.length := by
      cases Nat.lt_or_ge k ds.length with
      | inl h => exact h
      | inr h => rw [List.drop_eq_nil_iff.mpr h] at hd; cases hd
    rw [List.drop_eq_getElem_cons hlt] at hd
    cases hd
    obtain ⟨e1, b, e2, a1, a2, pf, pt⟩ := step k _ env acc (List.getElem?_eq_getElem hlt) hp
    unfold lcL
    rw [a1, bind_ok, a2]
    show ∃ e acc', (if b = true then _ else _) = Res.ok (acc', e) ∧ P ds.length e acc'
    cases b with
    | false => exact ih (k + 1) _ acc rfl hlt (pf rfl)
    | true =>
      obtain ⟨o, e3, c1, c2, p⟩ := pt rfl
      rw [if_pos rfl]
      show ∃ e acc', (nE (elt e2) >>= fun r => if acc.length < 100000 then lcL vs t test elt _ (wipeE r.2 vs) (acc ++ [r.1.data]) else .no) = Res.ok (acc', e) ∧ P ds.length e acc'
      rw [c1]
      show ∃ e acc', (if acc.length < 100000 then lcL vs t test elt _ (wipeE e3 vs) (acc ++ [o.data]) else .no) = Res.ok (acc', e) ∧ P ds.length e acc'
      rw [if_pos c2]
      exact ih (k + 1) _ _ rfl hlt p
theorem rng_at {lo : Int} {n k : Nat} {d : PyData} (h : (rng lo n)[k]? = some d) : k < n ∧ d = .int (lo + k) := by
  unfold rng at h
  rw [List.getElem?_map] at h
  cases q : (List.range n)[k]? with
  | none => rw [q] at h; cases h
  | some j =>
    rw [q] at h; cases h
    obtain ⟨hk, e⟩ := List.getElem?_eq_some_iff.mp q
    rw [List.length_range] at hk
    rw [List.getElem_range] at e
    subst e
    exact ⟨hk, rfl⟩
theorem rng_len {lo : Int} {n : Nat} : (rng lo n).length = n := by unfold rng; simp
end Dy
namespace Dy
open PySem PySem.Spec PyProof.Rows L2
theorem Rows.len {K : PySem.W.Frag} {I H : Hp} {as : List Addr} {rs : List (List PyData)} (h : Rows K I H as rs) : as.length = rs.length := by
  induction h with
  | nil => rfl
  | cons _ _ _ ih => simp [ih]
theorem Rows.app {K : PySem.W.Frag} {I H : Hp} {as bs : List Addr} {rs ss : List (List PyData)} (h : Rows K I H as rs) (k : Rows K I H bs ss) : Rows K I H (as ++ bs) (rs ++ ss) := by
  induction h with
  | nil => exact k
  | cons h1 h2 _ ih => exact .cons h1 h2 ih
theorem Rows.at {K : PySem.W.Frag} {I H : Hp} {as : List Addr} {rs : List (List PyData)} (h : Rows K I H as rs) : ∀ {k : Nat} {r : List PyData}, rs[k]? = some r → ∃ a us, as[k]? = some a ∧ H a = some (.lst us) ∧ RpAll K I us r := by
  induction h with
  | nil => intro k r e; simp at e
  | cons h1 h2 _ ih =>
    intro k r e
    cases k with
    | zero => simp at e; subst e; exact ⟨_, _, rfl, h1, h2⟩
    | succ k =>
      obtain ⟨a, us, e1, e2, e3⟩ := ih (k := k) (r := r) (by simpa using e)
      exact ⟨a, us, by simpa using e1, e2, e3⟩
theorem Rows.put {K : PySem.W.Frag} {I H : Hp} {as : List Addr} {rs : List (List PyData)} (h : Rows K I H as rs) (nd : as.Nodup) : ∀ {k : Nat} {a : Addr} {us : List V} {r : List PyData}, as[k]? = some a → RpAll K I us r → Rows K I (upd H a (.lst us)) as (rs.set k r) := by
  induction h with
  | nil => intro k a us r e; simp at e
  | @cons b bs vs r0 rs0 h1 h2 h3 ih =>
    intro k a us r e hr
    have ndb : b ∉ bs ∧ bs.Nodup := List.nodup_cons.mp nd
    cases k with
    | zero =>
      simp at e; subst e
      refine .cons upd_same hr (h3.mono (Same.refl _) fun x hx => upd_ne fun z => ?_)
      subst z; exact ndb.1 hx
    | succ k =>
      have e' : bs[k]? = some a := by simpa using e
      have hm : a ∈ bs := List.mem_of_getElem? e'
      refine .cons ?_ h2 (ih ndb.2 e' hr)
      rw [upd_ne fun z => by subst z; exact ndb.1 hm]; exact h1
def lcO (vs : List Nat) (t : Tg) (elt : EF) : List PyData → Env → List (List PyData) → Res (List (List PyData) × Env)
  | [], e, acc => .ok (acc, e)
  | d :: ds, e, acc => asT t d e >>= fun e1 => nE (elt e1) >>= fun r => match r.1 with
    | .ol x => if acc.length < 100000 then lcO vs t elt ds (wipeE r.2 vs) (acc ++ [x]) else .no
    | _ => .no
def fLcO (fi : IF) (vs : List Nat) (t : Tg) (elt : EF) : EF := fun env => fi env >>= fun r => lcO vs t elt r.1 (wipeE r.2 vs) [] >>= fun q => .ok (.oo q.1, unw r.2 q.2 vs)
/-- some addresses stand aside -/
theorem Step.set {I H I1 H1 : Hp} {S S1 : Addr → Prop} (a : Step I H S I1 H1 S1) {T : List Addr} (h : ∀ x ∈ T, ∃ o, H x = some o ∧ NT o) (n : ∀ x ∈ T, ¬ S x) (i : ∀ x ∈ T, I x = none) : (∀ x ∈ T, H1 x = H x) ∧ (∀ x ∈ T, ¬ S1 x) ∧ ∀ x ∈ T, I1 x = none := by
  refine ⟨fun x hx => ?_, fun x hx => ?_, fun x hx => ?_⟩ <;> obtain ⟨o, ho, nt⟩ := h x hx <;> have := a.one ho (n x hx) (i x hx) nt
  · rw [this.1, ho]
  · exact this.2.1
  · exact this.2.2
section
variable {g : G} {X : Cx} {a b c e : Expr} {es : List Expr} {pos : Pos} {σ : St} {H I : Hp} {env : Env} {F : Nat → List Addr}
end
end Dy
namespace Dy
open PySem PySem.Spec PyProof.Rows L2
/-- an int that is read and changes nothing -/
def PI1 (g : G) (t : TE) (z : Env → Option Int) : Prop := ∀ (I H : Hp) (σ : St) (env : Env) (F : Nat → List Addr) (k : Int) (Q : VK), Sim g.K g.pn I H σ env F → z env = some k → Q (.int k) H → t σ H Q
def zN (j : Nat) : Env → Option Int := fun env => match env[j]? with
  | some (some (.fr (.int n))) => some n
  | _ => none
def zC (n : Int) : Env → Option Int := fun _ => some n
section
variable {g : G} {X : Cx} {a b c e : Expr} {es : List Expr} {pos p1 p2 px : Pos} {σ : St} {H I : Hp} {env : Env} {F : Nat → List Addr} {D : Ends}
theorem pi_n {j : Nat} : PI1 g (tVar j) (zN j) := fun I H σ env F k Q s h q => by
  unfold zN at h
  split at h
  · rename_i n q0
    cases h
    obtain ⟨v, e1, r⟩ := s.rep j _ q0
    cases r.2
    exact ⟨_, e1, q⟩
  · cases h
theorem Sim.lt (s : Sim g.K g.pn I H σ env F) {i : Nat} {o : O} (q : env[i]? = some (some o)) : i < env.length := by
  cases Nat.lt_or_ge i env.length with
  | inl h => exact h
  | inr h => rw [List.getElem?_eq_none h] at q; cases q
/-- an owned list of lists: its rows -/
theorem Sim.ownO {i : Nat} {rs : List (List PyData)} (s : Sim g.K g.pn I H σ env F) (q : env[i]? = some (some (.oo rs))) :
    ∃ p as, σ[i]? = some (some (.ref p)) ∧ F i = p :: as ∧ (p :: as).Nodup ∧ H p = some (.lst (as.map V.ref)) ∧ Rows g.K I H as rs ∧
      ∀ (k : Nat) (x : Addr) (us : List V) (r : List PyData), as[k]? = some x → RpAll g.K I us r → AftS g.K g.pn I H F σ (env.set i (some (.oo (rs.set k r)))) (upd H x (.lst us)) := by
  obtain ⟨v, e1, p, as, rfl, hF, nd, h1, h2⟩ := s.rep i _ q
  refine ⟨p, as, e1, hF, nd, h1, h2, fun k x us r hk hr => ?_⟩
  have hx : x ∈ as := List.mem_of_getElem? hk
  have hxF : x ∈ F i := by rw [hF]; exact List.mem_cons_of_mem _ hx
  have hpx : p ≠ x := fun z => by subst z; exact (List.nodup_cons.mp nd).1 hx
  have nI := s.djI i x hxF
  have hi := s.lt q
  have ne : ∀ j, j ≠ i → ∀ b ∈ F j, b ≠ x := fun j hj b hb e => by subst e; exact hj (s.dis j i b hb hxF)
  refine ⟨I, upF F i (p :: as), ?_, Step.of4 (Same.refl _) (fun b o h n => ?_) (fun b h => ?_) (fun _ _ h => .inl h)⟩
  · have := s.put (i := i) (x := some (.oo (rs.set k r))) (sv := some (.ref p)) (R := p :: as) (H' := upd H x (.lst us)) hi (Same.refl _) (fun b o h => ?_) (fun j hj b hb => ?_) (fun j _ b hb => s.djI j b hb) (fun b hb => ?_) (fun j hj b hb h => ?_) (fun o e => ?_) (fun e => by cases e) (fun hp => ?_) (s.ktO hxF)
    · rw [set_same e1] at this; exact this
    · rw [upd_ne (fun e => by subst e; rw [nI] at h; cases h)]; exact s.sub b o h
    · rw [upd_ne (ne j hj b hb)]
    · exact s.djI i b (by rw [hF]; exact hb)
    · exact hj (s.dis j i b hb (by rw [hF]; exact h))
    · cases e; exact ⟨_, rfl, p, as, rfl, rfl, nd, by rw [upd_ne hpx]; exact h1, h2.put (List.nodup_cons.mp nd).2 hk hr⟩
    · have := s.pin i hp; rw [e1] at this; exact Option.some.inj this
  · rw [upd_ne (fun e => by subst e; exact n ⟨i, hxF⟩)]; exact h
  · rcases ow_up h with z | z
    · exact .inl z
    · exact .inl ⟨i, by rw [hF]; exact z⟩
/-- x[y][z] -/
def fIx2 (i : Nat) (y z : Env → Option Int) : EF := fun env => match env[i]?, y env, z env with
  | some (some (.oo rs)), some k, some l => match ixN rs.length k with
    | some j => match rs[j]? with
      | some r => match atI r l with
        | some d => .ok (.fr d, env)
        | none => .no
      | none => .no
    | none => .no
  | _, _, _ => .no
/-- x[y][z] = e -/
def fSetII (i : Nat) (y z : Env → Option Int) (f : EF) : SF := fun env => f env >>= fun r => match r.2[i]?, y r.2, z r.2 with
  | some (some (.oo rs)), some k, some l => match ixN rs.length k with
    | some j => match rs[j]? with
      | some w => match ixN w.length l with
        | some m => .ok (.nx, r.2.set i (some (.oo (rs.set j (w.set m r.1.data)))))
        | none => .no
      | none => .no
    | none => .no
  | _, _, _ => .no
end
end Dy
namespace Dy
open PySem PySem.Spec PyProof.Rows L2
theorem Sim.forget {K : PySem.W.Frag} {π : Pn} {I H : Hp} {σ : St} {env : Env} {F : Nat → List Addr} (s : Sim K π I H σ env F) (vs : List Nat) : Sim K π I H σ (wipeE env vs) (clF F vs) := by
  refine ⟨by rw [wipeE_length, s.len], fun i o q => ?_, fun i q => ?_, fun i j a h1 h2 => ?_, fun i a h => ?_, s.sub, s.pin, s.tab⟩
  · rw [wipeE_at] at q
    by_cases h : i ∈ vs
    · rw [if_pos h] at q; split at q <;> cases q
    · rw [if_neg h] at q
      obtain ⟨v, e1, r⟩ := s.rep i o q
      exact ⟨v, e1, by unfold clF; rw [if_neg h]; exact r⟩
  · unfold clF
    by_cases h : i ∈ vs
    · rw [if_pos h]
    · rw [if_neg h]; exact s.out i fun o z => q o (by rw [wipeE_at, if_neg h]; exact z)
  · unfold clF at h1 h2
    split at h1
    · cases h1
    · split at h2
      · cases h2
      · exact s.dis i j a h1 h2
  · unfold clF at h
    split at h
    · cases h
    · exact s.djI i a h
section
variable {g : G} {X : Cx} {a b c e : Expr} {es : List Expr} {pos p1 p2 px : Pos} {σ : St} {H I : Hp} {env : Env} {F : Nat → List Addr} {D : Ends} {st : Stmt} {sts : List Stmt}
theorem AftS.forget {H1 : Hp} {env' : Env} (af : AftS g.K g.pn I H F σ env' H1) (vs : List Nat) : AftS g.K g.pn I H F σ (wipeE env' vs) H1 := by
  obtain ⟨I', F', s, t⟩ := af
  exact ⟨I', clF F' vs, s.forget vs, t.less fun a h => clF_ow h⟩
theorem Aft.forget {H1 : Hp} {env' : Env} {o : O} {v : V} (af : Aft g.K g.pn I H F σ env' o v H1) (vs : List Nat) : Aft g.K g.pn I H F σ (wipeE env' vs) o v H1 := by
  obtain ⟨I', F', R, r, s, n, d, t⟩ := af
  exact ⟨I', clF F' vs, R, r, s.forget vs, n, fun a h => d a (clF_ow h), t.less fun a h => h.elim (fun z => .inl (clF_ow z)) .inr⟩
/-- behind a statement some slots are forgotten -/
def fWp (vs : List Nat) (f : SF) : SF := fun env => f env >>= fun r => .ok (r.1, wipeE r.2 vs)
theorem wp_key {f : SF} {vs : List Nat} (q : tS g (fWp vs f) D σ H) : tS g f D σ H := by
  obtain ⟨I, env, F, s, p⟩ := q
  refine ⟨I, env, F, s, post_mono (post_bind.mp p) (fun r q => ?_) fun _ z => z⟩
  obtain ⟨fl, e⟩ := r
  cases fl with
  | nx => exact fun σ' H' af => q σ' H' (af.forget vs)
  | bk => exact fun σ' H' af => q σ' H' (af.forget vs)
  | ct => exact fun σ' H' af => q σ' H' (af.forget vs)
  | rt o => exact fun v σ' H' af => q v σ' H' (af.forget vs)
theorem ds_wp {f : SF} (vs : List Nat) (h : DS g X st f) : DS g X st (fWp vs f) := PS.imp h fun D σ H q => wp_key q
/-- a name's thing is frozen -/
def frzE (e : Env) : List Nat → Env
  | [] => e
  | i :: is => match (frzE e is)[i]? with
    | some (some o) => (frzE e is).set i (some (.fr o.data))
    | _ => frzE e is
def fFz (vs : List Nat) (f : SF) : SF := fun env => f env >>= fun r => .ok (r.1, frzE r.2 vs)
theorem AftS.freeze {H1 : Hp} {env' : Env} (af : AftS g.K g.pn I H F σ env' H1) : ∀ vs : List Nat, AftS g.K g.pn I H F σ (frzE env' vs) H1
  | [] => af
  | i :: is => by
    have ih := AftS.freeze af is
    unfold frzE
    split
    · rename_i o q
      obtain ⟨I', F', s, t⟩ := ih
      obtain ⟨v, I2, _, _, s2, t2⟩ := sim_frz s q
      exact ⟨I2, _, s2, t.trans t2⟩
    · exact ih
theorem ds_fz {f : SF} (vs : List Nat) (h : DS g X st f) (hf : ∀ env r, f env = .ok r → r.1 = .nx) : DS g X st (fFz vs f) := PS.imp h fun D σ H q => by
  obtain ⟨I, env, F, s, p⟩ := q
  refine ⟨I, env, F, s, ?_⟩
  have p := post_bind.mp p
  cases q : f env with
  | no => rw [q] at p; exact p
  | er x => rw [q] at p; exact p
  | ok r =>
    rw [q] at p
    have h1 := hf env r q
    obtain ⟨fl, e⟩ := r
    cases h1
    exact fun σ' H' af => p σ' H' (af.freeze vs)
theorem nx_set {i : Nat} {f : EF} : ∀ env r, fSet i f env = .ok r → r.1 = .nx := fun env r h => by
  unfold fSet at h
  cases q : f env with
  | no => rw [q] at h; cases h
  | er x => rw [q] at h; cases h
  | ok y =>
    rw [q, bind_ok] at h
    split at h
    · cases h; rfl
    · cases h
/-- x.extend(e), e a new list -/
def fExt (i : Nat) (f : EF) : SF := fun env => match env[i]? with
  | some (some (.ol _)) => f env >>= fun r => match r.1 with
    | .ol ys => match r.2[i]? with
      | some (some (.ol xs)) => if xs.length + ys.length ≤ 1000000 then .ok (.nx, r.2.set i (some (.ol (xs ++ ys)))) else .no
      | _ => .no
    | _ => .no
  | _ => .no
/-- x.insert(k, e) -/
def insA (xs : List PyData) : Option (List PyData) → Option (List PyData)
  | some [.int k, d] => if xs.length < 1000000 ∧ 0 ≤ k ∧ k < 1000000 then some (xs.take k.toNat ++ [d] ++ xs.drop k.toNat) else none
  | _ => none
def fIns (i : Nat) (as : List AF) : SF := fun env => match env[i]? with
  | some (some (.ol _)) => evA as env >>= fun r => match r.2[i]? with
    | some (some (.ol xs)) => match insA xs (dvs r.1) with
      | some ys => .ok (.nx, r.2.set i (some (.ol ys)))
      | none => .no
    | _ => .no
  | _ => .no
/-- x.pop() -/
def fPop (i : Nat) : EF := fun env => match env[i]? with
  | some (some (.ol xs)) => match xs[xs.length - 1]? with
    | some d => .ok (.fr d, env.set i (some (.ol xs.dropLast)))
    | none => .no
  | _ => .no
theorem RpAll.dropLast {K : PySem.W.Frag} {I : Hp} : ∀ {vs : List V} {ds : List PyData}, RpAll K I vs ds → RpAll K I vs.dropLast ds.dropLast := fun {vs ds} h => by
  rw [List.dropLast_eq_take, List.dropLast_eq_take, h.length]; exact h.takes _
end
end Dy
namespace Dy
open PySem PySem.Spec PyProof.Rows L2
inductive Hold (K : PySem.W.Frag) (I H : Hp) : List O → List V → List (List Addr) → Prop
  | nil : Hold K I H [] [] []
  | cons {o : O} {v : V} {R : List Addr} {os : List O} {vs : List V} {Rs : List (List Addr)} : RepO K I H o v R → Hold K I H os vs Rs → Hold K I H (o :: os) (v :: vs) (R :: Rs)
theorem Hold.snoc {K : PySem.W.Frag} {I H : Hp} {os : List O} {vs : List V} {Rs : List (List Addr)} {o : O} {v : V} {R : List Addr} (h : Hold K I H os vs Rs) (r : RepO K I H o v R) : Hold K I H (os ++ [o]) (vs ++ [v]) (Rs ++ [R]) := by
  induction h with
  | nil => exact .cons r .nil
  | cons a _ ih => exact .cons a ih
theorem Hold.mono {K : PySem.W.Frag} {I H I' H' : Hp} {os : List O} {vs : List V} {Rs : List (List Addr)} (h : Hold K I H os vs Rs) (e : Same I I') (k : ∀ a ∈ Rs.flatten, H' a = H a) : Hold K I' H' os vs Rs := by
  induction h with
  | nil => exact .nil
  | cons r _ ih => exact .cons (r.mono e fun a ha => k a (by simp [ha])) (ih fun a ha => k a (by rw [List.flatten_cons]; exact List.mem_append_right _ ha))
theorem Hold.domN {K : PySem.W.Frag} {I H : Hp} {os : List O} {vs : List V} {Rs : List (List Addr)} (h : Hold K I H os vs Rs) : ∀ a ∈ Rs.flatten, ∃ o, H a = some o ∧ NT o := by
  induction h with
  | nil => intro a ha; cases ha
  | cons r _ ih =>
    intro a ha
    rw [List.flatten_cons] at ha
    rcases List.mem_append.mp ha with h | h
    · exact r.domN a h
    · exact ih a h
theorem Hold.dom {K : PySem.W.Frag} {I H : Hp} {os : List O} {vs : List V} {Rs : List (List Addr)} (h : Hold K I H os vs Rs) : ∀ a ∈ Rs.flatten, ∃ o, H a = some o := fun a ha => let ⟨o, e, _⟩ := h.domN a ha; ⟨o, e⟩
def setO : List Nat → List O → Env → Option Env
  | [], [], e => some e
  | i :: is, o :: os, e => if i < e.length then setO is os (e.set i (some o)) else none
  | _, _, _ => none
def evO : List EF → Env → Res (List O × Env)
  | [], e => .ok ([], e)
  | f :: fs, e => f e >>= fun r => evO fs r.2 >>= fun q => .ok (r.1 :: q.1, q.2)
def fParN (is : List Nat) (fs : List EF) : SF := fun env => evO fs env >>= fun r => match setO is r.1 r.2 with
  | some e => .ok (.nx, e)
  | none => .no
section
variable {g : G} {X : Cx} {a b c e : Expr} {es : List Expr} {pos p1 p2 px : Pos} {σ : St} {H I : Hp} {env : Env} {F : Nat → List Addr} {D : Ends}
end
end Dy
namespace Dy
open PySem PySem.Spec PyProof.Rows L2
def flD : PyData → Bool
  | .none => true
  | .bool _ => true
  | .int _ => true
  | .str _ => true
  | _ => false
def eqF : PyData → PyData → Bool
  | .none, .none => true
  | .bool a, .bool b => a == b
  | .bool a, .int b => (if a then 1 else 0) == b
  | .int a, .bool b => a == (if b then 1 else 0)
  | .int a, .int b => a == b
  | .str a, .str b => a == b
  | _, _ => false
def pNinA : PyData → PyData → Option O
  | d, .list ds => pNin d (.list ds)
  | d, .tuple ds => if flD d = true ∧ ds.all flD = true then some (.fr (.bool (!ds.any fun z => eqF z d))) else none
  | d, .dict es => if okK es d = true then some (.fr (.bool (!(dAt es d).isSome))) else none
  | _, _ => none
section
variable {K : PySem.W.Frag} {I H : Hp} {X : Cx}
theorem fl_rep {v : V} {d : PyData} (r : Rp K I v d) (f : flD d = true) : flatV v = true := by
  cases r <;> first | rfl | cases f
theorem eq_rep {v u : V} {d e : PyData} (r : Rp K I v d) (q : Rp K I u e) (f : flD d = true) (g : flD e = true) : eqV v u = eqF d e := by
  cases r <;> (try (exact Bool.noConfusion f)) <;> cases q <;> first | rfl | exact Bool.noConfusion g
theorem fls_rep : ∀ {vs : List V} {ds : List PyData}, RpAll K I vs ds → ds.all flD = true → vs.all flatV = true
  | _, _, .nil, _ => rfl
  | _, _, .cons r t, f => by
    simp only [List.all_cons, Bool.and_eq_true] at f ⊢
    exact ⟨fl_rep r f.1, fls_rep t f.2⟩
theorem any_rep {u : V} {e : PyData} (q : Rp K I u e) (g : flD e = true) : ∀ {vs : List V} {ds : List PyData}, RpAll K I vs ds → ds.all flD = true → inV u vs = ds.any fun z => eqF z e
  | _, _, .nil, _ => rfl
  | _, _, .cons r t, f => by
    simp only [List.all_cons, Bool.and_eq_true] at f
    unfold inV
    simp only [List.any_cons]
    rw [eq_rep r q f.1 g]
    have := any_rep q g t f.2
    unfold inV at this
    rw [this]
theorem rps_fl {v : V} {d : PyData} (h : RpS K I H v d) (f : flD d = true) : Rp K I v d := by
  rcases h with h | ⟨a, vs, ds, rfl, rfl, h1, h2⟩ | ⟨a, es, rfl, rfl, h1⟩
  · exact h
  · cases f
  · cases f
theorem rps_tup {v : V} {ds : List PyData} (h : RpS K I H v (.tuple ds)) : Rp K I v (.tuple ds) := by
  rcases h with h | ⟨a, vs, ds, rfl, e, h1, h2⟩ | ⟨_, _, _, e, _⟩
  · exact h
  · cases e
  · cases e
def rNinA (K : PySem.W.Frag) : R2 := fun x y H Q => (rNotInD K x y H Q ∨ rIn K true x y H Q) ∨ rDI K true x y H Q
theorem op_ninA (hu : X.A.units + 65 < cLine) : OpR X (compareOp .NotIn) (rNinA X.K) := ((op_notInD hu).or op_notIn_seq).or (op_ninDD (by omega))
theorem os_ninA : OpS K (two (rNinA K)) (on2 pNinA) := ops2 fun v u d e I H Q o s r1 r2 q k => by
  unfold pNinA at q
  split at q
  · exact .inl (.inl (os_nin [v, u] [_, _] I H Q o s (.cons r1 (.cons r2 .nil)) q k))
  · split at q
    · rename_i hc
      cases q
      have r1' := rps_fl r1 hc.1
      cases rps_tup r2 with
      | tup h1 h2 =>
        refine .inl (.inr ⟨_, _, rfl, .inr (same_t s h1), fl_rep r1' hc.1, fls_rep h2 hc.2, ?_⟩)
        rw [if_pos rfl, any_rep r1' hc.1 h2 hc.2]
        exact k _ _ _ _ (Grow.val s rbl)
    · cases q
  · split at q
    · rename_i hc
      cases q
      obtain ⟨a, rfl, h1⟩ := rps_dict s r2
      exact .inr ⟨a, I, _, _, rfl, s, h1, rps_rp r1 (okK_isL hc), hc, by simpa using k _ _ _ _ (Grow.val s rbl)⟩
    · cases q
  · cases q
def pDivW : PyData → PyData → Option O
  | .int i, .int j => if 0 < j ∧ j < 1000000000000000000000000000000 then some (.fr (.int (i / j))) else none
  | _, _ => none
theorem os_divW : OpS K (two (rI CDivW fun i j => .int (i / j))) (on2 pDivW) := ops2 fun v u d e I H Q o s r1 r2 q k => by
  unfold pDivW at q
  split at q
  · split at q
    · rename_i hc
      cases q
      rw [r1.int, r2.int]
      refine ⟨_, _, rfl, rfl, ⟨hc.1, ?_⟩, k _ _ _ _ (Grow.val s (.int _))⟩
      exact Nat.lt_of_lt_of_le (PySem.Flt.log2_lt_of (k := 100) (by decide) (by omega)) (by decide)
    · cases q
  · cases q
def fWb (vs : List Nat) (f : SF) : SF := fun env => f (wipeE env vs)
theorem a_wb (vs : List Nat) (f : SF) (env : Dy.Env) : fWb vs f env = f (wipeE env vs) := rfl
theorem q_divW (i j : Int) : pDivW (.int i) (.int j) = if 0 < j ∧ j < 1000000000000000000000000000000 then some (.fr (.int (i / j))) else none := rfl
end
end Dy
namespace Dy
open PySem PySem.Spec PyProof.Rows L2
theorem tuple_mul1 (l : Addr) (items : Array Value) (n : Nat) (dd : Option Addr) (sl : Array (Option Value)) (u : Tok) :
    Meets (Builtin.«tuple.__mul__» ⟨[.ref l, .int 1 u], []⟩) (fun _ R s => s.heap.get? l = some { cls := .type "tuple", dict := dd, data := .seq items n, slots := sl } ∧
      R (.ok (.ret (Value.ref l))) s) :=
  .of_wp fun prog w A R s h => by
    obtain ⟨hp, g, d, tk, os⟩ := s
    obtain ⟨hl, h⟩ := h
    have f1 := AutoSeq1.idx_int
    have c1 : (items.isEmpty || (1 : Int) == 1) = true := by simp
    wp_walk using wpAny_loadPart' hl
    exact ⟨_, rfl, h⟩
theorem tuple_mul0 (l : Addr) (items : Array Value) (n : Nat) (dd : Option Addr) (sl : Array (Option Value)) (x : Int) (u : Tok) (c0 : (decide (x < -(2 ^ 63)) || decide (x ≥ 2 ^ 63)) = false) (c1 : (items.isEmpty || x == 1) = false) (c2 : (decide (x ≤ 0) || items.isEmpty) = true) :
    Meets (Builtin.«tuple.__mul__» ⟨[.ref l, .int x u], []⟩) (fun _ R s => s.heap.get? l = some { cls := .type "tuple", dict := dd, data := .seq items n, slots := sl } ∧
      R (.ok (.ret (Value.ref s.heap.objs.size))) { s with heap := s.heap.push { cls := Value.type "tuple", data := Data.seq #[] }, toks := s.toks }) :=
  .of_wp fun prog w A R s h => by
    obtain ⟨hp, g, d, tk, os⟩ := s
    obtain ⟨hl, h⟩ := h
    have f1 := AutoSeq1.idx_int
    wp_walk using wpAny_loadPart' hl
    repeat (first
      | (refine wpAny_ite_false (decide_eq_false (by rw [c0]; exact Bool.false_ne_true)) ?_; wp_walk using wpAny_loadPart' hl)
      | (refine wpAny_ite_false (decide_eq_false (by rw [c1]; exact Bool.false_ne_true)) ?_; wp_walk using wpAny_loadPart' hl)
      | (refine wpAny_ite_true (decide_eq_true (by rw [c2])) ?_; wp_walk using wpAny_loadPart' hl))
    exact ⟨_, rfl, h⟩
def rRepT1 (K : PySem.W.Frag) : R2 := fun x y H Q => ∃ l k xs, x = .ref l ∧ y = .int k ∧ SqT K H l xs ∧ xs ≠ [] ∧ -1000 ≤ k ∧ ((k = 1 ∧ Q (.ref l) H) ∨ (k ≤ 0 ∧ ∀ p, H p = none → Q (.ref p) (upd H p (.tup []))))
theorem op_repT1 {X : Cx} : OpR X (binaryOp .Mult) (rRepT1 X.K) := by
  intro pins s σ H x y v u Q I rx ry h
  obtain ⟨l, k, xs, rfl, rfl, hT, hne, h1, q⟩ := h
  cases rx
  obtain ⟨t, rfl⟩ := ry
  obtain ⟨its, r, ⟨⟨cls, dd, data, sl⟩, ho, hc, n, hd⟩, hs⟩ := I.tuple hT
  simp only at hc hd
  subst hc hd
  have hle : its.length = xs.length := r.length.symm
  have hn : its ≠ [] := fun e => hne (by
    rw [e] at hle
    exact List.eq_nil_of_length_eq_zero hle.symm)
  have hi : its.toArray.isEmpty = false := by
    cases its with
    | nil => exact absurd rfl hn
    | cons a b => rfl
  rcases q with ⟨rfl, q⟩ | ⟨h0, q⟩
  · refine wpAny_binaryOp_repeat_ref (T := "tuple") (U := "int") (by decide) ⟨_, ho, rfl⟩ (fun s' => typeIs_int s' 1 t) noFill_tuple_mul F.fills_int_mul F.slot_int_rmul repeat_tuple F.slot_int_index.lookup
      (call_meets F.slot_int_rmul (typeIs_int s 1 t) F.entry_int_rmul (F.args_int_rmul_2 _ _) (int_rmul_tuple 1 t l its.toArray n dd sl)
        ⟨ho, rfl, ⟨_, ho, rfl⟩, call_meets F.slot_tuple_mul ⟨_, ho, rfl⟩ F.entry_tuple_mul (F.args_tuple_mul_2 _ _) (tuple_mul1 l its.toArray n dd sl t) ⟨ho, ?_⟩⟩)
    exact ⟨.ref l, H, I, rfl, q⟩
  · have c0 : (decide (k < -(2 ^ 63)) || decide (k ≥ 2 ^ 63)) = false := by
      rw [decide_eq_false (by omega), decide_eq_false (by omega)] <;> rfl
    have c1 : (its.toArray.isEmpty || k == 1) = false := by
      rw [hi, Bool.false_or]
      exact beq_eq_false_iff_ne.mpr (by omega)
    have c2 : (decide (k ≤ 0) || its.toArray.isEmpty) = true := by
      rw [decide_eq_true h0]; rfl
    refine wpAny_binaryOp_repeat_ref (T := "tuple") (U := "int") (by decide) ⟨_, ho, rfl⟩ (fun s' => typeIs_int s' k t) noFill_tuple_mul F.fills_int_mul F.slot_int_rmul repeat_tuple F.slot_int_index.lookup
      (call_meets F.slot_int_rmul (typeIs_int s k t) F.entry_int_rmul (F.args_int_rmul_2 _ _) (int_rmul_tuple k t l its.toArray n dd sl)
        ⟨ho, rfl, ⟨_, ho, rfl⟩, call_meets F.slot_tuple_mul ⟨_, ho, rfl⟩ F.entry_tuple_mul (F.args_tuple_mul_2 _ _) (tuple_mul0 l its.toArray n dd sl k t c0 c1 c2) ⟨ho, ?_⟩⟩)
    refine ⟨.ref s.heap.objs.size, _, I.laid (t' := s.toks) (o := .tup []) (fun b ob q => Heap.get?_push_of_some _ q) (Nat.le_refl _) ?_, rfl, q _ (I.hok.fresh (Nat.le_refl _))⟩
    exact ⟨Nat.zero_le _, [], .nil, IsTup.new _ _⟩
def pMulA : PyData → PyData → Option O
  | .tuple xs, .int k => if xs.length ≤ 1000 ∧ -1000 ≤ k ∧ k ≤ 1000 ∧ xs ≠ [] then some (.fr (.tuple (List.replicate k.toNat xs).flatten)) else none
  | d, e => pMul d e
def rMulB (K : PySem.W.Frag) : R2 := fun x y H Q => rMulA K x y H Q ∨ rRepT1 K x y H Q
theorem op_mulB {X : Cx} : OpR X (binaryOp .Mult) (rMulB X.K) := op_mulA.or op_repT1
theorem os_mulB {K : PySem.W.Frag} : OpS K (two (rMulB K)) (on2 pMulA) := ops2 fun v u d e I H Q o s r1 r2 q k => by
  unfold pMulA at q
  split at q
  · rename_i xs n
    split at q
    · rename_i hc
      cases q
      by_cases h2 : 2 ≤ n
      · refine .inl (os_mul [v, u] [_, _] I H Q _ s (.cons r1 (.cons r2 .nil)) ?_ k)
        show (if _ then _ else _) = _
        rw [if_pos ⟨hc.1, h2, hc.2.2.1, hc.2.2.2⟩]
      · have hu := r2.int
        subst hu
        cases rps_tup r1 with
        | tup h1 ra =>
          rename_i a vs
          refine .inr ⟨a, n, vs, rfl, rfl, same_t s h1, fun z => ?_, hc.2.1, ?_⟩
          · subst z; have := ra.length; exact hc.2.2.2 (List.length_eq_zero_iff.mp this.symm)
          · by_cases h1' : n = 1
            · left
              subst h1'
              refine ⟨rfl, k _ _ I [] ?_⟩
              have : (List.replicate (1 : Int).toNat xs).flatten = xs := by simp
              rw [this]
              exact Grow.val s (.tup h1 ra)
            · right
              have : (List.replicate n.toNat xs).flatten = [] := by
                have : n.toNat = 0 := by omega
                rw [this]; rfl
              refine ⟨by omega, fun p np => ?_⟩
              rw [this] at k
              exact k _ _ _ _ (Grow.tup s np .nil)
    · cases q
  · exact .inl (os_mul [v, u] [_, _] I H Q o s (.cons r1 (.cons r2 .nil)) q k)
theorem q_mulAI (i j : Int) : pMulA (.int i) (.int j) = pMul (.int i) (.int j) := rfl
theorem q_mulAL (xs : List PyData) (j : Int) : pMulA (.list xs) (.int j) = pMul (.list xs) (.int j) := rfl
end Dy
namespace Dy
open PySem PySem.Spec PyProof.Rows L2
/-- what stands for a dict -/
def DiOb (K : PySem.W.Frag) (I : Hp) (ob : HO) (a : Addr) (es : List (PyData × PyData)) : Prop := (∃ kvs, ob = .dK kvs ∧ RpKv K I kvs es) ∨ ∃ ts, ob = dN a ts ∧ RpKt K I ts es
theorem DiOb.at {K : PySem.W.Frag} {I H : Hp} {ob : HO} {a : Addr} {es : List (PyData × PyData)} (h : DiOb K I ob a es) (e : H a = some ob) : DiO K I H a es := by
  rcases h with ⟨kvs, rfl, h⟩ | ⟨ts, rfl, h⟩
  · exact .inl ⟨kvs, e, h⟩
  · exact .inr ⟨ts, e, h⟩
theorem DiO.mut {K : PySem.W.Frag} {I H : Hp} {a : Addr} {es : List (PyData × PyData)} (h : DiO K I H a es) : Mut (H a) := by
  rcases h with ⟨kvs, e, h⟩ | ⟨ts, e, h⟩
  · rw [e]; exact True.intro
  · rw [e]; exact True.intro
theorem Sim.ownD {K : PySem.W.Frag} {π : Pn} {I H : Hp} {σ : St} {env : Env} {F : Nat → List Addr} {i : Nat} {es : List (PyData × PyData)} (s : Sim K π I H σ env F) (q : env[i]? = some (some (.od es))) :
    ∃ a, σ[i]? = some (some (.ref a)) ∧ DiO K I H a es ∧ ∀ ob es', DiOb K I ob a es' → Sim K π I (upd H a ob) σ (env.set i (some (.od es'))) (upF F i [a]) ∧ Step I H (Ow F) I (upd H a ob) (Ow (upF F i [a])) := by
  obtain ⟨v, e1, a, rfl, hF, h1⟩ := s.rep i _ q
  refine ⟨a, e1, h1, fun ob es' r => ?_⟩
  have hi : i < env.length := by
    cases Nat.lt_or_ge i env.length with
    | inl h => exact h
    | inr h => rw [List.getElem?_eq_none h] at q; cases q
  have ha : a ∈ F i := by rw [hF]; simp
  have nI := s.djI i a ha
  have ne : ∀ j, j ≠ i → ∀ b ∈ F j, b ≠ a := fun j hj b hb e => by subst e; exact hj (s.dis j i b hb ha)
  refine ⟨?_, Step.of4 (Same.refl _) (fun b o h n => ?_) (fun b h => ?_) (fun _ _ h => .inl h)⟩
  · have := s.put (i := i) (x := some (.od es')) (sv := some (.ref a)) (R := [a]) (H' := upd H a ob) hi (Same.refl _) (fun b o h => ?_) (fun j hj b hb => ?_) (fun j _ b hb => s.djI j b hb) (fun b hb => ?_) (fun j hj b hb h => ?_) (fun o e => ?_) (fun e => by cases e) (fun hp => ?_) (s.ktO ha)
    · rw [set_same e1] at this; exact this
    · rw [upd_ne (fun e => by subst e; rw [nI] at h; cases h)]; exact s.sub b o h
    · rw [upd_ne (ne j hj b hb)]
    · simp at hb; subst hb; exact nI
    · simp at h; exact ne j hj b hb h
    · cases e; exact ⟨_, rfl, a, rfl, rfl, r.at upd_same⟩
    · have := s.pin i hp; rw [e1] at this; exact Option.some.inj this
  · rw [upd_ne (fun e => by subst e; exact n ⟨i, ha⟩)]; exact h
  · rcases ow_up h with z | z
    · exact .inl z
    · simp at z; subst z; exact .inl ⟨i, ha⟩
section
variable {X : Cx} {pins : List (Addr × Obj)} {σ : St} {I H : Hp} {s : Shared} {a : Addr} {es : List (PyData × PyData)} {k d : PyData} {y v : V} {u r : Value} {A : Around} {E : Value → Shared → Prop}
theorem lt_line {n m : Nat} (h : n < 1000000) (g : m ≤ n + 1) : m ≤ sizeLine := Nat.le_trans g (Nat.le_trans h (by decide))
theorem dd_setd {Q : V → Hp → Prop} (hu : A.units + 10 < cLine) (J : Inv X pins σ H s) (sm : Same I H) (h : DiO X.K I H a es) (ry : Rp X.K I y k) (ru : RelV y u) (ok : okK es k = true) (rv : Rp X.K I v d) (rr : RelV v r) (hz : es.length < 1000000)
    (q1 : ∀ d', dAt es k = some d' → ∀ w, Rp X.K I w d' → Q w H) (q2 : dAt es k = none → ∀ ob, DiOb X.K I ob a (dPut es k d) → Q v (upd H a ob)) :
    wpAny (model X.prog X.w) A (call (.builtin "dict.setdefault") [.ref a, u, r]) (fun w' s' => ∃ w H', Inv X pins σ H' s' ∧ RelV w w' ∧ Q w H') E s := by
  have hl := dPut_len es k d
  rcases okK_kind ok with hk | hk
  · obtain ⟨n, h1, h2, xs, rfl⟩ := kind_t hk
    obtain ⟨b, rfl⟩ := rp_tup_ref ry
    cases (show u = Value.ref b from ru)
    obtain ⟨ys, vn, dd, z, hs⟩ := viewN J sm h.rd ok hk
    refine call_setdefault_heap (hsz := by rw [← vn.length]; exact z) (room8 hu) ⟨key_is J sm ry h1 rfl, h2⟩ hs dd (fun p hp => ?_) fun hn h' dd' hb => ?_
    · rcases vn.at h1 with ⟨e1, e2⟩ | ⟨b', u', v', d', e1, e2, e3, e4⟩
      · rw [e1] at hp; cases hp
      · rw [e1] at hp; cases hp
        exact ⟨v', H, J.tok _, e4, q1 d' e2 v' e3⟩
    · have vn' := vn.put h1 h2 ry rv rr
      obtain ⟨ts, r1, r2⟩ := mkN vn' dd' (lt_line hz hl) hs
      have e2 : dAt es (.tuple xs) = none := by
        rcases vn.at h1 with ⟨e1, e2⟩ | ⟨b', u', v', d', e1, e2, e3, e4⟩
        · exact e2
        · rw [e1] at hn; cases hn
      exact ⟨v, _, d_write J h.mut hb (by obtain ⟨o, _, _, e, _⟩ := dd'; exact ⟨o, e⟩) (r2 _), rr, q2 e2 _ (.inr ⟨ts, rfl, r1⟩)⟩
  · obtain ⟨k, rfl⟩ := kind_f hk
    obtain ⟨vs, vk, dd, z, hs⟩ := viewK J h.rd ok
    have ey := kD_rel ry
    subst ey
    refine call_meetsIn PySem.F.slot_dict_setdefault dd.typeIs PySem.F.entry_dict_setdefault (PySem.F.args_dict_setdefault_3 _ _ _) (kt_meets_setdefault (mixKind X.prog X.w) a (kV_is ru) hs r) ⟨vs, dd, by rw [← vk.length]; exact z, fun w' hv => ?_, fun hn h' dd' hb => ?_⟩
    · rcases vk.at k with ⟨e1, e2⟩ | ⟨u', v', d', e1, e2, e3, e4⟩
      · rw [e1] at hv; cases hv
      · rw [e1] at hv; cases hv
        exact ⟨v', H, J.tok _, e4, q1 d' e2 v' e3⟩
    · have vk' := vk.put (k := k) rv rr
      obtain ⟨kvs, r1, r2⟩ := vk'.back
      have e2 : dAt es (kD k) = none := by
        rcases vk.at k with ⟨e1, e2⟩ | ⟨u', v', d', e1, e2, e3, e4⟩
        · exact e2
        · rw [e1] at hn; cases hn
      exact ⟨v, _, d_write J h.mut hb (by obtain ⟨o, _, _, e, _⟩ := dd'; exact ⟨o, e⟩) (dk_new (by rw [rpkv_len r1]; exact lt_line hz hl) hs r2 dd'), rr, q2 e2 _ (.inl ⟨kvs, rfl, r1⟩)⟩
end
def rSetd (K : PySem.W.Frag) : V → List V → Hp → VK → Prop := fun x xs H Q => ∃ a I es y v k d, x = .ref a ∧ xs = [y, v] ∧ Same I H ∧ DiO K I H a es ∧ Rp K I y k ∧ okK es k = true ∧ Rp K I v d ∧ es.length < 1000000 ∧
  (∀ d', dAt es k = some d' → ∀ w, Rp K I w d' → Q w H) ∧ (dAt es k = none → ∀ ob, DiOb K I ob a (dPut es k d) → Q v (upd H a ob))
section
variable {X : Cx}
theorem mt_setd (hu : X.A.units + 10 < cLine) : MtR X "dict.setdefault" (rSetd X.K) := by
  intro pins s σ H x xs v us Q J rx rs h
  obtain ⟨a, I, es, y, z, k, d, rfl, rfl, sm, hd, rk, ok, rd, hz, q1, q2⟩ := h
  cases (show v = Value.ref a from rx)
  obtain ⟨u1, u2, rfl, r1, r2⟩ := vals2 rs
  exact dd_setd hu J sm hd rk r1 ok rd r2 hz q1 q2
def tBMD (K : PySem.W.Frag) (r : V → List V → Hp → VK → Prop) (to : TE) (t : TA) : TE := fun σ H Q => to σ H fun x H1 => (∃ a I es, x = .ref a ∧ DrO K I H1 a es) ∧ t σ H1 fun xs H2 => r x xs H2 Q
variable {o e : Expr} {es : List Expr} {to : TE} {t : TA} {name : Str} {apos cpos : Pos} {id : String} {r : V → List V → Hp → VK → Prop}
theorem pe_bmD (slot : Slot "dict" name id) (hty : typeOf (.builtin id) = pure (.type "method_descriptor")) (hm : MtR X id r) (ho : PE X o to) (ha : PA X (e :: es) t)
    (hbase : attributeBase o name X.env (eval o X.env) = eval o X.env := by rfl)
    (hfew : ((backTo cpos (starEach (e :: es) X.env)).all (fun x => !x.1) && (backToKw cpos (keywordEach [] X.env)).all (fun x => x.1.isSome)
      && decide ((e :: es).length + ([] : List Keyword).length + (if ([] : List Keyword).isEmpty then 0 else 1) < 30)) = true := by rfl)
    (hline : (apos.endLine == cpos.line) = true := by rfl) (hs : starEach (e :: es) X.env = (false, eval e X.env) :: starEach es X.env := by rfl) (hplain : (backTo cpos (starEach es X.env)).any (·.1) = false := by rfl) :
    PE X (.Call (.Attribute o name apos) (e :: es) [] cpos) (tBMD X.K r to t) := by
  refine ⟨fun pins s σ H Q I h => ?_⟩
  refine wpAny_Call_method_late hbase hfew hline rfl (thn (ho.run pins s σ H _ I h) fun v s1 ⟨x, H1, I1, r1, ⟨a, J, fs, ex, hd⟩, q1⟩ => ?_)
  subst ex
  cases (show v = Value.ref a from r1)
  obtain ⟨h1, h2, _⟩ := di_typeIs I1 hd
  refine ⟨"dict", id, PySem.F.plainAttrs_dict, slot, hty, h1, h2, ?_⟩
  have hA := ha.run cpos pins s1 σ H1 _ I1 q1
  rw [hs] at hA ⊢
  refine Calls.callWith_builtin (by show (false || (backTo cpos (starEach es X.env)).any (·.1)) = false; rw [hplain] <;> rfl) (Calls.evalArgs_plain ?_)
  exact thn hA fun us s2 ⟨vs, H2, I2, r2, q2⟩ => hm pins s2 σ H2 _ vs _ us Q I2 r1 r2 q2
end
section
variable {g : G} {X : Cx} {a b c e : Expr} {es : List Expr} {pos p1 p2 px : Pos} {σ : St} {H I : Hp} {env : Env} {F : Nat → List Addr} {D : Ends} {st : Stmt} {sts : List Stmt}
def fNewD : EF := fun env => .ok (.od [], env)
theorem de_dnew : DE g X (.Dict [] [] pos) fNewD := PE.imp pe_dnewK fun σ H Q q => by
  obtain ⟨I, env, F, s, p⟩ := q
  intro x hx
  refine p _ _ (Grow.aft (I' := I) (R := [x]) ⟨⟨x, rfl, rfl, .inl ⟨[], upd_same, .nil⟩⟩, Same.refl _, same_new hx, s.sub.trans (same_new hx), fun a h => by simp at h; subst h; exact hx, fun a h => by simp at h; subst h; exact none_of_same s.sub hx, fun _ _ h => .inl h⟩ s)
/-- x.setdefault(k, e) -/
def fSetd (i : Nat) (as : List AF) : EF := fun env => match env[i]? with
  | some (some (.od _)) => evA as env >>= fun r => match dvs r.1 with
    | some [k, d] => match r.2[i]? with
      | some (some (.od es)) => if okK es k = true ∧ es.length < 1000000 then (match dAt es k with
          | some d' => .ok (.fr d', r.2)
          | none => .ok (.fr d, r.2.set i (some (.od (dPut es k d))))) else .no
      | _ => .no
    | _ => .no
  | _ => .no
theorem de_setd {i : Nat} {x : Str} {px apos cpos : Pos} {as : List AF} (hu : X.A.units + 65 < cLine) (hx : PE X (.Name x px) (tVar i)) (he : DA g X [b, e] as)
    (h2 : attributeBase (.Name x px) "setdefault" X.env (eval (.Name x px) X.env) = eval (.Name x px) X.env := by rfl)
    (h3 : ((backTo cpos (starEach [b, e] X.env)).all (fun x => !x.1) && (backToKw cpos (keywordEach [] X.env)).all (fun x => x.1.isSome)
      && decide ([b, e].length + ([] : List Keyword).length + (if ([] : List Keyword).isEmpty then 0 else 1) < 30)) = true := by rfl)
    (h4 : (apos.endLine == cpos.line) = true := by rfl) (h5 : starEach [b, e] X.env = (false, eval b X.env) :: starEach [e] X.env := by rfl) (h6 : (backTo cpos (starEach [e] X.env)).any (·.1) = false := by rfl) (hK : X.K = g.K := by rfl) :
    DE g X (.Call (.Attribute (.Name x px) "setdefault" apos) [b, e] [] cpos) (fSetd i as) := PE.imp (pe_bmD PySem.F.slot_dict_setdefault PySem.F.type_dict_setdefault (mt_setd (by omega)) hx he h2 h3 h4 h5 h6) fun σ H Q q => by
  obtain ⟨I, env, F, s, p⟩ := q
  unfold fSetd at p
  split at p
  · rename_i es0 q0
    obtain ⟨a, e1, h1, _⟩ := s.ownD q0
    refine ⟨.ref a, e1, ⟨a, I, es0, rfl, by rw [hK]; exact h1.rd⟩, ?_⟩
    refine ⟨I, env, F, s, post_mono (post_bind.mp p) (fun r q us H1 I' F' s' st av => ?_) fun _ z => z⟩
    split at q
    · rename_i k d q3
      have rr := dvs_rep av q3
      match us, rr with
      | _, .cons r1 (.cons r2 .nil) =>
        split at q
        · rename_i es q6
          split at q
          · rename_i hc
            obtain ⟨a', e1', h1', up⟩ := s'.ownD q6
            rw [e1] at e1'; cases e1'
            refine ⟨a, I', es, _, _, k, d, rfl, rfl, s'.sub, by rw [hK]; exact h1', by rw [hK]; exact r1, hc.1, by rw [hK]; exact r2, hc.2, fun d' hd w hw => ?_, fun hn ob ho => ?_⟩
            · simp only [hd] at q
              exact q _ _ (Aft.trans st (AftD.aft ⟨I', F', by rw [hK] at hw; exact hw, s', Step.refl⟩))
            · simp only [hn] at q
              rw [hK] at ho
              obtain ⟨s4, st4⟩ := up ob _ ho
              exact q _ _ (Aft.trans st (AftD.aft ⟨I', _, r2, s4, st4⟩))
          · exact q.elim
        · exact q.elim
    · exact q.elim
  · exact p.elim
end
theorem a_newD (env : Env) : fNewD env = .ok (.od [], env) := rfl
end Dy
namespace Dy
open PySem PySem.Spec PyProof.Rows L2 HT
section
variable {prog : Program} {w : World} {A : Around} {E : Value → Shared → Prop} {s : Shared}
theorem sliceApplied_rev {sl : Addr} {vs : Value} {n : Nat} {Q : Int × Int × Nat → Shared → Prop} (hs : s.heap.IsSliceOf sl .none .none vs) (ps : IsPart vs (some (-1))) (h : Q ((n : Int) - 1, -1, n) s) :
    wpAny (model prog w) A (Builtin.Slice.sliceApplied (.ref sl) (pure (n : Int))) Q E s := by
  obtain ⟨os, hos, hcs, hds⟩ := id hs
  unfold Builtin.Slice.sliceApplied Builtin.Slice.sliceFields
  refine wpAny_bind (wpAny_bind (wpAny_field hos hds (x := .none) rfl (wpAny_bind (wpAny_field hos hds (x := .none) rfl (wpAny_bind (wpAny_field hos hds (x := vs) rfl (wpAny_pure ?_)))))))
  refine wpAny_bind (slicePart_ ps ?_)
  show wpAny _ _ (if ((-1 : Int) == 0) = true then _ else _) _ _ s
  rw [if_neg (by decide)]
  refine wpAny_bind (slicePart_ .none (wpAny_bind (slicePart_ .none (wpAny_bind (wpAny_pure ?_)))))
  show wpAny _ _ (pure ((n : Int) - 1, (-1 : Int), Builtin.Slice.slicePlaces ((n : Int) - 1) (-1) (-1))) _ _ s
  have e : Builtin.Slice.slicePlaces ((n : Int) - 1) (-1) (-1) = n := by
    unfold Builtin.Slice.slicePlaces
    have h1 : ¬ ((-1 : Int) > 0) := by decide
    simp only [h1, if_false]
    split
    · rw [show (- -1 : Int) = 1 by decide, Int.ediv_one]; omega
    · omega
  rw [e]
  exact wpAny_pure h
theorem pick_rev (xs : Array Value) : ((List.range xs.size).filterMap fun (k : Nat) => xs[((xs.size : Int) - 1 + (k : Int) * -1).toNat]?).toArray = xs.toList.reverse.toArray := by
  congr 1
  have e : ((List.range xs.size).filterMap fun (k : Nat) => xs[((xs.size : Int) - 1 + (k : Int) * -1).toNat]?) = ((List.range xs.size).map fun k => xs.size - 1 - k).filterMap (xs[·]?) := by
    rw [List.filterMap_map]
    congr 1
    funext k
    show xs[((xs.size : Int) - 1 + (k : Int) * -1).toNat]? = xs[xs.size - 1 - k]?
    congr 1
    omega
  rw [e, PySem.W.krv_range, List.filterMap_reverse, PySem.W.krv_all]
theorem getItem_tuple_rev {t sl : Addr} {items : Array Value} {vs : Value} {Q : Value → Shared → Prop} (ht : IsTup s.heap t items) (hs : s.heap.IsSliceOf sl .none .none vs) (ps : IsPart vs (some (-1)))
    (h : Q (.ref s.heap.objs.size) { s with heap := s.heap.push { cls := .type "tuple", data := .seq items.toList.reverse.toArray } }) (hsz : items.size ≤ sizeLine) : wpAny (model prog w) A (getItem (.ref t) (.ref sl)) Q E s := by
  have htake : sizeOk (.seq items.toList.reverse.toArray) := by
    show items.toList.reverse.toArray.size ≤ sizeLine
    simpa using hsz
  obtain ⟨os, hos, hcs, hds⟩ := id hs
  have hTs : s.TypeIs (.ref sl) "slice" := ⟨os, hos, hcs⟩
  unfold getItem
  try with_reducible refine wpAny_holding ?_
  first | refine wpAny_bind (wpAny_pure ?_) | skip
  refine wpAny_bind (wpAny_sequenceKey ht.typeIs (by decide) ?_)
  refine wpAny_bind (wpAny_callSpecial?_slot (name := Str.ofString "__getitem__") ht.typeIs PyProof.Rows.slot_tuple_getitem
    (wpAny_call_entry PyProof.Rows.slot_tuple_getitem ht.typeIs entry_tuple_getitem ?_ (args_tuple_getitem _ _)))
  show wpAny _ _ (Builtin.Tuple.tupleItemsOf (.ref t) >>= _) _ _ s
  refine wpAny_bind (tupleItemsOf_ ht ?_)
  refine wpAny_bind (wpAny_typeOf hTs ?_)
  rw [if_pos (by decide)]
  refine wpAny_bind (sliceApplied_rev hs ps ?_)
  have hno : ¬ ((((items.size : Int) - 1) == 0 && (-1 : Int) == 1 && items.size == items.size) = true) := by
    intro q
    rw [Bool.and_eq_true, Bool.and_eq_true] at q
    exact absurd q.1.2 (by decide)
  show wpAny _ _ (if (((items.size : Int) - 1) == 0 && (-1 : Int) == 1 && items.size == items.size) = true then _ else _) _ _ s
  rw [if_neg hno, pick_rev]
  first
    | exact wpAny_bind (m := Builtin.Tuple.tupleExact _) (wpAny_newObj_type (wpAny_pure ⟨_, rfl, wpAny_pure h⟩) htake)
    | exact wpAny_bind (m := Builtin.Tuple.tupleExact _) (wpAny_newObj_type (wpAny_bind (wpAny_pure (wpAny_pure ⟨_, rfl, wpAny_pure h⟩))) htake)
    | exact wpAny_bind (wpAny_bind (m := Builtin.Tuple.tupleExact _) (wpAny_newObj_type (wpAny_pure (wpAny_pure ⟨_, rfl, wpAny_pure h⟩)) htake))
    | exact wpAny_bind (wpAny_bind (m := Builtin.Tuple.tupleExact _) (wpAny_newObj_type (wpAny_pure ⟨_, rfl, wpAny_pure h⟩) htake))
end
section
variable {X : Cx}
/-- xs[::-1] of lists and tuples -/
def tRevA (K : PySem.W.Frag) (te : TE) : TE := fun σ H Q => te σ H fun x H1 => ∃ a xs, x = .ref a ∧ ((SqL K H1 a xs ∧ ∀ p, H1 p = none → Q (.ref p) (upd H1 p (.lst xs.reverse))) ∨ (SqT K H1 a xs ∧ ∀ p, H1 p = none → Q (.ref p) (upd H1 p (.tup xs.reverse))))
theorem pe_revA {e : Expr} {te : TE} {k : Nat} {p1 p2 p3 pos : Pos} (he : PE X e te) : PE X (.Subscript e (.Slice none none (some (.UnaryOp .USub (.Constant (.int 1) k p1) p2)) p3) pos) (tRevA X.K te) := by
  refine ⟨fun pins s σ H Q I h => ?_⟩
  refine Subscript_ (thn (he.run pins s σ H _ I h) fun v s1 ⟨x, H1, I1, r1, q1⟩ => ?_)
  obtain ⟨a, xs, ex, q1⟩ := q1
  subst ex
  cases r1
  have hst : PO X (some (.UnaryOp .USub (.Constant (.int 1) k p1) p2)) (tPart (tUn (rU fun i => .int (-i)) (tC (.int 1)))) := po_some (pe_un un_neg pe_int)
  refine wpAny_Slice (thn (po_none.run pins s1 σ H1 (fun o H2 => o = none ∧ H2 = H1) I1 ⟨rfl, rfl⟩) fun vl s2 ⟨l, H2, I2, pl, el, e2⟩ => ?_)
  subst el e2
  refine thn (po_none.run pins s2 σ H2 (fun o H3 => o = none ∧ H3 = H2) I2 ⟨rfl, rfl⟩) fun vu s3 ⟨u, H3, I3, pu, eu, e3⟩ => ?_
  subst eu e3
  refine thn (hst.run pins s3 σ H3 (fun o H4 => o = some (-1) ∧ H4 = H3) I3 ⟨1, rfl, -1, rfl, rfl, rfl⟩) fun vs s4 ⟨o, H4, I4, ps, eo, e4⟩ => ?_
  subst eo e4
  have I5 : Inv X pins σ H4 { s4 with heap := s4.heap.push { cls := .type "slice", data := .fields #[vl, vu, vs] } } := I4.kept (t' := s4.toks) fun b ob q => Heap.get?_push_of_some _ q
  show wpAny (model X.prog X.w) X.A (subscriptTail e (.Slice none none (some (.UnaryOp .USub (.Constant (.int 1) k p1) p2)) p3) (.ref a) (.ref s4.heap.objs.size)) (EP X pins σ Q) X.xe { s4 with heap := s4.heap.push { cls := .type "slice", data := .fields #[vl, vu, vs] } }
  rcases q1 with ⟨hx, q⟩ | ⟨hx, q⟩
  · obtain ⟨its, r, ht, hz⟩ := I5.list hx
    have hlen := r.length
    refine tail_any (ops := [.ref a, .ref s4.heap.objs.size]) ht.isList.typeIs (PySem.slot_list_getitem.lookup) ?_ (by with_unfolding_all rfl)
    refine wpAny_getItem_list_slice ht.isList (Heap.IsSliceOf.new _ vl vu vs) pl pu ps (by decide) ?_ (by rw [List.size_toArray]; omega)
    rw [PySem.W.krv_pick]
    refine ⟨.ref _, _, I5.laid (t' := s4.toks) (o := .lst xs.reverse) (fun b ob q => Heap.get?_push_of_some _ q) (Nat.le_refl _) ?_, rfl, q _ (I5.hok.fresh (Nat.le_refl _))⟩
    exact ⟨by rw [List.length_reverse]; exact hz, _, 0, r.reverse, Heap.get?_push_size _ rfl⟩
  · obtain ⟨its, r, ht, hz⟩ := I5.tuple hx
    have hlen := r.length
    refine tail_any (ops := [.ref a, .ref s4.heap.objs.size]) ht.typeIs (PyProof.Rows.slot_tuple_getitem.lookup) ?_ (by with_unfolding_all rfl)
    cases pl; cases pu
    refine getItem_tuple_rev ht (Heap.IsSliceOf.new _ .none .none vs) ps ?_ (by rw [List.size_toArray]; omega)
    refine ⟨.ref _, _, I5.laid (t' := s4.toks) (o := .tup xs.reverse) (fun b ob q => Heap.get?_push_of_some _ q) (Nat.le_refl _) ?_, rfl, q _ (I5.hok.fresh (Nat.le_refl _))⟩
    exact ⟨by rw [List.length_reverse]; exact hz, _, r.reverse, IsTup.new _ _⟩
end
def pRevA : PyData → Option O
  | .list xs => some (.ol xs.reverse)
  | .tuple xs => some (.fr (.tuple xs.reverse))
  | _ => none
section
variable {g : G} {X : Cx} {a b c e : Expr} {es : List Expr} {pos p1 p2 p3 : Pos} {σ : St} {H I : Hp} {env : Env} {F : Nat → List Addr} {D : Ends}
theorem de_revA {x : AF} {k : Nat} (ha : DX g X a x) (hK : X.K = g.K := by rfl) : DE g X (.Subscript a (.Slice none none (some (.UnaryOp .USub (.Constant (.int 1) k p1) p2)) p3) pos) (fOp (on1 pRevA) [x]) :=
  PE.imp (pe_revA ha) fun σ H Q h => by
    refine tArg_mono (tA1 (op_key (r := one fun v H1 Q => ∃ a xs, v = V.ref a ∧ ((SqL X.K H1 a xs ∧ ∀ p, H1 p = none → Q (.ref p) (upd H1 p (.lst xs.reverse))) ∨ (SqT X.K H1 a xs ∧ ∀ p, H1 p = none → Q (.ref p) (upd H1 p (.tup xs.reverse))))) ?_ h)) fun v H1 q => q
    refine ops1 fun v d I H Q o s r1 q k => ?_
    unfold pRevA at q
    split at q
    · cases q
      obtain ⟨a, vs, rfl, h1, h2⟩ := r1.lst s
      exact ⟨a, vs, rfl, .inl ⟨by rw [hK]; exact h1.sq, fun p np => k _ _ _ _ (Grow.lst s np h2.rev)⟩⟩
    · cases q
      obtain ⟨a, vs, rfl, h1, h2⟩ := r1.tup s
      exact ⟨a, vs, rfl, .inr ⟨by rw [hK]; exact h1, fun p np => k _ _ _ _ (Grow.tup s np h2.rev)⟩⟩
    · cases q
end
end Dy
namespace Dy
open PySem PySem.Spec PyProof.Rows L2
section
variable {g : G} {X : Cx} {e : Expr} {pos : Pos} {σ : St}
end
end Dy
namespace Dy
open PySem PySem.Spec PyProof.Rows L2
section
variable {X : Cx} {pins : List (Addr × Obj)} {σ : St} {I H : Hp} {s : Shared}
end
section
variable {X : Cx}
end
section
variable {g : G} {X : Cx} {a b c e : Expr} {es : List Expr} {pos p1 p2 px : Pos} {σ : St} {H I : Hp} {env : Env} {F : Nat → List Addr} {D : Ends} {st : Stmt} {sts : List Stmt}
end
section
variable {X : Cx} {K : PySem.W.Frag}
end
end Dy
namespace Dy
open PySem PySem.Spec PyProof.Rows L2
section
variable {g : G} {X : Cx} {a b c e : Expr} {es : List Expr} {pos p1 p2 p3 px : Pos} {σ : St} {H I : Hp} {env : Env} {F : Nat → List Addr} {D : Ends} {st : Stmt} {sts : List Stmt}
end
end Dy
namespace Dy
open PySem PySem.Spec PyProof.Rows L2
open LamX (CodeO TabB LamS lamEnv lamCx)
section
variable {X : Cx} {pins : List (Addr × Obj)} {σ : L2.St} {H : Hp} {s : Shared}
end
end Dy
namespace Dy
open PySem PySem.Spec PyProof.Rows L2
open LamX (CodeO TabB LamS lamEnv lamCx)
section
variable {X : Cx} {pins : List (Addr × Obj)} {σ : L2.St} {H : Hp} {s : Shared}
end
end Dy
namespace Dy
open PySem PySem.Spec PyProof.Rows L2
open LamX (CodeO TabB LamS lamEnv lamCx)
section
variable {g : G} {X : Cx}
end
end Dy
namespace Dy
open PySem PySem.Spec PyProof.Rows L2
section
variable {X : Cx}
end
def pIndex (ds : List PyData) (d : PyData) : Option PyData := if SeqAt.shaped (.list ds) = true ∧ SeqAt.shaped d = true then (ds.findIdx? fun z => PyData.eqv z d).map fun j => .int (j : Nat) else none
section
variable {g : G} {X : Cx} {a b c e : Expr} {es : List Expr} {pos p1 p2 p3 px : Pos} {σ : St} {H I : Hp} {env : Env} {F : Nat → List Addr} {D : Ends} {st : Stmt} {sts : List Stmt}
end
end Dy
namespace Dy
open PySem PySem.Spec PyProof.Rows L2
open LamX (TabB)
end Dy
namespace Dy
open PySem PySem.Spec PyProof.Rows L2
open LamX (TabB)
def CallB (P : Program) (w : World) (K : PySem.W.Frag) (mg : Str → Option Value) (base : Heap) (T : List (Addr × Str)) (k : Nat) (x : Str) (ps : List Str) (m : Fn) : Prop :=
  ∃ f fd, mg x = some (.ref f) ∧ PySem.W.keepIn K (.ref f) = true ∧ Binds K fd ps [] ∧ FnG P w K mg base k f fd ps (spD K mg T m)
theorem CallB.mono {P : Program} {w : World} {K : PySem.W.Frag} {mg : Str → Option Value} {base : Heap} {T : List (Addr × Str)} {j k : Nat} {x : Str} {ps : List Str} {m : Fn} (h : CallB P w K mg base T j x ps m) (l : j ≤ k) : CallB P w K mg base T k x ps m := by
  obtain ⟨f, fd, h1, h2, h3, h4⟩ := h
  exact ⟨f, fd, h1, h2, h3, h4.mono l⟩
section
variable {T : List (Addr × Str)} {g : G} {X : Cx} {k : Nat} {ps : List Str} {m : Fn} {x : Str} {p pos : Pos} {e : Expr} {es : List Expr} {as : List AF}
end
def excB (K : PySem.W.Frag) (C : Addr) : Bool :=
  He.eqO (PySem.W.findIn K (.ref C) "__getattribute__") (some (some (.builtin "BaseException.__getattribute__"))) &&
  (He.eqO (PySem.W.findIn K (.ref C) "__getattr__") (some none) &&
  (decide (PySem.W.subIn K (.ref C) (.type "BaseException") = some true) &&
  (PySem.W.hasDictIn K C &&
  (He.eqO (PySem.W.findIn K (.ref C) "__class__") (some (some (.builtin "object.__class__"))) &&
  (He.eqO (PySem.W.specialIn K (.builtin "object.__class__") "__get__") (some (some (.builtin "getset_descriptor.__get__"))) &&
  (decide (PySem.W.takesIn K (.builtin "object.__class__") = some true) &&
  decide (PySem.W.mroIn K C (.type "object") = some true)))))))
def oneB (K : PySem.W.Frag) (A : List Str) (pe x : Str) : Bool :=
  (He.Fa.glo x).ok K && ((He.Fa.exc x).ok K && (excB K (He.ga K x) && ((He.Fa.exm x pe true).ok K && (decide (PySem.W.kitOne K (.ref (He.ga K x)) (.type "ValueError") = some true) &&
    A.all fun y => (He.Fa.glo y).ok K && decide (PySem.W.kitOne K (.ref (He.ga K x)) (.ref (He.ga K y)) = some (decide (x = y)))))))
def setB (L A : List Str) (pe : Str) (K : PySem.W.Frag) : Bool := (He.Fa.glo pe).ok K && L.all fun x => oneB K A pe x
section
variable {g : G} {X : Cx} {a b c e : Expr} {es : List Expr} {pos p1 p2 p3 px : Pos} {L A : List Str} {pe : Str} {PEa : Addr}
end
abbrev lamN (x : Str) : Str := (envOfC x ⟨.function, [], false, false, []⟩ 0 0 .none).qual ++ "<lambda>"
def TT (K : PySem.W.Frag) (TF : List He.Defn) : List (Addr × Str) := TF.map fun p => ((He.cT K p).2, lamN p.1)
end Dy
namespace Dy
open PySem PySem.Spec PyProof.Rows L2
section
variable {X : Cx} {K : PySem.W.Frag}
end
end Dy
namespace Dy
open PySem PySem.Spec PyProof.Rows L2
section
variable {g : G} {X : Cx} {a b c e : Expr} {es : List Expr} {pos p tpos : Pos} {σ : St} {H : Hp} {tg : Expr}
end
end Dy
namespace Dy
open PySem PySem.Spec PyProof.Rows L2
section
variable {g : G} {X : Cx} {a b c e : Expr} {es : List Expr} {pos p1 p2 px : Pos} {σ : St} {H I I' H1 : Hp} {env e' : Env} {F F' : Nat → List Addr} {D : Ends}
theorem Step.more {S S1 S2 : Addr → Prop} (a : Step I H S I' H1 S1) (h : ∀ x, S x → S2 x) : Step I H S2 I' H1 S1 :=
  ⟨a.i1, fun x o q n => a.fr x o q fun z => n (h x z), fun x o q n => a.th x o q fun z => n (h x z), fun x q => (a.s' x q).imp (h x) id, fun x o q => (a.i' x o q).imp id (Or.imp (h x) id)⟩
theorem Sim.hide {K : PySem.W.Frag} {π : Pn} (s : Sim K π I H σ env F) (i : Nat) : Sim K π I H σ (env.set i none) (clF F [i]) := s.forget [i]
theorem hid_not {K : PySem.W.Frag} {π : Pn} (s : Sim K π I H σ env F) {i : Nat} {x : Addr} (h : x ∈ F i) : ¬ Ow (clF F [i]) x := fun ⟨j, hj⟩ => by
  unfold clF at hj
  split at hj
  · cases hj
  · rename_i n
    exact n (by rw [s.dis j i x hj h]; simp)
theorem hid_keeps {K : PySem.W.Frag} {π : Pn} (s : Sim K π I H σ env F) {i : Nat} (st : Step I H (Ow (clF F [i])) I' H1 (Ow F')) : ∀ x ∈ F i, H1 x = H x :=
  st.keeps (fun x hx => s.domN hx) fun x hx => hid_not s hx
theorem unhide {K : PySem.W.Frag} {π : Pn} (s : Sim K π I H σ env F) {i : Nat} {o : O} (q : env[i]? = some (some o)) (s' : Sim K π I' H1 σ e' F') (st : Step I H (Ow (clF F [i])) I' H1 (Ow F')) :
    Sim K π I' H1 σ (e'.set i (some o)) (upF F' i (F i)) ∧ Step I H (Ow F) I' H1 (Ow (upF F' i (F i))) := by
  obtain ⟨v, e1, r⟩ := s.rep i o q
  have kp := hid_keeps s st
  have nI : ∀ x ∈ F i, I' x = none := fun x hx => by
    cases z : I' x with
    | none => rfl
    | some u =>
      rcases st.i' x u z with y | y | y
      · rw [s.djI i x hx] at y; cases y
      · exact absurd y (hid_not s hx)
      · obtain ⟨w, hw⟩ := s.dom hx; rw [hw] at y; cases y
  have nF : ∀ x ∈ F i, ¬ Ow F' x := fun x hx z => by
    rcases st.s' x z with y | y
    · exact hid_not s hx y
    · obtain ⟨w, hw⟩ := s.dom hx; rw [hw] at y; cases y
  have hi : i < e'.length := by
    rw [s'.len, ← s.len]
    cases Nat.lt_or_ge i env.length with
    | inl h => exact h
    | inr h => rw [List.getElem?_eq_none h] at q; cases q
  have pt := s'.put (i := i) (x := some o) (sv := some v) (R := F i) hi (Same.refl _) s'.sub (fun _ _ _ _ => rfl) (fun j _ a ha => s'.djI j a ha) nI (fun j hj a ha h => nF a h ⟨j, ha⟩) (fun o' e => by cases e; exact ⟨v, rfl, r.mono st.i1 kp⟩) (fun e => by cases e) (fun hp => by
    have := s'.pin i hp; rw [e1] at this; exact Option.some.inj this)
  rw [set_same e1] at pt
  refine ⟨pt, ((st.aside (fun x => x ∈ F i) (fun x hx => s.dom hx) fun x hx => hid_not s hx).more fun x h => ?_).less fun x h => ?_⟩
  · rcases h with h | h
    · exact clF_ow h
    · exact ⟨i, h⟩
  · rcases ow_up h with z | z
    · exact .inl z
    · exact .inr z
/-- x[k].append(e), x a list of lists of its own -/
def fAppI (i : Nat) (y : Env → Option Int) (f : EF) : SF := fun env => match env[i]?, y env with
  | some (some (.oo rs)), some k => match ixN rs.length k with
    | some j => match rs[j]? with
      | some w => if w.length < 1000000 then nE (f (env.set i none)) >>= fun r => .ok (.nx, r.2.set i (some (.oo (rs.set j (w ++ [r.1.data]))))) else .no
      | none => .no
    | none => .no
  | _, _ => .no
theorem ds_appI {i : Nat} {x : Str} {y : Env → Option Int} {ty : TE} {apos cpos spos : Pos} {f : EF} (hx : PE X (.Name x px) (tVar i)) (hy : PE X b ty) (py : PI1 g ty y) (hb : PlainIx b) (he : DE g X e f)
    (h2 : attributeBase (.Subscript (.Name x px) b p1) "append" X.env (eval (.Subscript (.Name x px) b p1) X.env) = eval (.Subscript (.Name x px) b p1) X.env := by rfl)
    (h3 : ((backTo cpos (starEach [e] X.env)).all (fun x => !x.1) && (backToKw cpos (keywordEach [] X.env)).all (fun x => x.1.isSome)
      && decide ([e].length + ([] : List Keyword).length + (if ([] : List Keyword).isEmpty then 0 else 1) < 30)) = true := by rfl)
    (h4 : (apos.endLine == cpos.line) = true := by rfl) (h5 : starEach [e] X.env = (false, eval e X.env) :: starEach [] X.env := by rfl)
    (hs : swapsWith (.Call (.Attribute (.Subscript (.Name x px) b p1) "append" apos) [e] [] cpos) none spos.line X.env = pure false := by rfl) :
    DS g X (.Expr (.Call (.Attribute (.Subscript (.Name x px) b p1) "append" apos) [e] [] cpos) spos) (fAppI i y f) :=
  PS.imp (ps_expr (pe_bm PySem.F.plainAttrs_list PySem.F.slot_list_append PySem.F.type_list_append mt_append (pe_ix ix_list hx hy hb) (pa_cons he pa_nil h5) h2 h3 h4 h5 rfl) hs) fun D σ H q => by
  obtain ⟨I, env, F, s, p⟩ := q
  unfold fAppI at p
  split at p
  · rename_i rs k q0 q1
    cases q4 : ixN rs.length k with
    | none => simp only [q4] at p; exact p.elim
    | some j =>
      simp only [q4] at p
      cases q5 : rs[j]? with
      | none => simp only [q5] at p; exact p.elim
      | some w =>
        simp only [q5] at p
        by_cases hz : w.length < 1000000
        · rw [if_pos hz] at p
          obtain ⟨pa, as, e1, hF, nd, h1, h2, _⟩ := s.ownO q0
          obtain ⟨xa, us, e2, e3, e4⟩ := h2.at q5
          have e7 : atI (as.map V.ref) k = some (.ref xa) := by
            unfold atI
            rw [List.length_map, h2.len, q4]
            show (as.map V.ref)[j]? = _
            rw [List.getElem?_map, e2]; rfl
          have hxF : xa ∈ F i := by rw [hF]; exact List.mem_cons_of_mem _ (List.mem_of_getElem? e2)
          refine ⟨_, e1, py I H σ env F k _ s q1 ?_⟩
          refine ⟨pa, _, k, _, rfl, rfl, SqL.of h1, e7, ?_⟩
          refine ⟨.inl ⟨rfl, us, SqL.of e3⟩, ?_⟩
          refine ⟨I, env.set i none, clF F [i], s.hide i, nE_post (post_mono (post_bind.mp p) (fun r q v H1 af => ?_) fun _ z => z)⟩
          obtain ⟨I', F', rp, s', st⟩ := af.frz
          obtain ⟨s2, st2⟩ := unhide s q0 s' st
          have q0' : (r.2.set i (some (.oo rs)))[i]? = some (some (.oo rs)) := by
            refine List.getElem?_set_self ?_
            rw [s'.len, ← s.len]
            exact s.lt q0
          obtain ⟨pa', as', e1', hF', nd', h1', h2', up⟩ := s2.ownO q0'
          rw [e1] at e1'; cases e1'
          have hk := hid_keeps s st
          have h1k : H1 pa = some (.lst (as.map V.ref)) := by rw [hk pa (by rw [hF]; simp)]; exact h1
          have ea : as' = as := by
            rw [h1k] at h1'
            have e9 := HO.lst.inj (Option.some.inj h1')
            exact (List.map_inj_right (fun x y h => V.ref.inj h)).mp e9.symm
          subst ea
          have hxH : H1 xa = some (.lst us) := by rw [hk xa hxF]; exact e3
          have af2 := AftS.trans st2 (up j xa _ _ e2 ((e4.mono st.i1).app (.cons rp .nil)))
          rw [List.set_set] at af2
          exact ⟨xa, us, v, rfl, rfl, hxH, by rw [e4.length]; exact Nat.lt_of_lt_of_le hz (by decide), q _ _ af2⟩
        · rw [if_neg hz] at p; exact p.elim
  · exact p.elim
theorem own_upd {K : PySem.W.Frag} {π : Pn} {i : Nat} {ds : List PyData} (s : Sim K π I H σ env F) (q : env[i]? = some (some (.ol ds))) :
    ∃ a vs, σ[i]? = some (some (.ref a)) ∧ F i = [a] ∧ H a = some (.lst vs) ∧ RpAll K I vs ds := by
  obtain ⟨v, e1, a, vs, rfl, hF, h1, h2⟩ := s.rep i _ q
  exact ⟨a, vs, e1, hF, h1, h2⟩
end
end Dy
namespace Dy
open PySem PySem.Spec PyProof.Rows L2
open PySem.W (alike alike_all_cons toks_eqv eqAt_alike oneLt_alike dataLt EachIs AllAlike Sortable SortsAt keyToks sortLe sortVals sorted_vals sortVals_each dataLe dataType looks_reads dataType_alike dataType_tuple each_katTups kat_lt kat_cons kat_yes kat_no kat_nil kat_kind KeyedOut sorted_data alike_unique sort_unique sortLe_total sameRank)
open Classical in
section
variable {h : Heap} {ds : List PyData}
end
section
variable {prog : Program} {w : World} {A : Around} {s : Shared}
end
section
variable {X : Cx} {K : PySem.W.Frag}
end
end Dy
namespace Dy
open PySem PySem.Spec PyProof.Rows L2
def pOo0 : List PyData → Option O
  | [] => some (.oo [])
  | _ => none
theorem Grow.oo0 {K : PySem.W.Frag} {I H : Hp} {p : Addr} (s : Same I H) (n : H p = none) : Grow K I H I (upd H p (.lst [])) (.oo []) (.ref p) [p] :=
  ⟨⟨p, [], rfl, rfl, by simp, upd_same, .nil⟩, Same.refl _, same_new n, s.trans (same_new n), fun a h => by simp at h; subst h; exact n, fun a h => by simp at h; subst h; exact none_of_same s n, fun _ _ h => .inl h⟩
theorem ov_oo0 {K : PySem.W.Frag} : OpV K (fun xs H1 Q => xs.length ≤ sizeLine ∧ ∀ p, H1 p = none → Q (.ref p) (upd H1 p (.lst xs))) pOo0 := fun vs ds I H Q o s r e k => by
  cases ds with
  | cons _ _ => cases e
  | nil =>
    cases e
    cases r
    exact ⟨Nat.zero_le _, fun p np => k _ _ _ _ (Grow.oo0 s np)⟩
section
variable {g : G} {X : Cx} {a b c e : Expr} {es : List Expr} {pos p1 p2 p3 px py : Pos} {σ : St} {H I I' H1 : Hp} {env e' : Env} {F F' : Nat → List Addr} {D : Ends}
theorem de_lstO {as : List AF} (h : DA g X es as) : DE g X (.List es pos) (fOv pOo0 as) := PE.imp (pe_lst h) fun σ H Q q => ov_key ov_oo0 q
def fAppO (i : Nat) (f : EF) : SF := fun env => match env[i]? with
  | some (some (.oo _)) => f env >>= fun r => match r.1, r.2[i]? with
    | .ol w, some (some (.oo rs)) => if rs.length < 1000000 then .ok (.nx, r.2.set i (some (.oo (rs ++ [w])))) else .no
    | _, _ => .no
  | _ => .no
theorem ds_appO {i : Nat} {x : Str} {px apos cpos spos : Pos} {f : EF} (hx : PE X (.Name x px) (tVar i)) (he : DE g X e f)
    (h2 : attributeBase (.Name x px) "append" X.env (eval (.Name x px) X.env) = eval (.Name x px) X.env := by rfl)
    (h3 : ((backTo cpos (starEach [e] X.env)).all (fun x => !x.1) && (backToKw cpos (keywordEach [] X.env)).all (fun x => x.1.isSome)
      && decide ([e].length + ([] : List Keyword).length + (if ([] : List Keyword).isEmpty then 0 else 1) < 30)) = true := by rfl)
    (h4 : (apos.endLine == cpos.line) = true := by rfl) (h5 : starEach [e] X.env = (false, eval e X.env) :: starEach [] X.env := by rfl)
    (hs : swapsWith (.Call (.Attribute (.Name x px) "append" apos) [e] [] cpos) none spos.line X.env = pure false := by rfl) :
    DS g X (.Expr (.Call (.Attribute (.Name x px) "append" apos) [e] [] cpos) spos) (fAppO i f) := PS.imp (ps_expr (pe_bm PySem.F.plainAttrs_list PySem.F.slot_list_append PySem.F.type_list_append mt_append hx (pa_cons he pa_nil h5) h2 h3 h4 h5 rfl) hs) fun D σ H q => by
  obtain ⟨I, env, F, s, p⟩ := q
  unfold fAppO at p
  split at p
  · rename_i rs0 q0
    obtain ⟨pa, as, e1, hF, nd, h1, h2, _⟩ := s.ownO q0
    refine ⟨.ref pa, e1, .inl ⟨rfl, _, SqL.of h1⟩, ?_⟩
    refine tD_seq s p fun r v H1 af q => ?_
    obtain ⟨I', F', R, rp, s', nR, dR, st⟩ := af
    split at q
    · rename_i w rs er q1
      by_cases hz : rs.length < 1000000
      · rw [if_pos hz] at q
        rw [er] at rp
        obtain ⟨ra, us, rfl, rfl, hr, rr⟩ := rp
        obtain ⟨pa', as', e1', hF', nd', h1', h2', _⟩ := s'.ownO q1
        rw [e1] at e1'; cases e1'
        have nra : ∀ j, ra ∉ F' j := fun j hj => dR ra ⟨j, hj⟩ (by simp)
        have hra : ra ∉ pa :: as' := by rw [← hF']; exact nra i
        have paF : pa ∈ F' i := by rw [hF']; simp
        have hpr : pa ≠ ra := fun z => hra (by rw [z]; simp)
        have nIp := s'.djI i pa paF
        have hi := s'.lt q1
        have npa : ∀ j, j ≠ i → ∀ b ∈ F' j, b ≠ pa := fun j hj b hb z => by subst z; exact hj (s'.dis j i b hb paF)
        have l2 := h2'.len
        refine ⟨pa, as'.map V.ref, .ref ra, rfl, rfl, h1', by rw [List.length_map, l2]; exact Nat.lt_of_lt_of_le hz (by decide), q _ _ ?_⟩
        refine ⟨I', upF F' i (pa :: (as' ++ [ra])), ?_, st.trans (Step.of4 (Same.refl _) (fun b o h n => ?_) (fun b h => ?_) (fun _ _ h => .inl h))⟩
        · have := s'.put (i := i) (x := some (.oo (rs ++ [w]))) (sv := some (.ref pa)) (R := pa :: (as' ++ [ra])) (H' := upd H1 pa (.lst (as'.map V.ref ++ [.ref ra]))) hi (Same.refl _) (fun b o h => ?_) (fun j hj b hb => ?_) (fun j _ b hb => s'.djI j b hb) (fun b hb => ?_) (fun j hj b hb h => ?_) (fun o e => ?_) (fun e => by cases e) (fun hp => ?_) (s'.ktO paF)
          · rw [set_same e1] at this; exact this
          · rw [upd_ne (fun e => by subst e; rw [nIp] at h; cases h)]; exact s'.sub b o h
          · rw [upd_ne (npa j hj b hb)]
          · rcases List.mem_cons.mp hb with rfl | hb
            · exact nIp
            · rcases List.mem_append.mp hb with hb | hb
              · exact s'.djI i b (by rw [hF']; exact List.mem_cons_of_mem _ hb)
              · simp at hb; subst hb; exact nR b (by simp)
          · rcases List.mem_cons.mp h with rfl | h
            · exact npa j hj b hb rfl
            · rcases List.mem_append.mp h with h | h
              · exact hj (s'.dis j i b hb (by rw [hF']; exact List.mem_cons_of_mem _ h))
              · simp at h; subst h; exact nra j hb
          · cases e
            refine ⟨_, rfl, pa, as' ++ [ra], rfl, rfl, ?_, by rw [upd_same, List.map_append]; rfl, ?_⟩
            · rw [List.nodup_cons] at nd' ⊢
              refine ⟨fun z => ?_, ?_⟩
              · rcases List.mem_append.mp z with z | z
                · exact nd'.1 z
                · simp at z; exact hpr z
              · rw [List.nodup_append]
                refine ⟨nd'.2, by simp, fun x hx y hy => ?_⟩
                simp at hy; subst hy
                exact fun z => hra (by rw [← z]; exact List.mem_cons_of_mem _ hx)
            · refine (h2'.mono (Same.refl _) fun x hx => upd_ne fun z => ?_).app (.cons ?_ rr .nil)
              · subst z; exact (List.nodup_cons.mp nd').1 hx
              · rw [upd_ne (Ne.symm hpr)]; exact hr
          · have := s'.pin i hp; rw [e1] at this; exact Option.some.inj this
        · rw [upd_ne (fun e => by subst e; exact n (.inl ⟨i, paF⟩))]; exact h
        · rcases ow_up h with z | z
          · exact .inl (.inl z)
          · rcases List.mem_cons.mp z with rfl | z
            · exact .inl (.inl ⟨i, paF⟩)
            · rcases List.mem_append.mp z with z | z
              · exact .inl (.inl ⟨i, by rw [hF']; exact List.mem_cons_of_mem _ z⟩)
              · exact .inl (.inr z)
      · rw [if_neg hz] at q; exact q.elim
    · exact q.elim
  · exact p.elim
def fCallR (m : Fn) (i j : Nat) (y : Env → Option Int) : EF := fun env => match env[i]?, env[j]?, y env with
  | some (some o), some (some (.oo rs)), some k => match ixN rs.length k with
    | some n => match rs[n]? with
      | some w => if i ≠ j then m [o, .ol w] >>= fun q => match q.2 with
        | [o', .ol w'] => .ok (q.1, (env.set i (some o')).set j (some (.oo (rs.set n w'))))
        | _ => .no else .no
      | none => .no
    | none => .no
  | _, _, _ => .no
theorem Rows.chg {K : PySem.W.Frag} {as : List Addr} {rs : List (List PyData)} {k : Nat} {x : Addr} {us : List V} {r : List PyData} (h : Rows K I H as rs) (nd : as.Nodup) (sm : Same I I') (hk : as[k]? = some x) (hr : RpAll K I' us r) (hx : H1 x = some (.lst us)) (kp : ∀ a ∈ as, a ≠ x → H1 a = H a) : Rows K I' H1 as (rs.set k r) := by
  refine ((h.mono (H' := H) sm fun _ _ => rfl).put nd hk hr).mono (Same.refl _) fun a ha => ?_
  by_cases e : a = x
  · subst e; rw [upd_same, hx]
  · rw [upd_ne e, kp a ha e]
/-- a row stands as a slot of its own -/
def spF (F : Nat → List Addr) (n j : Nat) (x : Addr) : Nat → List Addr := fun l => if l = n then [x] else if l = j then [] else F l
def jnF (F : Nat → List Addr) (n j : Nat) (T : List Addr) : Nat → List Addr := fun l => if l = n then [] else if l = j then T else F l
theorem sim_split {K : PySem.W.Frag} {π : Pn} {j : Nat} {w : List PyData} {us : List V} {x : Addr} (s : Sim K π I H σ env F) (hx : x ∈ F j) (h1 : H x = some (.lst us)) (h2 : RpAll K I us w) :
    Sim K π I H (σ ++ [some (.ref x)]) (env.set j none ++ [some (.ol w)]) (spF F σ.length j x) := by
  have le : (env.set j none).length = σ.length := by rw [List.length_set, s.len]
  have at' : ∀ l, l < σ.length → (env.set j none ++ [some (O.ol w)])[l]? = (env.set j none)[l]? := fun l h => List.getElem?_append_left (by rw [le]; exact h)
  have atn : (env.set j none ++ [some (O.ol w)])[σ.length]? = some (some (.ol w)) := by rw [List.getElem?_append_right (by omega), le, Nat.sub_self]; rfl
  have big : ∀ l, σ.length < l → F l = [] := fun l h => s.out l fun o z => by rw [List.getElem?_eq_none (by rw [s.len]; omega)] at z; cases z
  refine ⟨by simp [s.len], fun l o q => ?_, fun l q => ?_, fun l l' a ha hb => ?_, fun l a ha => ?_, s.sub, fun p hp => ?_, s.tab⟩
  · by_cases hl : l < σ.length
    · rw [at' l hl] at q
      by_cases hj : l = j
      · subst hj
        rw [List.getElem?_set_self (by rw [s.len]; exact hl)] at q
        cases q
      · rw [List.getElem?_set_ne (Ne.symm hj)] at q
        obtain ⟨v, e1, r⟩ := s.rep l o q
        exact ⟨v, by rw [List.getElem?_append_left hl]; exact e1, by unfold spF; rw [if_neg (by omega), if_neg hj]; exact r⟩
    · by_cases hn : l = σ.length
      · subst hn
        rw [atn] at q; cases q
        exact ⟨.ref x, by rw [List.getElem?_append_right (by omega), Nat.sub_self]; rfl, by unfold spF; rw [if_pos rfl]; exact ⟨x, us, rfl, rfl, h1, h2⟩⟩
      · rw [List.getElem?_eq_none (by rw [List.length_append, le]; simp; omega)] at q; cases q
  · unfold spF
    by_cases hn : l = σ.length
    · subst hn; exact absurd atn (q _)
    · rw [if_neg hn]
      by_cases hj : l = j
      · rw [if_pos hj]
      · rw [if_neg hj]
        by_cases hl : l < σ.length
        · exact s.out l fun o z => q o (by rw [at' l hl, List.getElem?_set_ne (Ne.symm hj)]; exact z)
        · exact big l (by omega)
  · unfold spF at ha hb
    have xj : ∀ l, l ≠ j → x ∉ F l := fun l hj z => hj (s.dis l j x z hx)
    by_cases hn : l = σ.length
    · by_cases hm : l' = σ.length
      · rw [hn, hm]
      · rw [if_pos hn] at ha; rw [if_neg hm] at hb
        simp at ha; subst ha
        by_cases hj : l' = j
        · rw [if_pos hj] at hb; cases hb
        · rw [if_neg hj] at hb; exact absurd hb (xj l' hj)
    · rw [if_neg hn] at ha
      by_cases hj : l = j
      · rw [if_pos hj] at ha; cases ha
      · rw [if_neg hj] at ha
        by_cases hm : l' = σ.length
        · rw [if_pos hm] at hb; simp at hb; subst hb; exact absurd ha (xj l hj)
        · rw [if_neg hm] at hb
          by_cases hj' : l' = j
          · rw [if_pos hj'] at hb; cases hb
          · rw [if_neg hj'] at hb; exact s.dis l l' a ha hb
  · unfold spF at ha
    by_cases hn : l = σ.length
    · rw [if_pos hn] at ha; simp at ha; subst ha; exact s.djI j a hx
    · rw [if_neg hn] at ha
      by_cases hj : l = j
      · rw [if_pos hj] at ha; cases ha
      · rw [if_neg hj] at ha; exact s.djI l a ha
  · have := s.pin p hp
    rw [List.getElem?_append_left (by
      cases Nat.lt_or_ge p σ.length with
      | inl h => exact h
      | inr h => rw [List.getElem?_eq_none h] at this; cases this)]
    exact this
theorem spF_ow {n j : Nat} {x z : Addr} (hx : x ∈ F j) (h : Ow (spF F n j x) z) : Ow F z := by
  obtain ⟨l, hl⟩ := h
  unfold spF at hl
  split at hl
  · simp at hl; subst hl; exact ⟨j, hx⟩
  · split at hl
    · cases hl
    · exact ⟨l, hl⟩
theorem sim_join {K : PySem.W.Frag} {π : Pn} {j n i : Nat} {w w' : List PyData} {x pa : Addr} {as : List Addr} {rs : List (List PyData)} {o o' : O} {v : V} (s : Sim K π I H σ env F)
    (ei : i < σ.length) (hij : i ≠ j) (q0 : env[j]? = some (some (.oo rs))) (e1 : σ[j]? = some (some (.ref pa))) (hF : F j = pa :: as) (nd : (pa :: as).Nodup) (h1 : H pa = some (.lst (as.map V.ref))) (h2 : Rows K I H as rs) (e2 : as[n]? = some x)
    (af : Aft K π I H (spF F σ.length j x) (σ ++ [some (.ref x)]) (((env.set j none ++ [some (O.ol w)]).set i (some o')).set σ.length (some (O.ol w'))) o v H1) :
    Aft K π I H F σ ((env.set i (some o')).set j (some (.oo (rs.set n w')))) o v H1 := by
  obtain ⟨I', F', R, r, s', nR, dR, st⟩ := af
  have xa : x ∈ as := List.mem_of_getElem? e2
  have xF : x ∈ F j := by rw [hF]; exact List.mem_cons_of_mem _ xa
  have hj : j < σ.length := by
    rw [← s.len]
    cases Nat.lt_or_ge j env.length with
    | inl h => exact h
    | inr h => rw [List.getElem?_eq_none h] at q0; cases q0
  have le : (env.set j none).length = σ.length := by rw [List.length_set, s.len]
  let T := (pa :: as).filter (fun a => decide (a ≠ x))
  have memT : ∀ {a}, a ∈ T ↔ a ∈ pa :: as ∧ a ≠ x := fun {a} => by simp [T, List.mem_filter]
  have TF : ∀ {a}, a ∈ T → a ∈ F j := fun {a} h => by rw [hF]; exact (memT.mp h).1
  have notS : ∀ a ∈ T, ¬ Ow (spF F σ.length j x) a := fun a ha ⟨l, hl⟩ => by
    unfold spF at hl
    split at hl
    · simp at hl; exact (memT.mp ha).2 hl
    · split at hl
      · cases hl
      · rename_i nj; exact nj (s.dis l j a hl (TF ha))
  obtain ⟨k1, k2, k3⟩ := st.set (T := T) (fun a ha => s.domN (TF ha)) notS fun a ha => s.djI j a (TF ha)
  have at1 : ∀ l, l < σ.length → l ≠ j → (((env.set j none ++ [some (O.ol w)]).set i (some o')).set σ.length (some (.ol w')))[l]? = (env.set i (some o'))[l]? := fun l h hlj => by
    rw [List.getElem?_set_ne (by omega)]
    by_cases hi : i = l
    · subst hi
      rw [List.getElem?_set_self (by rw [List.length_append, le]; omega), List.getElem?_set_self (by rw [s.len]; exact ei)]
    · rw [List.getElem?_set_ne hi, List.getElem?_set_ne hi, List.getElem?_append_left (by rw [le]; exact h), List.getElem?_set_ne (Ne.symm hlj)]
  have atn : (((env.set j none ++ [some (O.ol w)]).set i (some o')).set σ.length (some (.ol w')))[σ.length]? = some (some (.ol w')) := by
    rw [List.getElem?_set_self (by rw [List.length_set, List.length_append, le]; simp)]
  have atb : ∀ l, σ.length < l → (((env.set j none ++ [some (O.ol w)]).set i (some o')).set σ.length (some (.ol w')))[l]? = none := fun l h => by
    rw [List.getElem?_eq_none]; simp [s.len]; omega
  obtain ⟨v', ev, a', us', eu, Fn, hx', rx'⟩ := s'.rep _ _ atn
  rw [List.getElem?_append_right (by omega), Nat.sub_self] at ev
  cases ev
  cases eu
  have Fn : F' σ.length = [x] := Fn
  have xn : x ∈ F' σ.length := by rw [Fn]; simp
  have spl : ∀ a ∈ pa :: as, a = x ∨ a ∈ T := fun a ha => by
    by_cases e : a = x
    · exact .inl e
    · exact .inr (memT.mpr ⟨ha, e⟩)
  have lt_of : ∀ {l : Nat} {v : Option V}, σ[l]? = some v → l < σ.length := fun {l v} h => by
    cases Nat.lt_or_ge l σ.length with
    | inl h => exact h
    | inr h' => rw [List.getElem?_eq_none h'] at h; cases h
  have ej : ((env.set i (some o')).set j (some (O.oo (rs.set n w'))))[j]? = some (some (.oo (rs.set n w'))) := List.getElem?_set_self (by rw [List.length_set, s.len]; exact hj)
  have ow : ∀ a, Ow (jnF F' σ.length j (pa :: as)) a → Ow F' a ∨ a ∈ T := fun a ⟨l, hl⟩ => by
    unfold jnF at hl
    split at hl
    · cases hl
    · split at hl
      · rcases spl a hl with z | z
        · subst z; exact .inl ⟨_, xn⟩
        · exact .inr z
      · exact .inl ⟨l, hl⟩
  refine ⟨I', jnF F' σ.length j (pa :: as), R, r, ⟨by simp [s.len], fun l y q => ?_, fun l q => ?_, fun l l' a ha hb => ?_, fun l a ha => ?_, s'.sub, s.pin, s'.tab⟩, nR, fun a ha hr => ?_, st.i1, fun a u h nn nt => ?_, fun a u h nn => ?_, fun a h => ?_, fun a u h => ?_⟩
  · by_cases hl : l = j
    · subst hl
      rw [ej] at q; cases q
      refine ⟨.ref pa, e1, ?_⟩
      unfold jnF
      rw [if_neg (by omega), if_pos rfl]
      have pT : pa ∈ T := memT.mpr ⟨by simp, fun z => (List.nodup_cons.mp nd).1 (by rw [z]; exact xa)⟩
      exact ⟨pa, as, rfl, rfl, nd, by rw [k1 pa pT]; exact h1, h2.chg (List.nodup_cons.mp nd).2 st.i1 e2 rx' hx' fun a ha ne => k1 a (memT.mpr ⟨List.mem_cons_of_mem _ ha, ne⟩)⟩
    · rw [List.getElem?_set_ne (Ne.symm hl)] at q
      have hll : l < σ.length := by
        cases Nat.lt_or_ge l σ.length with
        | inl h => exact h
        | inr h => rw [List.getElem?_eq_none (by rw [List.length_set, s.len]; exact h)] at q; cases q
      rw [← at1 l hll hl] at q
      obtain ⟨u, e3, rr⟩ := s'.rep l y q
      rw [List.getElem?_append_left hll] at e3
      exact ⟨u, e3, by unfold jnF; rw [if_neg (by omega), if_neg hl]; exact rr⟩
  · unfold jnF
    by_cases hn : l = σ.length
    · rw [if_pos hn]
    · rw [if_neg hn]
      by_cases hl : l = j
      · subst hl; exact absurd ej (q _)
      · rw [if_neg hl]
        refine s'.out l fun y z => ?_
        rcases Nat.lt_or_ge l σ.length with h | h
        · rw [at1 l h hl] at z
          exact q y (by rw [List.getElem?_set_ne (Ne.symm hl)]; exact z)
        · rw [atb l (by omega)] at z; cases z
  · unfold jnF at ha hb
    by_cases hn : l = σ.length
    · rw [if_pos hn] at ha; cases ha
    by_cases hn' : l' = σ.length
    · rw [if_pos hn'] at hb; cases hb
    rw [if_neg hn] at ha; rw [if_neg hn'] at hb
    by_cases hl : l = j
    · rw [if_pos hl] at ha
      by_cases hl' : l' = j
      · rw [hl, hl']
      · rw [if_neg hl'] at hb
        rcases spl a ha with z | z
        · subst z; exact absurd (s'.dis _ _ _ xn hb) (Ne.symm hn')
        · exact absurd (.inl ⟨l', hb⟩) (k2 a z)
    · rw [if_neg hl] at ha
      by_cases hl' : l' = j
      · rw [if_pos hl'] at hb
        rcases spl a hb with z | z
        · subst z; exact absurd (s'.dis _ _ _ xn ha) (Ne.symm hn)
        · exact absurd (.inl ⟨l, ha⟩) (k2 a z)
      · rw [if_neg hl'] at hb; exact s'.dis l l' a ha hb
  · unfold jnF at ha
    by_cases hn : l = σ.length
    · rw [if_pos hn] at ha; cases ha
    rw [if_neg hn] at ha
    by_cases hl : l = j
    · rw [if_pos hl] at ha
      rcases spl a ha with z | z
      · subst z; exact s'.djI _ _ xn
      · exact k3 a z
    · rw [if_neg hl] at ha; exact s'.djI l a ha
  · rcases ow a ha with z | z
    · exact dR a z hr
    · exact k2 a z (.inr hr)
  · exact st.fr a u h (fun z => nn (spF_ow xF z)) nt
  · exact st.th a u h fun z => nn (spF_ow xF z)
  · rcases h with h | h
    · rcases ow a h with z | z
      · rcases st.s' a (.inl z) with y | y
        · exact .inl (spF_ow xF y)
        · exact .inr y
      · exact .inl ⟨j, TF z⟩
    · rcases st.s' a (.inr h) with y | y
      · exact .inl (spF_ow xF y)
      · exact .inr y
  · rcases st.i' a u h with z | z | z
    · exact .inl z
    · exact .inr (.inl (spF_ow xF z))
    · exact .inr (.inr z)
theorem de_callR {k : Nat} {f : Addr} {fd : FuncData} {ps : List Str} {m : Fn} {xf x z : Str} {i j : Nat} {y : Env → Option Int} {ty : TE} {p : Pos} (Fm : FnG X.prog X.w X.K X.mg X.base k f fd ps (spD g.K g.mg g.pn.2.2 m)) (hgd : X.A.guards = some []) (hr : Room k X.A) (hg : Gl X xf) (hm : X.mg xf = some (.ref f)) (hk : PySem.W.keepIn X.K (.ref f) = true) (hb : Binds X.K fd ps []) (hxx : Passes (L2.CX X.prog X.w) X g.E)
    (hx : PE X (.Name x px) (tVar i)) (hz : PE X (.Name z py) (tVar j)) (hy : PE X b ty) (hpy : PI1 g ty y) (hpb : PlainIx b) (hdb : (xf == ("__debug__" : Str)) = false := by decide)
    (he : starEach [.Name x px, .Subscript (.Name z py) b p1] X.env = (false, eval (.Name x px) X.env) :: starEach [.Subscript (.Name z py) b p1] X.env := by rfl)
    (he2 : starEach [.Subscript (.Name z py) b p1] X.env = (false, eval (.Subscript (.Name z py) b p1) X.env) :: starEach [] X.env := by rfl)
    (hpl : (backTo pos (starEach [.Subscript (.Name z py) b p1] X.env)).any (·.1) = false := by rfl) :
    DE g X (.Call (.Name xf p) [.Name x px, .Subscript (.Name z py) b p1] [] pos) (fCallR m i j y) :=
  PE.imp (peG Fm hgd hr hg hm hk hb hxx (pa_cons hx (pa_cons (pe_ix ix_list hz hy hpb) pa_nil he2) he) hdb he hpl) fun σ H Q h => by
  obtain ⟨I, env, F, s, pp⟩ := h
  unfold fCallR at pp
  split at pp
  · rename_i o rs kk q1 q0 qk
    cases q4 : ixN rs.length kk with
    | none => simp only [q4] at pp; exact pp.elim
    | some n =>
      simp only [q4] at pp
      cases q5 : rs[n]? with
      | none => simp only [q5] at pp; exact pp.elim
      | some w =>
        simp only [q5] at pp
        by_cases hij : i ≠ j
        · rw [if_pos hij] at pp
          obtain ⟨pa, as, e1, hF, nd, h1, h2, _⟩ := s.ownO q0
          obtain ⟨xa, us, e2, e3, e4⟩ := h2.at q5
          have e7 : atI (as.map V.ref) kk = some (.ref xa) := by
            unfold atI
            rw [List.length_map, h2.len, q4]
            show (as.map V.ref)[n]? = _
            rw [List.getElem?_map, e2]; rfl
          have xF : xa ∈ F j := by rw [hF]; exact List.mem_cons_of_mem _ (List.mem_of_getElem? e2)
          obtain ⟨vi, ei, ri⟩ := s.rep i o q1
          have li : i < σ.length := by rw [← s.len]; exact s.lt q1
          refine ⟨vi, ei, _, e1, hpy I H σ env F kk _ s qk ?_⟩
          refine ⟨pa, _, kk, _, rfl, rfl, SqL.of h1, e7, ?_⟩
          have s2 := sim_split s xF e3 e4
          have nd2 : ndS [AV.s i, AV.s σ.length] = true := by
            have : ¬ σ.length = i := by omega
            simp [ndS, sl, this]
          have av : RepAV g.K I (σ ++ [some (.ref xa)]) [AV.s i, AV.s σ.length] [vi, .ref xa] :=
            .s (by rw [List.getElem?_append_left li]; exact ei) (.s (by rw [List.getElem?_append_right (by omega), Nat.sub_self]; rfl) .nil)
          have le : (env.set j none).length = σ.length := by rw [List.length_set, s.len]
          have ro : rsO (env.set j none ++ [some (.ol w)]) [AV.s i, AV.s σ.length] = some [o, .ol w] := by
            have a1 : (env.set j none ++ [some (O.ol w)])[i]? = some (some o) := by
              rw [List.getElem?_append_left (by rw [le]; exact li), List.getElem?_set_ne (Ne.symm hij)]; exact q1
            have a2 : (env.set j none ++ [some (O.ol w)])[σ.length]? = some (some (.ol w)) := by
              rw [List.getElem?_append_right (by omega), le, Nat.sub_self]; rfl
            simp [rsO, a1, a2]
          refine ⟨I, [o, .ol w], _, sim_lend s2 nd2 av ro, post_mono (post_bind.mp pp) (fun r q v H' af => ?_) fun x q H' c d er xr => q H' c d ?_ xr⟩
          · split at q
            · rename_i o' w' er
              refine q v H' ?_
              rw [er] at af
              have bk := back_call s2 nd2 av ro af
              exact sim_join s li hij q0 e1 hF nd h1 h2 e2 bk
            · exact q.elim
          · obtain ⟨I2, z1, z2, kk2⟩ := er
            have lo : ∀ a, Ow (lend [AV.s i, AV.s σ.length] (spF F σ.length j xa)) a → Ow F a := fun a zz => by
              obtain ⟨_, l, _, hl⟩ := lend_ow zz
              exact spF_ow xF ⟨l, hl⟩
            refine ⟨I2, z1, z2, kk2.i1, fun a u hu n => kk2.fr a u hu fun z => n (lo a z), fun a u hu n => kk2.th a u hu fun z => n (lo a z), fun a z => z.elim, fun a u z => ?_⟩
            rcases kk2.i' a u z with y | y | y
            · exact .inl y
            · exact .inr (.inl (lo a y))
            · exact .inr (.inr y)
        · rw [if_neg hij] at pp; exact pp.elim
  · exact pp.elim
theorem dcallR {T : List (Addr × Str)} {k : Nat} {xf x z : Str} {ps : List Str} {m : Fn} {i j : Nat} {y : Env → Option Int} {ty : TE} {p : Pos} (c : CallOk X.prog X.w X.K X.mg T k xf ps m) (hgd : X.A.guards = some []) (hr : Room k X.A) (hg : Gl X xf) (hxx : Passes (L2.CX X.prog X.w) X g.E)
    (hx : PE X (.Name x px) (tVar i)) (hz : PE X (.Name z py) (tVar j)) (hy : PE X b ty) (hpy : PI1 g ty y) (hpb : PlainIx b) (hK : g.K = X.K := by rfl) (hM : g.mg = X.mg := by rfl) (hT : g.pn.2.2 = T := by rfl) (hdb : (xf == ("__debug__" : Str)) = false := by decide)
    (he : starEach [.Name x px, .Subscript (.Name z py) b p1] X.env = (false, eval (.Name x px) X.env) :: starEach [.Subscript (.Name z py) b p1] X.env := by rfl)
    (he2 : starEach [.Subscript (.Name z py) b p1] X.env = (false, eval (.Subscript (.Name z py) b p1) X.env) :: starEach [] X.env := by rfl)
    (hpl : (backTo pos (starEach [.Subscript (.Name z py) b p1] X.env)).any (·.1) = false := by rfl) :
    DE g X (.Call (.Name xf p) [.Name x px, .Subscript (.Name z py) b p1] [] pos) (fCallR m i j y) := by
  obtain ⟨f, fd, h1, h2, h3, h4⟩ := c
  have h5 := h4 X.base
  exact de_callR (by rw [hK, hM, hT]; exact h5) hgd hr hg h1 h2 h3 hxx hx hz hy hpy hpb hdb he he2 hpl
def fMtO (f : List PyData → PyData → Option PyData) (i : Nat) (y : AF) : EF := fun env => match env[i]? with
  | some (some (.ol _)) => evA [y] env >>= fun q => match rsvs q.2 q.1, q.2[i]? with
    | some [k], some (some (.ol ds)) => match f ds k with
      | some d => .ok (.fr d, q.2)
      | _ => .no
    | _, _ => .no
  | _ => .no
theorem de_indexO {i : Nat} {x : Str} {px apos cpos : Pos} {y : AF} (hu : X.A.units + 65 < cLine) (hx : PE X (.Name x px) (tVar i)) (he : DX g X e y)
    (hbase : attributeBase (.Name x px) "index" X.env (eval (.Name x px) X.env) = eval (.Name x px) X.env := by rfl)
    (hfew : ((backTo cpos (starEach [e] X.env)).all (fun x => !x.1) && (backToKw cpos (keywordEach [] X.env)).all (fun x => x.1.isSome)
      && decide (([e] : List Expr).length + ([] : List Keyword).length + (if ([] : List Keyword).isEmpty then 0 else 1) < 30)) = true := by rfl)
    (hline : (apos.endLine == cpos.line) = true := by rfl) (hs : starEach [e] X.env = (false, eval e X.env) :: starEach [] X.env := by rfl) (hplain : (backTo cpos (starEach [] X.env)).any (·.1) = false := by rfl) (hK : X.K = g.K := by rfl) :
    DE g X (.Call (.Attribute (.Name x px) "index" apos) [e] [] cpos) (fMtO pIndex i y) :=
  PE.imp (pe_bm PySem.F.plainAttrs_list PySem.F.slot_list_index PySem.F.type_list_index (mt_indexD hu) hx (da_cons he da_nil hs) hbase hfew hline hs hplain) fun σ H Q q => by
  obtain ⟨I, env, F, s, p⟩ := q
  unfold fMtO at p
  split at p
  · rename_i ds0 q0
    obtain ⟨a, vs, e1, hF, h1, h2⟩ := own_upd s q0
    refine ⟨.ref a, e1, ?_, ?_⟩
    · rw [hK]; exact .inl ⟨rfl, vs, SqL.of h1⟩
    · refine ⟨I, env, F, s, post_mono (post_bind.mp p) (fun r3 q3 vs3 H3 I3 F3 s3 st3 av3 => ?_) fun x zz => zz⟩
      split at q3
      · rename_i k ds q5 q6
        have rr3 := rsvs_rep s3 av3 q5
        match vs3, rr3 with
        | [u], .cons r5 .nil =>
          split at q3
          · rename_i d hd
            obtain ⟨a', vs', e1', hF', h1', h2'⟩ := own_upd s3 q6
            rw [e1] at e1'; cases e1'
            have r0 : RpS g.K I3 H3 (.ref a) (.list ds) := .inr (.inl ⟨a, vs', ds, rfl, rfl, h1', h2'⟩)
            unfold pIndex at hd
            split at hd
            · rename_i hc
              have d1 := r0.dp s3.sub (SeqAt.canLay_of_shaped hc.1)
              cases hf : ds.findIdx? (fun z => PyData.eqv z k) with
              | none => rw [hf] at hd; cases hd
              | some j =>
                rw [hf] at hd; cases hd
                obtain ⟨g1, g2, g3⟩ := List.findIdx?_eq_some_iff_getElem.mp hf
                rw [hK]
                exact ⟨a, u, k, ds, j, ds[j], rfl, rfl, d1, r5.dp s3.sub (SeqAt.canLay_of_shaped hc.2), hc.1, hc.2, List.getElem?_eq_getElem g1, g2, fun m z' hm hz => by
                  obtain ⟨hm2, e2⟩ := List.getElem?_eq_some_iff.mp hz
                  have := g3 m hm
                  rw [e2] at this
                  simpa using this, q3 _ H3 (AftD.aft ⟨_, _, .int _, s3, st3⟩)⟩
            · cases hd
          · exact q3.elim
      · exact q3.elim
  · exact p.elim
end
section
variable {X : Cx} {K : PySem.W.Frag}
theorem op_notB : OpR X (compareOp .IsNot) (fun x y H Q => ∃ a b, x = .bl a ∧ y = .bl b ∧ Q (.bl (!decide (a = b))) H) := by
  intro pins s σ H x y v u Q I rx ry h
  obtain ⟨m, n, rfl, rfl, q⟩ := h
  cases (show v = Value.bool m from rx)
  cases (show u = Value.bool n from ry)
  by_cases e : m = n
  · subst e
    exact wpAny_isNot_self rfl ⟨.bl false, H, I, rfl, by simpa using q⟩
  · exact wpAny_isNot_other rfl (fun z => e (Value.bool.inj z)) ⟨.bl true, H, I, rfl, by simpa [e] using q⟩
def pIsnB : PyData → PyData → Option O
  | .bool a, .bool b => some (.fr (.bool (!decide (a = b))))
  | _, _ => none
theorem os_notB : OpS K (two fun x y H Q => ∃ a b, x = .bl a ∧ y = .bl b ∧ Q (.bl (!decide (a = b))) H) (on2 pIsnB) := ops2 fun v u d e I H Q o s r1 r2 q k => by
  unfold pIsnB at q
  split at q
  · cases q
    refine ⟨_, _, ?_, ?_, k _ _ _ _ (Grow.val s (.bl _))⟩
    · rcases r1 with h | ⟨_, _, _, _, z, _⟩ | ⟨_, _, _, z, _⟩
      · cases h; rfl
      · cases z
      · cases z
    · rcases r2 with h | ⟨_, _, _, _, z, _⟩ | ⟨_, _, _, z, _⟩
      · cases h; rfl
      · cases z
      · cases z
  · cases q
end
end Dy
namespace Q
open PySem Dy
open L2 (atI ixN)
abbrev fr (d : PyData) : Option O := some (.fr d)
abbrev ol (ds : List PyData) : Option O := some (.ol ds)
abbrev dN (n : Nat) : PyData := .int (n : Int)
section
variable (env : Dy.Env) (i j n m : Nat) (f k : EF) (s : SF) (vs : List Nat) (as : List AF)
theorem a_wp : fWp vs s env = s env >>= fun r => .ok (r.1, wipeE r.2 vs) := rfl
theorem a_fz : fFz vs s env = s env >>= fun r => .ok (r.1, frzE r.2 vs) := rfl
theorem a_fz0 : frzE env [] = env := rfl
theorem a_fz1 : frzE env (i :: vs) = match (frzE env vs)[i]? with | some (some o) => (frzE env vs).set i (some (.fr o.data)) | _ => frzE env vs := rfl
theorem a_ext : fExt i f env = match env[i]? with
  | some (some (.ol _)) => f env >>= fun r => match r.1 with
    | .ol ys => match r.2[i]? with
      | some (some (.ol xs)) => if xs.length + ys.length ≤ 1000000 then .ok (.nx, r.2.set i (some (.ol (xs ++ ys)))) else .no
      | _ => .no
    | _ => .no
  | _ => .no := rfl
theorem a_ins : fIns i as env = match env[i]? with
  | some (some (.ol _)) => evA as env >>= fun r => match r.2[i]? with
    | some (some (.ol xs)) => match insA xs (dvs r.1) with
      | some ys => .ok (.nx, r.2.set i (some (.ol ys)))
      | none => .no
    | _ => .no
  | _ => .no := rfl
theorem a_insA (xs : List PyData) (k : Int) (d : PyData) : insA xs (some [.int k, d]) = if xs.length < 1000000 ∧ 0 ≤ k ∧ k < 1000000 then some (xs.take k.toNat ++ [d] ++ xs.drop k.toNat) else none := rfl
theorem a_pop : fPop i env = match env[i]? with
  | some (some (.ol xs)) => match xs[xs.length - 1]? with
    | some d => .ok (.fr d, env.set i (some (.ol xs.dropLast)))
    | none => .no
  | _ => .no := rfl
theorem a_parN (is : List Nat) (fs : List EF) : fParN is fs env = evO fs env >>= fun r => match setO is r.1 r.2 with | some e => .ok (.nx, e) | none => .no := rfl
theorem a_evO0 : evO [] env = .ok ([], env) := rfl
theorem a_evO1 (fs : List EF) : evO (f :: fs) env = f env >>= fun r => evO fs r.2 >>= fun q => .ok (r.1 :: q.1, q.2) := rfl
theorem a_setO0 : setO [] [] env = some env := rfl
theorem a_setO1 (is : List Nat) (o : O) (os : List O) : setO (i :: is) (o :: os) env = if i < env.length then setO is os (env.set i (some o)) else none := rfl
theorem a_ix2 (y z : Dy.Env → Option Int) : fIx2 i y z env = match env[i]?, y env, z env with
  | some (some (.oo rs)), some k, some l => match ixN rs.length k with
    | some j => match rs[j]? with
      | some r => match atI r l with
        | some d => .ok (.fr d, env)
        | none => .no
      | none => .no
    | none => .no
  | _, _, _ => .no := rfl
theorem a_setII (y z : Dy.Env → Option Int) : fSetII i y z f env = f env >>= fun r => match r.2[i]?, y r.2, z r.2 with
  | some (some (.oo rs)), some k, some l => match ixN rs.length k with
    | some j => match rs[j]? with
      | some w => match ixN w.length l with
        | some m => .ok (.nx, r.2.set i (some (.oo (rs.set j (w.set m r.1.data)))))
        | none => .no
      | none => .no
    | none => .no
  | _, _, _ => .no := rfl
theorem a_zN : zN j env = match env[j]? with | some (some (.fr (.int n))) => some n | _ => none := rfl
theorem a_zC (n : Int) : zC n env = some n := rfl
theorem a_lcO (g : IF) (w : Tg) : fLcO g vs w f env = g env >>= fun r => lcO vs w f r.1 (wipeE r.2 vs) [] >>= fun q => .ok (.oo q.1, unw r.2 q.2 vs) := rfl
theorem q_starI (i : Int) (xs : List PyData) : pStar (.int i) (.list xs) = if xs.length < 100000 then some (.fr (.tuple (.int i :: xs))) else none := rfl
theorem q_starIT (i : Int) (xs : List PyData) : pStar (.int i) (.tuple xs) = if xs.length < 100000 then some (.fr (.tuple (.int i :: xs))) else none := rfl
theorem q_ninL (d : PyData) (ds : List PyData) : pNinA d (.list ds) = pNin d (.list ds) := rfl
theorem d_oo (rs : List (List PyData)) : (O.oo rs).data = .list (rs.map PyData.list) := rfl
end
structure Rk (n w : Nat) (d : PyData) : Prop where
  lay : d.canLay0 = true
  sho : d.showable = true
  dep : d.depth ≤ n
  wt : rw8 d ≤ w
theorem Rk.mono {n w n' w' : Nat} {d : PyData} (h : Rk n w d) (a : n ≤ n') (b : w ≤ w') : Rk n' w' d := ⟨h.lay, h.sho, Nat.le_trans h.dep a, Nat.le_trans h.wt b⟩
theorem Rk.bool (b : Bool) : Rk 0 5 (.bool b) := ⟨rfl, rfl, Nat.zero_le _, Nat.le_refl _⟩
theorem Rk.int {i : Int} (h : i.natAbs < 10 ^ 100) : Rk 0 1100 (.int i) := by
  have : i.natAbs.log2 < 1050 := Nat.lt_of_lt_of_le (PySem.Flt.log2_lt_of (k := 400) (by decide) (Nat.lt_trans h (by decide +kernel))) (by decide)
  refine ⟨rfl, decide_eq_true (by omega), Nat.zero_le _, ?_⟩
  show i.natAbs.log2 + 2 ≤ 1100; omega
theorem Rk.nat {i : Nat} (h : i < 10 ^ 100) : Rk 0 1100 (.int (i : Int)) := Rk.int (by simpa using h)
theorem Rk.all {n w : Nat} : ∀ {ds : List PyData}, (∀ d ∈ ds, Rk n w d) → PyData.canLayAll0 ds = true ∧ PyData.showableAll ds = true ∧ PyData.depthAll ds ≤ n ∧ rw8s ds ≤ ds.length * (w + 2)
  | [], _ => ⟨rfl, rfl, Nat.zero_le _, Nat.zero_le _⟩
  | d :: ds, h => by
    obtain ⟨a, b, c, e⟩ := Rk.all (ds := ds) fun x hx => h x (by simp [hx])
    have hd := h d (by simp)
    refine ⟨?_, ?_, ?_, ?_⟩
    · show (d.canLay0 && PyData.canLayAll0 ds) = true; rw [hd.lay, a]; rfl
    · show (d.showable && PyData.showableAll ds) = true; rw [hd.sho, b]; rfl
    · show max d.depth (PyData.depthAll ds) ≤ n; have := hd.dep; omega
    · show rw8 d + 2 + rw8s ds ≤ _; rw [List.length_cons, Nat.succ_mul]; have := hd.wt; omega
theorem Rk.tup {n w : Nat} {ds : List PyData} (h : ∀ d ∈ ds, Rk n w d) : Rk (n + 1) (ds.length * (w + 2) + 2) (.tuple ds) := by
  obtain ⟨a, b, c, e⟩ := Rk.all h
  exact ⟨by simpa [PyData.canLay0] using a, by simpa [PyData.showable] using b, by simp [PyData.depth]; omega, Nat.add_le_add_right e 2⟩
theorem Rk.lst {n w : Nat} {ds : List PyData} (h : ∀ d ∈ ds, Rk n w d) : Rk (n + 1) (ds.length * (w + 2) + 2) (.list ds) := by
  obtain ⟨a, b, c, e⟩ := Rk.all h
  exact ⟨by simpa [PyData.canLay0] using a, by simpa [PyData.showable] using b, by simp [PyData.depth]; omega, Nat.add_le_add_right e 2⟩
theorem Rk.shp {n w : Nat} {d : PyData} (h : Rk n w d) (hn : n ≤ 64) : shp d = true := by
  unfold Dy.shp SeqAt.shaped
  rw [h.lay, decide_eq_true (Nat.le_trans h.dep hn)]; rfl
theorem Rk.rOk {n w : Nat} {d : PyData} (h : Rk n w d) (hn : n ≤ 64) (hw : w ≤ 16777216) : rOk d = true := by
  unfold Dy.rOk
  rw [h.lay, h.sho, decide_eq_true ⟨Nat.le_trans h.dep hn, Nat.le_trans h.wt hw⟩]; rfl
theorem Rk.repr {n w : Nat} {d : PyData} (h : Rk n w d) (hn : n ≤ 64) (hw : w ≤ 16777216) : pRepr d = some (.fr (.str d.shown)) := by unfold pRepr; rw [if_pos (h.rOk hn hw)]
theorem pEq_int (i j : Int) : pEq (.int i) (.int j) = some (.fr (.bool (decide (i = j)))) := by
  have h : ∀ k : Int, shp (.int k) = true := fun k => by unfold shp SeqAt.shaped; simp [PyData.canLay0, PyData.depth]
  show (if shp (.int i) = true ∧ shp (.int j) = true then some (O.fr (PyData.bool (PyData.eqv (.int i) (.int j)))) else none) = _
  rw [if_pos ⟨h i, h j⟩]
  show some (O.fr (PyData.bool (PyData.eqv (.int i) (.int j)))) = _
  congr 3
theorem pNe_int (i j : Int) : pNe (.int i) (.int j) = some (.fr (.bool (!decide (i = j)))) := by
  have h : ∀ k : Int, shp (.int k) = true := fun k => by unfold shp SeqAt.shaped; simp [PyData.canLay0, PyData.depth]
  show (if shp (.int i) = true ∧ shp (.int j) = true then some (O.fr (PyData.bool (!PyData.eqv (.int i) (.int j)))) else none) = _
  rw [if_pos ⟨h i, h j⟩]
  show some (O.fr (PyData.bool (!PyData.eqv (.int i) (.int j)))) = _
  congr 3
theorem pEq_str (x y : Str) : pEq (.str x) (.str y) = some (.fr (.bool (decide (x = y)))) := rfl
theorem pEq_T (xs ys : List PyData) (h : shp (.tuple xs) = true) (h' : shp (.tuple ys) = true) : pEq (.tuple xs) (.tuple ys) = some (.fr (.bool (PyData.eqvAll xs ys))) := by
  show (if _ then _ else _) = _
  rw [if_pos ⟨h, h'⟩]; simp [PyData.eqv]
theorem pEq_L (xs ys : List PyData) (h : shp (.list xs) = true) (h' : shp (.list ys) = true) : pEq (.list xs) (.list ys) = some (.fr (.bool (PyData.eqvAll xs ys))) := by
  show (if _ then _ else _) = _
  rw [if_pos ⟨h, h'⟩]; simp [PyData.eqv]
theorem pNe_T (xs ys : List PyData) (h : shp (.tuple xs) = true) (h' : shp (.tuple ys) = true) : pNe (.tuple xs) (.tuple ys) = some (.fr (.bool (!PyData.eqvAll xs ys))) := by
  show (if _ then _ else _) = _
  rw [if_pos ⟨h, h'⟩]; simp [PyData.eqv]
theorem pNe_L (xs ys : List PyData) (h : shp (.list xs) = true) (h' : shp (.list ys) = true) : pNe (.list xs) (.list ys) = some (.fr (.bool (!PyData.eqvAll xs ys))) := by
  show (if _ then _ else _) = _
  rw [if_pos ⟨h, h'⟩]; simp [PyData.eqv]
theorem eqvAll_nil (xs : List PyData) : PyData.eqvAll xs [] = xs.isEmpty := by cases xs <;> simp [PyData.eqvAll]
theorem shpT0 : shp (.tuple []) = true := (Rk.tup (n := 0) (w := 0) (ds := []) (by simp)).shp (by decide)
theorem shpL0 : shp (.list []) = true := (Rk.lst (n := 0) (w := 0) (ds := []) (by simp)).shp (by decide)
theorem pEq_T0 {xs : List PyData} (h : shp (.tuple xs) = true) : pEq (.tuple xs) (.tuple []) = some (.fr (.bool xs.isEmpty)) := by rw [pEq_T _ _ h shpT0, eqvAll_nil]
theorem pEq_L0 {xs : List PyData} (h : shp (.list xs) = true) : pEq (.list xs) (.list []) = some (.fr (.bool xs.isEmpty)) := by rw [pEq_L _ _ h shpL0, eqvAll_nil]
theorem pNe_L0 {xs : List PyData} (h : shp (.list xs) = true) : pNe (.list xs) (.list []) = some (.fr (.bool (!xs.isEmpty))) := by rw [pNe_L _ _ h shpL0, eqvAll_nil]
theorem pNe_nil : pNe (.list []) (.list []) = some (.fr (.bool false)) := by rw [pNe_L0 shpL0]; rfl
theorem atI_nat {α : Type} (xs : List α) (k : Nat) : atI xs (k : Int) = xs[k]? := by
  unfold atI ixN
  rw [if_pos (by omega)]
  by_cases h : k < xs.length
  · rw [if_pos (by omega)]; rfl
  · rw [if_neg (by omega), List.getElem?_eq_none (by omega)]; rfl
theorem atI_0 {α : Type} (xs : List α) : atI xs 0 = xs[0]? := atI_nat xs 0
theorem atI_1 {α : Type} (xs : List α) : atI xs 1 = xs[1]? := atI_nat xs 1
theorem atI_2 {α : Type} (xs : List α) : atI xs 2 = xs[2]? := atI_nat xs 2
theorem atI_3 {α : Type} (xs : List α) : atI xs 3 = xs[3]? := atI_nat xs 3
theorem atI_m1 {α : Type} (xs : List α) : atI xs (-1) = xs.getLast? := by
  cases h : xs.getLast? with
  | none =>
    have : xs = [] := by simpa using h
    subst this; rfl
  | some x =>
    obtain ⟨ys, rfl⟩ := List.getLast?_eq_some_iff.mp h
    exact L2.atI_last ys x
theorem pIxL (xs : List PyData) (i : Int) : pIx (.list xs) (.int i) = (atI xs i).map .fr := rfl
theorem pIxT (xs : List PyData) (i : Int) : pIx (.tuple xs) (.int i) = (atI xs i).map .fr := rfl
theorem ixN_nat (n k : Nat) (h : k < n) : ixN n (k : Int) = some k := by
  unfold ixN; rw [if_pos (by omega), if_pos (by omega)]; rfl
theorem cutHi {α : Type} (xs : List α) (k : Nat) : cutD xs none (some (k : Int)) = xs.take k := by
  unfold cutD
  rw [HT.sIx_none, HT.sIx_nat, List.drop_zero, Nat.sub_zero]
  by_cases h : k ≤ xs.length
  · rw [Nat.min_eq_left h]
  · rw [Nat.min_eq_right (by omega), List.take_length, List.take_of_length_le (by omega)]
theorem cutLo {α : Type} (xs : List α) (k : Nat) : cutD xs (some (k : Int)) none = xs.drop k := by
  unfold cutD
  rw [HT.sIx_none, HT.sIx_nat]
  by_cases h : k ≤ xs.length
  · rw [Nat.min_eq_left h, List.take_of_length_le (by simp)]
  · rw [Nat.min_eq_right (by omega), List.drop_of_length_le (Nat.le_refl _), List.drop_of_length_le (by omega), List.take_nil]
theorem cutLo1 {α : Type} (xs : List α) : cutD xs (some 1) none = xs.drop 1 := cutLo xs 1
theorem cutHi1 {α : Type} (xs : List α) : cutD xs none (some 1) = xs.take 1 := cutHi xs 1
theorem pAll_B (xs : List Bool) : pAll (.list (xs.map PyData.bool)) = some (.fr (.bool (xs.all id))) := by
  show (boolsOf _).map _ = _
  rw [boolsOf_map]; rfl
theorem pAll_true {α : Type} (xs : List α) : pAll (.list (xs.map fun _ => .bool true)) = some (.fr (.bool true)) := by
  have e : xs.map (fun _ => PyData.bool true) = (xs.map fun _ => true).map PyData.bool := by simp
  rw [e, pAll_B]
  simp
theorem for_l {α σ : Type} {t : Tg} {body : SF} (enc : α → PyData) (S : σ → Dy.Env) (P : List α → σ → Prop) (xs : List α) {s : σ} (h0 : P [] s)
    (step : ∀ pre x post s, xs = pre ++ x :: post → P pre s → ∃ s', P (pre ++ [x]) s' ∧ (asT t (enc x) (S s) >>= body) = .ok (.nx, S s')) :
    ∃ s', P xs s' ∧ fFor t body (xs.map enc) (S s) = .ok (.nx, S s') := by
  suffices h : ∀ (post pre : List α) (s : σ), xs = pre ++ post → P pre s → ∃ s', P xs s' ∧ fFor t body (post.map enc) (S s) = .ok (.nx, S s') from h xs [] s rfl h0
  intro post
  induction post with
  | nil => intro pre s e hp; rw [List.append_nil] at e; subst e; exact ⟨s, hp, rfl⟩
  | cons x post ih =>
    intro pre s e hp
    obtain ⟨s1, p1, e1⟩ := step pre x post s e hp
    obtain ⟨s2, p2, e2⟩ := ih (pre ++ [x]) s1 (by rw [e]; simp) p1
    refine ⟨s2, p2, ?_⟩
    show (asT t (enc x) (S s) >>= fun e => body e >>= fun r => match r.1 with | .nx => fFor t body (post.map enc) r.2 | .ct => fFor t body (post.map enc) r.2 | .bk => .ok (.nx, r.2) | .rt o => .ok (.rt o, r.2)) = _
    cases q : asT t (enc x) (S s) with
    | no => rw [q] at e1; cases e1
    | er x => rw [q] at e1; cases e1
    | ok e =>
      rw [q, bind_ok] at e1
      rw [bind_ok, e1, bind_ok]
      exact e2
theorem for_st {α σ : Type} {t : Tg} {body : SF} {ds : List PyData} {env : Dy.Env} (enc : α → PyData) (S : σ → Dy.Env) (f : σ → α → σ) (xs : List α) (s : σ) (hd : ds = xs.map enc) (he : env = S s)
    (step : ∀ pre x post, xs = pre ++ x :: post → (asT t (enc x) (S (pre.foldl f s)) >>= body) = .ok (.nx, S (f (pre.foldl f s) x))) :
    fFor t body ds env = .ok (.nx, S (xs.foldl f s)) := by
  subst hd; subst he
  obtain ⟨s', p, e⟩ := for_l enc S (fun pre s' => s' = pre.foldl f s) xs (s := s) rfl (fun pre x post s' e hp => ⟨f s' x, by rw [hp, List.foldl_append]; rfl, by rw [hp]; exact step pre x post e⟩)
  rw [e, p]
theorem rng_eq (n : Nat) : rng 0 n = (List.range n).map dN := by unfold rng; simp
theorem for_r {σ : Type} {t : Tg} {body : SF} (S : σ → Dy.Env) (P : Nat → σ → Prop) (n : Nat) {s : σ} (h0 : P 0 s)
    (step : ∀ k s, k < n → P k s → ∃ s', P (k + 1) s' ∧ (asT t (.int (k : Int)) (S s) >>= body) = .ok (.nx, S s')) :
    ∃ s', P n s' ∧ fFor t body (rng 0 n) (S s) = .ok (.nx, S s') := by
  have e : rng 0 n = (List.range n).map fun k : Nat => PyData.int (k : Int) := by unfold rng; simp
  rw [e]
  obtain ⟨s', p, q⟩ := for_l (fun k : Nat => PyData.int (k : Int)) S (fun pre s => pre.length ≤ n ∧ P pre.length s) (List.range n) (s := s) ⟨Nat.zero_le _, h0⟩ (fun pre x post s e hp => by
    have hx : x = pre.length := by
      have h1 : (List.range n)[pre.length]? = some x := by rw [e]; simp
      obtain ⟨h2, h3⟩ := List.getElem?_eq_some_iff.mp h1
      rw [List.getElem_range] at h3; exact h3.symm
    have hn : pre.length < n := by
      have := congrArg List.length e
      simp at this; omega
    subst hx
    obtain ⟨s', p', q'⟩ := step pre.length s hn hp.2
    exact ⟨s', by simp; exact ⟨hn, p'⟩, q'⟩)
  simp only [List.length_range] at p
  exact ⟨s', p.2, q⟩
theorem lc_fl {α : Type} {vs : List Nat} {t : Tg} {test : TF} {elt : EF} {ds : List PyData} {e : Dy.Env} (enc : α → PyData) (g : α → Option PyData) (xs : List α) (hd : ds = xs.map enc)
    (hs : ∀ x ∈ xs, (asT t (enc x) e >>= fun e1 => test e1 >>= fun b => if b.1 = true then elt b.2 >>= fun r => Res.ok (some r.1.data, wipeE r.2 vs) else Res.ok (none, wipeE b.2 vs)) = .ok (g x, e)) (hl : xs.length ≤ 100000) :
    lcL vs t test elt ds e [] = .ok (xs.filterMap g, e) := by
  subst hd
  suffices h : ∀ (ys : List α) (acc : List PyData), (∀ x ∈ ys, x ∈ xs) → acc.length + ys.length ≤ 100000 → lcL vs t test elt (ys.map enc) e acc = .ok (acc ++ ys.filterMap g, e) by
    have := h xs [] (fun _ z => z) (by simpa using hl)
    simpa using this
  intro ys
  induction ys with
  | nil => intro acc _ _; simp [lcL]
  | cons y ys ih =>
    intro acc hm hl
    have hy := hs y (hm y (by simp))
    have ihy := fun acc => ih acc fun x hx => hm x (by simp [hx])
    rw [List.length_cons] at hl
    show (asT t (enc y) e >>= fun e1 => nE (test e1) >>= fun b => if b.1 = true then nE (elt b.2) >>= fun r => if acc.length < 100000 then lcL vs t test elt (ys.map enc) (wipeE r.2 vs) (acc ++ [r.1.data]) else .no else lcL vs t test elt (ys.map enc) (wipeE b.2 vs) acc) = _
    cases q : asT t (enc y) e with
    | no => rw [q] at hy; cases hy
    | er x => rw [q] at hy; cases hy
    | ok e1 =>
      rw [q, bind_ok] at hy
      rw [bind_ok]
      cases q2 : test e1 with
      | no => rw [q2] at hy; cases hy
      | er x => rw [q2] at hy; cases hy
      | ok b =>
        rw [q2, bind_ok] at hy
        show (if b.1 = true then _ else _) = _
        by_cases hb : b.1 = true
        · rw [if_pos hb] at hy ⊢
          cases q3 : elt b.2 with
          | no => rw [q3] at hy; cases hy
          | er x => rw [q3] at hy; cases hy
          | ok r =>
            rw [q3, bind_ok] at hy
            injection hy with hy
            have h1 := congrArg Prod.fst hy
            have h2 := congrArg Prod.snd hy
            show (if acc.length < 100000 then lcL vs t test elt (ys.map enc) (wipeE r.2 vs) (acc ++ [r.1.data]) else .no) = _
            dsimp only at h1 h2
            rw [if_pos (by omega), h2, ihy _ (by simp; omega), List.filterMap_cons, ← h1]
            simp
        · rw [if_neg hb] at hy ⊢
          injection hy with hy
          have h1 := congrArg Prod.fst hy
          have h2 := congrArg Prod.snd hy
          dsimp only at h1 h2
          rw [h2, ihy _ (by omega), List.filterMap_cons, ← h1]
theorem lc_tm {α : Type} {vs : List Nat} {t : Tg} {elt : EF} {ds : List PyData} {e : Dy.Env} (enc : α → PyData) (g : α → PyData) (xs : List α) (hd : ds = xs.map enc)
    (hs : ∀ x ∈ xs, (asT t (enc x) e >>= fun e1 => elt e1 >>= fun r => Res.ok (r.1.data, wipeE r.2 vs)) = .ok (g x, e)) (hl : xs.length ≤ 100000) :
    lcL vs t fYes elt ds e [] = .ok (xs.map g, e) := by
  rw [lc_fl (g := fun x => some (g x)) (enc := enc) (xs := xs) hd (fun x hx => ?_) hl]
  · simp
  · have h := hs x hx
    cases q : asT t (enc x) e with
    | no => rw [q] at h; cases h
    | er x => rw [q] at h; cases h
    | ok e1 =>
      rw [q, bind_ok] at h
      rw [bind_ok]
      show (if true = true then elt e1 >>= fun r => Res.ok (some r.1.data, wipeE r.2 vs) else Res.ok (none, wipeE e1 vs)) = _
      rw [if_pos rfl]
      cases q3 : elt e1 with
      | no => rw [q3] at h; cases h
      | er x => rw [q3] at h; cases h
      | ok r =>
        rw [q3, bind_ok] at h
        rw [bind_ok]
        injection h with h
        have h1 := congrArg Prod.fst h
        have h2 := congrArg Prod.snd h
        dsimp only at h1 h2
        rw [h1, h2]
/-- a comprehension over a range whose elements change a state -/
theorem lc_r {α σ : Type} {vs : List Nat} {t : Tg} {elt : EF} (enc : α → PyData) (S : σ → Dy.Env) (P : Nat → σ → Prop) (R : α → Prop) (n : Nat) {s : σ} (h0 : P 0 s) (hn : n ≤ 100000)
    (step : ∀ k s, k < n → P k s → ∃ x s', P (k + 1) s' ∧ R x ∧ (asT t (.int (k : Int)) (S s) >>= fun e1 => elt e1 >>= fun r => Res.ok (r.1.data, wipeE r.2 vs)) = .ok (enc x, S s')) :
    ∃ (xs : List α) (s' : σ), P n s' ∧ xs.length = n ∧ (∀ x ∈ xs, R x) ∧ lcL vs t fYes elt (rng 0 n) (S s) [] = .ok (xs.map enc, S s') := by
  obtain ⟨e, acc, h, xs, s', p, r, l, ea, ee⟩ := lc_inv (vs := vs) (t := t) (test := fYes) (elt := elt) (fun k e acc => ∃ (xs : List α) (s' : σ), P k s' ∧ (∀ x ∈ xs, R x) ∧ xs.length = k ∧ acc = xs.map enc ∧ e = S s') (rng 0 n) (env := S s) (acc := []) ⟨[], s, h0, by simp, rfl, rfl, rfl⟩ (fun k d e acc hd hP => by
    obtain ⟨xs, s1, p1, r1, l1, rfl, rfl⟩ := hP
    obtain ⟨hk, rfl⟩ := rng_at hd
    rw [Int.zero_add]
    obtain ⟨x, s2, p2, r2, e2⟩ := step k s1 hk p1
    cases q : asT t (.int (k : Int)) (S s1) with
    | no => rw [q] at e2; cases e2
    | er x => rw [q] at e2; cases e2
    | ok e1 =>
      rw [q, bind_ok] at e2
      refine ⟨e1, true, e1, rfl, rfl, fun z => (by cases z), fun _ => ?_⟩
      cases q3 : elt e1 with
      | no => rw [q3] at e2; cases e2
      | er x => rw [q3] at e2; cases e2
      | ok r =>
        rw [q3, bind_ok] at e2
        injection e2 with e2
        have h1 := congrArg Prod.fst e2
        have h2 := congrArg Prod.snd e2
        dsimp only at h1 h2
        refine ⟨r.1, r.2, rfl, by rw [List.length_map, l1]; omega, xs ++ [x], s2, p2, ?_, by simp [l1], by rw [h1]; simp, h2⟩
        intro y hy
        rcases List.mem_append.mp hy with z | z
        · exact r1 y z
        · simp at z; subst z; exact r2)
  rw [rng_len] at l p
  exact ⟨xs, s', p, l, r, by rw [h, ea, ee]⟩
theorem enumD_map {α : Type} (enc : α → PyData) (xs : List α) : ∀ k : Nat, enumD k (xs.map enc) = (List.zip (List.range' k xs.length) xs).map fun p => PyData.tuple [.int (p.1 : Int), enc p.2] := by
  induction xs with
  | nil => intro k; rfl
  | cons x xs ih => intro k; rw [List.length_cons, List.range'_succ, List.zip_cons_cons, List.map_cons, List.map_cons, ← ih (k + 1)]; rfl
/-- the items with their places -/
def ens {α : Type} (xs : List α) : List (Nat × α) := List.zip (List.range' 0 xs.length) xs
theorem ens_mem {α : Type} {xs : List α} {p : Nat × α} (h : p ∈ ens xs) : xs[p.1]? = some p.2 := by
  obtain ⟨k, hk⟩ := List.getElem?_of_mem h
  unfold ens at hk
  rw [List.getElem?_zip_eq_some] at hk
  obtain ⟨h1, h2⟩ := hk
  obtain ⟨h3, h4⟩ := List.getElem?_eq_some_iff.mp h1
  rw [List.getElem_range'] at h4
  have : k = p.1 := by omega
  rw [← this]; exact h2
theorem mem_ens {α : Type} {xs : List α} {k : Nat} {x : α} (h : xs[k]? = some x) : (k, x) ∈ ens xs := by
  have hk : k < xs.length := (List.getElem?_eq_some_iff.mp h).1
  refine List.mem_of_getElem? (i := k) ?_
  unfold ens
  rw [List.getElem?_zip_eq_some]
  refine ⟨?_, h⟩
  rw [List.getElem?_eq_some_iff]
  refine ⟨by simpa using hk, ?_⟩
  rw [List.getElem_range']; omega
theorem ens_len {α : Type} (xs : List α) : (ens xs).length = xs.length := by simp [ens]
theorem enumD_ens {α : Type} (enc : α → PyData) (xs : List α) : enumD 0 (xs.map enc) = (ens xs).map fun p => PyData.tuple [.int (p.1 : Int), enc p.2] := enumD_map enc xs 0
theorem lt_of_get {α : Type} {xs : List α} {k : Nat} {x : α} (h : xs[k]? = some x) : k < xs.length := (List.getElem?_eq_some_iff.mp h).1
theorem get_of_lt {α : Type} {xs : List α} {k : Nat} (h : k < xs.length) : ∃ x, xs[k]? = some x ∧ x ∈ xs := ⟨xs[k], List.getElem?_eq_getElem h, List.getElem_mem h⟩
theorem get_split {α : Type} {xs pre post : List α} {x : α} (h : xs = pre ++ x :: post) : xs[pre.length]? = some x := by rw [h]; simp
end Q
namespace Q
open PySem Dy
def b_is_between : SF := fRet (fAnd (fOp (on1 fun d => some (.fr (.bool (isA .int d)))) [.s 0]) (fAnd (fNotV (fOp (on1 fun d => some (.fr (.bool (isA .bool d)))) [.s 0])) (fChI (fun i j => decide (i ≤ j)) (fun i j => decide (i ≤ j)) (.s 1) (.s 0) (.s 2))))
def M_is_between : Fn := fnM 3 3 [] b_is_between
def E1_is_arities : EF := fCall M_is_between [.v (fV 1), .v (fC (.int 0)), .v (fC (.int 2))]
def b_is_arities : SF := fSeq (fIfS (fOrT (fNot (fB (fOp (on1 fun d => some (.fr (.bool (isA .tuple d)))) [.s 0]))) (fNot (fB (fChI (fun i j => decide (i ≤ j)) (fun i j => decide (i ≤ j)) (.v (fC (.int 1))) (.v (fOp (on1 pLen) [.s 0])) (.v (fC (.int 6))))))) (fRet (fC (.bool false))) (fSkip))
  (fRet (fOp (on1 pAll) [.v (fLc (fSq (.v (fV 0))) [1] (.nm 1) (fYes) (E1_is_arities))]))
def M_is_arities : Fn := fnM 1 2 [] b_is_arities
def b_need_arities : SF := fIfS (fNot (fB (fCall M_is_arities [.v (fV 0)]))) (fNo) (fSkip)
def M_need_arities : Fn := fnM 1 1 [] b_need_arities
def E1_is_node : EF := fCall M_is_between [.v (fV 3), .v (fC (.int 0)), .v (fOp (on2 pSub) [.s 2, .v (fC (.int 1))])]
def b_is_node : SF := fSeq (fIfS (fOrT (fNot (fB (fOp (on1 fun d => some (.fr (.bool (isA .tuple d)))) [.s 1]))) (fOrT (fB (fOp (on2 pEq) [.s 1, .v (fOv pTup [])])) (fNot (fB (fCall M_is_between [.v (fOp (on2 pIx) [.s 1, .v (fC (.int 0))]), .v (fC (.int 0)), .v (fOp (on2 pSub) [.v (fOp (on1 pLen) [.s 0]), .v (fC (.int 1))])]))))) (fRet (fC (.bool false))) (fSkip))
  (fSeq (fIfS (fB (fOp (on2 pNe) [.v (fOp (on1 pLen) [.s 1]), .v (fOp (on2 pAdd) [.v (fC (.int 1)), .v (fOp (on2 pIx) [.s 0, .v (fOp (on2 pIx) [.s 1, .v (fC (.int 0))])])])])) (fRet (fC (.bool false))) (fSkip))
  (fRet (fOp (on1 pAll) [.v (fLc (fSq (.v (fOp (on2 pSl2l) [.s 1, .v (fC (.int 1))]))) [3] (.nm 3) (fYes) (E1_is_node))])))
def M_is_node : Fn := fnM 3 4 [] b_is_node
def E1_is_written : EF := fCall M_is_node [.v (fV 0), .v (fV 3), .v (fV 2)]
def b_is_written : SF := fSeq (fIfS (fOrT (fNot (fB (fOp (on1 fun d => some (.fr (.bool (isA .tuple d)))) [.s 1]))) (fB (fOp (on2 pEq) [.s 1, .v (fOv pTup [])]))) (fRet (fC (.bool false))) (fSkip))
  (fRet (fOp (on1 pAll) [.v (fLc (fEn (.v (fV 1))) [2, 3] (.tu [2, 3]) (fYes) (E1_is_written))]))
def M_is_written : Fn := fnM 2 4 [] b_is_written
def b_need_tree : SF := fIfS (fNot (fB (fCall M_is_written [.v (fV 0), .v (fV 1)]))) (fNo) (fSkip)
def M_need_tree : Fn := fnM 2 2 [] b_need_tree
def b__law_pen_2 : SF := fRet (fOv pLst [.v (fOp (pMax) [.v (fC (.int 0)), .v (fOp (on2 pSub) [.s 0, .v (fOp (on2 pPow) [.v (fC (.int 10)), .v (fC (.int 18))])])]), .v (fOp (on2 pAdd) [.v (fOp (on2 pMod) [.s 0, .v (fC (.int 2147483629))]), .v (fC (.int 1))]), .v (fC (.int 0))])
def M__law_pen_2 : Fn := fnM 1 1 [] b__law_pen_2
def b__law_cell : SF := fSeq (fIfS (fB (fOp (on2 (cmI (fun i j => decide (i < j)))) [.s 1, .v (fOp (on1 pLen) [.s 0])])) (fRet (fOp (on2 pIx) [.s 0, .s 1])) (fSkip))
  (fRet (fC (.int 0)))
def M__law_cell : Fn := fnM 2 2 [] b__law_cell
def b__law_draw_2 : SF := fSeq (fIfS (fB (fOp (on2 (cmI (fun i j => decide (j < i)))) [.v (fOp (on2 pIx) [.s 0, .v (fC (.int 0))]), .v (fC (.int 0))])) (fSeq (fSet 3 (fOp (on2 pMod) [.v (fOp (on2 pIx) [.s 0, .v (fC (.int 0))]), .s 1]))
  (fSeq (fSetI 0 (.v (fC (.int 0))) (fOp (on2 pDivW) [.v (fOp (on2 pIx) [.s 0, .v (fC (.int 0))]), .s 1]))
  (fRet (fM 3)))) (fSkip))
  (fSeq (fSetI 0 (.v (fC (.int 2))) (fOp (on2 pAdd) [.v (fOp (on2 pIx) [.s 0, .v (fC (.int 2))]), .v (fC (.int 1))]))
  (fSeq (fSetI 0 (.v (fC (.int 1))) (fOp (on2 pMod) [.v (fOp (on2 pAdd) [.v (fOp (on2 pAdd) [.v (fOp (on2 pMulA) [.v (fOp (on2 pIx) [.s 0, .v (fC (.int 1))]), .v (fC (.int 48271))]), .v (fOp (on2 pMulA) [.v (fC (.int 1009)), .v (fOp (on2 pIx) [.s 0, .v (fC (.int 2))])])]), .v (fC (.int 7))]), .v (fC (.int 2147483647))]))
  (fSeq (fSet 2 (fOp (on2 pMod) [.v (fOp (on2 pAdd) [.v (fOp (on2 pAdd) [.v (fOp (on2 pMulA) [.v (fOp (on2 pIx) [.s 0, .v (fC (.int 1))]), .v (fOp (on2 pIx) [.s 0, .v (fC (.int 1))])]), .v (fOp (on2 pMulA) [.v (fC (.int 69621)), .v (fOp (on2 pIx) [.s 0, .v (fC (.int 1))])])]), .v (fC (.int 11))]), .v (fC (.int 2147483629))]))
  (fSeq (fSet 2 (fOp (on2 pMod) [.v (fOp (on2 pAdd) [.v (fOp (on2 pMulA) [.s 2, .s 2]), .v (fOp (on2 pMulA) [.v (fC (.int 40014)), .s 2])]), .v (fC (.int 2147483587))]))
  (fRet (fOp (on2 pMod) [.v (fOp (on2 pDivW) [.s 2, .v (fC (.int 16))]), .s 1]))))))
def M__law_draw_2 : Fn := fnM 2 4 [0] b__law_draw_2
def b__law_pick_2 : SF := fRet (fOp (on2 pIx) [.s 1, .v (fCall M__law_draw_2 [.s 0, .v (fOp (on1 pLen) [.s 1])])])
def M__law_pick_2 : Fn := fnM 2 2 [0] b__law_pick_2
def E1__law_arities_2 : EF := fCall M__law_pick_2 [.s 0, .v (fOv pLst [.v (fC (.int 0)), .v (fC (.int 1)), .v (fC (.int 2)), .v (fC (.int 2))])]
def b__law_arities_2 : SF := fSeq (fFz [1] (fSet 1 (fLc (fR1 (.v (fCall M__law_draw_2 [.s 0, .v (fC (.int 4))]))) [2] (.nm 2) (fYes) (E1__law_arities_2))))
  (fSeq (fFz [1] (fSet 1 (fOp (on2 pAdd) [.s 1, .v (fOp (on2 pMulA) [.v (fOv pLst [.v (fC (.int 0))]), .v (fOp (on2 pAdd) [.v (fC (.int 1)), .v (fCall M__law_draw_2 [.s 0, .v (fC (.int 2))])])])])))
  (fRet (fOp (on1 pTuple) [.v (fIf (fB (fOp (on2 pEq) [.v (fCall M__law_draw_2 [.s 0, .v (fC (.int 2))]), .v (fC (.int 0))])) (fOp (on1 pRev) [.s 1]) (fV 1))])))
def M__law_arities_2 : Fn := fnM 1 3 [0] b__law_arities_2
abbrev V__law_arities_2 (pen_here : Option O := none) (found : Option O := none) (turn : Option O := none) : Dy.Env := [pen_here, found, turn]
def b__law_same : SF := fRet (fOp (on2 pEq) [.v (fOp (on1 pRepr) [.s 0]), .v (fOp (on1 pRepr) [.s 1])])
def M__law_same : Fn := fnM 2 2 [] b__law_same
end Q
namespace Q
open PySem Dy
open L2 (atI ixN)
/-- arities -/
structure ArOk (as : List Nat) : Prop where
  le2 : ∀ a ∈ as, a ≤ 2
  len : as.length ≤ 6
  pos : 0 < as.length
abbrev encA (as : List Nat) : PyData := .tuple (as.map dN)
theorem rkNs {as : List Nat} (h : ∀ a ∈ as, a < 1000000) : ∀ d ∈ as.map dN, Rk 0 1100 d := fun d hd => by
  obtain ⟨a, ha, rfl⟩ := List.mem_map.mp hd
  exact Rk.nat (Nat.lt_trans (h a ha) (by decide))
theorem between_ok {a lo hi : Int} : M_is_between [.fr (.int a), .fr (.int lo), .fr (.int hi)] = .ok (.fr (.bool (decide (lo ≤ a) && decide (a ≤ hi))), [.fr (.int a), .fr (.int lo), .fr (.int hi)]) := by
  by_cases h : lo ≤ a
  · simp [M_is_between, b_is_between, q_mulAI, q_mulAL, a_wb, q_divW, Function.comp_def, q_starI, q_starIT, a_wp, a_fz, a_fz0, a_fz1, a_ext, a_ins, a_insA, a_pop, a_parN, a_evO0, a_evO1, a_setO0, a_setO1, a_ix2, a_setII, a_zN, a_zC, a_lcO, d_oo, pEq_int, pNe_int, pIxL, pIxT, atI_nat, atI_0, atI_1, atI_2, atI_3, atI_m1, cutLo, cutHi, cutLo1, cutHi1, a_seq, a_ifS, a_B, a_op, a_ov, a_ev0, a_evv, a_evs, a_C, a_V, a_M, a_set, a_setI, a_app, a_ret, a_ex, a_skip, a_no, a_not, a_andT, a_orT, a_and, a_or, a_notV, a_if, a_par, a_call, a_forS, a_sq, a_r1, a_r2, a_en, a_zp, a_asT, a_chI, a_yes, a_lc, a_fn, okA, f_fr, bkA, rsvs, rsv, dvs, on1, on2, d_fr, d_ol, rsO, ndS, sl, putB, asT, setAll, ofO, Dy.ints1, Dy.ints2, nE, wipeE, unw, frO, q_addI, q_addL, q_addT, q_addS, q_sub, q_div, q_mod, q_pow, q_neg, q_cm, pIs, pIsn, q_isN, q_isI, q_isS, q_isT, q_isL, q_isB, q_lenL, q_lenT, pTup, pLst, q_tupL, q_tupT, q_lstL, q_lstT, q_revL, q_slL, q_slT, q_shL, q_shT, q_sqL, q_sqT, q_intI, q_max2, q_min2, q_aII, q_aBI, q_aTI, q_aTT, q_aLL, q_aTL, q_aIT, h]
  · simp [M_is_between, b_is_between, q_mulAI, q_mulAL, a_wb, q_divW, Function.comp_def, q_starI, q_starIT, a_wp, a_fz, a_fz0, a_fz1, a_ext, a_ins, a_insA, a_pop, a_parN, a_evO0, a_evO1, a_setO0, a_setO1, a_ix2, a_setII, a_zN, a_zC, a_lcO, d_oo, pEq_int, pNe_int, pIxL, pIxT, atI_nat, atI_0, atI_1, atI_2, atI_3, atI_m1, cutLo, cutHi, cutLo1, cutHi1, a_seq, a_ifS, a_B, a_op, a_ov, a_ev0, a_evv, a_evs, a_C, a_V, a_M, a_set, a_setI, a_app, a_ret, a_ex, a_skip, a_no, a_not, a_andT, a_orT, a_and, a_or, a_notV, a_if, a_par, a_call, a_forS, a_sq, a_r1, a_r2, a_en, a_zp, a_asT, a_chI, a_yes, a_lc, a_fn, okA, f_fr, bkA, rsvs, rsv, dvs, on1, on2, d_fr, d_ol, rsO, ndS, sl, putB, asT, setAll, ofO, Dy.ints1, Dy.ints2, nE, wipeE, unw, frO, q_addI, q_addL, q_addT, q_addS, q_sub, q_div, q_mod, q_pow, q_neg, q_cm, pIs, pIsn, q_isN, q_isI, q_isS, q_isT, q_isL, q_isB, q_lenL, q_lenT, pTup, pLst, q_tupL, q_tupT, q_lstL, q_lstT, q_revL, q_slL, q_slT, q_shL, q_shT, q_sqL, q_sqT, q_intI, q_max2, q_min2, q_aII, q_aBI, q_aTI, q_aTT, q_aLL, q_aTL, q_aIT, h]
theorem arities_ok {as : List Nat} (h : ArOk as) : M_is_arities [.fr (encA as)] = .ok (.fr (.bool true), [.fr (encA as)]) := by
  have h1 : (1 : Int) ≤ as.length := by have := h.pos; omega
  have h2 : (as.length : Int) ≤ 6 := by have := h.len; omega
  simp [M_is_arities, b_is_arities, q_mulAI, q_mulAL, a_wb, q_divW, Function.comp_def, q_starI, q_starIT, a_wp, a_fz, a_fz0, a_fz1, a_ext, a_ins, a_insA, a_pop, a_parN, a_evO0, a_evO1, a_setO0, a_setO1, a_ix2, a_setII, a_zN, a_zC, a_lcO, d_oo, pEq_int, pNe_int, pIxL, pIxT, atI_nat, atI_0, atI_1, atI_2, atI_3, atI_m1, cutLo, cutHi, cutLo1, cutHi1, a_seq, a_ifS, a_B, a_op, a_ov, a_ev0, a_evv, a_evs, a_C, a_V, a_M, a_set, a_setI, a_app, a_ret, a_ex, a_skip, a_no, a_not, a_andT, a_orT, a_and, a_or, a_notV, a_if, a_par, a_call, a_forS, a_sq, a_r1, a_r2, a_en, a_zp, a_asT, a_chI, a_yes, a_lc, a_fn, okA, f_fr, bkA, rsvs, rsv, dvs, on1, on2, d_fr, d_ol, rsO, ndS, sl, putB, asT, setAll, ofO, Dy.ints1, Dy.ints2, nE, wipeE, unw, frO, q_addI, q_addL, q_addT, q_addS, q_sub, q_div, q_mod, q_pow, q_neg, q_cm, pIs, pIsn, q_isN, q_isI, q_isS, q_isT, q_isL, q_isB, q_lenL, q_lenT, pTup, pLst, q_tupL, q_tupT, q_lstL, q_lstT, q_revL, q_slL, q_slT, q_shL, q_shT, q_sqL, q_sqT, q_intI, q_max2, q_min2, q_aII, q_aBI, q_aTI, q_aTT, q_aLL, q_aTL, q_aIT, h1, h2]
  rw [lc_tm dN (fun _ => .bool true) as rfl (fun a ha => ?_) (by have := h.len; omega)]
  · simp [q_mulAI, q_mulAL, a_wb, q_divW, Function.comp_def, q_starI, q_starIT, a_wp, a_fz, a_fz0, a_fz1, a_ext, a_ins, a_insA, a_pop, a_parN, a_evO0, a_evO1, a_setO0, a_setO1, a_ix2, a_setII, a_zN, a_zC, a_lcO, d_oo, pEq_int, pNe_int, pIxL, pIxT, atI_nat, atI_0, atI_1, atI_2, atI_3, atI_m1, cutLo, cutHi, cutLo1, cutHi1, a_seq, a_ifS, a_B, a_op, a_ov, a_ev0, a_evv, a_evs, a_C, a_V, a_M, a_set, a_setI, a_app, a_ret, a_ex, a_skip, a_no, a_not, a_andT, a_orT, a_and, a_or, a_notV, a_if, a_par, a_call, a_forS, a_sq, a_r1, a_r2, a_en, a_zp, a_asT, a_chI, a_yes, a_lc, a_fn, okA, f_fr, bkA, rsvs, rsv, dvs, on1, on2, d_fr, d_ol, rsO, ndS, sl, putB, asT, setAll, ofO, Dy.ints1, Dy.ints2, nE, wipeE, unw, frO, q_addI, q_addL, q_addT, q_addS, q_sub, q_div, q_mod, q_pow, q_neg, q_cm, pIs, pIsn, q_isN, q_isI, q_isS, q_isT, q_isL, q_isB, q_lenL, q_lenT, pTup, pLst, q_tupL, q_tupT, q_lstL, q_lstT, q_revL, q_slL, q_slT, q_shL, q_shT, q_sqL, q_sqT, q_intI, q_max2, q_min2, q_aII, q_aBI, q_aTI, q_aTT, q_aLL, q_aTL, q_aIT, pAll_true]
  · have := h.le2 a ha
    simp [E1_is_arities, q_mulAI, q_mulAL, a_wb, q_divW, Function.comp_def, q_starI, q_starIT, a_wp, a_fz, a_fz0, a_fz1, a_ext, a_ins, a_insA, a_pop, a_parN, a_evO0, a_evO1, a_setO0, a_setO1, a_ix2, a_setII, a_zN, a_zC, a_lcO, d_oo, pEq_int, pNe_int, pIxL, pIxT, atI_nat, atI_0, atI_1, atI_2, atI_3, atI_m1, cutLo, cutHi, cutLo1, cutHi1, a_seq, a_ifS, a_B, a_op, a_ov, a_ev0, a_evv, a_evs, a_C, a_V, a_M, a_set, a_setI, a_app, a_ret, a_ex, a_skip, a_no, a_not, a_andT, a_orT, a_and, a_or, a_notV, a_if, a_par, a_call, a_forS, a_sq, a_r1, a_r2, a_en, a_zp, a_asT, a_chI, a_yes, a_lc, a_fn, okA, f_fr, bkA, rsvs, rsv, dvs, on1, on2, d_fr, d_ol, rsO, ndS, sl, putB, asT, setAll, ofO, Dy.ints1, Dy.ints2, nE, wipeE, unw, frO, q_addI, q_addL, q_addT, q_addS, q_sub, q_div, q_mod, q_pow, q_neg, q_cm, pIs, pIsn, q_isN, q_isI, q_isS, q_isT, q_isL, q_isB, q_lenL, q_lenT, pTup, pLst, q_tupL, q_tupT, q_lstL, q_lstT, q_revL, q_slL, q_slT, q_shL, q_shT, q_sqL, q_sqT, q_intI, q_max2, q_min2, q_aII, q_aBI, q_aTI, q_aTT, q_aLL, q_aTL, q_aIT, between_ok]; omega
abbrev Nd := Nat × List Nat
abbrev encN (n : Nd) : PyData := .tuple (dN n.1 :: n.2.map dN)
abbrev encT (t : List Nd) : PyData := .tuple (t.map encN)
def NdOk (as : List Nat) (k : Nat) (n : Nd) : Prop := as[n.1]? = some n.2.length ∧ ∀ p ∈ n.2, p < k
def WF (as : List Nat) (t : List Nd) : Prop := ∀ k n, t[k]? = some n → NdOk as k n
structure TrOk (as : List Nat) (t : List Nd) : Prop where
  wf : WF as t
  ne : t ≠ []
  len : t.length ≤ 1000
theorem NdOk.mono {as : List Nat} {k l : Nat} {n : Nd} (h : NdOk as k n) (hl : k ≤ l) : NdOk as l n := ⟨h.1, fun p hp => Nat.lt_of_lt_of_le (h.2 p hp) hl⟩
theorem NdOk.le2 {as : List Nat} {k : Nat} {n : Nd} (ha : ArOk as) (h : NdOk as k n) : n.2.length ≤ 2 := ha.le2 _ (List.mem_of_getElem? h.1)
theorem NdOk.lt6 {as : List Nat} {k : Nat} {n : Nd} (ha : ArOk as) (h : NdOk as k n) : n.1 < as.length := lt_of_get h.1
theorem WF.nil {as : List Nat} : WF as [] := fun k n h => by simp at h
theorem WF.snoc {as : List Nat} {t : List Nd} {n : Nd} (h : WF as t) (hn : NdOk as t.length n) : WF as (t ++ [n]) := by
  intro k m hk
  by_cases h1 : k < t.length
  · rw [List.getElem?_append_left h1] at hk; exact h k m hk
  · have h2 := lt_of_get hk
    have : k = t.length := by simp at h2; omega
    subst this
    simp at hk; subst hk; exact hn
theorem WF.pre {as : List Nat} {t u : List Nd} (h : WF as (t ++ u)) : WF as t := fun k n hk => h k n (by rw [List.getElem?_append_left (lt_of_get hk)]; exact hk)
theorem WF.mem {as : List Nat} {t : List Nd} {n : Nd} (h : WF as t) (hn : n ∈ t) : NdOk as t.length n := by
  obtain ⟨k, hk⟩ := List.getElem?_of_mem hn
  exact (h k n hk).mono (Nat.le_of_lt (lt_of_get hk))
theorem rkN {as : List Nat} {k : Nat} {n : Nd} (ha : ArOk as) (h : NdOk as k n) (hk : k ≤ 100000) : Rk 1 4000 (encN n) := by
  refine (Rk.tup (n := 0) (w := 1100) (fun d hd => ?_)).mono (Nat.le_refl _) ?_
  · rcases List.mem_cons.mp hd with rfl | hd
    · have := h.lt6 ha; have := ha.len; exact Rk.nat (Nat.lt_trans (show n.1 < 1000000 by omega) (by decide))
    · exact rkNs (fun a hp => by have := h.2 a hp; omega) d hd
  · have := h.le2 ha; simp; omega
theorem rkT {as : List Nat} {t : List Nd} (ha : ArOk as) (h : WF as t) (hl : t.length ≤ 1000) : Rk 2 4100000 (encT t) := by
  refine (Rk.tup (n := 1) (w := 4000) (fun d hd => ?_)).mono (Nat.le_refl _) ?_
  · obtain ⟨n, hn, rfl⟩ := List.mem_map.mp hd
    exact rkN ha (h.mem hn) (by omega)
  · simp; omega
theorem node_ok {as : List Nat} {n : Nd} {k : Nat} (ha : ArOk as) (h : NdOk as k n) (hk : k ≤ 100000) : M_is_node [.fr (encA as), .fr (encN n), .fr (dN k)] = .ok (.fr (.bool true), [.fr (encA as), .fr (encN n), .fr (dN k)]) := by
  have s := pEq_T0 ((rkN ha h hk).shp (by decide))
  have h1 := h.lt6 ha
  have c1 : (n.1 : Int) ≤ as.length - 1 := by omega
  have c2 : ((n.2.length : Int) + 1 = 1 + n.2.length) = True := eq_true (by omega)
  simp [M_is_node, b_is_node, q_mulAI, q_mulAL, a_wb, q_divW, Function.comp_def, q_starI, q_starIT, a_wp, a_fz, a_fz0, a_fz1, a_ext, a_ins, a_insA, a_pop, a_parN, a_evO0, a_evO1, a_setO0, a_setO1, a_ix2, a_setII, a_zN, a_zC, a_lcO, d_oo, pEq_int, pNe_int, pIxL, pIxT, atI_nat, atI_0, atI_1, atI_2, atI_3, atI_m1, cutLo, cutHi, cutLo1, cutHi1, a_seq, a_ifS, a_B, a_op, a_ov, a_ev0, a_evv, a_evs, a_C, a_V, a_M, a_set, a_setI, a_app, a_ret, a_ex, a_skip, a_no, a_not, a_andT, a_orT, a_and, a_or, a_notV, a_if, a_par, a_call, a_forS, a_sq, a_r1, a_r2, a_en, a_zp, a_asT, a_chI, a_yes, a_lc, a_fn, okA, f_fr, bkA, rsvs, rsv, dvs, on1, on2, d_fr, d_ol, rsO, ndS, sl, putB, asT, setAll, ofO, Dy.ints1, Dy.ints2, nE, wipeE, unw, frO, q_addI, q_addL, q_addT, q_addS, q_sub, q_div, q_mod, q_pow, q_neg, q_cm, pIs, pIsn, q_isN, q_isI, q_isS, q_isT, q_isL, q_isB, q_lenL, q_lenT, pTup, pLst, q_tupL, q_tupT, q_lstL, q_lstT, q_revL, q_slL, q_slT, q_shL, q_shT, q_sqL, q_sqT, q_intI, q_max2, q_min2, q_aII, q_aBI, q_aTI, q_aTT, q_aLL, q_aTL, q_aIT, s, between_ok, c1, h.1, c2]
  rw [lc_tm dN (fun _ => .bool true) n.2 rfl (fun p hp => ?_) (by have := h.le2 ha; omega)]
  · simp [q_mulAI, q_mulAL, a_wb, q_divW, Function.comp_def, q_starI, q_starIT, a_wp, a_fz, a_fz0, a_fz1, a_ext, a_ins, a_insA, a_pop, a_parN, a_evO0, a_evO1, a_setO0, a_setO1, a_ix2, a_setII, a_zN, a_zC, a_lcO, d_oo, pEq_int, pNe_int, pIxL, pIxT, atI_nat, atI_0, atI_1, atI_2, atI_3, atI_m1, cutLo, cutHi, cutLo1, cutHi1, a_seq, a_ifS, a_B, a_op, a_ov, a_ev0, a_evv, a_evs, a_C, a_V, a_M, a_set, a_setI, a_app, a_ret, a_ex, a_skip, a_no, a_not, a_andT, a_orT, a_and, a_or, a_notV, a_if, a_par, a_call, a_forS, a_sq, a_r1, a_r2, a_en, a_zp, a_asT, a_chI, a_yes, a_lc, a_fn, okA, f_fr, bkA, rsvs, rsv, dvs, on1, on2, d_fr, d_ol, rsO, ndS, sl, putB, asT, setAll, ofO, Dy.ints1, Dy.ints2, nE, wipeE, unw, frO, q_addI, q_addL, q_addT, q_addS, q_sub, q_div, q_mod, q_pow, q_neg, q_cm, pIs, pIsn, q_isN, q_isI, q_isS, q_isT, q_isL, q_isB, q_lenL, q_lenT, pTup, pLst, q_tupL, q_tupT, q_lstL, q_lstT, q_revL, q_slL, q_slT, q_shL, q_shT, q_sqL, q_sqT, q_intI, q_max2, q_min2, q_aII, q_aBI, q_aTI, q_aTT, q_aLL, q_aTL, q_aIT, pAll_true]
  · have := h.2 p hp
    simp [E1_is_node, q_mulAI, q_mulAL, a_wb, q_divW, Function.comp_def, q_starI, q_starIT, a_wp, a_fz, a_fz0, a_fz1, a_ext, a_ins, a_insA, a_pop, a_parN, a_evO0, a_evO1, a_setO0, a_setO1, a_ix2, a_setII, a_zN, a_zC, a_lcO, d_oo, pEq_int, pNe_int, pIxL, pIxT, atI_nat, atI_0, atI_1, atI_2, atI_3, atI_m1, cutLo, cutHi, cutLo1, cutHi1, a_seq, a_ifS, a_B, a_op, a_ov, a_ev0, a_evv, a_evs, a_C, a_V, a_M, a_set, a_setI, a_app, a_ret, a_ex, a_skip, a_no, a_not, a_andT, a_orT, a_and, a_or, a_notV, a_if, a_par, a_call, a_forS, a_sq, a_r1, a_r2, a_en, a_zp, a_asT, a_chI, a_yes, a_lc, a_fn, okA, f_fr, bkA, rsvs, rsv, dvs, on1, on2, d_fr, d_ol, rsO, ndS, sl, putB, asT, setAll, ofO, Dy.ints1, Dy.ints2, nE, wipeE, unw, frO, q_addI, q_addL, q_addT, q_addS, q_sub, q_div, q_mod, q_pow, q_neg, q_cm, pIs, pIsn, q_isN, q_isI, q_isS, q_isT, q_isL, q_isB, q_lenL, q_lenT, pTup, pLst, q_tupL, q_tupT, q_lstL, q_lstT, q_revL, q_slL, q_slT, q_shL, q_shT, q_sqL, q_sqT, q_intI, q_max2, q_min2, q_aII, q_aBI, q_aTI, q_aTT, q_aLL, q_aTL, q_aIT, between_ok]; omega
theorem written_ok {as : List Nat} {t : List Nd} (ha : ArOk as) (h : TrOk as t) : M_is_written [.fr (encA as), .fr (encT t)] = .ok (.fr (.bool true), [.fr (encA as), .fr (encT t)]) := by
  have s := pEq_T0 ((rkT ha h.wf h.len).shp (by decide))
  have h0 := h.ne
  simp [M_is_written, b_is_written, q_mulAI, q_mulAL, a_wb, q_divW, Function.comp_def, q_starI, q_starIT, a_wp, a_fz, a_fz0, a_fz1, a_ext, a_ins, a_insA, a_pop, a_parN, a_evO0, a_evO1, a_setO0, a_setO1, a_ix2, a_setII, a_zN, a_zC, a_lcO, d_oo, pEq_int, pNe_int, pIxL, pIxT, atI_nat, atI_0, atI_1, atI_2, atI_3, atI_m1, cutLo, cutHi, cutLo1, cutHi1, a_seq, a_ifS, a_B, a_op, a_ov, a_ev0, a_evv, a_evs, a_C, a_V, a_M, a_set, a_setI, a_app, a_ret, a_ex, a_skip, a_no, a_not, a_andT, a_orT, a_and, a_or, a_notV, a_if, a_par, a_call, a_forS, a_sq, a_r1, a_r2, a_en, a_zp, a_asT, a_chI, a_yes, a_lc, a_fn, okA, f_fr, bkA, rsvs, rsv, dvs, on1, on2, d_fr, d_ol, rsO, ndS, sl, putB, asT, setAll, ofO, Dy.ints1, Dy.ints2, nE, wipeE, unw, frO, q_addI, q_addL, q_addT, q_addS, q_sub, q_div, q_mod, q_pow, q_neg, q_cm, pIs, pIsn, q_isN, q_isI, q_isS, q_isT, q_isL, q_isB, q_lenL, q_lenT, pTup, pLst, q_tupL, q_tupT, q_lstL, q_lstT, q_revL, q_slL, q_slT, q_shL, q_shT, q_sqL, q_sqT, q_intI, q_max2, q_min2, q_aII, q_aBI, q_aTI, q_aTT, q_aLL, q_aTL, q_aIT, s, h0, enumD_ens]
  rw [lc_tm (fun p : Nat × Nd => .tuple [.int (p.1 : Int), encN p.2]) (fun _ => .bool true) (ens t) rfl (fun p hp => ?_) (by rw [ens_len]; have := h.len; omega)]
  · simp [q_mulAI, q_mulAL, a_wb, q_divW, Function.comp_def, q_starI, q_starIT, a_wp, a_fz, a_fz0, a_fz1, a_ext, a_ins, a_insA, a_pop, a_parN, a_evO0, a_evO1, a_setO0, a_setO1, a_ix2, a_setII, a_zN, a_zC, a_lcO, d_oo, pEq_int, pNe_int, pIxL, pIxT, atI_nat, atI_0, atI_1, atI_2, atI_3, atI_m1, cutLo, cutHi, cutLo1, cutHi1, a_seq, a_ifS, a_B, a_op, a_ov, a_ev0, a_evv, a_evs, a_C, a_V, a_M, a_set, a_setI, a_app, a_ret, a_ex, a_skip, a_no, a_not, a_andT, a_orT, a_and, a_or, a_notV, a_if, a_par, a_call, a_forS, a_sq, a_r1, a_r2, a_en, a_zp, a_asT, a_chI, a_yes, a_lc, a_fn, okA, f_fr, bkA, rsvs, rsv, dvs, on1, on2, d_fr, d_ol, rsO, ndS, sl, putB, asT, setAll, ofO, Dy.ints1, Dy.ints2, nE, wipeE, unw, frO, q_addI, q_addL, q_addT, q_addS, q_sub, q_div, q_mod, q_pow, q_neg, q_cm, pIs, pIsn, q_isN, q_isI, q_isS, q_isT, q_isL, q_isB, q_lenL, q_lenT, pTup, pLst, q_tupL, q_tupT, q_lstL, q_lstT, q_revL, q_slL, q_slT, q_shL, q_shT, q_sqL, q_sqT, q_intI, q_max2, q_min2, q_aII, q_aBI, q_aTI, q_aTT, q_aLL, q_aTL, q_aIT, pAll_true]
  · have hp := ens_mem hp
    have := lt_of_get hp
    have e := node_ok ha (h.wf p.1 p.2 hp) (by have := h.len; omega)
    simp [E1_is_written, q_mulAI, q_mulAL, a_wb, q_divW, Function.comp_def, q_starI, q_starIT, a_wp, a_fz, a_fz0, a_fz1, a_ext, a_ins, a_insA, a_pop, a_parN, a_evO0, a_evO1, a_setO0, a_setO1, a_ix2, a_setII, a_zN, a_zC, a_lcO, d_oo, pEq_int, pNe_int, pIxL, pIxT, atI_nat, atI_0, atI_1, atI_2, atI_3, atI_m1, cutLo, cutHi, cutLo1, cutHi1, a_seq, a_ifS, a_B, a_op, a_ov, a_ev0, a_evv, a_evs, a_C, a_V, a_M, a_set, a_setI, a_app, a_ret, a_ex, a_skip, a_no, a_not, a_andT, a_orT, a_and, a_or, a_notV, a_if, a_par, a_call, a_forS, a_sq, a_r1, a_r2, a_en, a_zp, a_asT, a_chI, a_yes, a_lc, a_fn, okA, f_fr, bkA, rsvs, rsv, dvs, on1, on2, d_fr, d_ol, rsO, ndS, sl, putB, asT, setAll, ofO, Dy.ints1, Dy.ints2, nE, wipeE, unw, frO, q_addI, q_addL, q_addT, q_addS, q_sub, q_div, q_mod, q_pow, q_neg, q_cm, pIs, pIsn, q_isN, q_isI, q_isS, q_isT, q_isL, q_isB, q_lenL, q_lenT, pTup, pLst, q_tupL, q_tupT, q_lstL, q_lstT, q_revL, q_slL, q_slT, q_shL, q_shT, q_sqL, q_sqT, q_intI, q_max2, q_min2, q_aII, q_aBI, q_aTI, q_aTT, q_aLL, q_aTL, q_aIT, e]
theorem need_arities_ok {as : List Nat} (h : ArOk as) : M_need_arities [.fr (encA as)] = .ok (.fr .none, [.fr (encA as)]) := by
  simp [M_need_arities, b_need_arities, q_mulAI, q_mulAL, a_wb, q_divW, Function.comp_def, q_starI, q_starIT, a_wp, a_fz, a_fz0, a_fz1, a_ext, a_ins, a_insA, a_pop, a_parN, a_evO0, a_evO1, a_setO0, a_setO1, a_ix2, a_setII, a_zN, a_zC, a_lcO, d_oo, pEq_int, pNe_int, pIxL, pIxT, atI_nat, atI_0, atI_1, atI_2, atI_3, atI_m1, cutLo, cutHi, cutLo1, cutHi1, a_seq, a_ifS, a_B, a_op, a_ov, a_ev0, a_evv, a_evs, a_C, a_V, a_M, a_set, a_setI, a_app, a_ret, a_ex, a_skip, a_no, a_not, a_andT, a_orT, a_and, a_or, a_notV, a_if, a_par, a_call, a_forS, a_sq, a_r1, a_r2, a_en, a_zp, a_asT, a_chI, a_yes, a_lc, a_fn, okA, f_fr, bkA, rsvs, rsv, dvs, on1, on2, d_fr, d_ol, rsO, ndS, sl, putB, asT, setAll, ofO, Dy.ints1, Dy.ints2, nE, wipeE, unw, frO, q_addI, q_addL, q_addT, q_addS, q_sub, q_div, q_mod, q_pow, q_neg, q_cm, pIs, pIsn, q_isN, q_isI, q_isS, q_isT, q_isL, q_isB, q_lenL, q_lenT, pTup, pLst, q_tupL, q_tupT, q_lstL, q_lstT, q_revL, q_slL, q_slT, q_shL, q_shT, q_sqL, q_sqT, q_intI, q_max2, q_min2, q_aII, q_aBI, q_aTI, q_aTT, q_aLL, q_aTL, q_aIT, arities_ok h]
theorem need_tree_ok {as : List Nat} {t : List Nd} (ha : ArOk as) (h : TrOk as t) : M_need_tree [.fr (encA as), .fr (encT t)] = .ok (.fr .none, [.fr (encA as), .fr (encT t)]) := by
  simp [M_need_tree, b_need_tree, q_mulAI, q_mulAL, a_wb, q_divW, Function.comp_def, q_starI, q_starIT, a_wp, a_fz, a_fz0, a_fz1, a_ext, a_ins, a_insA, a_pop, a_parN, a_evO0, a_evO1, a_setO0, a_setO1, a_ix2, a_setII, a_zN, a_zC, a_lcO, d_oo, pEq_int, pNe_int, pIxL, pIxT, atI_nat, atI_0, atI_1, atI_2, atI_3, atI_m1, cutLo, cutHi, cutLo1, cutHi1, a_seq, a_ifS, a_B, a_op, a_ov, a_ev0, a_evv, a_evs, a_C, a_V, a_M, a_set, a_setI, a_app, a_ret, a_ex, a_skip, a_no, a_not, a_andT, a_orT, a_and, a_or, a_notV, a_if, a_par, a_call, a_forS, a_sq, a_r1, a_r2, a_en, a_zp, a_asT, a_chI, a_yes, a_lc, a_fn, okA, f_fr, bkA, rsvs, rsv, dvs, on1, on2, d_fr, d_ol, rsO, ndS, sl, putB, asT, setAll, ofO, Dy.ints1, Dy.ints2, nE, wipeE, unw, frO, q_addI, q_addL, q_addT, q_addS, q_sub, q_div, q_mod, q_pow, q_neg, q_cm, pIs, pIsn, q_isN, q_isI, q_isS, q_isT, q_isL, q_isB, q_lenL, q_lenT, pTup, pLst, q_tupL, q_tupT, q_lstL, q_lstT, q_revL, q_slL, q_slT, q_shL, q_shT, q_sqL, q_sqT, q_intI, q_max2, q_min2, q_aII, q_aBI, q_aTI, q_aTT, q_aLL, q_aTL, q_aIT, written_ok ha h]
end Q
namespace Q
open PySem Dy
open L2 (atI ixN)
section
variable {β : Type} (f : Nat → List β → β) (d : β)
def alg1 (acc : List β) (n : Nd) : List β := acc ++ [f n.1 (n.2.map (acc.getD · d))]
def alg (t : List Nd) : List β := t.foldl (alg1 f d) []
def lastA (t : List Nd) : β := (alg f d t).getLast?.getD d
theorem alg_snoc (t : List Nd) (n : Nd) : alg f d (t ++ [n]) = alg f d t ++ [f n.1 (n.2.map ((alg f d t).getD · d))] := by
  unfold alg; rw [List.foldl_append]; rfl
theorem rev_ind {α : Type} {P : List α → Prop} (h0 : P []) (h1 : ∀ l x, P l → P (l ++ [x])) : ∀ l, P l := by
  intro l
  have : ∀ r : List α, P r.reverse := by
    intro r
    induction r with
    | nil => exact h0
    | cons x r ih => rw [List.reverse_cons]; exact h1 _ _ ih
  have h := this l.reverse
  rwa [List.reverse_reverse] at h
theorem alg_len (t : List Nd) : (alg f d t).length = t.length := by
  induction t using rev_ind with
  | h0 => rfl
  | h1 l x ih => rw [alg_snoc]; simp [ih]
theorem alg_prefix {t u : List Nd} : ∃ r, alg f d (t ++ u) = alg f d t ++ r := by
  induction u using rev_ind with
  | h0 => exact ⟨[], by simp⟩
  | h1 l n ih =>
    obtain ⟨r, e⟩ := ih
    rw [← List.append_assoc, alg_snoc, e, List.append_assoc]
    exact ⟨_, rfl⟩
theorem getD_app {a b : List β} {k : Nat} (h : k < a.length) : (a ++ b).getD k d = a.getD k d := by
  simp [List.getD_eq_getElem?_getD, List.getElem?_append_left h]
theorem lastA_eq {t : List Nd} (h : t ≠ []) : lastA f d t = (alg f d t).getD (t.length - 1) d := by
  unfold lastA
  rw [List.getLast?_eq_getElem?, alg_len, List.getD_eq_getElem?_getD]
end
end Q
namespace Q
open PySem Dy
open L2 (atI ixN)
abbrev Pr := Option Nat
abbrev Mat := List (List Pr)
def getM (w : Mat) (i j : Nat) : Pr := (w.getD i []).getD j none
def setM (w : Mat) (i j : Nat) (v : Pr) : Mat := w.set i ((w.getD i []).set j v)
def Sq (n : Nat) (w : Mat) : Prop := w.length = n ∧ ∀ r ∈ w, r.length = n
theorem getD_mem {α : Type} {xs : List α} {k : Nat} {d : α} (h : k < xs.length) : xs[k]? = some (xs.getD k d) := by
  rw [List.getD_eq_getElem?_getD, List.getElem?_eq_getElem h]; rfl
theorem Sq.row {n : Nat} {w : Mat} (h : Sq n w) {i : Nat} (hi : i < n) : w[i]? = some (w.getD i []) ∧ (w.getD i []).length = n := by
  have e := getD_mem (xs := w) (d := []) (show i < w.length by rw [h.1]; exact hi)
  exact ⟨e, h.2 _ (List.mem_of_getElem? e)⟩
theorem Sq.at {n : Nat} {w : Mat} (h : Sq n w) {i j : Nat} (hi : i < n) (hj : j < n) : (w.getD i [])[j]? = some (getM w i j) :=
  getD_mem (by rw [(h.row hi).2]; exact hj)
theorem Sq.set {n : Nat} {w : Mat} (h : Sq n w) {i j : Nat} {v : Pr} (hi : i < n) : Sq n (setM w i j v) := by
  refine ⟨by simp [setM, h.1], fun r hr => ?_⟩
  unfold setM at hr
  rcases List.mem_or_eq_of_mem_set hr with z | z
  · exact h.2 r z
  · subst z; rw [List.length_set]; exact (h.row hi).2
theorem Sq.rw {n : Nat} {w : Mat} (h : Sq n w) {i : Nat} (hi : i < n) : ∃ r : List Pr, w[i]? = some r ∧ r.length = n ∧ (∀ j, j < n → r[j]? = some (getM w i j)) ∧ ∀ j v, setM w i j v = w.set i (r.set j v) :=
  ⟨w.getD i [], (h.row hi).1, (h.row hi).2, fun j hj => h.at hi hj, fun j v => rfl⟩
end Q
namespace Q
open PySem Dy
open L2 (atI ixN)
end Q
namespace Q
open PySem Dy
open L2 (atI ixN)
theorem mulA (i j : Int) (h : -18446744073709551616 < i ∧ i < 18446744073709551616) : pMul (.int i) (.int j) = some (.fr (.int (i * j))) := by
  have : smI i = true := by unfold smI; exact decide_eq_true ⟨by omega, by omega⟩
  simp [pMul, muOk, this]
theorem mulA' (i j : Int) (h : -18446744073709551616 < j ∧ j < 18446744073709551616) : pMul (.int i) (.int j) = some (.fr (.int (i * j))) := by
  have : smI j = true := by unfold smI; exact decide_eq_true ⟨by omega, by omega⟩
  simp [pMul, muOk, this]
def PenA (o : O) : Prop := ∃ a b c : Int, o = .ol [.int a, .int b, .int c]
theorem penA_ok (z : Int) : ∃ o, PenA o ∧ M__law_pen_2 [.fr (.int z)] = .ok (o, [.fr (.int z)]) := by
  refine ⟨_, ⟨max 0 (z - 10 ^ 18), z % 2147483629 + 1, 0, rfl⟩, ?_⟩
  simp [M__law_pen_2, b__law_pen_2, q_mulAI, q_mulAL, a_wb, q_divW, Function.comp_def, q_starI, q_starIT, a_wp, a_fz, a_fz0, a_fz1, a_ext, a_ins, a_insA, a_pop, a_parN, a_evO0, a_evO1, a_setO0, a_setO1, a_ix2, a_setII, a_zN, a_zC, a_lcO, d_oo, pEq_int, pNe_int, pIxL, pIxT, atI_nat, atI_0, atI_1, atI_2, atI_3, atI_m1, cutLo, cutHi, cutLo1, cutHi1, a_seq, a_ifS, a_B, a_op, a_ov, a_ev0, a_evv, a_evs, a_C, a_V, a_M, a_set, a_setI, a_app, a_ret, a_ex, a_skip, a_no, a_not, a_andT, a_orT, a_and, a_or, a_notV, a_if, a_par, a_call, a_forS, a_sq, a_r1, a_r2, a_en, a_zp, a_asT, a_chI, a_yes, a_lc, a_fn, okA, f_fr, bkA, rsvs, rsv, dvs, on1, on2, d_fr, d_ol, rsO, ndS, sl, putB, asT, setAll, ofO, Dy.ints1, Dy.ints2, nE, wipeE, unw, frO, q_addI, q_addL, q_addT, q_addS, q_sub, q_div, q_mod, q_pow, q_neg, q_cm, pIs, pIsn, q_isN, q_isI, q_isS, q_isT, q_isL, q_isB, q_lenL, q_lenT, pTup, pLst, q_tupL, q_tupT, q_lstL, q_lstT, q_revL, q_slL, q_slT, q_shL, q_shT, q_sqL, q_sqT, q_intI, q_max2, q_min2, q_aII, q_aBI, q_aTI, q_aTT, q_aLL, q_aTL, q_aIT]
theorem cellA_ok {ns : List Int} {k : Nat} : ∃ z : Int, M__law_cell [.fr (.list (ns.map PyData.int)), .fr (dN k)] = .ok (.fr (.int z), [.fr (.list (ns.map PyData.int)), .fr (dN k)]) := by
  by_cases hk : k < ns.length
  · exact ⟨ns[k], by simp [M__law_cell, b__law_cell, q_mulAI, q_mulAL, a_wb, q_divW, Function.comp_def, q_starI, q_starIT, a_wp, a_fz, a_fz0, a_fz1, a_ext, a_ins, a_insA, a_pop, a_parN, a_evO0, a_evO1, a_setO0, a_setO1, a_ix2, a_setII, a_zN, a_zC, a_lcO, d_oo, pEq_int, pNe_int, pIxL, pIxT, atI_nat, atI_0, atI_1, atI_2, atI_3, atI_m1, cutLo, cutHi, cutLo1, cutHi1, a_seq, a_ifS, a_B, a_op, a_ov, a_ev0, a_evv, a_evs, a_C, a_V, a_M, a_set, a_setI, a_app, a_ret, a_ex, a_skip, a_no, a_not, a_andT, a_orT, a_and, a_or, a_notV, a_if, a_par, a_call, a_forS, a_sq, a_r1, a_r2, a_en, a_zp, a_asT, a_chI, a_yes, a_lc, a_fn, okA, f_fr, bkA, rsvs, rsv, dvs, on1, on2, d_fr, d_ol, rsO, ndS, sl, putB, asT, setAll, ofO, Dy.ints1, Dy.ints2, nE, wipeE, unw, frO, q_addI, q_addL, q_addT, q_addS, q_sub, q_div, q_mod, q_pow, q_neg, q_cm, pIs, pIsn, q_isN, q_isI, q_isS, q_isT, q_isL, q_isB, q_lenL, q_lenT, pTup, pLst, q_tupL, q_tupT, q_lstL, q_lstT, q_revL, q_slL, q_slT, q_shL, q_shT, q_sqL, q_sqT, q_intI, q_max2, q_min2, q_aII, q_aBI, q_aTI, q_aTT, q_aLL, q_aTL, q_aIT, hk]⟩
  · exact ⟨0, by simp [M__law_cell, b__law_cell, q_mulAI, q_mulAL, a_wb, q_divW, Function.comp_def, q_starI, q_starIT, a_wp, a_fz, a_fz0, a_fz1, a_ext, a_ins, a_insA, a_pop, a_parN, a_evO0, a_evO1, a_setO0, a_setO1, a_ix2, a_setII, a_zN, a_zC, a_lcO, d_oo, pEq_int, pNe_int, pIxL, pIxT, atI_nat, atI_0, atI_1, atI_2, atI_3, atI_m1, cutLo, cutHi, cutLo1, cutHi1, a_seq, a_ifS, a_B, a_op, a_ov, a_ev0, a_evv, a_evs, a_C, a_V, a_M, a_set, a_setI, a_app, a_ret, a_ex, a_skip, a_no, a_not, a_andT, a_orT, a_and, a_or, a_notV, a_if, a_par, a_call, a_forS, a_sq, a_r1, a_r2, a_en, a_zp, a_asT, a_chI, a_yes, a_lc, a_fn, okA, f_fr, bkA, rsvs, rsv, dvs, on1, on2, d_fr, d_ol, rsO, ndS, sl, putB, asT, setAll, ofO, Dy.ints1, Dy.ints2, nE, wipeE, unw, frO, q_addI, q_addL, q_addT, q_addS, q_sub, q_div, q_mod, q_pow, q_neg, q_cm, pIs, pIsn, q_isN, q_isI, q_isS, q_isT, q_isL, q_isB, q_lenL, q_lenT, pTup, pLst, q_tupL, q_tupT, q_lstL, q_lstT, q_revL, q_slL, q_slT, q_shL, q_shT, q_sqL, q_sqT, q_intI, q_max2, q_min2, q_aII, q_aBI, q_aTI, q_aTT, q_aLL, q_aTL, q_aIT, hk]⟩
theorem drawA {o : O} {m : Int} (h : PenA o) (h1 : 0 < m) (h3 : m < 1000000000000000000000000000000) : ∃ (r : Nat) (o' : O), (r : Int) < m ∧ PenA o' ∧ M__law_draw_2 [o, .fr (.int m)] = .ok (.fr (dN r), [o', .fr (.int m)]) := by
  obtain ⟨a, b, c, rfl⟩ := h
  by_cases ha : 0 < a
  · have q0 := Int.emod_nonneg a (show m ≠ 0 by omega)
    have q1 := Int.emod_lt_of_pos a h1
    have e0 : ((a % m).toNat : Int) = a % m := by omega
    refine ⟨(a % m).toNat, _, by omega, ⟨a / m, b, c, rfl⟩, ?_⟩
    show _ = Res.ok (O.fr (.int ((a % m).toNat : Int)), _)
    rw [e0]
    simp [M__law_draw_2, b__law_draw_2, q_mulAI, q_mulAL, a_wb, q_divW, Function.comp_def, q_starI, q_starIT, a_wp, a_fz, a_fz0, a_fz1, a_ext, a_ins, a_insA, a_pop, a_parN, a_evO0, a_evO1, a_setO0, a_setO1, a_ix2, a_setII, a_zN, a_zC, a_lcO, d_oo, pEq_int, pNe_int, pIxL, pIxT, atI_nat, atI_0, atI_1, atI_2, atI_3, atI_m1, cutLo, cutHi, cutLo1, cutHi1, a_seq, a_ifS, a_B, a_op, a_ov, a_ev0, a_evv, a_evs, a_C, a_V, a_M, a_set, a_setI, a_app, a_ret, a_ex, a_skip, a_no, a_not, a_andT, a_orT, a_and, a_or, a_notV, a_if, a_par, a_call, a_forS, a_sq, a_r1, a_r2, a_en, a_zp, a_asT, a_chI, a_yes, a_lc, a_fn, okA, f_fr, bkA, rsvs, rsv, dvs, on1, on2, d_fr, d_ol, rsO, ndS, sl, putB, asT, setAll, ofO, Dy.ints1, Dy.ints2, nE, wipeE, unw, frO, q_addI, q_addL, q_addT, q_addS, q_sub, q_div, q_mod, q_pow, q_neg, q_cm, pIs, pIsn, q_isN, q_isI, q_isS, q_isT, q_isL, q_isB, q_lenL, q_lenT, pTup, pLst, q_tupL, q_tupT, q_lstL, q_lstT, q_revL, q_slL, q_slT, q_shL, q_shT, q_sqL, q_sqT, q_intI, q_max2, q_min2, q_aII, q_aBI, q_aTI, q_aTT, q_aLL, q_aTL, q_aIT, ixN, ha, h1, h3]
  · have m1 : ∀ i, pMul (.int i) (.int 48271) = some (.fr (.int (i * 48271))) := fun i => mulA' _ _ (by decide)
    have m2 : ∀ i, pMul (.int 1009) (.int i) = some (.fr (.int (1009 * i))) := fun i => mulA _ _ (by decide)
    have m3 : ∀ i, pMul (.int 69621) (.int i) = some (.fr (.int (69621 * i))) := fun i => mulA _ _ (by decide)
    have m4 : ∀ i, pMul (.int 40014) (.int i) = some (.fr (.int (40014 * i))) := fun i => mulA _ _ (by decide)
    generalize hx : (b * 48271 + 1009 * (c + 1) + 7) % 2147483647 = x
    have x0 : 0 ≤ x ∧ x < 2147483647 := by rw [← hx]; exact ⟨Int.emod_nonneg _ (by decide), Int.emod_lt_of_pos _ (by decide)⟩
    have m5 : pMul (.int x) (.int x) = some (.fr (.int (x * x))) := mulA _ _ (by omega)
    generalize hy : (x * x + 69621 * x + 11) % 2147483629 = y
    have y0 : 0 ≤ y ∧ y < 2147483647 := by rw [← hy]; exact ⟨Int.emod_nonneg _ (by decide), Int.lt_trans (Int.emod_lt_of_pos _ (by decide)) (by decide)⟩
    have m6 : pMul (.int y) (.int y) = some (.fr (.int (y * y))) := mulA _ _ (by omega)
    generalize hz : (y * y + 40014 * y) % 2147483587 / 16 = z
    have q0 := Int.emod_nonneg z (show m ≠ 0 by omega)
    have q1 := Int.emod_lt_of_pos z h1
    have e0 : ((z % m).toNat : Int) = z % m := by omega
    refine ⟨(z % m).toNat, _, by omega, ⟨a, x, c + 1, rfl⟩, ?_⟩
    show _ = Res.ok (O.fr (.int ((z % m).toNat : Int)), _)
    rw [e0]
    simp [M__law_draw_2, b__law_draw_2, q_mulAI, q_mulAL, a_wb, q_divW, Function.comp_def, q_starI, q_starIT, a_wp, a_fz, a_fz0, a_fz1, a_ext, a_ins, a_insA, a_pop, a_parN, a_evO0, a_evO1, a_setO0, a_setO1, a_ix2, a_setII, a_zN, a_zC, a_lcO, d_oo, pEq_int, pNe_int, pIxL, pIxT, atI_nat, atI_0, atI_1, atI_2, atI_3, atI_m1, cutLo, cutHi, cutLo1, cutHi1, a_seq, a_ifS, a_B, a_op, a_ov, a_ev0, a_evv, a_evs, a_C, a_V, a_M, a_set, a_setI, a_app, a_ret, a_ex, a_skip, a_no, a_not, a_andT, a_orT, a_and, a_or, a_notV, a_if, a_par, a_call, a_forS, a_sq, a_r1, a_r2, a_en, a_zp, a_asT, a_chI, a_yes, a_lc, a_fn, okA, f_fr, bkA, rsvs, rsv, dvs, on1, on2, d_fr, d_ol, rsO, ndS, sl, putB, asT, setAll, ofO, Dy.ints1, Dy.ints2, nE, wipeE, unw, frO, q_addI, q_addL, q_addT, q_addS, q_sub, q_div, q_mod, q_pow, q_neg, q_cm, pIs, pIsn, q_isN, q_isI, q_isS, q_isT, q_isL, q_isB, q_lenL, q_lenT, pTup, pLst, q_tupL, q_tupT, q_lstL, q_lstT, q_revL, q_slL, q_slT, q_shL, q_shT, q_sqL, q_sqT, q_intI, q_max2, q_min2, q_aII, q_aBI, q_aTI, q_aTT, q_aLL, q_aTL, q_aIT, ixN, ha, h1, m1, m2, m3, m4, hx, m5, hy, m6, hz]
theorem drawA_upto {o : O} (h : PenA o) (k : Nat) (h1 : 0 < k) (h2 : k < 1000000) : ∃ (r : Nat) (o' : O), r < k ∧ PenA o' ∧ M__law_draw_2 [o, .fr (.int (k : Int))] = .ok (.fr (dN r), [o', .fr (.int (k : Int))]) := by
  obtain ⟨r, o', q1, q2, q3⟩ := drawA (m := (k : Int)) h (by omega) (by omega)
  exact ⟨r, o', by omega, q2, q3⟩
theorem drawA_lit {o : O} {mi : Int} (k : Nat) (h : PenA o) (h1 : 0 < k) (h2 : k < 1000000) (hm : mi = k) : ∃ (r : Nat) (o' : O), r < k ∧ PenA o' ∧ M__law_draw_2 [o, .fr (.int mi)] = .ok (.fr (dN r), [o', .fr (.int mi)]) := by
  subst hm; exact drawA_upto h k h1 h2
theorem pickA {o : O} {xs : List PyData} (h : PenA o) (hx : xs ≠ []) (hl : xs.length < 1000000) : ∃ (d : PyData) (o' : O), d ∈ xs ∧ PenA o' ∧ M__law_pick_2 [o, .fr (.list xs)] = .ok (.fr d, [o', .fr (.list xs)]) := by
  have h0 : 0 < xs.length := List.length_pos_iff.mpr hx
  obtain ⟨r, o', q1, q2, q3⟩ := drawA_upto h xs.length h0 hl
  obtain ⟨d, hd, hm⟩ := get_of_lt q1
  exact ⟨d, o', hm, q2, by simp [M__law_pick_2, b__law_pick_2, q_mulAI, q_mulAL, a_wb, q_divW, Function.comp_def, q_starI, q_starIT, a_wp, a_fz, a_fz0, a_fz1, a_ext, a_ins, a_insA, a_pop, a_parN, a_evO0, a_evO1, a_setO0, a_setO1, a_ix2, a_setII, a_zN, a_zC, a_lcO, d_oo, pEq_int, pNe_int, pIxL, pIxT, atI_nat, atI_0, atI_1, atI_2, atI_3, atI_m1, cutLo, cutHi, cutLo1, cutHi1, a_seq, a_ifS, a_B, a_op, a_ov, a_ev0, a_evv, a_evs, a_C, a_V, a_M, a_set, a_setI, a_app, a_ret, a_ex, a_skip, a_no, a_not, a_andT, a_orT, a_and, a_or, a_notV, a_if, a_par, a_call, a_forS, a_sq, a_r1, a_r2, a_en, a_zp, a_asT, a_chI, a_yes, a_lc, a_fn, okA, f_fr, bkA, rsvs, rsv, dvs, on1, on2, d_fr, d_ol, rsO, ndS, sl, putB, asT, setAll, ofO, Dy.ints1, Dy.ints2, nE, wipeE, unw, frO, q_addI, q_addL, q_addT, q_addS, q_sub, q_div, q_mod, q_pow, q_neg, q_cm, pIs, pIsn, q_isN, q_isI, q_isS, q_isT, q_isL, q_isB, q_lenL, q_lenT, pTup, pLst, q_tupL, q_tupT, q_lstL, q_lstT, q_revL, q_slL, q_slT, q_shL, q_shT, q_sqL, q_sqT, q_intI, q_max2, q_min2, q_aII, q_aBI, q_aTI, q_aTT, q_aLL, q_aTL, q_aIT, q3, hd]⟩
theorem aritiesA {o : O} (h : PenA o) : ∃ (as : List Nat) (o' : O), ArOk as ∧ 0 ∈ as ∧ as.length ≤ 5 ∧ PenA o' ∧ M__law_arities_2 [o] = .ok (.fr (encA as), [o']) := by
  obtain ⟨r, o1, r1, p1, e1⟩ := drawA_lit (mi := 4) 4 h (by decide) (by decide) rfl
  obtain ⟨xs, o2, p2, l2, q2, e2⟩ := lc_r (vs := [2]) (t := .nm 2) (elt := E1__law_arities_2) dN (fun o => V__law_arities_2 (pen_here := some o)) (fun _ o => PenA o) (fun x => x ≤ 2) r p1 (by omega) (fun k o hk hp => by
    obtain ⟨d, o', hm, hp', e⟩ := pickA (xs := [.int 0, .int 1, .int 2, .int 2]) hp (by simp) (by decide)
    have hd : ∃ x : Nat, d = dN x ∧ x ≤ 2 := by
      simp at hm
      rcases hm with rfl | rfl | rfl
      · exact ⟨0, rfl, by decide⟩
      · exact ⟨1, rfl, by decide⟩
      · exact ⟨2, rfl, by decide⟩
    obtain ⟨x, rfl, hx⟩ := hd
    exact ⟨x, o', hp', hx, by simp [E1__law_arities_2, q_mulAI, q_mulAL, a_wb, q_divW, Function.comp_def, q_starI, q_starIT, a_wp, a_fz, a_fz0, a_fz1, a_ext, a_ins, a_insA, a_pop, a_parN, a_evO0, a_evO1, a_setO0, a_setO1, a_ix2, a_setII, a_zN, a_zC, a_lcO, d_oo, pEq_int, pNe_int, pIxL, pIxT, atI_nat, atI_0, atI_1, atI_2, atI_3, atI_m1, cutLo, cutHi, cutLo1, cutHi1, a_seq, a_ifS, a_B, a_op, a_ov, a_ev0, a_evv, a_evs, a_C, a_V, a_M, a_set, a_setI, a_app, a_ret, a_ex, a_skip, a_no, a_not, a_andT, a_orT, a_and, a_or, a_notV, a_if, a_par, a_call, a_forS, a_sq, a_r1, a_r2, a_en, a_zp, a_asT, a_chI, a_yes, a_lc, a_fn, okA, f_fr, bkA, rsvs, rsv, dvs, on1, on2, d_fr, d_ol, rsO, ndS, sl, putB, asT, setAll, ofO, Dy.ints1, Dy.ints2, nE, wipeE, unw, frO, q_addI, q_addL, q_addT, q_addS, q_sub, q_div, q_mod, q_pow, q_neg, q_cm, pIs, pIsn, q_isN, q_isI, q_isS, q_isT, q_isL, q_isB, q_lenL, q_lenT, pTup, pLst, q_tupL, q_tupT, q_lstL, q_lstT, q_revL, q_slL, q_slT, q_shL, q_shT, q_sqL, q_sqT, q_intI, q_max2, q_min2, q_aII, q_aBI, q_aTI, q_aTT, q_aLL, q_aTL, q_aIT, e]⟩)
  obtain ⟨r2, o3, s2, p3, e3⟩ := drawA_lit (mi := 2) 2 p2 (by decide) (by decide) rfl
  obtain ⟨r3, o4, s3, p4, e4⟩ := drawA_lit (mi := 2) 2 p3 (by decide) (by decide) rfl
  have c1 : (r : Int) ≤ 1000000000 ∧ (-1000000000 : Int) ≤ r := by omega
  have hmul : pMul (.list [.int 0]) (.int (1 + (r2 : Int))) = some (.ol ((List.replicate (1 + r2) 0).map dN)) := by
    rcases (by omega : r2 = 0 ∨ r2 = 1) with rfl | rfl <;> rfl
  have c2 : xs.length + (1 + r2) ≤ 1000000 := by omega
  let ys := xs ++ List.replicate (1 + r2) 0
  have hys : ∀ a ∈ ys, a ≤ 2 := fun a ha => by
    rcases List.mem_append.mp ha with z | z
    · exact q2 a z
    · rw [(List.mem_replicate.mp z).2]; omega
  have hy0 : 0 ∈ ys := List.mem_append_right _ (List.mem_replicate.mpr ⟨by omega, rfl⟩)
  have hyl : ys.length = xs.length + (1 + r2) := by simp [ys]
  by_cases z : r3 = 0
  · subst z
    refine ⟨ys.reverse, o4, ⟨fun a ha => hys a (List.mem_reverse.mp ha), by rw [List.length_reverse]; omega, by rw [List.length_reverse]; omega⟩, List.mem_reverse.mpr hy0, by rw [List.length_reverse]; omega, p4, ?_⟩
    simp [M__law_arities_2, b__law_arities_2, q_mulAI, q_mulAL, a_wb, q_divW, Function.comp_def, q_starI, q_starIT, a_wp, a_fz, a_fz0, a_fz1, a_ext, a_ins, a_insA, a_pop, a_parN, a_evO0, a_evO1, a_setO0, a_setO1, a_ix2, a_setII, a_zN, a_zC, a_lcO, d_oo, pEq_int, pNe_int, pIxL, pIxT, atI_nat, atI_0, atI_1, atI_2, atI_3, atI_m1, cutLo, cutHi, cutLo1, cutHi1, a_seq, a_ifS, a_B, a_op, a_ov, a_ev0, a_evv, a_evs, a_C, a_V, a_M, a_set, a_setI, a_app, a_ret, a_ex, a_skip, a_no, a_not, a_andT, a_orT, a_and, a_or, a_notV, a_if, a_par, a_call, a_forS, a_sq, a_r1, a_r2, a_en, a_zp, a_asT, a_chI, a_yes, a_lc, a_fn, okA, f_fr, bkA, rsvs, rsv, dvs, on1, on2, d_fr, d_ol, rsO, ndS, sl, putB, asT, setAll, ofO, Dy.ints1, Dy.ints2, nE, wipeE, unw, frO, q_addI, q_addL, q_addT, q_addS, q_sub, q_div, q_mod, q_pow, q_neg, q_cm, pIs, pIsn, q_isN, q_isI, q_isS, q_isT, q_isL, q_isB, q_lenL, q_lenT, pTup, pLst, q_tupL, q_tupT, q_lstL, q_lstT, q_revL, q_slL, q_slT, q_shL, q_shT, q_sqL, q_sqT, q_intI, q_max2, q_min2, q_aII, q_aBI, q_aTI, q_aTT, q_aLL, q_aTL, q_aIT, e1, c1, e2, e3, hmul, c2, e4, ys]
  · refine ⟨ys, o4, ⟨hys, by omega, by omega⟩, hy0, by omega, p4, ?_⟩
    simp [M__law_arities_2, b__law_arities_2, q_mulAI, q_mulAL, a_wb, q_divW, Function.comp_def, q_starI, q_starIT, a_wp, a_fz, a_fz0, a_fz1, a_ext, a_ins, a_insA, a_pop, a_parN, a_evO0, a_evO1, a_setO0, a_setO1, a_ix2, a_setII, a_zN, a_zC, a_lcO, d_oo, pEq_int, pNe_int, pIxL, pIxT, atI_nat, atI_0, atI_1, atI_2, atI_3, atI_m1, cutLo, cutHi, cutLo1, cutHi1, a_seq, a_ifS, a_B, a_op, a_ov, a_ev0, a_evv, a_evs, a_C, a_V, a_M, a_set, a_setI, a_app, a_ret, a_ex, a_skip, a_no, a_not, a_andT, a_orT, a_and, a_or, a_notV, a_if, a_par, a_call, a_forS, a_sq, a_r1, a_r2, a_en, a_zp, a_asT, a_chI, a_yes, a_lc, a_fn, okA, f_fr, bkA, rsvs, rsv, dvs, on1, on2, d_fr, d_ol, rsO, ndS, sl, putB, asT, setAll, ofO, Dy.ints1, Dy.ints2, nE, wipeE, unw, frO, q_addI, q_addL, q_addT, q_addS, q_sub, q_div, q_mod, q_pow, q_neg, q_cm, pIs, pIsn, q_isN, q_isI, q_isS, q_isT, q_isL, q_isB, q_lenL, q_lenT, pTup, pLst, q_tupL, q_tupT, q_lstL, q_lstT, q_revL, q_slL, q_slT, q_shL, q_shT, q_sqL, q_sqT, q_intI, q_max2, q_min2, q_aII, q_aBI, q_aTI, q_aTT, q_aLL, q_aTL, q_aIT, e1, c1, e2, e3, hmul, c2, e4, z, ys]
end Q
namespace Q
open PySem Dy
open L2 (atI ixN)
def PenB (n : Nat) (o : O) : Prop := ∃ a b c : Int, o = .ol [.int a, .int b, .int c] ∧ 0 ≤ b ∧ b < 1000000007 ∧ 0 ≤ c ∧ c ≤ n
theorem PenB.mono {n m : Nat} {o : O} (h : PenB n o) (l : n ≤ m) : PenB m o := by
  obtain ⟨a, b, c, e, h1, h2, h3, h4⟩ := h
  exact ⟨a, b, c, e, h1, h2, h3, by omega⟩
def lvs (p : Nat → Bool) (as : List Nat) : List Nat := (ens as).filterMap fun q => if p q.2 = true then some q.1 else none
theorem lvs_enc (p : Nat → Bool) (as : List Nat) : ((ens as).filterMap fun q => if p q.2 = true then some (dN q.1) else none) = (lvs p as).map dN := by
  unfold lvs
  rw [List.map_filterMap]
  congr 1; funext q; split <;> rfl
theorem lvs_mem {p : Nat → Bool} {as : List Nat} {x : Nat} : x ∈ lvs p as ↔ ∃ a, as[x]? = some a ∧ p a = true := by
  unfold lvs
  rw [List.mem_filterMap]
  constructor
  · rintro ⟨⟨i, a⟩, h1, h2⟩
    have := ens_mem h1
    dsimp only at h2
    split at h2
    · rename_i hp; cases h2; exact ⟨a, this, hp⟩
    · cases h2
  · rintro ⟨a, h1, h2⟩
    exact ⟨(x, a), mem_ens h1, by simp [h2]⟩
theorem lvs_len (p : Nat → Bool) (as : List Nat) : (lvs p as).length ≤ as.length := by
  unfold lvs
  exact Nat.le_trans (List.length_filterMap_le _ _) (by rw [ens_len]; exact Nat.le_refl _)
end Q
namespace Q
open PySem Dy
def b_need_both : SF := fSeq (fEx (fCall M_need_arities [.v (fV 0)]))
  (fEx (fCall M_need_tree [.v (fV 0), .v (fV 1)]))
def M_need_both : Fn := fnM 2 2 [] b_need_both
def E1_numbered : EF := fOp (on2 pIx) [.s 2, .s 5]
def L1_numbered : SF := fSeq (fSet 4 (fOp (on2 pStar) [.v (fOp (on2 pIx) [.s 3, .v (fC (.int 0))]), .v (fLc (fSq (.v (fOp (on2 pSl2l) [.s 3, .v (fC (.int 1))]))) [5] (.nm 5) (fYes) (E1_numbered))]))
  (fSeq (fEx (fSetd 1 [.v (fV 4), .v (fOp (on1 pLen) [.s 1])]))
  (fWp [3, 4] (fApp 2 (fOp (on2 pIx) [.s 1, .s 4]))))
def b_numbered : SF := fSeq (fSet 2 (fOv pLst []))
  (fSeq (fWp [0, 3, 4] (fForS (fSq (.v (fV 0))) (.nm 3) (L1_numbered)))
  (fRet (fOp (on2 pIx) [.s 2, .v (fOp (on1 pNeg) [.v (fC (.int 1))])])))
def M_numbered : Fn := fnM 2 6 [1] b_numbered
abbrev V_numbered (tree : Option O := none) (known : Option O := none) (found : Option O := none) (node : Option O := none) (part : Option O := none) (one : Option O := none) : Dy.Env := [tree, known, found, node, part, one]
def b_same : SF := fSeq (fEx (fCall M_need_both [.v (fV 0), .v (fV 1)]))
  (fSeq (fEx (fCall M_need_tree [.v (fV 0), .v (fV 2)]))
  (fSeq (fSet 3 (fNewD))
  (fRet (fOp (on2 pEq) [.v (fCall M_numbered [.v (fV 1), .s 3]), .v (fCall M_numbered [.v (fV 2), .s 3])]))))
def M_same : Fn := fnM 3 4 [] b_same
end Q
namespace Q
open PySem Dy
open L2 (atI ixN)
section
variable (env : Dy.Env) (i : Nat) (f : EF) (y : AF) (as : List AF) (es : List (PyData × PyData)) (k d : PyData)
abbrev od (es : List (PyData × PyData)) : Option O := some (.od es)
theorem d_od : (O.od es).data = .dict es := rfl
theorem a_setd : fSetd i as env = match env[i]? with
  | some (some (.od _)) => evA as env >>= fun r => match dvs r.1 with
    | some [k, d] => match r.2[i]? with
      | some (some (.od es)) => if okK es k = true ∧ es.length < 1000000 then (match dAt es k with
          | some d' => .ok (.fr d', r.2)
          | none => .ok (.fr d, r.2.set i (some (.od (dPut es k d))))) else .no
      | _ => .no
    | _ => .no
  | _ => .no := rfl
theorem q_ixD : pIx (.dict es) k = if okK es k = true then (dAt es k).map .fr else none := by cases k <;> rfl
theorem q_lenD : pLen (.dict es) = some (.fr (.int es.length)) := rfl
end
section
variable {κ β : Type} [DecidableEq κ]
def lk (ks : List (κ × β)) (k : κ) : Option β := (ks.find? fun e => decide (e.1 = k)).map (·.2)
def pt (ks : List (κ × β)) (k : κ) (v : β) : List (κ × β) := if (lk ks k).isSome = true then ks.map fun e => if e.1 = k then (e.1, v) else e else ks ++ [(k, v)]
def encD (f : κ → PyData) (g : β → PyData) (ks : List (κ × β)) : List (PyData × PyData) := ks.map fun p => (f p.1, g p.2)
variable {f : κ → PyData} {g : β → PyData}
theorem encD_len (ks : List (κ × β)) : (encD f g ks).length = ks.length := by simp [encD]
theorem dAt_lk (hf : ∀ a b, PyData.eqv (f a) (f b) = decide (a = b)) (k : κ) : ∀ ks : List (κ × β), dAt (encD f g ks) (f k) = (lk ks k).map g
  | [] => rfl
  | x :: ks => by
    have ih := dAt_lk hf k ks
    unfold encD dAt lk at *
    by_cases c : x.1 = k
    · simp [List.find?_cons, hf, c]
    · simpa [List.find?_cons, hf, c] using ih
theorem dPut_pt (hf : ∀ a b, PyData.eqv (f a) (f b) = decide (a = b)) (k : κ) (v : β) (ks : List (κ × β)) : dPut (encD f g ks) (f k) (g v) = encD f g (pt ks k v) := by
  unfold dPut pt
  rw [dAt_lk hf, Option.isSome_map]
  split
  · unfold encD
    rw [List.map_map, List.map_map]
    refine List.map_congr_left fun x _ => ?_
    by_cases c : x.1 = k <;> simp [hf, c]
  · simp [encD]
theorem lk_app (ks ls : List (κ × β)) (k : κ) : lk (ks ++ ls) k = (lk ks k).or (lk ls k) := by
  unfold lk
  rw [List.find?_append]
  cases ks.find? (fun e => decide (e.1 = k)) <;> simp
theorem lk_one (k j : κ) (v : β) : lk [(k, v)] j = if k = j then some v else none := by
  unfold lk; by_cases c : k = j <;> simp [c]
theorem okK_enc {b : Bool} (hk : ∀ a : κ, kindK (f a) = some b) (k : κ) (ks : List (κ × β)) : okK (encD f g ks) (f k) = true := by
  unfold okK
  rw [hk]
  cases ks with
  | nil => rfl
  | cons x xs => simp [encD, hk]
end
theorem keys_dNs : ∀ p : List Nat, keysOf (p.map dN) = some (p.map fun n : Nat => NestedKey.num (n : Int))
  | [] => rfl
  | n :: p => by simp [keysOf, keyOf, keys_dNs p]
theorem dep_num : ∀ p : List Nat, NestedKey.depthAll (p.map fun n : Nat => NestedKey.num (n : Int)) = 0
  | [] => rfl
  | n :: p => by simp [NestedKey.depthAll, NestedKey.depth, dep_num p]
def tNs (p : List Nat) : PyData := .tuple (p.map dN)
theorem kind_tNs (p : List Nat) : kindK (tNs p) = some true := by
  simp only [tNs, kindK, keys_dNs, dep_num]
  simp
theorem eqv_tNs (p q : List Nat) : PyData.eqv (tNs p) (tNs q) = decide (p = q) := by
  unfold tNs
  simp only [PyData.eqv]
  induction p generalizing q with
  | nil => cases q <;> simp [PyData.eqvAll]
  | cons a p ih =>
    cases q with
    | nil => simp [PyData.eqvAll]
    | cons b q =>
      simp only [List.map_cons, PyData.eqvAll, PyData.eqv, ih]
      by_cases c : a = b
      · by_cases c2 : p = q <;> simp [c, c2]
      · have : ¬ ((a : Int) = b) := by omega
        simp [c, this]
abbrev Kn := List (List Nat × Nat)
abbrev encKn (ks : Kn) : List (PyData × PyData) := encD tNs dN ks
def gN (ns : List Nat) (c : Nat) : Nat := ns.getD c 0
def npart (ns : List Nat) (n : Nd) : List Nat := n.1 :: n.2.map (gN ns)
def nm1 (s : Kn × List Nat) (n : Nd) : Kn × List Nat :=
  let ks := match lk s.1 (npart s.2 n) with
    | some _ => s.1
    | none => s.1 ++ [(npart s.2 n, s.1.length)]
  (ks, s.2 ++ [(lk ks (npart s.2 n)).getD 0])
def nmT (ks : Kn) (t : List Nd) : Kn × List Nat := t.foldl nm1 (ks, [])
theorem nmT_snoc (ks : Kn) (t : List Nd) (n : Nd) : nmT ks (t ++ [n]) = nm1 (nmT ks t) n := by unfold nmT; rw [List.foldl_append]; rfl
theorem nm_len (ks : Kn) (t : List Nd) : (nmT ks t).2.length = t.length ∧ (nmT ks t).1.length ≤ ks.length + t.length := by
  induction t using rev_ind with
  | h0 => exact ⟨rfl, by simp [nmT]⟩
  | h1 t n ih =>
    rw [nmT_snoc]
    unfold nm1
    refine ⟨by simp [ih.1], ?_⟩
    dsimp only
    split <;> simp <;> omega
theorem numbered_ok {as : List Nat} {t : List Nd} (ks : Kn) (ha : ArOk as) (ht : TrOk as t) (hk : ks.length ≤ 100000) :
    ∃ v, (nmT ks t).2.getLast? = some v ∧ M_numbered [.fr (encT t), .od (encKn ks)] = .ok (.fr (dN v), [.fr (encT t), .od (encKn (nmT ks t).1)]) := by
  have hl := ht.len
  have e := for_st (t := .nm 3) (body := L1_numbered) encN (fun s : Kn × List Nat => V_numbered (tree := fr (encT t)) (known := od (encKn s.1)) (found := ol (s.2.map dN))) nm1 t (ks, []) rfl rfl (fun pre n post e => by
    have hn := ht.wf pre.length n (get_split e)
    have n2 := hn.le2 ha
    obtain ⟨l1, l2⟩ := nm_len ks pre
    have hpre : pre.length < t.length := by rw [e]; simp
    have hs : pre.foldl nm1 (ks, []) = nmT ks pre := rfl
    rw [hs]
    generalize nmT ks pre = s at *
    obtain ⟨S, ns⟩ := s
    dsimp only at l1 l2
    have ok := okK_enc (g := dN) kind_tNs (npart ns n) S
    have at' := dAt_lk (g := dN) eqv_tNs (npart ns n) S
    have c1 : n.2.length < 100000 := by omega
    have c2 : (encKn S).length < 1000000 := by rw [encD_len]; omega
    have c3 : ns.length < 1000000 := by omega
    have c4 : S.length < 1000000 := by omega
    have part : PyData.tuple (PyData.int n.1 :: n.2.map fun c => dN (gN ns c)) = tNs (npart ns n) := by simp [tNs, npart]
    have pe := encD_len (f := tNs) (g := dN) S
    simp [L1_numbered, q_mulAI, q_mulAL, a_wb, q_divW, Function.comp_def, q_starI, q_starIT, a_wp, a_fz, a_fz0, a_fz1, a_ext, a_ins, a_insA, a_pop, a_parN, a_evO0, a_evO1, a_setO0, a_setO1, a_ix2, a_setII, a_zN, a_zC, a_lcO, d_oo, pEq_int, pNe_int, pIxL, pIxT, atI_nat, atI_0, atI_1, atI_2, atI_3, atI_m1, cutLo, cutHi, cutLo1, cutHi1, a_seq, a_ifS, a_B, a_op, a_ov, a_ev0, a_evv, a_evs, a_C, a_V, a_M, a_set, a_setI, a_app, a_ret, a_ex, a_skip, a_no, a_not, a_andT, a_orT, a_and, a_or, a_notV, a_if, a_par, a_call, a_forS, a_sq, a_r1, a_r2, a_en, a_zp, a_asT, a_chI, a_yes, a_lc, a_fn, okA, f_fr, bkA, rsvs, rsv, dvs, on1, on2, d_fr, d_ol, rsO, ndS, sl, putB, asT, setAll, ofO, Dy.ints1, Dy.ints2, nE, wipeE, unw, frO, q_addI, q_addL, q_addT, q_addS, q_sub, q_div, q_mod, q_pow, q_neg, q_cm, pIs, pIsn, q_isN, q_isI, q_isS, q_isT, q_isL, q_isB, q_lenL, q_lenT, pTup, pLst, q_tupL, q_tupT, q_lstL, q_lstT, q_revL, q_slL, q_slT, q_shL, q_shT, q_sqL, q_sqT, q_intI, q_max2, q_min2, q_aII, q_aBI, q_aTI, q_aTT, q_aLL, q_aTL, q_aIT]
    rw [lc_tm dN (fun c => dN (gN ns c)) n.2 rfl (fun c hc => ?_) (by omega)]
    · cases q : lk S (npart ns n) with
      | some v =>
        rw [q] at at'
        simp only [Option.map_some] at at'
        simp [q_mulAI, q_mulAL, a_wb, q_divW, Function.comp_def, q_starI, q_starIT, a_wp, a_fz, a_fz0, a_fz1, a_ext, a_ins, a_insA, a_pop, a_parN, a_evO0, a_evO1, a_setO0, a_setO1, a_ix2, a_setII, a_zN, a_zC, a_lcO, d_oo, pEq_int, pNe_int, pIxL, pIxT, atI_nat, atI_0, atI_1, atI_2, atI_3, atI_m1, cutLo, cutHi, cutLo1, cutHi1, a_seq, a_ifS, a_B, a_op, a_ov, a_ev0, a_evv, a_evs, a_C, a_V, a_M, a_set, a_setI, a_app, a_ret, a_ex, a_skip, a_no, a_not, a_andT, a_orT, a_and, a_or, a_notV, a_if, a_par, a_call, a_forS, a_sq, a_r1, a_r2, a_en, a_zp, a_asT, a_chI, a_yes, a_lc, a_fn, okA, f_fr, bkA, rsvs, rsv, dvs, on1, on2, d_fr, d_ol, rsO, ndS, sl, putB, asT, setAll, ofO, Dy.ints1, Dy.ints2, nE, wipeE, unw, frO, q_addI, q_addL, q_addT, q_addS, q_sub, q_div, q_mod, q_pow, q_neg, q_cm, pIs, pIsn, q_isN, q_isI, q_isS, q_isT, q_isL, q_isB, q_lenL, q_lenT, pTup, pLst, q_tupL, q_tupT, q_lstL, q_lstT, q_revL, q_slL, q_slT, q_shL, q_shT, q_sqL, q_sqT, q_intI, q_max2, q_min2, q_aII, q_aBI, q_aTI, q_aTT, q_aLL, q_aTL, q_aIT, a_setd, d_od, c1, q_lenD, q_ixD, part, ok, at', c2, c3, nm1, q]
      | none =>
        rw [q] at at'
        simp only [Option.map_none] at at'
        have pp := dPut_pt (g := dN) eqv_tNs (npart ns n) S.length S
        have e1 : pt S (npart ns n) S.length = S ++ [(npart ns n, S.length)] := by unfold pt; rw [q]; rfl
        have e2 : lk (S ++ [(npart ns n, S.length)]) (npart ns n) = some S.length := by rw [lk_app, q, lk_one]; simp
        rw [e1] at pp
        have ok2 := okK_enc (g := dN) kind_tNs (npart ns n) (S ++ [(npart ns n, S.length)])
        have at2 := dAt_lk (g := dN) eqv_tNs (npart ns n) (S ++ [(npart ns n, S.length)])
        rw [e2] at at2
        simp only [Option.map_some] at at2
        simp [q_mulAI, q_mulAL, a_wb, q_divW, Function.comp_def, q_starI, q_starIT, a_wp, a_fz, a_fz0, a_fz1, a_ext, a_ins, a_insA, a_pop, a_parN, a_evO0, a_evO1, a_setO0, a_setO1, a_ix2, a_setII, a_zN, a_zC, a_lcO, d_oo, pEq_int, pNe_int, pIxL, pIxT, atI_nat, atI_0, atI_1, atI_2, atI_3, atI_m1, cutLo, cutHi, cutLo1, cutHi1, a_seq, a_ifS, a_B, a_op, a_ov, a_ev0, a_evv, a_evs, a_C, a_V, a_M, a_set, a_setI, a_app, a_ret, a_ex, a_skip, a_no, a_not, a_andT, a_orT, a_and, a_or, a_notV, a_if, a_par, a_call, a_forS, a_sq, a_r1, a_r2, a_en, a_zp, a_asT, a_chI, a_yes, a_lc, a_fn, okA, f_fr, bkA, rsvs, rsv, dvs, on1, on2, d_fr, d_ol, rsO, ndS, sl, putB, asT, setAll, ofO, Dy.ints1, Dy.ints2, nE, wipeE, unw, frO, q_addI, q_addL, q_addT, q_addS, q_sub, q_div, q_mod, q_pow, q_neg, q_cm, pIs, pIsn, q_isN, q_isI, q_isS, q_isT, q_isL, q_isB, q_lenL, q_lenT, pTup, pLst, q_tupL, q_tupT, q_lstL, q_lstT, q_revL, q_slL, q_slT, q_shL, q_shT, q_sqL, q_sqT, q_intI, q_max2, q_min2, q_aII, q_aBI, q_aTI, q_aTT, q_aLL, q_aTL, q_aIT, a_setd, d_od, c1, q_lenD, q_ixD, part, ok, at', c2, c3, nm1, q, pe, pp, ok2, at2, e2, c4]
    · have hc' := hn.2 c hc
      have : ns[c]? = some (gN ns c) := by unfold gN; rw [List.getElem?_eq_getElem (by omega)]; simp [List.getD, List.getElem?_eq_getElem (show c < ns.length by omega)]
      simp [E1_numbered, q_mulAI, q_mulAL, a_wb, q_divW, Function.comp_def, q_starI, q_starIT, a_wp, a_fz, a_fz0, a_fz1, a_ext, a_ins, a_insA, a_pop, a_parN, a_evO0, a_evO1, a_setO0, a_setO1, a_ix2, a_setII, a_zN, a_zC, a_lcO, d_oo, pEq_int, pNe_int, pIxL, pIxT, atI_nat, atI_0, atI_1, atI_2, atI_3, atI_m1, cutLo, cutHi, cutLo1, cutHi1, a_seq, a_ifS, a_B, a_op, a_ov, a_ev0, a_evv, a_evs, a_C, a_V, a_M, a_set, a_setI, a_app, a_ret, a_ex, a_skip, a_no, a_not, a_andT, a_orT, a_and, a_or, a_notV, a_if, a_par, a_call, a_forS, a_sq, a_r1, a_r2, a_en, a_zp, a_asT, a_chI, a_yes, a_lc, a_fn, okA, f_fr, bkA, rsvs, rsv, dvs, on1, on2, d_fr, d_ol, rsO, ndS, sl, putB, asT, setAll, ofO, Dy.ints1, Dy.ints2, nE, wipeE, unw, frO, q_addI, q_addL, q_addT, q_addS, q_sub, q_div, q_mod, q_pow, q_neg, q_cm, pIs, pIsn, q_isN, q_isI, q_isS, q_isT, q_isL, q_isB, q_lenL, q_lenT, pTup, pLst, q_tupL, q_tupT, q_lstL, q_lstT, q_revL, q_slL, q_slT, q_shL, q_shT, q_sqL, q_sqT, q_intI, q_max2, q_min2, q_aII, q_aBI, q_aTI, q_aTT, q_aLL, q_aTL, q_aIT, this])
  have hne : (nmT ks t).2 ≠ [] := fun z => ht.ne (List.length_eq_zero_iff.mp (by rw [← (nm_len ks t).1, z]; rfl))
  obtain ⟨v, hv⟩ : ∃ v, (nmT ks t).2.getLast? = some v := by
    cases q : (nmT ks t).2.getLast? with
    | none => exact absurd (List.getLast?_eq_none_iff.mp q) hne
    | some v => exact ⟨v, rfl⟩
  refine ⟨v, hv, ?_⟩
  have hv' : ((nmT ks t).2.map dN).getLast? = some (dN v) := by rw [List.getLast?_map, hv]; rfl
  unfold nmT at hv' ⊢
  dsimp only [List.map] at e
  simp [M_numbered, b_numbered, q_mulAI, q_mulAL, a_wb, q_divW, Function.comp_def, q_starI, q_starIT, a_wp, a_fz, a_fz0, a_fz1, a_ext, a_ins, a_insA, a_pop, a_parN, a_evO0, a_evO1, a_setO0, a_setO1, a_ix2, a_setII, a_zN, a_zC, a_lcO, d_oo, pEq_int, pNe_int, pIxL, pIxT, atI_nat, atI_0, atI_1, atI_2, atI_3, atI_m1, cutLo, cutHi, cutLo1, cutHi1, a_seq, a_ifS, a_B, a_op, a_ov, a_ev0, a_evv, a_evs, a_C, a_V, a_M, a_set, a_setI, a_app, a_ret, a_ex, a_skip, a_no, a_not, a_andT, a_orT, a_and, a_or, a_notV, a_if, a_par, a_call, a_forS, a_sq, a_r1, a_r2, a_en, a_zp, a_asT, a_chI, a_yes, a_lc, a_fn, okA, f_fr, bkA, rsvs, rsv, dvs, on1, on2, d_fr, d_ol, rsO, ndS, sl, putB, asT, setAll, ofO, Dy.ints1, Dy.ints2, nE, wipeE, unw, frO, q_addI, q_addL, q_addT, q_addS, q_sub, q_div, q_mod, q_pow, q_neg, q_cm, pIs, pIsn, q_isN, q_isI, q_isS, q_isT, q_isL, q_isB, q_lenL, q_lenT, pTup, pLst, q_tupL, q_tupT, q_lstL, q_lstT, q_revL, q_slL, q_slT, q_shL, q_shT, q_sqL, q_sqT, q_intI, q_max2, q_min2, q_aII, q_aBI, q_aTI, q_aTT, q_aLL, q_aTL, q_aIT, e, hv']
theorem need_both_ok {as : List Nat} {t : List Nd} (ha : ArOk as) (ht : TrOk as t) : M_need_both [.fr (encA as), .fr (encT t)] = .ok (.fr .none, [.fr (encA as), .fr (encT t)]) := by
  simp [M_need_both, b_need_both, q_mulAI, q_mulAL, a_wb, q_divW, Function.comp_def, q_starI, q_starIT, a_wp, a_fz, a_fz0, a_fz1, a_ext, a_ins, a_insA, a_pop, a_parN, a_evO0, a_evO1, a_setO0, a_setO1, a_ix2, a_setII, a_zN, a_zC, a_lcO, d_oo, pEq_int, pNe_int, pIxL, pIxT, atI_nat, atI_0, atI_1, atI_2, atI_3, atI_m1, cutLo, cutHi, cutLo1, cutHi1, a_seq, a_ifS, a_B, a_op, a_ov, a_ev0, a_evv, a_evs, a_C, a_V, a_M, a_set, a_setI, a_app, a_ret, a_ex, a_skip, a_no, a_not, a_andT, a_orT, a_and, a_or, a_notV, a_if, a_par, a_call, a_forS, a_sq, a_r1, a_r2, a_en, a_zp, a_asT, a_chI, a_yes, a_lc, a_fn, okA, f_fr, bkA, rsvs, rsv, dvs, on1, on2, d_fr, d_ol, rsO, ndS, sl, putB, asT, setAll, ofO, Dy.ints1, Dy.ints2, nE, wipeE, unw, frO, q_addI, q_addL, q_addT, q_addS, q_sub, q_div, q_mod, q_pow, q_neg, q_cm, pIs, pIsn, q_isN, q_isI, q_isS, q_isT, q_isL, q_isB, q_lenL, q_lenT, pTup, pLst, q_tupL, q_tupT, q_lstL, q_lstT, q_revL, q_slL, q_slT, q_shL, q_shT, q_sqL, q_sqT, q_intI, q_max2, q_min2, q_aII, q_aBI, q_aTI, q_aTT, q_aLL, q_aTL, q_aIT, need_arities_ok ha, need_tree_ok ha ht]
end Q
namespace Q
open PySem Dy
def E1__law_written : EF := fV 6
def T1__law_written : TF := fB (fOp (on2 pEq) [.s 9, .v (fC (.int 0))])
def E2__law_written : EF := fOp (on2 pIx) [.v (fOv pLst [.v (fV 7), .v (fOp (on2 pSub) [.v (fOp (on1 pLen) [.s 4]), .v (fC (.int 1))]), .v (fCall M__law_draw_2 [.s 0, .v (fOp (on1 pLen) [.s 4])])]), .v (fCall M__law_draw_2 [.s 0, .v (fC (.int 3))])]
def L1__law_written : SF := fSeq (fSet 6 (fCall M__law_draw_2 [.s 0, .v (fOp (on1 pLen) [.s 1])]))
  (fSeq (fSet 7 (fOp (pMax) [.v (fC (.int 0)), .v (fOp (on2 pSub) [.v (fOp (on2 pSub) [.v (fOp (on1 pLen) [.s 4]), .v (fC (.int 1))]), .v (fCall M__law_draw_2 [.s 0, .v (fC (.int 3))])])]))
  (fSeq (fFz [8] (fSet 8 (fLc (fR1 (.v (fC (.int 2)))) [10] (.nm 10) (fYes) (E2__law_written))))
  (fWp [5, 6, 7, 8] (fApp 4 (fOp (on2 pAdd) [.v (fOv pTup [.v (fV 6)]), .v (fOp (on1 pTuple) [.v (fOp (on2 pSl2h) [.s 8, .v (fOp (on2 pIx) [.s 1, .s 6])])])])))))
def b__law_written : SF := fSeq (fFz [3] (fSet 3 (fLc (fEn (.v (fV 1))) [6, 9] (.tu [6, 9]) (T1__law_written) (E1__law_written))))
  (fSeq (fIfS (fB (fOp (on2 pEq) [.s 3, .v (fOv pLst [])])) (fRet (fC .none)) (fSkip))
  (fSeq (fWp [3] (fSet 4 (fOv pLst [.v (fOv pTup [.v (fCall M__law_pick_2 [.s 0, .v (fV 3)])])])))
  (fSeq (fWp [1, 2, 5, 6, 7, 8] (fForS (fR1 (.v (fCall M__law_draw_2 [.s 0, .v (fV 2)]))) (.nm 5) (L1__law_written)))
  (fRet (fOp (on1 pTuple) [.s 4])))))
def M__law_written : Fn := fnM 3 11 [0] b__law_written
abbrev V__law_written (pen_here : Option O := none) (arities_here : Option O := none) (upto : Option O := none) (leaves : Option O := none) (found : Option O := none) (turn : Option O := none) (one : Option O := none) (near : Option O := none) (parts : Option O := none) (arity : Option O := none) (lap : Option O := none) : Dy.Env := [pen_here, arities_here, upto, leaves, found, turn, one, near, parts, arity, lap]
end Q
namespace Q
open PySem Dy
def M__law_pick_2_r1 : Fn := fnM 2 2 [0, 1] b__law_pick_2
def E1__law_again : EF := fCallR M__law_pick_2_r1 0 3 (zN 7)
def L1__law_again : SF := fSeq (fApp 2 (fOp (on2 pAdd) [.v (fOv pTup [.v (fOp (on2 pIx) [.s 5, .v (fC (.int 0))])]), .v (fOp (on1 pTuple) [.v (fLc (fSq (.v (fOp (on2 pSl2l) [.s 5, .v (fC (.int 1))]))) [7] (.nm 7) (fYes) (E1__law_again))])]))
  (fSeq (fIfS (fB (fOp (on2 pEq) [.s 6, .v (fC (.int 0))])) (fAppO 3 (fOv pLst [])) (fSkip))
  (fWp [6] (fAppI 3 (zN 4) (fOp (on2 pSub) [.v (fOp (on1 pLen) [.s 2]), .v (fC (.int 1))]))))
def L2__law_again : SF := fSeq (fIfS (fAndT (fB (fOp (on2 pEq) [.v (fCall M__law_draw_2 [.s 0, .v (fC (.int 4))]), .v (fC (.int 0))])) (fB (fOp (on2 pNe) [.s 2, .v (fOv pLst [])]))) (fApp 2 (fCall M__law_pick_2_r1 [.s 0, .s 2])) (fSkip))
  (fWp [4, 5, 6] (fForS (fR1 (.v (fOp (on2 pAdd) [.v (fC (.int 1)), .v (fOp (on1 pInt) [.v (fOp (on2 pEq) [.v (fCall M__law_draw_2 [.s 0, .v (fC (.int 3))]), .v (fC (.int 0))])])]))) (.nm 6) (L1__law_again)))
def b__law_again : SF := fSeq (fPar 2 3 (fOv pLst []) (fOv pOo0 []))
  (fSeq (fWp [1, 3, 4, 5, 6] (fForS (fEn (.v (fV 1))) (.tu [4, 5]) (L2__law_again)))
  (fRet (fOp (on1 pTuple) [.s 2])))
def M__law_again : Fn := fnM 2 8 [0] b__law_again
abbrev V__law_again (pen_here : Option O := none) (written_here : Option O := none) (found : Option O := none) (places : Option O := none) (at_ : Option O := none) (one : Option O := none) (lap : Option O := none) (part : Option O := none) : Dy.Env := [pen_here, written_here, found, places, at_, one, lap, part]
def E1__law_other : EF := fV 7
def T1__law_other : TF := fB (fOp (on2 pEq) [.s 8, .v (fOp (on2 pSub) [.v (fOp (on1 pLen) [.s 4]), .v (fC (.int 1))])])
def b__law_other : SF := fSeq (fSet 3 (fCall M__law_draw_2 [.s 0, .v (fOp (on1 pLen) [.s 2])]))
  (fSeq (fSet 4 (fOp (on2 pIx) [.s 2, .s 3]))
  (fSeq (fFz [5] (fSet 5 (fLc (fEn (.v (fV 1))) [7, 8] (.tu [7, 8]) (T1__law_other) (E1__law_other))))
  (fSeq (fSet 6 (fOp (on2 pIx) [.v (fOv pLst [.v (fOp (on2 pAdd) [.v (fOv pTup [.v (fCall M__law_pick_2 [.s 0, .v (fV 5)])]), .v (fOp (on2 pSl2l) [.s 4, .v (fC (.int 1))])]), .v (fOp (on2 pAdd) [.v (fOp (on2 pSl2h) [.s 4, .v (fC (.int 1))]), .v (fOp (on1 pRevA) [.v (fOp (on2 pSl2l) [.s 4, .v (fC (.int 1))])])])]), .v (fCall M__law_draw_2 [.s 0, .v (fC (.int 2))])]))
  (fRet (fOp (on2 pAdd) [.v (fOp (on2 pAdd) [.v (fOp (on2 pSl2h) [.s 2, .s 3]), .v (fOv pTup [.v (fV 6)])]), .v (fOp (on2 pSl2l) [.s 2, .v (fOp (on2 pAdd) [.s 3, .v (fC (.int 1))])])])))))
def M__law_other : Fn := fnM 3 9 [0] b__law_other
abbrev V__law_other (pen_here : Option O := none) (arities_here : Option O := none) (written_here : Option O := none) (at_ : Option O := none) (one : Option O := none) (some_ : Option O := none) (changed : Option O := none) (number : Option O := none) (arity : Option O := none) : Dy.Env := [pen_here, arities_here, written_here, at_, one, some_, changed, number, arity]
def E1__law_mark : EF := fOp (on2 pIx) [.s 2, .s 5]
def L1__law_mark : SF := fSeq (fSet 4 (fOv pTup [.v (fOp (on2 pIx) [.s 3, .v (fC (.int 0))]), .v (fOp (on1 pTuple) [.v (fLc (fSq (.v (fOp (on2 pSl2l) [.s 3, .v (fC (.int 1))]))) [5] (.nm 5) (fYes) (E1__law_mark))])]))
  (fSeq (fIfS (fB (fOp (on2 pNinA) [.s 4, .s 1])) (fApp 1 (fV 4)) (fSkip))
  (fWp [3, 4] (fApp 2 (fMtO pIndex 1 (.s 4)))))
def b__law_mark : SF := fSeq (fSet 2 (fOv pLst []))
  (fSeq (fWp [0, 3, 4] (fForS (fSq (.v (fV 0))) (.nm 3) (L1__law_mark)))
  (fRet (fOp (on2 pIx) [.s 2, .v (fOp (on1 pNeg) [.v (fC (.int 1))])])))
def M__law_mark : Fn := fnM 2 6 [1] b__law_mark
abbrev V__law_mark (written_here : Option O := none) (known : Option O := none) (found : Option O := none) (one : Option O := none) (part : Option O := none) (at_ : Option O := none) : Dy.Env := [written_here, known, found, one, part, at_]
def b__law_right_6 : SF := fSeq (fPar 5 6 (fOv pLst []) (fOp (on1 pRepr) [.v (fOv pTup [.v (fV 1), .v (fV 2)])]))
  (fSeq (fSet 3 (fOp (on2 pEq) [.v (fCall M__law_mark [.v (fV 1), .s 5]), .v (fCall M__law_mark [.v (fV 2), .s 5])]))
  (fSeq (fFz [4] (fSet 4 (fOv pLst [.v (fCall M_same [.v (fV 0), .v (fV 1), .v (fV 2)]), .v (fCall M_same [.v (fV 0), .v (fV 2), .v (fV 1)]), .v (fCall M_same [.v (fV 0), .v (fV 1), .v (fV 2)])])))
  (fRet (fAnd (fCall M__law_same [.v (fV 4), .v (fOp (on2 pMulA) [.v (fOv pLst [.v (fV 3)]), .v (fC (.int 3))])]) (fOp (on2 pEq) [.v (fOp (on1 pRepr) [.v (fOv pTup [.v (fV 1), .v (fV 2)])]), .s 6])))))
def M__law_right_6 : Fn := fnM 3 7 [] b__law_right_6
def E1_law_20 : EF := fOv pTup [.v (fC (.int 1)), .v (fV 14), .v (fV 14)]
def E2_law_20 : EF := fOv pTup [.v (fC (.int 1)), .v (fV 14), .v (fOp (on2 pAdd) [.s 14, .v (fC (.int 1))])]
def E3_law_20 : EF := fOv pTup [.v (fC (.int 1)), .v (fOp (pMax) [.v (fC (.int 0)), .v (fOp (on2 pSub) [.s 14, .v (fC (.int 1))])]), .v (fV 14)]
def E4_law_20 : EF := fCall M_same [.v (fOv pTup [.v (fC (.int 0)), .v (fC (.int 2))]), .v (fV 1), .v (fV 13)]
def L1_law_20 : SF := fWp [12] (fIfS (fAndT (fB (fOp (on2 pNe) [.s 12, .v (fOv pTup [])])) (fNot (fB (fCall M__law_right_6 [.v (fV 7), .v (fV 8), .v (fV 12)])))) (fRet (fC (.bool false))) (fSkip))
def L2_law_20 : SF := fSeq (fSet 7 (fCall M__law_arities_2 [.s 5]))
  (fSeq (fSet 8 (fCall M__law_written [.s 5, .v (fV 7), .v (fOp (on2 pIx) [.v (fOv pLst [.v (fC (.int 5)), .v (fC (.int 12)), .v (fC (.int 30))]), .v (fOp (on2 pMod) [.s 6, .v (fC (.int 3))])])]))
  (fSeq (fSet 9 (fCall M__law_again [.s 5, .v (fV 8)]))
  (fSeq (fSet 10 (fCall M__law_again [.s 5, .v (fIf (fB (fOp (on2 (cmI (fun i j => decide (i < j)))) [.v (fOp (on1 pLen) [.s 9]), .v (fC (.int 31))])) (fV 9) (fV 8))]))
  (fSeq (fFz [11] (fSet 11 (fOv pLst [.v (fV 9), .v (fV 10), .v (fCall M__law_other [.s 5, .v (fV 7), .v (fV 8)])])))
  (fSeq (fWp [6, 10] (fFz [11] (fSet 11 (fOp (on2 pAdd) [.s 11, .v (fOv pLst [.v (fCall M__law_other [.s 5, .v (fV 7), .v (fV 9)]), .v (fCall M__law_written [.s 5, .v (fV 7), .v (fC (.int 6))]), .v (fOp (on2 pSl2h) [.s 8, .v (fOp (on1 pNeg) [.v (fC (.int 1))])])])]))))
  (fSeq (fWp [11, 12] (fForS (fSq (.v (fV 11))) (.nm 12) (L1_law_20)))
  (fWp [7, 8, 9] (fIfS (fB (fOp (on2 pIsnB) [.v (fCall M_same [.v (fV 7), .v (fV 8), .v (fV 9)]), .v (fC (.bool true))])) (fRet (fC (.bool false))) (fSkip)))))))))
def L3_law_20 : SF := fSeq (fWp [4] (fSet 5 (fCall M__law_pen_2 [.v (fCall M__law_cell [.v (fV 0), .v (fV 4)])])))
  (fWp [5, 6, 7, 8, 9, 10, 11, 12] (fForS (fR1 (.v (fC (.int 8)))) (.nm 6) (L2_law_20)))
def b_law_20 : SF := fSeq (fSet 1 (fOp (on2 pAdd) [.v (fOv pTup [.v (fOv pTup [.v (fC (.int 0))])]), .v (fOp (on1 pTuple) [.v (fLc (fR1 (.v (fC (.int 60)))) [14] (.nm 14) (fYes) (E1_law_20))])]))
  (fSeq (fSet 2 (fOp (on2 pAdd) [.v (fOv pTup [.v (fOv pTup [.v (fC (.int 0))]), .v (fOv pTup [.v (fC (.int 0))])]), .v (fOp (on1 pTuple) [.v (fLc (fR1 (.v (fC (.int 60)))) [14] (.nm 14) (fYes) (E2_law_20))])]))
  (fSeq (fSet 3 (fOp (on2 pAdd) [.v (fOv pTup [.v (fOv pTup [.v (fC (.int 0))]), .v (fOv pTup [.v (fC (.int 0))])]), .v (fOp (on1 pTuple) [.v (fLc (fR2 (.v (fC (.int 1))) (.v (fC (.int 61)))) [14] (.nm 14) (fYes) (E3_law_20))])]))
  (fSeq (fWp [1, 2, 3] (fIfS (fB (fOp (on2 pNe) [.v (fLc (fSq (.v (fOv pTup [.v (fV 1), .v (fV 2), .v (fV 3), .v (fOp (on2 pSl2h) [.s 1, .v (fC (.int 60))])]))) [13] (.nm 13) (fYes) (E4_law_20)), .v (fOv pLst [.v (fC (.bool true)), .v (fC (.bool false)), .v (fC (.bool false)), .v (fC (.bool false))])])) (fRet (fC (.bool false))) (fSkip)))
  (fSeq (fWp [0, 4, 5, 6, 7, 8, 9, 10, 11, 12] (fForS (fR1 (.v (fOp (pMax) [.v (fC (.int 1)), .v (fOp (pMin) [.v (fOp (on1 pLen) [.s 0]), .v (fC (.int 3))])]))) (.nm 4) (L3_law_20)))
  (fRet (fC (.bool true)))))))
def M_law_20 : Fn := fnM 1 15 [] b_law_20
abbrev V_law_20 (script : Option O := none) (full : Option O := none) (low : Option O := none) (tall : Option O := none) (k : Option O := none) (pen_here : Option O := none) (lap : Option O := none) (arities_here : Option O := none) (written_here : Option O := none) (again_here : Option O := none) (more : Option O := none) (some_ : Option O := none) (other_here : Option O := none) (one : Option O := none) (at_ : Option O := none) : Dy.Env := [script, full, low, tall, k, pen_here, lap, arities_here, written_here, again_here, more, some_, other_here, one, at_]
end Q
namespace Q
open PySem Dy
open L2 (atI ixN)
theorem sok4 {n w : Nat} {d : PyData} (h : Rk n w d) (hn : n ≤ 64) (hw : w ≤ 16777216) : M__law_same [.fr d, .fr d] = .ok (.fr (.bool true), [.fr d, .fr d]) := by
  simp [M__law_same, b__law_same, q_mulAI, q_mulAL, a_wb, q_divW, Function.comp_def, q_starI, q_starIT, a_wp, a_fz, a_fz0, a_fz1, a_ext, a_ins, a_insA, a_pop, a_parN, a_evO0, a_evO1, a_setO0, a_setO1, a_ix2, a_setII, a_zN, a_zC, a_lcO, d_oo, pEq_int, pNe_int, pIxL, pIxT, atI_nat, atI_0, atI_1, atI_2, atI_3, atI_m1, cutLo, cutHi, cutLo1, cutHi1, a_seq, a_ifS, a_B, a_op, a_ov, a_ev0, a_evv, a_evs, a_C, a_V, a_M, a_set, a_setI, a_app, a_ret, a_ex, a_skip, a_no, a_not, a_andT, a_orT, a_and, a_or, a_notV, a_if, a_par, a_call, a_forS, a_sq, a_r1, a_r2, a_en, a_zp, a_asT, a_chI, a_yes, a_lc, a_fn, okA, f_fr, bkA, rsvs, rsv, dvs, on1, on2, d_fr, d_ol, rsO, ndS, sl, putB, asT, setAll, ofO, Dy.ints1, Dy.ints2, nE, wipeE, unw, frO, q_addI, q_addL, q_addT, q_addS, q_sub, q_div, q_mod, q_pow, q_neg, q_cm, pIs, pIsn, q_isN, q_isI, q_isS, q_isT, q_isL, q_isB, q_lenL, q_lenT, pTup, pLst, q_tupL, q_tupT, q_lstL, q_lstT, q_revL, q_slL, q_slT, q_shL, q_shT, q_sqL, q_sqT, q_intI, q_max2, q_min2, q_aII, q_aBI, q_aTI, q_aTT, q_aLL, q_aTL, q_aIT, h.repr hn hw, pEq_str]
theorem wrA4 {o : O} {as : List Nat} {ui : Int} (up : Nat) (h : PenA o) (ha : ArOk as) (h0 : 0 ∈ as) (m0 : 0 < up) (m1 : up ≤ 100) (hm : ui = up) :
    ∃ (t : List Nd) (o' : O), TrOk as t ∧ t.length ≤ up ∧ PenA o' ∧ M__law_written [o, .fr (encA as), .fr (.int ui)] = .ok (.fr (encT t), [o', .fr (encA as), .fr (.int ui)]) := by
  subst hm
  have hl := ha.len
  have e0 : ∀ e : Dy.Env, e = V__law_written (pen_here := some o) (arities_here := fr (encA as)) (upto := fr (dN up)) → lcL [6, 9] (.tu [6, 9]) T1__law_written E1__law_written (enumD 0 (as.map dN)) e [] = .ok ((lvs (fun a => decide (a = 0)) as).map dN, e) := fun e he => by
    rw [lc_fl (fun q : Nat × Nat => .tuple [.int (q.1 : Int), dN q.2]) (fun q => if decide (q.2 = 0) = true then some (dN q.1) else none) (ens as) (enumD_ens _ _) (fun q hq => ?_) (by rw [ens_len]; omega), lvs_enc (fun a => decide (a = 0))]
    subst he
    by_cases z : q.2 = 0 <;> simp [T1__law_written, E1__law_written, q_mulAI, q_mulAL, a_wb, q_divW, Function.comp_def, q_starI, q_starIT, a_wp, a_fz, a_fz0, a_fz1, a_ext, a_ins, a_insA, a_pop, a_parN, a_evO0, a_evO1, a_setO0, a_setO1, a_ix2, a_setII, a_zN, a_zC, a_lcO, d_oo, pEq_int, pNe_int, pIxL, pIxT, atI_nat, atI_0, atI_1, atI_2, atI_3, atI_m1, cutLo, cutHi, cutLo1, cutHi1, a_seq, a_ifS, a_B, a_op, a_ov, a_ev0, a_evv, a_evs, a_C, a_V, a_M, a_set, a_setI, a_app, a_ret, a_ex, a_skip, a_no, a_not, a_andT, a_orT, a_and, a_or, a_notV, a_if, a_par, a_call, a_forS, a_sq, a_r1, a_r2, a_en, a_zp, a_asT, a_chI, a_yes, a_lc, a_fn, okA, f_fr, bkA, rsvs, rsv, dvs, on1, on2, d_fr, d_ol, rsO, ndS, sl, putB, asT, setAll, ofO, Dy.ints1, Dy.ints2, nE, wipeE, unw, frO, q_addI, q_addL, q_addT, q_addS, q_sub, q_div, q_mod, q_pow, q_neg, q_cm, pIs, pIsn, q_isN, q_isI, q_isS, q_isT, q_isL, q_isB, q_lenL, q_lenT, pTup, pLst, q_tupL, q_tupT, q_lstL, q_lstT, q_revL, q_slL, q_slT, q_shL, q_shT, q_sqL, q_sqT, q_intI, q_max2, q_min2, q_aII, q_aBI, q_aTI, q_aTT, q_aLL, q_aTL, q_aIT, z]
  have hv : ∃ x, x ∈ lvs (fun a => decide (a = 0)) as := by
    obtain ⟨i, hi⟩ := List.getElem?_of_mem h0
    exact ⟨i, lvs_mem.mpr ⟨0, hi, by simp⟩⟩
  have hne : lvs (fun a => decide (a = 0)) as ≠ [] := fun z => by obtain ⟨x, hx⟩ := hv; rw [z] at hx; cases hx
  have rk : shp (.list ((lvs (fun a => decide (a = 0)) as).map dN)) = true := (Rk.lst (rkNs fun a ha' => by obtain ⟨x, hx, _⟩ := lvs_mem.mp ha'; have := lt_of_get hx; omega)).shp (by decide)
  obtain ⟨d, o1, hd, p1, e1⟩ := pickA (xs := (lvs (fun a => decide (a = 0)) as).map dN) h (fun z => hne (List.map_eq_nil_iff.mp z)) (by have := lvs_len (fun a => decide (a = 0)) as; simp; omega)
  obtain ⟨leaf, hleaf, rfl⟩ := List.mem_map.mp hd
  obtain ⟨a0, ha0, hz⟩ := lvs_mem.mp hleaf
  have hz : a0 = 0 := by simpa using hz
  subst hz
  obtain ⟨r, o2, r2, p2, e2⟩ := drawA_upto p1 up m0 (by omega)
  obtain ⟨s, ⟨p3, w3, l3⟩, e3⟩ := for_r (t := .nm 5) (body := L1__law_written) (fun s : O × List Nd => V__law_written (pen_here := some s.1) (arities_here := fr (encA as)) (upto := fr (dN up)) (found := ol (s.2.map encN)))
    (fun k s => PenA s.1 ∧ WF as s.2 ∧ s.2.length = k + 1) r (s := (o2, [(leaf, [])])) ⟨p2, WF.nil.snoc (n := (leaf, [])) ⟨ha0, by simp⟩, rfl⟩ (fun k s hk hs => by
      obtain ⟨o3, t⟩ := s
      obtain ⟨q1, q2, q3⟩ := hs
      dsimp only at q1 q2 q3
      obtain ⟨op, o4, r4, p4, e4⟩ := drawA_upto q1 as.length ha.pos (by omega)
      obtain ⟨a, ga, ma⟩ := get_of_lt r4
      have a2 := ha.le2 a ma
      obtain ⟨c, o5, r5, p5, e5⟩ := drawA_lit (mi := 3) 3 p4 (by decide) (by decide) rfl
      have near : max (0 : Int) ((k : Int) - c) = ((k - c : Nat) : Int) := by omega
      obtain ⟨ps, o6, p6, l6, r6, e6⟩ := lc_r (vs := [10]) (t := .nm 10) (elt := E2__law_written) dN (fun o => V__law_written (pen_here := some o) (arities_here := fr (encA as)) (upto := fr (dN up)) (found := ol (t.map encN)) (turn := fr (dN k)) (one := fr (dN op)) (near := fr (dN (k - c))))
        (fun j o => PenA o) (fun x => x < t.length) 2 p5 (by omega) (fun j o hj hp => by
          obtain ⟨x, o7, r7, p7, e7⟩ := drawA_upto hp t.length (by omega) (by omega)
          obtain ⟨y, o8, r8, p8, e8⟩ := drawA_lit (mi := 3) 3 p7 (by decide) (by decide) rfl
          rw [q3] at e7
          simp only [Int.natCast_add, Int.natCast_one] at e7
          have c1 : ((k : Int) + 1 - 1) = k := by omega
          match y, r8 with
          | 0, _ => exact ⟨k - c, o8, p8, by omega, by simp [E2__law_written, q_mulAI, q_mulAL, a_wb, q_divW, Function.comp_def, q_starI, q_starIT, a_wp, a_fz, a_fz0, a_fz1, a_ext, a_ins, a_insA, a_pop, a_parN, a_evO0, a_evO1, a_setO0, a_setO1, a_ix2, a_setII, a_zN, a_zC, a_lcO, d_oo, pEq_int, pNe_int, pIxL, pIxT, atI_nat, atI_0, atI_1, atI_2, atI_3, atI_m1, cutLo, cutHi, cutLo1, cutHi1, a_seq, a_ifS, a_B, a_op, a_ov, a_ev0, a_evv, a_evs, a_C, a_V, a_M, a_set, a_setI, a_app, a_ret, a_ex, a_skip, a_no, a_not, a_andT, a_orT, a_and, a_or, a_notV, a_if, a_par, a_call, a_forS, a_sq, a_r1, a_r2, a_en, a_zp, a_asT, a_chI, a_yes, a_lc, a_fn, okA, f_fr, bkA, rsvs, rsv, dvs, on1, on2, d_fr, d_ol, rsO, ndS, sl, putB, asT, setAll, ofO, Dy.ints1, Dy.ints2, nE, wipeE, unw, frO, q_addI, q_addL, q_addT, q_addS, q_sub, q_div, q_mod, q_pow, q_neg, q_cm, pIs, pIsn, q_isN, q_isI, q_isS, q_isT, q_isL, q_isB, q_lenL, q_lenT, pTup, pLst, q_tupL, q_tupT, q_lstL, q_lstT, q_revL, q_slL, q_slT, q_shL, q_shT, q_sqL, q_sqT, q_intI, q_max2, q_min2, q_aII, q_aBI, q_aTI, q_aTT, q_aLL, q_aTL, q_aIT, q3, c1, e7, e8]⟩
          | 1, _ => exact ⟨k, o8, p8, by omega, by simp [E2__law_written, q_mulAI, q_mulAL, a_wb, q_divW, Function.comp_def, q_starI, q_starIT, a_wp, a_fz, a_fz0, a_fz1, a_ext, a_ins, a_insA, a_pop, a_parN, a_evO0, a_evO1, a_setO0, a_setO1, a_ix2, a_setII, a_zN, a_zC, a_lcO, d_oo, pEq_int, pNe_int, pIxL, pIxT, atI_nat, atI_0, atI_1, atI_2, atI_3, atI_m1, cutLo, cutHi, cutLo1, cutHi1, a_seq, a_ifS, a_B, a_op, a_ov, a_ev0, a_evv, a_evs, a_C, a_V, a_M, a_set, a_setI, a_app, a_ret, a_ex, a_skip, a_no, a_not, a_andT, a_orT, a_and, a_or, a_notV, a_if, a_par, a_call, a_forS, a_sq, a_r1, a_r2, a_en, a_zp, a_asT, a_chI, a_yes, a_lc, a_fn, okA, f_fr, bkA, rsvs, rsv, dvs, on1, on2, d_fr, d_ol, rsO, ndS, sl, putB, asT, setAll, ofO, Dy.ints1, Dy.ints2, nE, wipeE, unw, frO, q_addI, q_addL, q_addT, q_addS, q_sub, q_div, q_mod, q_pow, q_neg, q_cm, pIs, pIsn, q_isN, q_isI, q_isS, q_isT, q_isL, q_isB, q_lenL, q_lenT, pTup, pLst, q_tupL, q_tupT, q_lstL, q_lstT, q_revL, q_slL, q_slT, q_shL, q_shT, q_sqL, q_sqT, q_intI, q_max2, q_min2, q_aII, q_aBI, q_aTI, q_aTT, q_aLL, q_aTL, q_aIT, q3, c1, e7, e8]⟩
          | 2, _ => exact ⟨x, o8, p8, r7, by simp [E2__law_written, q_mulAI, q_mulAL, a_wb, q_divW, Function.comp_def, q_starI, q_starIT, a_wp, a_fz, a_fz0, a_fz1, a_ext, a_ins, a_insA, a_pop, a_parN, a_evO0, a_evO1, a_setO0, a_setO1, a_ix2, a_setII, a_zN, a_zC, a_lcO, d_oo, pEq_int, pNe_int, pIxL, pIxT, atI_nat, atI_0, atI_1, atI_2, atI_3, atI_m1, cutLo, cutHi, cutLo1, cutHi1, a_seq, a_ifS, a_B, a_op, a_ov, a_ev0, a_evv, a_evs, a_C, a_V, a_M, a_set, a_setI, a_app, a_ret, a_ex, a_skip, a_no, a_not, a_andT, a_orT, a_and, a_or, a_notV, a_if, a_par, a_call, a_forS, a_sq, a_r1, a_r2, a_en, a_zp, a_asT, a_chI, a_yes, a_lc, a_fn, okA, f_fr, bkA, rsvs, rsv, dvs, on1, on2, d_fr, d_ol, rsO, ndS, sl, putB, asT, setAll, ofO, Dy.ints1, Dy.ints2, nE, wipeE, unw, frO, q_addI, q_addL, q_addT, q_addS, q_sub, q_div, q_mod, q_pow, q_neg, q_cm, pIs, pIsn, q_isN, q_isI, q_isS, q_isT, q_isL, q_isB, q_lenL, q_lenT, pTup, pLst, q_tupL, q_tupT, q_lstL, q_lstT, q_revL, q_slL, q_slT, q_shL, q_shT, q_sqL, q_sqT, q_intI, q_max2, q_min2, q_aII, q_aBI, q_aTI, q_aTT, q_aLL, q_aTL, q_aIT, q3, c1, e7, e8]⟩)
      refine ⟨(o6, t ++ [(op, ps.take a)]), ⟨p6, q2.snoc ⟨by rw [ga]; simp [l6]; omega, fun p hp => r6 p (List.mem_of_mem_take hp)⟩, by simp [q3]⟩, ?_⟩
      have c1 : ((k : Int) + 1 - 1) = k := by omega
      have c3 : 1 + min a ps.length ≤ 1000000 := by omega
      have c4 : k + 1 < 1000000 := by omega
      simp [L1__law_written, q_mulAI, q_mulAL, a_wb, q_divW, Function.comp_def, q_starI, q_starIT, a_wp, a_fz, a_fz0, a_fz1, a_ext, a_ins, a_insA, a_pop, a_parN, a_evO0, a_evO1, a_setO0, a_setO1, a_ix2, a_setII, a_zN, a_zC, a_lcO, d_oo, pEq_int, pNe_int, pIxL, pIxT, atI_nat, atI_0, atI_1, atI_2, atI_3, atI_m1, cutLo, cutHi, cutLo1, cutHi1, a_seq, a_ifS, a_B, a_op, a_ov, a_ev0, a_evv, a_evs, a_C, a_V, a_M, a_set, a_setI, a_app, a_ret, a_ex, a_skip, a_no, a_not, a_andT, a_orT, a_and, a_or, a_notV, a_if, a_par, a_call, a_forS, a_sq, a_r1, a_r2, a_en, a_zp, a_asT, a_chI, a_yes, a_lc, a_fn, okA, f_fr, bkA, rsvs, rsv, dvs, on1, on2, d_fr, d_ol, rsO, ndS, sl, putB, asT, setAll, ofO, Dy.ints1, Dy.ints2, nE, wipeE, unw, frO, q_addI, q_addL, q_addT, q_addS, q_sub, q_div, q_mod, q_pow, q_neg, q_cm, pIs, pIsn, q_isN, q_isI, q_isS, q_isT, q_isL, q_isB, q_lenL, q_lenT, pTup, pLst, q_tupL, q_tupT, q_lstL, q_lstT, q_revL, q_slL, q_slT, q_shL, q_shT, q_sqL, q_sqT, q_intI, q_max2, q_min2, q_aII, q_aBI, q_aTI, q_aTT, q_aLL, q_aTL, q_aIT, e4, q3, c1, ga, e5, near, e6, c3, c4, encN, List.map_take])
  have c2 : (r : Int) ≤ 1000000000 ∧ (-1000000000 : Int) ≤ r := by omega
  refine ⟨s.2, s.1, ⟨w3, fun z => by rw [z] at l3; simp at l3, by omega⟩, by omega, p3, ?_⟩
  dsimp only [List.map, encN] at e3
  simp [M__law_written, b__law_written, q_mulAI, q_mulAL, a_wb, q_divW, Function.comp_def, q_starI, q_starIT, a_wp, a_fz, a_fz0, a_fz1, a_ext, a_ins, a_insA, a_pop, a_parN, a_evO0, a_evO1, a_setO0, a_setO1, a_ix2, a_setII, a_zN, a_zC, a_lcO, d_oo, pEq_int, pNe_int, pIxL, pIxT, atI_nat, atI_0, atI_1, atI_2, atI_3, atI_m1, cutLo, cutHi, cutLo1, cutHi1, a_seq, a_ifS, a_B, a_op, a_ov, a_ev0, a_evv, a_evs, a_C, a_V, a_M, a_set, a_setI, a_app, a_ret, a_ex, a_skip, a_no, a_not, a_andT, a_orT, a_and, a_or, a_notV, a_if, a_par, a_call, a_forS, a_sq, a_r1, a_r2, a_en, a_zp, a_asT, a_chI, a_yes, a_lc, a_fn, okA, f_fr, bkA, rsvs, rsv, dvs, on1, on2, d_fr, d_ol, rsO, ndS, sl, putB, asT, setAll, ofO, Dy.ints1, Dy.ints2, nE, wipeE, unw, frO, q_addI, q_addL, q_addT, q_addS, q_sub, q_div, q_mod, q_pow, q_neg, q_cm, pIs, pIsn, q_isN, q_isI, q_isS, q_isT, q_isL, q_isB, q_lenL, q_lenT, pTup, pLst, q_tupL, q_tupT, q_lstL, q_lstT, q_revL, q_slL, q_slT, q_shL, q_shT, q_sqL, q_sqT, q_intI, q_max2, q_min2, q_aII, q_aBI, q_aTI, q_aTT, q_aLL, q_aTL, q_aIT, e0, pEq_L0 rk, hne, e1, e2, c2, e3]
theorem a_appI_4 (i : Nat) (y : Dy.Env → Option Int) (f : EF) (env : Dy.Env) : fAppI i y f env = match env[i]?, y env with
  | some (some (.oo rs)), some k => match ixN rs.length k with
    | some j => match rs[j]? with
      | some w => if w.length < 1000000 then nE (f (env.set i none)) >>= fun r => .ok (.nx, r.2.set i (some (.oo (rs.set j (w ++ [r.1.data]))))) else .no
      | none => .no
    | none => .no
  | _, _ => .no := rfl
inductive Tr where
  | nd : Nat → List Tr → Tr
abbrev T0 : Tr := .nd 0 []
/-- the trees of a row of nodes -/
def un (t : List Nd) : List Tr := alg Tr.nd T0 t
def root (t : List Nd) : Tr := lastA Tr.nd T0 t
def gT (φ : List Tr) (a : Nat) : Tr := φ.getD a T0
theorem gT_app {φ ψ : List Tr} {a : Nat} (h : a < φ.length) : gT (φ ++ ψ) a = gT φ a := getD_app T0 h
theorem gT_at {φ : List Tr} {a : Nat} (h : a < φ.length) : φ[a]? = some (gT φ a) := getD_mem h
structure Kg (ks : Kn) (φ : List Tr) : Prop where
  len : ks.length = φ.length
  nd : φ.Nodup
  ent : ∀ v, v < φ.length → ∃ op args, ks[v]? = some (op :: args, v) ∧ φ[v]? = some (.nd op (args.map (gT φ))) ∧ ∀ a ∈ args, a < φ.length
theorem gT_inj {φ : List Tr} (h : φ.Nodup) {a b : Nat} (ha : a < φ.length) (hb : b < φ.length) (e : gT φ a = gT φ b) : a = b := by
  have e1 := gT_at ha
  have e2 := gT_at hb
  rw [← e] at e2
  exact (List.getElem?_inj ha h).mp (e1.trans e2.symm)
theorem map_gT_inj {φ : List Tr} (h : φ.Nodup) : ∀ {xs ys : List Nat}, (∀ a ∈ xs, a < φ.length) → (∀ a ∈ ys, a < φ.length) → xs.map (gT φ) = ys.map (gT φ) → xs = ys
  | [], [], _, _, _ => rfl
  | [], _ :: _, _, _, e => by cases e
  | _ :: _, [], _, _, e => by cases e
  | x :: xs, y :: ys, hx, hy, e => by
    simp only [List.map_cons, List.cons.injEq] at e
    rw [gT_inj h (hx x (by simp)) (hy y (by simp)) e.1, map_gT_inj h (fun a ha => hx a (by simp [ha])) (fun a ha => hy a (by simp [ha])) e.2]
theorem lk_mem {κ β : Type} [DecidableEq κ] {ks : List (κ × β)} {p : κ} {v : β} (h : lk ks p = some v) : (p, v) ∈ ks := by
  unfold lk at h
  cases q : ks.find? (fun e => decide (e.1 = p)) with
  | none => rw [q] at h; cases h
  | some e =>
    rw [q] at h
    have h1 := List.find?_some q
    have h2 := List.mem_of_find?_eq_some q
    obtain ⟨a, b⟩ := e
    simp at h1 h
    subst h1; subst h
    exact h2
theorem lk_noneE {κ β : Type} [DecidableEq κ] {ks : List (κ × β)} {p : κ} (h : lk ks p = none) : ∀ v, (p, v) ∉ ks := fun v hm => by
  unfold lk at h
  rw [Option.map_eq_none_iff, List.find?_eq_none] at h
  have := h _ hm
  simp at this
theorem Kg.at {ks : Kn} {φ : List Tr} (h : Kg ks φ) {op : Nat} {args : List Nat} {v : Nat} (e : lk ks (op :: args) = some v) : v < φ.length ∧ gT φ v = .nd op (args.map (gT φ)) := by
  obtain ⟨i, hi⟩ := List.getElem?_of_mem (lk_mem e)
  have li : i < φ.length := by rw [← h.len]; exact lt_of_get hi
  obtain ⟨op', args', e1, e2, e3⟩ := h.ent i li
  rw [e1] at hi
  cases hi
  have := gT_at li
  rw [e2] at this
  exact ⟨li, (Option.some.inj this).symm⟩
theorem Kg.no {ks : Kn} {φ : List Tr} (h : Kg ks φ) {op : Nat} {args : List Nat} (ha : ∀ a ∈ args, a < φ.length) (e : lk ks (op :: args) = none) : Tr.nd op (args.map (gT φ)) ∉ φ := fun hm => by
  obtain ⟨i, hi⟩ := List.getElem?_of_mem hm
  obtain ⟨op', args', e1, e2, e3⟩ := h.ent i (lt_of_get hi)
  rw [e2] at hi
  simp only [Option.some.injEq, Tr.nd.injEq] at hi
  obtain ⟨rfl, hm'⟩ := hi
  have := map_gT_inj h.nd e3 ha hm'
  subst this
  exact lk_noneE e i (List.mem_of_getElem? e1)
theorem Kg.add {ks : Kn} {φ : List Tr} (h : Kg ks φ) {op : Nat} {args : List Nat} (ha : ∀ a ∈ args, a < φ.length) (e : lk ks (op :: args) = none) : Kg (ks ++ [(op :: args, ks.length)]) (φ ++ [.nd op (args.map (gT φ))]) := by
  refine ⟨by simp [h.len], ?_, fun v hv => ?_⟩
  · rw [List.nodup_append]
    refine ⟨h.nd, by simp, fun x hx y hy => ?_⟩
    simp at hy; subst hy
    exact fun z => h.no ha e (by rw [← z]; exact hx)
  · have mp : ∀ {as : List Nat}, (∀ a ∈ as, a < φ.length) → as.map (gT (φ ++ [.nd op (args.map (gT φ))])) = as.map (gT φ) := fun hh => List.map_congr_left fun a ha => gT_app (hh a ha)
    by_cases hl : v < φ.length
    · obtain ⟨op', args', e1, e2, e3⟩ := h.ent v hl
      exact ⟨op', args', by rw [List.getElem?_append_left (by rw [h.len]; exact hl)]; exact e1, by rw [List.getElem?_append_left hl, mp e3]; exact e2, fun a ha => by have := e3 a ha; simp; omega⟩
    · have : v = φ.length := by simp at hv; omega
      subst this
      exact ⟨op, args, by rw [List.getElem?_append_right (by rw [h.len]; exact Nat.le_refl _), h.len]; simp, by rw [List.getElem?_append_right (Nat.le_refl _), mp ha]; simp, fun a h' => by have := ha a h'; simp; omega⟩
theorem Kg.nil : Kg [] [] := ⟨rfl, by simp, fun v h => by simp at h⟩
/-- numbers name trees -/
theorem nmT_inv {as : List Nat} {ks : Kn} {φ : List Tr} (h : Kg ks φ) (t : List Nd) (ht : WF as t) :
    ∃ ψ, Kg (nmT ks t).1 (φ ++ ψ) ∧ (∀ v ∈ (nmT ks t).2, v < (φ ++ ψ).length) ∧ (nmT ks t).2.map (gT (φ ++ ψ)) = un t := by
  induction t using rev_ind with
  | h0 => exact ⟨[], by rw [List.append_nil]; exact h, fun v hv => (nomatch hv), rfl⟩
  | h1 t n ih =>
    obtain ⟨ψ, k1, k2, k3⟩ := ih ht.pre
    have hn := ht t.length n (by simp)
    have ln := (nm_len ks t).1
    have hun : un (t ++ [n]) = un t ++ [.nd n.1 (n.2.map ((un t).getD · T0))] := alg_snoc Tr.nd T0 t n
    have lun : (un t).length = t.length := alg_len Tr.nd T0 t
    rw [nmT_snoc, hun, ← k3]
    have hc : ∀ c ∈ n.2, gN (nmT ks t).2 c < (φ ++ ψ).length := fun c hc => by
      have := hn.2 c hc
      exact k2 _ (List.mem_of_getElem? (getD_mem (d := 0) (by rw [ln]; exact this)))
    have hm : n.2.map (fun c => ((nmT ks t).2.map (gT (φ ++ ψ))).getD c T0) = (n.2.map (gN (nmT ks t).2)).map (gT (φ ++ ψ)) := by
      rw [List.map_map]
      refine List.map_congr_left fun c hc' => ?_
      have hlt : c < (nmT ks t).2.length := by rw [ln]; exact hn.2 c hc'
      show ((nmT ks t).2.map (gT (φ ++ ψ))).getD c T0 = gT (φ ++ ψ) (gN (nmT ks t).2 c)
      rw [List.getD_eq_getElem?_getD, List.getElem?_map, getD_mem (d := 0) hlt]
      rfl
    rw [hm]
    have ha : ∀ a ∈ n.2.map (gN (nmT ks t).2), a < (φ ++ ψ).length := fun a h' => by
      obtain ⟨c, hc', rfl⟩ := List.mem_map.mp h'
      exact hc c hc'
    generalize nmT ks t = s at *
    unfold nm1 npart
    generalize n.2.map (gN s.2) = args at *
    cases q : lk s.1 (n.1 :: args) with
    | some v =>
      obtain ⟨q1, q2⟩ := k1.at q
      refine ⟨ψ, by simp [q]; exact k1, fun w hw => ?_, by simp [q, q2]⟩
      simp [q] at hw
      rcases hw with hw | rfl
      · exact k2 w hw
      · exact q1
    | none =>
      have k4 := k1.add ha q
      have e2 : lk (s.1 ++ [(n.1 :: args, s.1.length)]) (n.1 :: args) = some s.1.length := by rw [lk_app, q, lk_one]; simp
      have e3 := k1.len
      refine ⟨ψ ++ [.nd n.1 (args.map (gT (φ ++ ψ)))], by simp [q]; simpa using k4, fun w hw => ?_, ?_⟩
      · simp only [q, e2, Option.getD_some, List.mem_append, List.mem_singleton] at hw
        rw [← List.append_assoc, List.length_append]
        rcases hw with hw | rfl
        · have := k2 w hw; simp; simp at this; omega
        · rw [e3]; simp
      · rw [← List.append_assoc]
        have mp : s.2.map (gT (φ ++ ψ ++ [Tr.nd n.1 (args.map (gT (φ ++ ψ)))])) = s.2.map (gT (φ ++ ψ)) := List.map_congr_left fun a ha => gT_app (k2 a ha)
        have gl : gT (φ ++ ψ ++ [Tr.nd n.1 (args.map (gT (φ ++ ψ)))]) s.1.length = .nd n.1 (args.map (gT (φ ++ ψ))) := by
          unfold gT
          rw [e3, List.getD_eq_getElem?_getD, List.getElem?_append_right (Nat.le_refl _)]
          simp
        simp only [q, e2, Option.getD_some, List.map_append, List.map_cons, List.map_nil, mp, gl]
noncomputable def eqR (t u : List Nd) : Bool := @decide (root t = root u) (Classical.propDecidable _)
theorem eqR_iff {t u : List Nd} : eqR t u = true ↔ root t = root u := by unfold eqR; exact @decide_eq_true_iff _ (Classical.propDecidable _)
theorem eqR_comm (t u : List Nd) : eqR t u = eqR u t := by
  rw [Bool.eq_iff_iff, eqR_iff, eqR_iff]; exact eq_comm
theorem root_last {t : List Nd} {φ : List Tr} {ns : List Nat} {v : Nat} (h : ns.map (gT φ) = un t) (hv : ns.getLast? = some v) : root t = gT φ v := by
  show ((un t).getLast?).getD T0 = _
  rw [← h, List.getLast?_map, hv]
  rfl
theorem nums_eqR {as : List Nat} {t u : List Nd} {v w : Nat} (ht : WF as t) (hu : WF as u) (hv : (nmT [] t).2.getLast? = some v) (hw : (nmT (nmT [] t).1 u).2.getLast? = some w) : decide (v = w) = eqR t u := by
  obtain ⟨ψ, k1, k2, k3⟩ := nmT_inv Kg.nil t ht
  rw [List.nil_append] at k1 k2 k3
  obtain ⟨χ, l1, l2, l3⟩ := nmT_inv k1 u hu
  have rt := root_last k3 hv
  have ru := root_last l3 hw
  have v1 := k2 v (List.mem_of_getLast? hv)
  have w1 := l2 w (List.mem_of_getLast? hw)
  rw [← gT_app (ψ := χ) v1] at rt
  rw [Bool.eq_iff_iff, decide_eq_true_iff, eqR_iff, rt, ru]
  exact ⟨fun e => by rw [e], fun e => gT_inj l1.nd (by simp; omega) w1 e⟩
theorem same4 {as : List Nat} {t u : List Nd} (ha : ArOk as) (ht : TrOk as t) (hu : TrOk as u) : M_same [.fr (encA as), .fr (encT t), .fr (encT u)] = .ok (.fr (.bool (eqR t u)), [.fr (encA as), .fr (encT t), .fr (encT u)]) := by
  obtain ⟨v, h1, e1⟩ := numbered_ok [] ha ht (by simp)
  obtain ⟨w, h2, e2⟩ := numbered_ok (nmT [] t).1 ha hu (by have := (nm_len [] t).2; have := ht.len; simp at *; omega)
  have e1' : M_numbered [.fr (encT t), .od []] = .ok (.fr (dN v), [.fr (encT t), .od (encKn (nmT [] t).1)]) := e1
  have eq := nums_eqR ht.wf hu.wf h1 h2
  rw [← eq]
  simp [M_same, b_same, q_mulAI, q_mulAL, a_wb, q_divW, Function.comp_def, q_starI, q_starIT, a_wp, a_fz, a_fz0, a_fz1, a_ext, a_ins, a_insA, a_pop, a_parN, a_evO0, a_evO1, a_setO0, a_setO1, a_ix2, a_setII, a_zN, a_zC, a_lcO, d_oo, pEq_int, pNe_int, pIxL, pIxT, atI_nat, atI_0, atI_1, atI_2, atI_3, atI_m1, cutLo, cutHi, cutLo1, cutHi1, a_seq, a_ifS, a_B, a_op, a_ov, a_ev0, a_evv, a_evs, a_C, a_V, a_M, a_set, a_setI, a_app, a_ret, a_ex, a_skip, a_no, a_not, a_andT, a_orT, a_and, a_or, a_notV, a_if, a_par, a_call, a_forS, a_sq, a_r1, a_r2, a_en, a_zp, a_asT, a_chI, a_yes, a_lc, a_fn, okA, f_fr, bkA, rsvs, rsv, dvs, on1, on2, d_fr, d_ol, rsO, ndS, sl, putB, asT, setAll, ofO, Dy.ints1, Dy.ints2, nE, wipeE, unw, frO, q_addI, q_addL, q_addT, q_addS, q_sub, q_div, q_mod, q_pow, q_neg, q_cm, pIs, pIsn, q_isN, q_isI, q_isS, q_isT, q_isL, q_isB, q_lenL, q_lenT, pTup, pLst, q_tupL, q_tupT, q_lstL, q_lstT, q_revL, q_slL, q_slT, q_shL, q_shT, q_sqL, q_sqT, q_intI, q_max2, q_min2, q_aII, q_aBI, q_aTI, q_aTT, q_aLL, q_aTL, q_aIT, need_both_ok ha ht, need_tree_ok ha hu, a_newD, e1', e2]
  omega
end Q
namespace Q
open PySem Dy
open L2 (atI ixN)
theorem a_mtO (f : List PyData → PyData → Option PyData) (i : Nat) (y : AF) (env : Dy.Env) : fMtO f i y env = match env[i]? with
  | some (some (.ol _)) => evA [y] env >>= fun q => match rsvs q.2 q.1, q.2[i]? with
    | some [k], some (some (.ol ds)) => match f ds k with
      | some d => .ok (.fr d, q.2)
      | _ => .no
    | _, _ => .no
  | _ => .no := rfl
def encp (p : List Nat) : PyData := .tuple [dN (p.headD 0), .tuple (p.tail.map dN)]
theorem eqv_encp {p q : List Nat} (hp : p ≠ []) (hq : q ≠ []) : PyData.eqv (encp p) (encp q) = decide (p = q) := by
  match p, q with
  | a :: xs, b :: ys =>
    have e := eqv_tNs xs ys
    unfold tNs at e
    unfold encp
    simp only [PyData.eqv] at e ⊢
    simp only [List.headD_cons, List.tail_cons, PyData.eqvAll, PyData.eqv, e]
    by_cases c : a = b
    · by_cases c2 : xs = ys <;> simp [c, c2]
    · have : ¬ ((a : Int) = b) := by omega
      simp [c, this]
/-- keys with their places -/
def Kq (ks : Kn) : Prop := ∀ (i : Nat) (q : List Nat × Nat), ks[i]? = some q → q.2 = i ∧ ∃ op args, q.1 = op :: args ∧ op < 100000 ∧ args.length ≤ 2 ∧ ∀ a ∈ args, a < 100000
theorem Kq.nil : Kq [] := fun i q h => by simp at h
theorem Kq.add {ks : Kn} {op : Nat} {args : List Nat} (h : Kq ks) (h1 : op < 100000) (h2 : args.length ≤ 2) (h3 : ∀ a ∈ args, a < 100000) : Kq (ks ++ [(op :: args, ks.length)]) := fun i q hq => by
  by_cases hi : i < ks.length
  · rw [List.getElem?_append_left hi] at hq; exact h i q hq
  · have := lt_of_get hq
    have e : i = ks.length := by simp at this; omega
    subst e
    simp at hq; subst hq
    exact ⟨rfl, op, args, rfl, h1, h2, h3⟩
theorem Kq.ne {ks : Kn} (h : Kq ks) {q : List Nat × Nat} (hq : q ∈ ks) : q.1 ≠ [] := by
  obtain ⟨i, hi⟩ := List.getElem?_of_mem hq
  obtain ⟨_, op, args, e, _⟩ := h i q hi
  rw [e]; simp
theorem Kq.idx {ks : Kn} (h : Kq ks) {p : List Nat} (hp : p ≠ []) : (ks.map fun q => encp q.1).findIdx? (fun z => PyData.eqv z (encp p)) = lk ks p := by
  rw [List.findIdx?_map]
  have e : ∀ q ∈ ks, ((fun z => PyData.eqv z (encp p)) ∘ fun q : List Nat × Nat => encp q.1) q = decide (q.1 = p) := fun q hq => eqv_encp (h.ne hq) hp
  have e2 : ks.findIdx? ((fun z => PyData.eqv z (encp p)) ∘ fun q : List Nat × Nat => encp q.1) = ks.findIdx? (fun q => decide (q.1 = p)) := by
    clear h
    induction ks with
    | nil => rfl
    | cons x ks ih => rw [List.findIdx?_cons, List.findIdx?_cons, e x (by simp), ih fun q hq => e q (by simp [hq])]
  rw [e2]
  unfold lk
  cases q : ks.findIdx? (fun q => decide (q.1 = p)) with
  | none =>
    rw [List.findIdx?_eq_none_iff] at q
    have : ks.find? (fun e => decide (e.1 = p)) = none := by
      rw [List.find?_eq_none]
      exact fun x hx => by rw [q x hx]; decide
    rw [this]; rfl
  | some i =>
    obtain ⟨h1, h2, h3⟩ := List.findIdx?_eq_some_iff_getElem.mp q
    have : ks.find? (fun e => decide (e.1 = p)) = some ks[i] := by
      rw [List.find?_eq_some_iff_getElem]
      exact ⟨h2, i, h1, rfl, fun j hj => by have := h3 j hj; simpa using this⟩
    rw [this]
    show some i = some ks[i].2
    rw [(h i _ (List.getElem?_eq_getElem h1)).1]
theorem Kq.any {ks : Kn} (h : Kq ks) {p : List Nat} (hp : p ≠ []) : ((ks.map fun q => encp q.1).any fun z => PyData.eqv z (encp p)) = (lk ks p).isSome := by
  rw [← h.idx hp, List.findIdx?_isSome]
theorem rk_encp {op : Nat} {args : List Nat} (h1 : op < 100000) (h2 : args.length ≤ 2) (h3 : ∀ a ∈ args, a < 100000) : Rk 2 6000 (encp (op :: args)) := by
  refine (Rk.tup (n := 1) (w := 2400) (fun d hd => ?_)).mono (Nat.le_refl _) (by simp)
  simp at hd
  rcases hd with rfl | rfl
  · exact (Rk.nat (Nat.lt_trans h1 (by decide))).mono (by decide) (by decide)
  · refine (Rk.tup (n := 0) (w := 1100) (rkNs fun a ha => by have := h3 a ha; omega)).mono (by decide) ?_
    simp; omega
theorem Kq.shp {ks : Kn} (h : Kq ks) : shp (.list (ks.map fun q => encp q.1)) = true := by
  refine (Rk.lst (n := 2) (w := 6000) fun d hd => ?_).shp (by decide)
  obtain ⟨q, hq, rfl⟩ := List.mem_map.mp hd
  obtain ⟨i, hi⟩ := List.getElem?_of_mem hq
  obtain ⟨_, op, args, e, h1, h2, h3⟩ := h i q hi
  rw [e]
  exact rk_encp h1 h2 h3
theorem nin4 {ks : Kn} (h : Kq ks) {op : Nat} {args : List Nat} (h1 : op < 100000) (h2 : args.length ≤ 2) (h3 : ∀ a ∈ args, a < 100000) :
    pNinA (encp (op :: args)) (.list (ks.map fun q => encp q.1)) = some (.fr (.bool (!(lk ks (op :: args)).isSome))) := by
  rw [q_ninL]
  unfold pNin
  dsimp only
  rw [if_pos ⟨(rk_encp h1 h2 h3).shp (by decide), h.shp⟩, h.any (by simp)]
theorem idx4 {ks : Kn} (h : Kq ks) {op : Nat} {args : List Nat} {v : Nat} (h1 : op < 100000) (h2 : args.length ≤ 2) (h3 : ∀ a ∈ args, a < 100000) (e : lk ks (op :: args) = some v) :
    pIndex (ks.map fun q => encp q.1) (encp (op :: args)) = some (dN v) := by
  unfold pIndex
  rw [if_pos ⟨h.shp, (rk_encp h1 h2 h3).shp (by decide)⟩, h.idx (by simp), e]
  rfl
theorem nmT_q {as : List Nat} {ks : Kn} (ha : ArOk as) (h : Kq ks) (hk : ks.length ≤ 2000) (t : List Nd) (ht : WF as t) (hl : t.length ≤ 1000) :
    Kq (nmT ks t).1 ∧ ∀ v ∈ (nmT ks t).2, v < (nmT ks t).1.length := by
  induction t using rev_ind with
  | h0 => exact ⟨h, fun v hv => (nomatch hv)⟩
  | h1 t n ih =>
    obtain ⟨k1, k2⟩ := ih ht.pre (by simp at hl; omega)
    have hn := ht t.length n (by simp)
    obtain ⟨ln, lk1⟩ := nm_len ks t
    have hl' : t.length < 1000 := by simp at hl; omega
    have n2 := hn.le2 ha
    have n6 := hn.lt6 ha
    have a6 := ha.len
    rw [nmT_snoc]
    have ha' : ∀ a ∈ n.2.map (gN (nmT ks t).2), a < 100000 := fun a h' => by
      obtain ⟨c, hc', rfl⟩ := List.mem_map.mp h'
      have := k2 _ (List.mem_of_getElem? (getD_mem (d := 0) (by rw [ln]; exact hn.2 c hc')))
      show (nmT ks t).2.getD c 0 < 100000
      omega
    have hal : (n.2.map (gN (nmT ks t).2)).length ≤ 2 := by rw [List.length_map]; exact n2
    generalize nmT ks t = s at *
    unfold nm1 npart
    generalize n.2.map (gN s.2) = args at *
    cases q : lk s.1 (n.1 :: args) with
    | some v =>
      refine ⟨by simp [q]; exact k1, fun w hw => ?_⟩
      simp [q] at hw ⊢
      rcases hw with hw | rfl
      · exact k2 w hw
      · obtain ⟨i, hi⟩ := List.getElem?_of_mem (lk_mem q)
        have := (k1 i _ hi).1
        dsimp only at this
        rw [this]
        exact lt_of_get hi
    | none =>
      have e2 : lk (s.1 ++ [(n.1 :: args, s.1.length)]) (n.1 :: args) = some s.1.length := by rw [lk_app, q, lk_one]; simp
      refine ⟨by simp [q]; exact k1.add (by omega) hal ha', fun w hw => ?_⟩
      simp only [q, e2, Option.getD_some, List.mem_append, List.mem_singleton] at hw ⊢
      rcases hw with hw | rfl
      · have := k2 w hw; simp; omega
      · simp
theorem mark4 {as : List Nat} {t : List Nd} (ks : Kn) (ha : ArOk as) (ht : TrOk as t) (hq : Kq ks) (hk : ks.length ≤ 2000) :
    ∃ v, (nmT ks t).2.getLast? = some v ∧ M__law_mark [.fr (encT t), .ol (ks.map fun q => encp q.1)] = .ok (.fr (dN v), [.fr (encT t), .ol ((nmT ks t).1.map fun q => encp q.1)]) := by
  have hl := ht.len
  have e := for_st (t := .nm 3) (body := L1__law_mark) encN (fun s : Kn × List Nat => V__law_mark (written_here := fr (encT t)) (known := ol (s.1.map fun q => encp q.1)) (found := ol (s.2.map dN))) nm1 t (ks, []) rfl rfl (fun pre n post e => by
    have hn := ht.wf pre.length n (get_split e)
    have n2 := hn.le2 ha
    have n6 := hn.lt6 ha
    have a6 := ha.len
    obtain ⟨l1, l2⟩ := nm_len ks pre
    have hpre : pre.length < t.length := by rw [e]; simp
    obtain ⟨k1, k2⟩ := nmT_q ha hq hk pre (by have := ht.wf; rw [e] at this; exact this.pre) (by omega)
    have hs : pre.foldl nm1 (ks, []) = nmT ks pre := rfl
    rw [hs]
    generalize nmT ks pre = s at *
    obtain ⟨S, ns⟩ := s
    dsimp only at l1 l2 k1 k2
    have c1 : n.2.length ≤ 100000 := by omega
    have c3 : ns.length < 1000000 := by omega
    have c4 : S.length < 1000000 := by omega
    have hop : n.1 < 100000 := by omega
    have hargs : ∀ a ∈ n.2.map (gN ns), a < 100000 := fun a h' => by
      obtain ⟨c, hc', rfl⟩ := List.mem_map.mp h'
      have := k2 _ (List.mem_of_getElem? (getD_mem (d := 0) (by rw [l1]; exact hn.2 c hc')))
      show ns.getD c 0 < 100000
      omega
    have hal : (n.2.map (gN ns)).length ≤ 2 := by rw [List.length_map]; exact n2
    have part : PyData.tuple [PyData.int n.1, .tuple (n.2.map fun c => dN (gN ns c))] = encp (n.1 :: n.2.map (gN ns)) := by simp [encp]
    have nn := nin4 k1 hop hal hargs
    have npe : npart ns n = n.1 :: n.2.map (gN ns) := rfl
    simp [L1__law_mark, q_mulAI, q_mulAL, a_wb, q_divW, Function.comp_def, q_starI, q_starIT, a_wp, a_fz, a_fz0, a_fz1, a_ext, a_ins, a_insA, a_pop, a_parN, a_evO0, a_evO1, a_setO0, a_setO1, a_ix2, a_setII, a_zN, a_zC, a_lcO, d_oo, pEq_int, pNe_int, pIxL, pIxT, atI_nat, atI_0, atI_1, atI_2, atI_3, atI_m1, cutLo, cutHi, cutLo1, cutHi1, a_seq, a_ifS, a_B, a_op, a_ov, a_ev0, a_evv, a_evs, a_C, a_V, a_M, a_set, a_setI, a_app, a_ret, a_ex, a_skip, a_no, a_not, a_andT, a_orT, a_and, a_or, a_notV, a_if, a_par, a_call, a_forS, a_sq, a_r1, a_r2, a_en, a_zp, a_asT, a_chI, a_yes, a_lc, a_fn, okA, f_fr, bkA, rsvs, rsv, dvs, on1, on2, d_fr, d_ol, rsO, ndS, sl, putB, asT, setAll, ofO, Dy.ints1, Dy.ints2, nE, wipeE, unw, frO, q_addI, q_addL, q_addT, q_addS, q_sub, q_div, q_mod, q_pow, q_neg, q_cm, pIs, pIsn, q_isN, q_isI, q_isS, q_isT, q_isL, q_isB, q_lenL, q_lenT, pTup, pLst, q_tupL, q_tupT, q_lstL, q_lstT, q_revL, q_slL, q_slT, q_shL, q_shT, q_sqL, q_sqT, q_intI, q_max2, q_min2, q_aII, q_aBI, q_aTI, q_aTT, q_aLL, q_aTL, q_aIT]
    rw [lc_tm dN (fun c => dN (gN ns c)) n.2 rfl (fun c hc => ?_) (by omega)]
    · cases q : lk S (n.1 :: n.2.map (gN ns)) with
      | some v =>
        have ii := idx4 k1 hop hal hargs q
        rw [q] at nn
        simp only [Option.isSome_some, Bool.not_true] at nn
        simp [q_mulAI, q_mulAL, a_wb, q_divW, Function.comp_def, q_starI, q_starIT, a_wp, a_fz, a_fz0, a_fz1, a_ext, a_ins, a_insA, a_pop, a_parN, a_evO0, a_evO1, a_setO0, a_setO1, a_ix2, a_setII, a_zN, a_zC, a_lcO, d_oo, pEq_int, pNe_int, pIxL, pIxT, atI_nat, atI_0, atI_1, atI_2, atI_3, atI_m1, cutLo, cutHi, cutLo1, cutHi1, a_seq, a_ifS, a_B, a_op, a_ov, a_ev0, a_evv, a_evs, a_C, a_V, a_M, a_set, a_setI, a_app, a_ret, a_ex, a_skip, a_no, a_not, a_andT, a_orT, a_and, a_or, a_notV, a_if, a_par, a_call, a_forS, a_sq, a_r1, a_r2, a_en, a_zp, a_asT, a_chI, a_yes, a_lc, a_fn, okA, f_fr, bkA, rsvs, rsv, dvs, on1, on2, d_fr, d_ol, rsO, ndS, sl, putB, asT, setAll, ofO, Dy.ints1, Dy.ints2, nE, wipeE, unw, frO, q_addI, q_addL, q_addT, q_addS, q_sub, q_div, q_mod, q_pow, q_neg, q_cm, pIs, pIsn, q_isN, q_isI, q_isS, q_isT, q_isL, q_isB, q_lenL, q_lenT, pTup, pLst, q_tupL, q_tupT, q_lstL, q_lstT, q_revL, q_slL, q_slT, q_shL, q_shT, q_sqL, q_sqT, q_intI, q_max2, q_min2, q_aII, q_aBI, q_aTI, q_aTT, q_aLL, q_aTL, q_aIT, a_mtO, c1, part, nn, ii, nm1, npe, q, c3]
      | none =>
        have k3 := k1.add hop hal hargs
        have e2 : lk (S ++ [(n.1 :: n.2.map (gN ns), S.length)]) (n.1 :: n.2.map (gN ns)) = some S.length := by rw [lk_app, q, lk_one]; simp
        have ii := idx4 k3 hop hal hargs e2
        rw [q] at nn
        simp only [Option.isSome_none, Bool.not_false] at nn
        simp only [List.map_append, List.map_cons, List.map_nil] at ii
        simp [q_mulAI, q_mulAL, a_wb, q_divW, Function.comp_def, q_starI, q_starIT, a_wp, a_fz, a_fz0, a_fz1, a_ext, a_ins, a_insA, a_pop, a_parN, a_evO0, a_evO1, a_setO0, a_setO1, a_ix2, a_setII, a_zN, a_zC, a_lcO, d_oo, pEq_int, pNe_int, pIxL, pIxT, atI_nat, atI_0, atI_1, atI_2, atI_3, atI_m1, cutLo, cutHi, cutLo1, cutHi1, a_seq, a_ifS, a_B, a_op, a_ov, a_ev0, a_evv, a_evs, a_C, a_V, a_M, a_set, a_setI, a_app, a_ret, a_ex, a_skip, a_no, a_not, a_andT, a_orT, a_and, a_or, a_notV, a_if, a_par, a_call, a_forS, a_sq, a_r1, a_r2, a_en, a_zp, a_asT, a_chI, a_yes, a_lc, a_fn, okA, f_fr, bkA, rsvs, rsv, dvs, on1, on2, d_fr, d_ol, rsO, ndS, sl, putB, asT, setAll, ofO, Dy.ints1, Dy.ints2, nE, wipeE, unw, frO, q_addI, q_addL, q_addT, q_addS, q_sub, q_div, q_mod, q_pow, q_neg, q_cm, pIs, pIsn, q_isN, q_isI, q_isS, q_isT, q_isL, q_isB, q_lenL, q_lenT, pTup, pLst, q_tupL, q_tupT, q_lstL, q_lstT, q_revL, q_slL, q_slT, q_shL, q_shT, q_sqL, q_sqT, q_intI, q_max2, q_min2, q_aII, q_aBI, q_aTI, q_aTT, q_aLL, q_aTL, q_aIT, a_mtO, c1, part, nn, ii, nm1, npe, q, c3, c4, e2]
    · have hc' := hn.2 c hc
      have : ns[c]? = some (gN ns c) := getD_mem (by omega)
      simp [E1__law_mark, q_mulAI, q_mulAL, a_wb, q_divW, Function.comp_def, q_starI, q_starIT, a_wp, a_fz, a_fz0, a_fz1, a_ext, a_ins, a_insA, a_pop, a_parN, a_evO0, a_evO1, a_setO0, a_setO1, a_ix2, a_setII, a_zN, a_zC, a_lcO, d_oo, pEq_int, pNe_int, pIxL, pIxT, atI_nat, atI_0, atI_1, atI_2, atI_3, atI_m1, cutLo, cutHi, cutLo1, cutHi1, a_seq, a_ifS, a_B, a_op, a_ov, a_ev0, a_evv, a_evs, a_C, a_V, a_M, a_set, a_setI, a_app, a_ret, a_ex, a_skip, a_no, a_not, a_andT, a_orT, a_and, a_or, a_notV, a_if, a_par, a_call, a_forS, a_sq, a_r1, a_r2, a_en, a_zp, a_asT, a_chI, a_yes, a_lc, a_fn, okA, f_fr, bkA, rsvs, rsv, dvs, on1, on2, d_fr, d_ol, rsO, ndS, sl, putB, asT, setAll, ofO, Dy.ints1, Dy.ints2, nE, wipeE, unw, frO, q_addI, q_addL, q_addT, q_addS, q_sub, q_div, q_mod, q_pow, q_neg, q_cm, pIs, pIsn, q_isN, q_isI, q_isS, q_isT, q_isL, q_isB, q_lenL, q_lenT, pTup, pLst, q_tupL, q_tupT, q_lstL, q_lstT, q_revL, q_slL, q_slT, q_shL, q_shT, q_sqL, q_sqT, q_intI, q_max2, q_min2, q_aII, q_aBI, q_aTI, q_aTT, q_aLL, q_aTL, q_aIT, this])
  have hne : (nmT ks t).2 ≠ [] := fun z => ht.ne (List.length_eq_zero_iff.mp (by rw [← (nm_len ks t).1, z]; rfl))
  obtain ⟨v, hv⟩ : ∃ v, (nmT ks t).2.getLast? = some v := by
    cases q : (nmT ks t).2.getLast? with
    | none => exact absurd (List.getLast?_eq_none_iff.mp q) hne
    | some v => exact ⟨v, rfl⟩
  refine ⟨v, hv, ?_⟩
  have hv' : ((nmT ks t).2.map dN).getLast? = some (dN v) := by rw [List.getLast?_map, hv]; rfl
  unfold nmT at hv' ⊢
  dsimp only [List.map] at e
  simp [M__law_mark, b__law_mark, q_mulAI, q_mulAL, a_wb, q_divW, Function.comp_def, q_starI, q_starIT, a_wp, a_fz, a_fz0, a_fz1, a_ext, a_ins, a_insA, a_pop, a_parN, a_evO0, a_evO1, a_setO0, a_setO1, a_ix2, a_setII, a_zN, a_zC, a_lcO, d_oo, pEq_int, pNe_int, pIxL, pIxT, atI_nat, atI_0, atI_1, atI_2, atI_3, atI_m1, cutLo, cutHi, cutLo1, cutHi1, a_seq, a_ifS, a_B, a_op, a_ov, a_ev0, a_evv, a_evs, a_C, a_V, a_M, a_set, a_setI, a_app, a_ret, a_ex, a_skip, a_no, a_not, a_andT, a_orT, a_and, a_or, a_notV, a_if, a_par, a_call, a_forS, a_sq, a_r1, a_r2, a_en, a_zp, a_asT, a_chI, a_yes, a_lc, a_fn, okA, f_fr, bkA, rsvs, rsv, dvs, on1, on2, d_fr, d_ol, rsO, ndS, sl, putB, asT, setAll, ofO, Dy.ints1, Dy.ints2, nE, wipeE, unw, frO, q_addI, q_addL, q_addT, q_addS, q_sub, q_div, q_mod, q_pow, q_neg, q_cm, pIs, pIsn, q_isN, q_isI, q_isS, q_isT, q_isL, q_isB, q_lenL, q_lenT, pTup, pLst, q_tupL, q_tupT, q_lstL, q_lstT, q_revL, q_slL, q_slT, q_shL, q_shT, q_sqL, q_sqT, q_intI, q_max2, q_min2, q_aII, q_aBI, q_aTI, q_aTT, q_aLL, q_aTL, q_aIT, e, hv']
end Q
namespace Q
open PySem Dy
open L2 (atI ixN)
/-- a comprehension over a list whose elements change a state -/
theorem lc_s {α β σ : Type} {vs : List Nat} {t : Tg} {elt : EF} (enc : α → PyData) (out : β → PyData) (S : σ → Dy.Env) (Inv : σ → Prop) (R : α → β → Prop) (xs : List α) {s : σ} (h0 : Inv s) (hn : xs.length ≤ 100000)
    (step : ∀ x s, x ∈ xs → Inv s → ∃ y s', Inv s' ∧ R x y ∧ (asT t (enc x) (S s) >>= fun e1 => elt e1 >>= fun r => Res.ok (r.1.data, wipeE r.2 vs)) = .ok (out y, S s')) :
    ∃ (ys : List β) (s' : σ), Inv s' ∧ ys.length = xs.length ∧ (∀ (i : Nat) (x : α) (y : β), xs[i]? = some x → ys[i]? = some y → R x y) ∧ lcL vs t fYes elt (xs.map enc) (S s) [] = .ok (ys.map out, S s') := by
  obtain ⟨e, acc, h, ys, s', p, l, r, ea, ee⟩ := lc_inv (vs := vs) (t := t) (test := fYes) (elt := elt) (fun k e acc => ∃ (ys : List β) (s' : σ), Inv s' ∧ ys.length = k ∧ (∀ (i : Nat) (x : α) (y : β), xs[i]? = some x → ys[i]? = some y → R x y) ∧ acc = ys.map out ∧ e = S s') (xs.map enc) (env := S s) (acc := []) ⟨[], s, h0, rfl, fun i x y _ h => by simp at h, rfl, rfl⟩ (fun k d e acc hd hP => by
    obtain ⟨ys, s1, p1, l1, r1, rfl, rfl⟩ := hP
    rw [List.getElem?_map] at hd
    cases hx : xs[k]? with
    | none => rw [hx] at hd; cases hd
    | some x =>
      rw [hx] at hd
      cases hd
      have hk : k < xs.length := lt_of_get hx
      obtain ⟨y, s2, p2, r2, e2⟩ := step x s1 (List.mem_of_getElem? hx) p1
      cases q : asT t (enc x) (S s1) with
      | no => rw [q] at e2; cases e2
      | er x => rw [q] at e2; cases e2
      | ok e1 =>
        rw [q, bind_ok] at e2
        refine ⟨e1, true, e1, rfl, rfl, fun z => (by cases z), fun _ => ?_⟩
        cases q3 : elt e1 with
        | no => rw [q3] at e2; cases e2
        | er x => rw [q3] at e2; cases e2
        | ok r =>
          rw [q3, bind_ok] at e2
          injection e2 with e2
          have h1 := congrArg Prod.fst e2
          have h2 := congrArg Prod.snd e2
          dsimp only at h1 h2
          refine ⟨r.1, r.2, rfl, by rw [List.length_map, l1]; omega, ys ++ [y], s2, p2, by simp [l1], fun i x' y' hx' hy' => ?_, by rw [h1]; simp, h2⟩
          by_cases hi : i < ys.length
          · rw [List.getElem?_append_left hi] at hy'; exact r1 i x' y' hx' hy'
          · have := lt_of_get hy'
            have ei : i = k := by simp at this; omega
            subst ei
            rw [hx] at hx'; cases hx'
            rw [← l1] at hy'
            simp at hy'; subst hy'
            exact r2)
  rw [List.length_map] at l
  exact ⟨ys, s', p, l, r, by rw [h, ea, ee]⟩
theorem un_len (t : List Nd) : (un t).length = t.length := alg_len Tr.nd T0 t
theorem un_app {t u : List Nd} {x : Nat} (h : x < t.length) : gT (un (t ++ u)) x = gT (un t) x := by
  obtain ⟨r, e⟩ := alg_prefix (f := Tr.nd) (d := T0) (t := t) (u := u)
  show gT (alg Tr.nd T0 (t ++ u)) x = _
  rw [e]
  exact gT_app (by show x < (un t).length; rw [un_len]; exact h)
theorem un_snoc (t : List Nd) (n : Nd) : gT (un (t ++ [n])) t.length = .nd n.1 (n.2.map (gT (un t))) := by
  have e : un (t ++ [n]) = un t ++ [.nd n.1 (n.2.map (gT (un t)))] := alg_snoc Tr.nd T0 t n
  rw [e]
  unfold gT
  rw [List.getD_eq_getElem?_getD, List.getElem?_append_right (by rw [un_len]; exact Nat.le_refl _), un_len]
  simp
theorem un_at {as : List Nat} {t : List Nd} (ht : WF as t) {k : Nat} {n : Nd} (hk : t[k]? = some n) : gT (un t) k = .nd n.1 (n.2.map (gT (un t))) := by
  have lk := lt_of_get hk
  have e : t = (t.take k ++ [n]) ++ t.drop (k + 1) := by
    have h1 : n = t[k] := (List.getElem?_eq_some_iff.mp hk).2.symm
    rw [h1, List.append_assoc, List.singleton_append, ← List.drop_eq_getElem_cons lk, List.take_append_drop]
  have lt : (t.take k).length = k := by rw [List.length_take]; omega
  have h1 : gT (un t) k = gT (un (t.take k ++ [n])) k := by
    conv => lhs; rw [e]
    exact un_app (by rw [List.length_append, lt]; simp)
  have h2 := un_snoc (t.take k) n
  rw [lt] at h2
  rw [h1, h2]
  congr 1
  refine List.map_congr_left fun p hp => ?_
  have hp' := (ht k n hk).2 p hp
  conv => rhs; rw [e, List.append_assoc]
  exact (un_app (by rw [lt]; exact hp')).symm
theorem root_at {t : List Nd} (h : t ≠ []) : root t = gT (un t) (t.length - 1) := lastA_eq Tr.nd T0 h
theorem right4 {as : List Nat} {t u : List Nd} (ha : ArOk as) (ht : TrOk as t) (hu : TrOk as u) :
    M__law_right_6 [.fr (encA as), .fr (encT t), .fr (encT u)] = .ok (.fr (.bool true), [.fr (encA as), .fr (encT t), .fr (encT u)]) := by
  obtain ⟨v, h1, e1⟩ := mark4 [] ha ht Kq.nil (by simp)
  have l1 := (nm_len [] t).2
  have tl := ht.len
  obtain ⟨w, h2, e2⟩ := mark4 (nmT [] t).1 ha hu (nmT_q ha Kq.nil (by simp) t ht.wf ht.len).1 (by simp at l1; omega)
  have e1' : M__law_mark [.fr (encT t), .ol []] = .ok (.fr (dN v), [.fr (encT t), .ol ((nmT [] t).1.map fun q => encp q.1)]) := e1
  have eq := nums_eqR ht.wf hu.wf h1 h2
  have eq' : decide ((v : Int) = (w : Int)) = eqR t u := by
    rw [← eq]
    by_cases c : v = w
    · simp [c]
    · have : ¬ ((v : Int) = w) := by omega
      simp [c, this]
  have s1 := same4 ha ht hu
  have s2 := same4 ha hu ht
  rw [eqR_comm u t] at s2
  have er : pRepr (.tuple [encT t, encT u]) = some (.fr (.str (PyData.shown (.tuple [encT t, encT u])))) := by
    refine (Rk.tup (n := 2) (w := 4100000) (ds := [encT t, encT u]) fun d hd => ?_).repr (by decide) (by simp)
    simp at hd
    rcases hd with rfl | rfl
    · exact rkT ha ht.wf ht.len
    · exact rkT ha hu.wf hu.len
  have em : ∀ b : Bool, pMul (.list [.bool b]) (.int 3) = some (.ol [.bool b, .bool b, .bool b]) := fun b => by cases b <;> rfl
  have es : ∀ b : Bool, M__law_same [.fr (.list [.bool b, .bool b, .bool b]), .fr (.list [.bool b, .bool b, .bool b])] = .ok (.fr (.bool true), [.fr (.list [.bool b, .bool b, .bool b]), .fr (.list [.bool b, .bool b, .bool b])]) := fun b =>
    sok4 (Rk.lst (n := 0) (w := 5) fun d hd => by simp at hd; subst hd; exact Rk.bool b) (by decide) (by simp)
  have ep := pEq_str (PyData.shown (.tuple [encT t, encT u])) (PyData.shown (.tuple [encT t, encT u]))
  generalize PyData.shown (.tuple [encT t, encT u]) = SS at *
  generalize eqR t u = b at *
  have em := em b
  have es := es b
  generalize encT t = TT at *
  generalize encT u = UU at *
  generalize ((nmT [] t).1.map fun q => encp q.1) = KK at *
  simp [M__law_right_6, b__law_right_6, q_mulAI, q_mulAL, a_wb, q_divW, Function.comp_def, q_starI, q_starIT, a_wp, a_fz, a_fz0, a_fz1, a_ext, a_ins, a_insA, a_pop, a_parN, a_evO0, a_evO1, a_setO0, a_setO1, a_ix2, a_setII, a_zN, a_zC, a_lcO, d_oo, pEq_int, pNe_int, pIxL, pIxT, atI_nat, atI_0, atI_1, atI_2, atI_3, atI_m1, cutLo, cutHi, cutLo1, cutHi1, a_seq, a_ifS, a_B, a_op, a_ov, a_ev0, a_evv, a_evs, a_C, a_V, a_M, a_set, a_setI, a_app, a_ret, a_ex, a_skip, a_no, a_not, a_andT, a_orT, a_and, a_or, a_notV, a_if, a_par, a_call, a_forS, a_sq, a_r1, a_r2, a_en, a_zp, a_asT, a_chI, a_yes, a_lc, a_fn, okA, f_fr, bkA, rsvs, rsv, dvs, on1, on2, d_fr, d_ol, rsO, ndS, sl, putB, asT, setAll, ofO, Dy.ints1, Dy.ints2, nE, wipeE, unw, frO, q_addI, q_addL, q_addT, q_addS, q_sub, q_div, q_mod, q_pow, q_neg, q_cm, pIs, pIsn, q_isN, q_isI, q_isS, q_isT, q_isL, q_isB, q_lenL, q_lenT, pTup, pLst, q_tupL, q_tupT, q_lstL, q_lstT, q_revL, q_slL, q_slT, q_shL, q_shT, q_sqL, q_sqT, q_intI, q_max2, q_min2, q_aII, q_aBI, q_aTI, q_aTT, q_aLL, q_aTL, q_aIT, er, e1', e2, eq', s1, s2, em, es, ep, pMulA]
end Q
namespace Q
open PySem Dy
open L2 (atI ixN)
theorem a_appO4 (i : Nat) (f : EF) (env : Dy.Env) : fAppO i f env = match env[i]? with
  | some (some (.oo _)) => f env >>= fun r => match r.1, r.2[i]? with
    | .ol w, some (some (.oo rs)) => if rs.length < 1000000 then .ok (.nx, r.2.set i (some (.oo (rs ++ [w])))) else .no
    | _, _ => .no
  | _ => .no := rfl
theorem a_callR (m : Fn) (i j : Nat) (y : Dy.Env → Option Int) (env : Dy.Env) : fCallR m i j y env = match env[i]?, env[j]?, y env with
  | some (some o), some (some (.oo rs)), some k => match ixN rs.length k with
    | some n => match rs[n]? with
      | some w => if i ≠ j then m [o, .ol w] >>= fun q => match q.2 with
        | [o', .ol w'] => .ok (q.1, (env.set i (some o')).set j (some (.oo (rs.set n w'))))
        | _ => .no else .no
      | none => .no
    | none => .no
  | _, _, _ => .no := rfl
theorem pickR {o : O} {xs : List PyData} (h : PenA o) (hx : xs ≠ []) (hl : xs.length < 1000000) : ∃ (i : Nat) (d : PyData) (o' : O), xs[i]? = some d ∧ PenA o' ∧ M__law_pick_2_r1 [o, .ol xs] = .ok (.fr d, [o', .ol xs]) := by
  have h0 : 0 < xs.length := List.length_pos_iff.mpr hx
  obtain ⟨r, o', q1, q2, q3⟩ := drawA_upto h xs.length h0 hl
  have hd := List.getElem?_eq_getElem q1
  exact ⟨r, xs[r], o', hd, q2, by simp [M__law_pick_2_r1, b__law_pick_2, q_mulAI, q_mulAL, a_wb, q_divW, Function.comp_def, q_starI, q_starIT, a_wp, a_fz, a_fz0, a_fz1, a_ext, a_ins, a_insA, a_pop, a_parN, a_evO0, a_evO1, a_setO0, a_setO1, a_ix2, a_setII, a_zN, a_zC, a_lcO, d_oo, pEq_int, pNe_int, pIxL, pIxT, atI_nat, atI_0, atI_1, atI_2, atI_3, atI_m1, cutLo, cutHi, cutLo1, cutHi1, a_seq, a_ifS, a_B, a_op, a_ov, a_ev0, a_evv, a_evs, a_C, a_V, a_M, a_set, a_setI, a_app, a_ret, a_ex, a_skip, a_no, a_not, a_andT, a_orT, a_and, a_or, a_notV, a_if, a_par, a_call, a_forS, a_sq, a_r1, a_r2, a_en, a_zp, a_asT, a_chI, a_yes, a_lc, a_fn, okA, f_fr, bkA, rsvs, rsv, dvs, on1, on2, d_fr, d_ol, rsO, ndS, sl, putB, asT, setAll, ofO, Dy.ints1, Dy.ints2, nE, wipeE, unw, frO, q_addI, q_addL, q_addT, q_addS, q_sub, q_div, q_mod, q_pow, q_neg, q_cm, pIs, pIsn, q_isN, q_isI, q_isS, q_isT, q_isL, q_isB, q_lenL, q_lenT, pTup, pLst, q_tupL, q_tupT, q_lstL, q_lstT, q_revL, q_slL, q_slT, q_shL, q_shT, q_sqL, q_sqT, q_intI, q_max2, q_min2, q_aII, q_aBI, q_aTI, q_aTT, q_aLL, q_aTL, q_aIT, q3, hd]⟩
abbrev encPl (pl : List (List Nat)) : Option O := some (.oo (pl.map (List.map dN)))
def RwOk (U : List Tr) (us : List Nd) (pl : List (List Nat)) : Prop := ∀ (p : Nat) (row : List Nat), pl[p]? = some row → row ≠ [] ∧ row.length ≤ 2 ∧ ∀ x ∈ row, x < us.length ∧ gT (un us) x = gT U p
theorem parts4 {o : O} {U : List Tr} {us : List Nd} {pl : List (List Nat)} {ps : List Nat} {W F a1 a2 a3 : Option O} (hp : PenA o) (hr : RwOk U us pl) (hl : pl.length < 100000) (hps : ∀ p ∈ ps, p < pl.length) (h2 : ps.length ≤ 2) :
    ∃ (ys : List Nat) (o' : O), PenA o' ∧ ys.length = ps.length ∧ (∀ y ∈ ys, y < us.length) ∧ ys.map (gT (un us)) = ps.map (gT U) ∧
      lcL [7] (.nm 7) fYes E1__law_again (ps.map dN) (V__law_again (pen_here := some o) (written_here := W) (found := F) (places := encPl pl) (at_ := a1) (one := a2) (lap := a3)) [] =
        .ok (ys.map dN, V__law_again (pen_here := some o') (written_here := W) (found := F) (places := encPl pl) (at_ := a1) (one := a2) (lap := a3)) := by
  obtain ⟨ys, o', p', l', r', e'⟩ := lc_s (vs := [7]) (t := .nm 7) (elt := E1__law_again) dN dN (fun o : O => V__law_again (pen_here := some o) (written_here := W) (found := F) (places := encPl pl) (at_ := a1) (one := a2) (lap := a3))
    PenA (fun p y => y < us.length ∧ gT (un us) y = gT U p) ps (s := o) hp (by omega) (fun p o hpm hp => by
      have hlt := hps p hpm
      have hrow := List.getElem?_eq_getElem hlt
      obtain ⟨r1, r2, r3⟩ := hr p _ hrow
      generalize pl[p] = row at *
      obtain ⟨i, d, o', hd, p', e'⟩ := pickR (xs := row.map dN) hp (fun z => r1 (List.map_eq_nil_iff.mp z)) (by rw [List.length_map]; omega)
      rw [List.getElem?_map] at hd
      cases hx : row[i]? with
      | none => rw [hx] at hd; cases hd
      | some x =>
        rw [hx] at hd; cases hd
        obtain ⟨q1, q2⟩ := r3 x (List.mem_of_getElem? hx)
        refine ⟨x, o', p', ⟨q1, q2⟩, ?_⟩
        have c1 : ixN (pl.map (List.map dN)).length (p : Int) = some p := ixN_nat _ _ (by rw [List.length_map]; exact hlt)
        have c2 : (pl.map (List.map dN))[p]? = some (row.map dN) := by rw [List.getElem?_map, hrow]; rfl
        have c3 : (pl.map (List.map dN)).set p (row.map dN) = pl.map (List.map dN) := set_same c2
        unfold encPl
        generalize pl.map (List.map dN) = PL at *
        generalize row.map dN = RW at *
        simp [E1__law_again, q_mulAI, q_mulAL, a_wb, q_divW, Function.comp_def, q_starI, q_starIT, a_wp, a_fz, a_fz0, a_fz1, a_ext, a_ins, a_insA, a_pop, a_parN, a_evO0, a_evO1, a_setO0, a_setO1, a_ix2, a_setII, a_zN, a_zC, a_lcO, d_oo, pEq_int, pNe_int, pIxL, pIxT, atI_nat, atI_0, atI_1, atI_2, atI_3, atI_m1, cutLo, cutHi, cutLo1, cutHi1, a_seq, a_ifS, a_B, a_op, a_ov, a_ev0, a_evv, a_evs, a_C, a_V, a_M, a_set, a_setI, a_app, a_ret, a_ex, a_skip, a_no, a_not, a_andT, a_orT, a_and, a_or, a_notV, a_if, a_par, a_call, a_forS, a_sq, a_r1, a_r2, a_en, a_zp, a_asT, a_chI, a_yes, a_lc, a_fn, okA, f_fr, bkA, rsvs, rsv, dvs, on1, on2, d_fr, d_ol, rsO, ndS, sl, putB, asT, setAll, ofO, Dy.ints1, Dy.ints2, nE, wipeE, unw, frO, q_addI, q_addL, q_addT, q_addS, q_sub, q_div, q_mod, q_pow, q_neg, q_cm, pIs, pIsn, q_isN, q_isI, q_isS, q_isT, q_isL, q_isB, q_lenL, q_lenT, pTup, pLst, q_tupL, q_tupT, q_lstL, q_lstT, q_revL, q_slL, q_slT, q_shL, q_shT, q_sqL, q_sqT, q_intI, q_max2, q_min2, q_aII, q_aBI, q_aTI, q_aTT, q_aLL, q_aTL, q_aIT, a_callR, c1, c2, e', c3])
  refine ⟨ys, o', p', l', fun y hy => ?_, ?_, e'⟩
  · obtain ⟨i, hi⟩ := List.getElem?_of_mem hy
    have hlt := lt_of_get hi
    exact (r' i ps[i] y (List.getElem?_eq_getElem (by omega)) hi).1
  · refine List.ext_getElem? fun i => ?_
    rw [List.getElem?_map, List.getElem?_map]
    by_cases hi : i < ps.length
    · have h1 := List.getElem?_eq_getElem hi
      have h2 := List.getElem?_eq_getElem (show i < ys.length by omega)
      rw [h1, h2]
      show some _ = some _
      rw [(r' i _ _ h1 h2).2]
    · rw [List.getElem?_eq_none (by omega), List.getElem?_eq_none (by omega)]; rfl
theorem node4 {o : O} {as : List Nat} {t us : List Nd} {pl : List (List Nat)} {n : Nd} {k j : Nat} {jj : Int} {W : Option O} (hjj : jj = (j : Int)) (hp : PenA o) (ha : ArOk as) (ht : WF as t) (hk : t[k]? = some n) (hw : WF as us) (hr : RwOk (un t) us pl) (hus : us.length ≤ 10000) (hkl : k ≤ 10000)
    (h0 : j = 0 → pl.length = k) (h1 : 1 ≤ j → j = 1 ∧ pl.length = k + 1 ∧ ∃ row, pl[k]? = some row ∧ row.length = 1) :
    ∃ (o' : O) (us' : List Nd) (pl' : List (List Nat)), PenA o' ∧ WF as us' ∧ us'.length = us.length + 1 ∧ RwOk (un t) us' pl' ∧ pl'.length = k + 1 ∧ (∃ row, pl'[k]? = some row ∧ row.length = j + 1) ∧ gT (un us') us.length = gT (un t) k ∧
      (asT (.nm 6) (.int jj) (V__law_again (pen_here := some o) (written_here := W) (found := ol (us.map encN)) (places := encPl pl) (at_ := fr (dN k)) (one := fr (encN n))) >>= L1__law_again) =
        .ok (.nx, V__law_again (pen_here := some o') (written_here := W) (found := ol (us'.map encN)) (places := encPl pl') (at_ := fr (dN k)) (one := fr (encN n))) := by
  have hn := ht k n hk
  have n2 := hn.le2 ha
  have ple : k ≤ pl.length := by
    rcases Nat.eq_zero_or_pos j with z | z
    · rw [h0 z]; exact Nat.le_refl _
    · obtain ⟨_, z2, _⟩ := h1 z; omega
  have plt : pl.length ≤ 10001 := by
    rcases Nat.eq_zero_or_pos j with z | z
    · rw [h0 z]; omega
    · obtain ⟨_, z2, _⟩ := h1 z; omega
  obtain ⟨ys, o', p', l', b', m', e'⟩ := parts4 (W := W) (F := ol (us.map encN)) (a1 := fr (dN k)) (a2 := fr (encN n)) (a3 := some (O.fr (.int jj))) hp hr (by omega) (fun p hp => by have := hn.2 p hp; omega) n2
  have hm : NdOk as us.length (n.1, ys) := ⟨by dsimp only; rw [l']; exact hn.1, b'⟩
  have gnew : gT (un (us ++ [(n.1, ys)])) us.length = gT (un t) k := by rw [un_snoc, un_at ht hk]; dsimp only; rw [m']
  have old : ∀ x, x < us.length → gT (un (us ++ [(n.1, ys)])) x = gT (un us) x := fun x hx => un_app hx
  have c1 : 1 + ys.length ≤ 1000000 := by omega
  have c1' : ys.length ≤ 99999 := by omega
  have c2 : us.length < 1000000 := by omega
  have c3 : pl.length < 1000000 := by omega
  have w' := hw.snoc hm
  have ul : (us ++ [(n.1, ys)]).length = us.length + 1 := by simp
  rcases Nat.eq_zero_or_pos j with hj | hj
  · subst hj
    obtain rfl : jj = 0 := by simpa using hjj
    have hpl := h0 rfl
    refine ⟨o', us ++ [(n.1, ys)], pl ++ [[us.length]], p', w', ul, fun p row hrow => ?_, by simp [hpl], ⟨[us.length], by rw [← hpl]; simp, rfl⟩, gnew, ?_⟩
    · by_cases hpk : p < pl.length
      · rw [List.getElem?_append_left hpk] at hrow
        obtain ⟨q1, q2, q3⟩ := hr p row hrow
        exact ⟨q1, q2, fun x hx => ⟨by have := (q3 x hx).1; omega, by rw [old x (q3 x hx).1]; exact (q3 x hx).2⟩⟩
      · have := lt_of_get hrow
        have ep : p = pl.length := by simp at this; omega
        subst ep
        simp at hrow; subst hrow
        refine ⟨by simp, by simp, fun x hx => ?_⟩
        simp at hx; subst hx
        exact ⟨by omega, by rw [gnew, hpl]⟩
    · have i1 : ixN ((pl.map (List.map dN)).length + 1) (k : Int) = some k := ixN_nat _ _ (by simp [hpl])
      have i2 : ((pl.map (List.map dN)) ++ [([] : List PyData)])[k]? = some [] := by rw [List.getElem?_append_right (by simp [hpl])]; simp [hpl]
      have i3 : ((pl.map (List.map dN)) ++ [([] : List PyData)]).set k [dN us.length] = (pl ++ [[us.length]]).map (List.map dN) := by
        rw [List.set_append_right _ _ (by simp [hpl])]
        simp [hpl]
      have i4 : (pl.map (List.map dN)).length < 1000000 := by rw [List.length_map]; exact c3
      unfold encPl at e' ⊢
      rw [← i3]
      simp only [List.map_append, List.map_cons, List.map_nil, encN]
      generalize pl.map (List.map dN) = PL at *
      simp [L1__law_again, q_mulAI, q_mulAL, a_wb, q_divW, Function.comp_def, q_starI, q_starIT, a_wp, a_fz, a_fz0, a_fz1, a_ext, a_ins, a_insA, a_pop, a_parN, a_evO0, a_evO1, a_setO0, a_setO1, a_ix2, a_setII, a_zN, a_zC, a_lcO, d_oo, pEq_int, pNe_int, pIxL, pIxT, atI_nat, atI_0, atI_1, atI_2, atI_3, atI_m1, cutLo, cutHi, cutLo1, cutHi1, a_seq, a_ifS, a_B, a_op, a_ov, a_ev0, a_evv, a_evs, a_C, a_V, a_M, a_set, a_setI, a_app, a_ret, a_ex, a_skip, a_no, a_not, a_andT, a_orT, a_and, a_or, a_notV, a_if, a_par, a_call, a_forS, a_sq, a_r1, a_r2, a_en, a_zp, a_asT, a_chI, a_yes, a_lc, a_fn, okA, f_fr, bkA, rsvs, rsv, dvs, on1, on2, d_fr, d_ol, rsO, ndS, sl, putB, asT, setAll, ofO, Dy.ints1, Dy.ints2, nE, wipeE, unw, frO, q_addI, q_addL, q_addT, q_addS, q_sub, q_div, q_mod, q_pow, q_neg, q_cm, pIs, pIsn, q_isN, q_isI, q_isS, q_isT, q_isL, q_isB, q_lenL, q_lenT, pTup, pLst, q_tupL, q_tupT, q_lstL, q_lstT, q_revL, q_slL, q_slT, q_shL, q_shT, q_sqL, q_sqT, q_intI, q_max2, q_min2, q_aII, q_aBI, q_aTI, q_aTT, q_aLL, q_aTL, q_aIT, a_callR, a_appO4, a_appI_4, c1, c2, i1, i2, i4, e', encN]
  · obtain ⟨rfl, hpl, row, hrow, rl⟩ := h1 hj
    obtain rfl : jj = 1 := by simpa using hjj
    refine ⟨o', us ++ [(n.1, ys)], pl.set k (row ++ [us.length]), p', w', ul, fun p row' hrow' => ?_, by simp [hpl], ⟨row ++ [us.length], by rw [List.getElem?_set_self (by omega)], by simp [rl]⟩, gnew, ?_⟩
    · by_cases hpk : p = k
      · subst hpk
        rw [List.getElem?_set_self (by omega)] at hrow'
        cases hrow'
        obtain ⟨q1, q2, q3⟩ := hr p row hrow
        refine ⟨by simp, by simp [rl], fun x hx => ?_⟩
        rcases List.mem_append.mp hx with hx | hx
        · exact ⟨by have := (q3 x hx).1; omega, by rw [old x (q3 x hx).1]; exact (q3 x hx).2⟩
        · simp at hx; subst hx
          exact ⟨by omega, gnew⟩
      · rw [List.getElem?_set_ne (Ne.symm hpk)] at hrow'
        obtain ⟨q1, q2, q3⟩ := hr p row' hrow'
        exact ⟨q1, q2, fun x hx => ⟨by have := (q3 x hx).1; omega, by rw [old x (q3 x hx).1]; exact (q3 x hx).2⟩⟩
    · have i1 : ixN (pl.map (List.map dN)).length (k : Int) = some k := ixN_nat _ _ (by simp [hpl])
      have i2 : (pl.map (List.map dN))[k]? = some (row.map dN) := by rw [List.getElem?_map, hrow]; rfl
      have i3 : (pl.map (List.map dN)).set k (row.map dN ++ [dN us.length]) = (pl.set k (row ++ [us.length])).map (List.map dN) := by rw [List.map_set]; simp
      have i4 : (row.map dN).length < 1000000 := by rw [List.length_map, rl]; decide
      unfold encPl at e' ⊢
      rw [← i3]
      generalize pl.map (List.map dN) = PL at *
      generalize row.map dN = RW at *
      simp [L1__law_again, q_mulAI, q_mulAL, a_wb, q_divW, Function.comp_def, q_starI, q_starIT, a_wp, a_fz, a_fz0, a_fz1, a_ext, a_ins, a_insA, a_pop, a_parN, a_evO0, a_evO1, a_setO0, a_setO1, a_ix2, a_setII, a_zN, a_zC, a_lcO, d_oo, pEq_int, pNe_int, pIxL, pIxT, atI_nat, atI_0, atI_1, atI_2, atI_3, atI_m1, cutLo, cutHi, cutLo1, cutHi1, a_seq, a_ifS, a_B, a_op, a_ov, a_ev0, a_evv, a_evs, a_C, a_V, a_M, a_set, a_setI, a_app, a_ret, a_ex, a_skip, a_no, a_not, a_andT, a_orT, a_and, a_or, a_notV, a_if, a_par, a_call, a_forS, a_sq, a_r1, a_r2, a_en, a_zp, a_asT, a_chI, a_yes, a_lc, a_fn, okA, f_fr, bkA, rsvs, rsv, dvs, on1, on2, d_fr, d_ol, rsO, ndS, sl, putB, asT, setAll, ofO, Dy.ints1, Dy.ints2, nE, wipeE, unw, frO, q_addI, q_addL, q_addT, q_addS, q_sub, q_div, q_mod, q_pow, q_neg, q_cm, pIs, pIsn, q_isN, q_isI, q_isS, q_isT, q_isL, q_isB, q_lenL, q_lenT, pTup, pLst, q_tupL, q_tupT, q_lstL, q_lstT, q_revL, q_slL, q_slT, q_shL, q_shT, q_sqL, q_sqT, q_intI, q_max2, q_min2, q_aII, q_aBI, q_aTI, q_aTT, q_aLL, q_aTL, q_aIT, a_callR, a_appO4, a_appI_4, c1, c2, i1, i2, i4, e', encN]
end Q
namespace Q
open PySem Dy
open L2 (atI ixN)
theorem shpNds {as : List Nat} {us : List Nd} (ha : ArOk as) (hw : WF as us) (hl : us.length ≤ 10000) : shp (.list (us.map encN)) = true := by
  refine (Rk.lst (n := 1) (w := 4000) fun d hd => ?_).shp (by decide)
  obtain ⟨n, hn, rfl⟩ := List.mem_map.mp hd
  exact rkN ha (hw.mem hn) (by omega)
abbrev S4 : SF := fIfS (fAndT (fB (fOp (on2 pEq) [.v (fCall M__law_draw_2 [.s 0, .v (fC (.int 4))]), .v (fC (.int 0))])) (fB (fOp (on2 pNe) [.s 2, .v (fOv pLst [])]))) (fApp 2 (fCall M__law_pick_2_r1 [.s 0, .s 2])) (fSkip)
theorem extra4 {o : O} {as : List Nat} {us : List Nd} {W P a1 a2 : Option O} (hp : PenA o) (ha : ArOk as) (hw : WF as us) (hl : us.length ≤ 10000) :
    ∃ (o' : O) (us' : List Nd), PenA o' ∧ WF as us' ∧ us.length ≤ us'.length ∧ us'.length ≤ us.length + 1 ∧ (∀ x, x < us.length → gT (un us') x = gT (un us) x) ∧
      S4 (V__law_again (pen_here := some o) (written_here := W) (found := ol (us.map encN)) (places := P) (at_ := a1) (one := a2)) = .ok (.nx, V__law_again (pen_here := some o') (written_here := W) (found := ol (us'.map encN)) (places := P) (at_ := a1) (one := a2)) := by
  obtain ⟨r, o1, r1, p1, e1⟩ := drawA_lit (mi := 4) 4 hp (by decide) (by decide) rfl
  by_cases hr : r = 0
  · subst hr
    by_cases hu : us = []
    · subst hu
      exact ⟨o1, [], p1, hw, Nat.le_refl _, Nat.le_succ _, fun x h => rfl, by simp [S4, q_mulAI, q_mulAL, a_wb, q_divW, Function.comp_def, q_starI, q_starIT, a_wp, a_fz, a_fz0, a_fz1, a_ext, a_ins, a_insA, a_pop, a_parN, a_evO0, a_evO1, a_setO0, a_setO1, a_ix2, a_setII, a_zN, a_zC, a_lcO, d_oo, pEq_int, pNe_int, pIxL, pIxT, atI_nat, atI_0, atI_1, atI_2, atI_3, atI_m1, cutLo, cutHi, cutLo1, cutHi1, a_seq, a_ifS, a_B, a_op, a_ov, a_ev0, a_evv, a_evs, a_C, a_V, a_M, a_set, a_setI, a_app, a_ret, a_ex, a_skip, a_no, a_not, a_andT, a_orT, a_and, a_or, a_notV, a_if, a_par, a_call, a_forS, a_sq, a_r1, a_r2, a_en, a_zp, a_asT, a_chI, a_yes, a_lc, a_fn, okA, f_fr, bkA, rsvs, rsv, dvs, on1, on2, d_fr, d_ol, rsO, ndS, sl, putB, asT, setAll, ofO, Dy.ints1, Dy.ints2, nE, wipeE, unw, frO, q_addI, q_addL, q_addT, q_addS, q_sub, q_div, q_mod, q_pow, q_neg, q_cm, pIs, pIsn, q_isN, q_isI, q_isS, q_isT, q_isL, q_isB, q_lenL, q_lenT, pTup, pLst, q_tupL, q_tupT, q_lstL, q_lstT, q_revL, q_slL, q_slT, q_shL, q_shT, q_sqL, q_sqT, q_intI, q_max2, q_min2, q_aII, q_aBI, q_aTI, q_aTT, q_aLL, q_aTL, q_aIT, e1, pNe_nil]⟩
    · have ne := pNe_L0 (shpNds ha hw hl)
      obtain ⟨i, d, o2, hd, p2, e2⟩ := pickR (xs := us.map encN) p1 (fun z => hu (List.map_eq_nil_iff.mp z)) (by rw [List.length_map]; omega)
      rw [List.getElem?_map] at hd
      cases hx : us[i]? with
      | none => rw [hx] at hd; cases hd
      | some m =>
        rw [hx] at hd; cases hd
        refine ⟨o2, us ++ [m], p2, hw.snoc (hw.mem (List.mem_of_getElem? hx)), by simp, by simp, fun x hx => un_app hx, ?_⟩
        have c2 : us.length < 1000000 := by omega
        have em : (us.map encN).isEmpty = false := by cases us with | nil => exact absurd rfl hu | cons _ _ => rfl
        rw [em] at ne
        have ml : (us.map encN).length = us.length := List.length_map _
        rw [List.map_append, List.map_cons, List.map_nil]
        rw [← ml] at c2
        generalize us.map encN = UL at *
        generalize encN m = MM at *
        simp [S4, q_mulAI, q_mulAL, a_wb, q_divW, Function.comp_def, q_starI, q_starIT, a_wp, a_fz, a_fz0, a_fz1, a_ext, a_ins, a_insA, a_pop, a_parN, a_evO0, a_evO1, a_setO0, a_setO1, a_ix2, a_setII, a_zN, a_zC, a_lcO, d_oo, pEq_int, pNe_int, pIxL, pIxT, atI_nat, atI_0, atI_1, atI_2, atI_3, atI_m1, cutLo, cutHi, cutLo1, cutHi1, a_seq, a_ifS, a_B, a_op, a_ov, a_ev0, a_evv, a_evs, a_C, a_V, a_M, a_set, a_setI, a_app, a_ret, a_ex, a_skip, a_no, a_not, a_andT, a_orT, a_and, a_or, a_notV, a_if, a_par, a_call, a_forS, a_sq, a_r1, a_r2, a_en, a_zp, a_asT, a_chI, a_yes, a_lc, a_fn, okA, f_fr, bkA, rsvs, rsv, dvs, on1, on2, d_fr, d_ol, rsO, ndS, sl, putB, asT, setAll, ofO, Dy.ints1, Dy.ints2, nE, wipeE, unw, frO, q_addI, q_addL, q_addT, q_addS, q_sub, q_div, q_mod, q_pow, q_neg, q_cm, pIs, pIsn, q_isN, q_isI, q_isS, q_isT, q_isL, q_isB, q_lenL, q_lenT, pTup, pLst, q_tupL, q_tupT, q_lstL, q_lstT, q_revL, q_slL, q_slT, q_shL, q_shT, q_sqL, q_sqT, q_intI, q_max2, q_min2, q_aII, q_aBI, q_aTI, q_aTT, q_aLL, q_aTL, q_aIT, e1, ne, e2, c2]
  · refine ⟨o1, us, p1, hw, Nat.le_refl _, Nat.le_succ _, fun x h => rfl, ?_⟩
    simp [S4, q_mulAI, q_mulAL, a_wb, q_divW, Function.comp_def, q_starI, q_starIT, a_wp, a_fz, a_fz0, a_fz1, a_ext, a_ins, a_insA, a_pop, a_parN, a_evO0, a_evO1, a_setO0, a_setO1, a_ix2, a_setII, a_zN, a_zC, a_lcO, d_oo, pEq_int, pNe_int, pIxL, pIxT, atI_nat, atI_0, atI_1, atI_2, atI_3, atI_m1, cutLo, cutHi, cutLo1, cutHi1, a_seq, a_ifS, a_B, a_op, a_ov, a_ev0, a_evv, a_evs, a_C, a_V, a_M, a_set, a_setI, a_app, a_ret, a_ex, a_skip, a_no, a_not, a_andT, a_orT, a_and, a_or, a_notV, a_if, a_par, a_call, a_forS, a_sq, a_r1, a_r2, a_en, a_zp, a_asT, a_chI, a_yes, a_lc, a_fn, okA, f_fr, bkA, rsvs, rsv, dvs, on1, on2, d_fr, d_ol, rsO, ndS, sl, putB, asT, setAll, ofO, Dy.ints1, Dy.ints2, nE, wipeE, unw, frO, q_addI, q_addL, q_addT, q_addS, q_sub, q_div, q_mod, q_pow, q_neg, q_cm, pIs, pIsn, q_isN, q_isI, q_isS, q_isT, q_isL, q_isB, q_lenL, q_lenT, pTup, pLst, q_tupL, q_tupT, q_lstL, q_lstT, q_revL, q_slL, q_slT, q_shL, q_shT, q_sqL, q_sqT, q_intI, q_max2, q_min2, q_aII, q_aBI, q_aTI, q_aTT, q_aLL, q_aTL, q_aIT, e1, hr]
theorem lap4 {o : O} {as : List Nat} {t us : List Nd} {pl : List (List Nat)} {n : Nd} {k : Nat} {W : Option O} (hp : PenA o) (ha : ArOk as) (ht : WF as t) (hk : t[k]? = some n) (hw : WF as us) (hr : RwOk (un t) us pl) (hpl : pl.length = k) (hus : us.length ≤ 3 * k) (hkl : k ≤ 1000) :
    ∃ (o' : O) (us' : List Nd) (pl' : List (List Nat)), PenA o' ∧ WF as us' ∧ us'.length ≤ 3 * (k + 1) ∧ RwOk (un t) us' pl' ∧ pl'.length = k + 1 ∧ us' ≠ [] ∧ gT (un us') (us'.length - 1) = gT (un t) k ∧
      (asT (.tu [4, 5]) (.tuple [.int (k : Int), encN n]) (V__law_again (pen_here := some o) (written_here := W) (found := ol (us.map encN)) (places := encPl pl)) >>= L2__law_again) =
        .ok (.nx, V__law_again (pen_here := some o') (written_here := W) (found := ol (us'.map encN)) (places := encPl pl')) := by
  obtain ⟨o1, u1, p1, w1, l1, l2, g1, e1⟩ := extra4 (W := W) (P := encPl pl) (a1 := fr (dN k)) (a2 := fr (encN n)) hp ha hw (by omega)
  have hr1 : RwOk (un t) u1 pl := fun p row hrow => by
    obtain ⟨q1, q2, q3⟩ := hr p row hrow
    exact ⟨q1, q2, fun x hx => ⟨by have := (q3 x hx).1; omega, by rw [g1 x (q3 x hx).1]; exact (q3 x hx).2⟩⟩
  obtain ⟨r, o2, r2, p2, e2⟩ := drawA_lit (mi := 3) 3 p1 (by decide) (by decide) rfl
  obtain ⟨c, c1, c2, hc⟩ : ∃ c : Nat, 1 ≤ c ∧ c ≤ 2 ∧ ∀ e : Dy.Env, fR1 (.v (fOp (on2 pAdd) [.v (fC (.int 1)), .v (fOp (on1 pInt) [.v (fOp (on2 pEq) [.v (fC (dN r)), .v (fC (.int 0))])])])) e = .ok (rng 0 c, e) := by
    by_cases z : r = 0
    · subst z
      exact ⟨2, by decide, by decide, fun e => by simp [q_mulAI, q_mulAL, a_wb, q_divW, Function.comp_def, q_starI, q_starIT, a_wp, a_fz, a_fz0, a_fz1, a_ext, a_ins, a_insA, a_pop, a_parN, a_evO0, a_evO1, a_setO0, a_setO1, a_ix2, a_setII, a_zN, a_zC, a_lcO, d_oo, pEq_int, pNe_int, pIxL, pIxT, atI_nat, atI_0, atI_1, atI_2, atI_3, atI_m1, cutLo, cutHi, cutLo1, cutHi1, a_seq, a_ifS, a_B, a_op, a_ov, a_ev0, a_evv, a_evs, a_C, a_V, a_M, a_set, a_setI, a_app, a_ret, a_ex, a_skip, a_no, a_not, a_andT, a_orT, a_and, a_or, a_notV, a_if, a_par, a_call, a_forS, a_sq, a_r1, a_r2, a_en, a_zp, a_asT, a_chI, a_yes, a_lc, a_fn, okA, f_fr, bkA, rsvs, rsv, dvs, on1, on2, d_fr, d_ol, rsO, ndS, sl, putB, asT, setAll, ofO, Dy.ints1, Dy.ints2, nE, wipeE, unw, frO, q_addI, q_addL, q_addT, q_addS, q_sub, q_div, q_mod, q_pow, q_neg, q_cm, pIs, pIsn, q_isN, q_isI, q_isS, q_isT, q_isL, q_isB, q_lenL, q_lenT, pTup, pLst, q_tupL, q_tupT, q_lstL, q_lstT, q_revL, q_slL, q_slT, q_shL, q_shT, q_sqL, q_sqT, q_intI, q_max2, q_min2, q_aII, q_aBI, q_aTI, q_aTT, q_aLL, q_aTL, q_aIT, pInt]⟩
    · exact ⟨1, by decide, by decide, fun e => by simp [q_mulAI, q_mulAL, a_wb, q_divW, Function.comp_def, q_starI, q_starIT, a_wp, a_fz, a_fz0, a_fz1, a_ext, a_ins, a_insA, a_pop, a_parN, a_evO0, a_evO1, a_setO0, a_setO1, a_ix2, a_setII, a_zN, a_zC, a_lcO, d_oo, pEq_int, pNe_int, pIxL, pIxT, atI_nat, atI_0, atI_1, atI_2, atI_3, atI_m1, cutLo, cutHi, cutLo1, cutHi1, a_seq, a_ifS, a_B, a_op, a_ov, a_ev0, a_evv, a_evs, a_C, a_V, a_M, a_set, a_setI, a_app, a_ret, a_ex, a_skip, a_no, a_not, a_andT, a_orT, a_and, a_or, a_notV, a_if, a_par, a_call, a_forS, a_sq, a_r1, a_r2, a_en, a_zp, a_asT, a_chI, a_yes, a_lc, a_fn, okA, f_fr, bkA, rsvs, rsv, dvs, on1, on2, d_fr, d_ol, rsO, ndS, sl, putB, asT, setAll, ofO, Dy.ints1, Dy.ints2, nE, wipeE, unw, frO, q_addI, q_addL, q_addT, q_addS, q_sub, q_div, q_mod, q_pow, q_neg, q_cm, pIs, pIsn, q_isN, q_isI, q_isS, q_isT, q_isL, q_isB, q_lenL, q_lenT, pTup, pLst, q_tupL, q_tupT, q_lstL, q_lstT, q_revL, q_slL, q_slT, q_shL, q_shT, q_sqL, q_sqT, q_intI, q_max2, q_min2, q_aII, q_aBI, q_aTI, q_aTT, q_aLL, q_aTL, q_aIT, pInt, z]⟩
  obtain ⟨s, ⟨q1, q2, q3, q4, q5, q6⟩, e3⟩ := for_r (t := .nm 6) (body := L1__law_again) (fun s : O × List Nd × List (List Nat) => V__law_again (pen_here := some s.1) (written_here := W) (found := ol (s.2.1.map encN)) (places := encPl s.2.2) (at_ := fr (dN k)) (one := fr (encN n)))
    (fun j s => PenA s.1 ∧ WF as s.2.1 ∧ s.2.1.length = u1.length + j ∧ RwOk (un t) s.2.1 s.2.2 ∧ (j = 0 → s.2.2.length = k) ∧ (1 ≤ j → s.2.2.length = k + 1 ∧ (∃ row, s.2.2[k]? = some row ∧ row.length = j) ∧ s.2.1 ≠ [] ∧ gT (un s.2.1) (s.2.1.length - 1) = gT (un t) k)) c (s := (o2, u1, pl))
    ⟨p2, w1, rfl, hr1, fun _ => hpl, fun h => absurd h (by decide)⟩ (fun j s hj hs => by
      obtain ⟨o, us, pl⟩ := s
      obtain ⟨t1, t2, t3, t4, t5, t6⟩ := hs
      dsimp only at t1 t2 t3 t4 t5 t6
      obtain ⟨o', us', pl', a1, a2, a3, a4, a5, a6, a7, a8⟩ := node4 (jj := (j : Int)) (j := j) (W := W) rfl t1 ha ht hk t2 t4 (by omega) (by omega) t5 (fun z => by
        obtain ⟨b1, ⟨row, b2, b3⟩, _⟩ := t6 z
        exact ⟨by omega, b1, row, b2, by omega⟩)
      exact ⟨(o', us', pl'), ⟨a1, a2, by dsimp only; omega, a4, fun z => absurd z (by omega), fun _ => ⟨a5, a6, fun z => by dsimp only at z; rw [z] at a3; simp at a3, by dsimp only; rw [a3, Nat.add_sub_cancel]; exact a7⟩⟩, a8⟩)
  obtain ⟨b1, b2, b3, b4⟩ := q6 c1
  refine ⟨s.1, s.2.1, s.2.2, q1, q2, by omega, q4, b1, b3, b4, ?_⟩
  have eI : fR1 (.v (fOp (on2 pAdd) [.v (fC (.int 1)), .v (fOp (on1 pInt) [.v (fOp (on2 pEq) [.v (fCall M__law_draw_2 [.s 0, .v (fC (.int 3))]), .v (fC (.int 0))])])]))
      (V__law_again (pen_here := some o1) (written_here := W) (found := ol (u1.map encN)) (places := encPl pl) (at_ := fr (dN k)) (one := fr (encN n))) =
      .ok (rng 0 c, V__law_again (pen_here := some o2) (written_here := W) (found := ol (u1.map encN)) (places := encPl pl) (at_ := fr (dN k)) (one := fr (encN n))) := by
    rw [← hc]
    simp [q_mulAI, q_mulAL, a_wb, q_divW, Function.comp_def, q_starI, q_starIT, a_wp, a_fz, a_fz0, a_fz1, a_ext, a_ins, a_insA, a_pop, a_parN, a_evO0, a_evO1, a_setO0, a_setO1, a_ix2, a_setII, a_zN, a_zC, a_lcO, d_oo, pEq_int, pNe_int, pIxL, pIxT, atI_nat, atI_0, atI_1, atI_2, atI_3, atI_m1, cutLo, cutHi, cutLo1, cutHi1, a_seq, a_ifS, a_B, a_op, a_ov, a_ev0, a_evv, a_evs, a_C, a_V, a_M, a_set, a_setI, a_app, a_ret, a_ex, a_skip, a_no, a_not, a_andT, a_orT, a_and, a_or, a_notV, a_if, a_par, a_call, a_forS, a_sq, a_r2, a_en, a_zp, a_asT, a_chI, a_yes, a_lc, a_fn, okA, f_fr, bkA, rsvs, rsv, dvs, on1, on2, d_fr, d_ol, rsO, ndS, sl, putB, asT, setAll, ofO, Dy.ints1, Dy.ints2, nE, wipeE, unw, frO, q_addI, q_addL, q_addT, q_addS, q_sub, q_div, q_mod, q_pow, q_neg, q_cm, pIs, pIsn, q_isN, q_isI, q_isS, q_isT, q_isL, q_isB, q_lenL, q_lenT, pTup, pLst, q_tupL, q_tupT, q_lstL, q_lstT, q_revL, q_slL, q_slT, q_shL, q_shT, q_sqL, q_sqT, q_intI, q_max2, q_min2, q_aII, q_aBI, q_aTI, q_aTT, q_aLL, q_aTL, q_aIT, e2, fR1]
  unfold L2__law_again
  show (asT (.tu [4, 5]) (.tuple [.int (k : Int), encN n]) _ >>= fSeq S4 _) = _
  have ea : asT (.tu [4, 5]) (.tuple [.int (k : Int), encN n]) (V__law_again (pen_here := some o) (written_here := W) (found := ol (us.map encN)) (places := encPl pl)) = .ok (V__law_again (pen_here := some o) (written_here := W) (found := ol (us.map encN)) (places := encPl pl) (at_ := fr (dN k)) (one := fr (encN n))) := rfl
  rw [ea, bind_ok, a_seq, e1, bind_ok]
  show fWp [4, 5, 6] _ _ = _
  rw [a_wp]
  unfold fForS
  rw [eI, bind_ok]
  dsimp only at e3 ⊢
  rw [e3, bind_ok]
  rfl
theorem again4 {o : O} {as : List Nat} {t : List Nd} (hp : PenA o) (ha : ArOk as) (ht : TrOk as t) (hl : t.length ≤ 300) :
    ∃ (u : List Nd) (o' : O), TrOk as u ∧ u.length ≤ 3 * t.length ∧ root u = root t ∧ PenA o' ∧ M__law_again [o, .fr (encT t)] = .ok (.fr (encT u), [o', .fr (encT t)]) := by
  obtain ⟨s, ⟨q1, q2, q3, q4, q5, q6⟩, e⟩ := for_l (t := .tu [4, 5]) (body := L2__law_again) (fun p : Nat × Nd => .tuple [.int (p.1 : Int), encN p.2]) (fun s : O × List Nd × List (List Nat) => V__law_again (pen_here := some s.1) (written_here := fr (encT t)) (found := ol (s.2.1.map encN)) (places := encPl s.2.2))
    (fun pre s => PenA s.1 ∧ WF as s.2.1 ∧ s.2.1.length ≤ 3 * pre.length ∧ RwOk (un t) s.2.1 s.2.2 ∧ s.2.2.length = pre.length ∧ (pre ≠ [] → s.2.1 ≠ [] ∧ gT (un s.2.1) (s.2.1.length - 1) = gT (un t) (pre.length - 1))) (ens t) (s := (o, [], []))
    ⟨hp, WF.nil, Nat.le_refl _, fun p row h => by simp at h, rfl, fun z => absurd rfl z⟩ (fun pre x post s e hs => by
      obtain ⟨o, us, pl⟩ := s
      obtain ⟨t1, t2, t3, t4, t5, t6⟩ := hs
      dsimp only at t1 t2 t3 t4 t5 t6
      have hx := ens_mem (show x ∈ ens t by rw [e]; simp)
      have hx1 : x.1 = pre.length := by
        have h1 : (ens t)[pre.length]? = some x := get_split e
        obtain ⟨a, b⟩ := x
        have h3 := lt_of_get h1
        rw [ens_len] at h3
        obtain ⟨h4, h5⟩ := List.getElem?_eq_some_iff.mp h1
        simp [ens] at h5
        exact h5.1.symm
      have hlt := lt_of_get hx
      rw [hx1] at hx hlt
      obtain ⟨o', us', pl', a1, a2, a3, a4, a5, a6, a7, a8⟩ := lap4 (W := fr (encT t)) t1 ha ht.wf hx t2 t4 t5 t3 (by omega)
      refine ⟨(o', us', pl'), ⟨a1, a2, by simpa using a3, a4, by simpa using a5, fun _ => ⟨a6, by simpa using a7⟩⟩, ?_⟩
      rw [hx1]
      exact a8)
  have hne : ens t ≠ [] := fun z => ht.ne (List.length_eq_zero_iff.mp (by rw [← ens_len, z]; rfl))
  obtain ⟨b1, b2⟩ := q6 hne
  rw [ens_len] at q3 b2
  refine ⟨s.2.1, s.1, ⟨q2, b1, by omega⟩, q3, by rw [root_at b1, root_at ht.ne, b2], q1, ?_⟩
  have l1 : s.2.1.length ≤ 1000000 := by omega
  have l2 : s.2.1.length ≤ 100000 := by omega
  rw [← enumD_ens] at e
  dsimp only [List.map] at e
  unfold encPl at e
  simp only [List.map_nil] at e
  simp [M__law_again, b__law_again, q_mulAI, q_mulAL, a_wb, q_divW, Function.comp_def, q_starI, q_starIT, a_wp, a_fz, a_fz0, a_fz1, a_ext, a_ins, a_insA, a_pop, a_parN, a_evO0, a_evO1, a_setO0, a_setO1, a_ix2, a_setII, a_zN, a_zC, a_lcO, d_oo, pEq_int, pNe_int, pIxL, pIxT, atI_nat, atI_0, atI_1, atI_2, atI_3, atI_m1, cutLo, cutHi, cutLo1, cutHi1, a_seq, a_ifS, a_B, a_op, a_ov, a_ev0, a_evv, a_evs, a_C, a_V, a_M, a_set, a_setI, a_app, a_ret, a_ex, a_skip, a_no, a_not, a_andT, a_orT, a_and, a_or, a_notV, a_if, a_par, a_call, a_forS, a_sq, a_r1, a_r2, a_en, a_zp, a_asT, a_chI, a_yes, a_lc, a_fn, okA, f_fr, bkA, rsvs, rsv, dvs, on1, on2, d_fr, d_ol, rsO, ndS, sl, putB, asT, setAll, ofO, Dy.ints1, Dy.ints2, nE, wipeE, unw, frO, q_addI, q_addL, q_addT, q_addS, q_sub, q_div, q_mod, q_pow, q_neg, q_cm, pIs, pIsn, q_isN, q_isI, q_isS, q_isT, q_isL, q_isB, q_lenL, q_lenT, pTup, pLst, q_tupL, q_tupT, q_lstL, q_lstT, q_revL, q_slL, q_slT, q_shL, q_shT, q_sqL, q_sqT, q_intI, q_max2, q_min2, q_aII, q_aBI, q_aTI, q_aTT, q_aLL, q_aTL, q_aIT, pOo0, e, l1, l2]
end Q
namespace Q
open PySem Dy
open L2 (atI ixN)
theorem WF.put {as : List Nat} {t : List Nd} {k : Nat} {n : Nd} (h : WF as t) (hn : NdOk as k n) : WF as (t.set k n) := fun i m hi => by
  by_cases e : k = i
  · subst e
    have lt := lt_of_get hi
    rw [List.length_set] at lt
    rw [List.getElem?_set_self lt] at hi
    cases hi; exact hn
  · rw [List.getElem?_set_ne e] at hi
    exact h i m hi
theorem q_revAT4 (xs : List PyData) : pRevA (.tuple xs) = some (.fr (.tuple xs.reverse)) := rfl
theorem other4 {o : O} {as : List Nat} {t : List Nd} (hp : PenA o) (ha : ArOk as) (ht : TrOk as t) (hl : t.length ≤ 300) :
    ∃ (u : List Nd) (o' : O), TrOk as u ∧ PenA o' ∧ M__law_other [o, .fr (encA as), .fr (encT t)] = .ok (.fr (encT u), [o', .fr (encA as), .fr (encT t)]) := by
  have al := ha.len
  obtain ⟨k, o1, k1, p1, e1⟩ := drawA_upto hp t.length (List.length_pos_iff.mpr ht.ne) (by omega)
  have hk := List.getElem?_eq_getElem k1
  generalize t[k] = n at *
  have hn := ht.wf k n hk
  have n2 := hn.le2 ha
  have e0 : ∀ e : Dy.Env, e = V__law_other (pen_here := some o1) (arities_here := fr (encA as)) (written_here := fr (.tuple (t.map encN))) (at_ := fr (dN k)) (one := fr (encN n)) → lcL [7, 8] (.tu [7, 8]) T1__law_other E1__law_other (enumD 0 (as.map dN)) e [] = .ok ((lvs (fun a => decide (a = n.2.length)) as).map dN, e) := fun e he => by
    rw [lc_fl (fun q : Nat × Nat => .tuple [.int (q.1 : Int), dN q.2]) (fun q => if decide (q.2 = n.2.length) = true then some (dN q.1) else none) (ens as) (enumD_ens _ _) (fun q hq => ?_) (by rw [ens_len]; omega), lvs_enc (fun a => decide (a = n.2.length))]
    subst he
    by_cases z : q.2 = n.2.length
    · simp [T1__law_other, E1__law_other, q_mulAI, q_mulAL, a_wb, q_divW, Function.comp_def, q_starI, q_starIT, a_wp, a_fz, a_fz0, a_fz1, a_ext, a_ins, a_insA, a_pop, a_parN, a_evO0, a_evO1, a_setO0, a_setO1, a_ix2, a_setII, a_zN, a_zC, a_lcO, d_oo, pEq_int, pNe_int, pIxL, pIxT, atI_nat, atI_0, atI_1, atI_2, atI_3, atI_m1, cutLo, cutHi, cutLo1, cutHi1, a_seq, a_ifS, a_B, a_op, a_ov, a_ev0, a_evv, a_evs, a_C, a_V, a_M, a_set, a_setI, a_app, a_ret, a_ex, a_skip, a_no, a_not, a_andT, a_orT, a_and, a_or, a_notV, a_if, a_par, a_call, a_forS, a_sq, a_r1, a_r2, a_en, a_zp, a_asT, a_chI, a_yes, a_lc, a_fn, okA, f_fr, bkA, rsvs, rsv, dvs, on1, on2, d_fr, d_ol, rsO, ndS, sl, putB, asT, setAll, ofO, Dy.ints1, Dy.ints2, nE, wipeE, unw, frO, q_addI, q_addL, q_addT, q_addS, q_sub, q_div, q_mod, q_pow, q_neg, q_cm, pIs, pIsn, q_isN, q_isI, q_isS, q_isT, q_isL, q_isB, q_lenL, q_lenT, pTup, pLst, q_tupL, q_tupT, q_lstL, q_lstT, q_revL, q_slL, q_slT, q_shL, q_shT, q_sqL, q_sqT, q_intI, q_max2, q_min2, q_aII, q_aBI, q_aTI, q_aTT, q_aLL, q_aTL, q_aIT, z]
    · have z' : ¬ ((q.2 : Int) = n.2.length) := by omega
      simp [T1__law_other, E1__law_other, q_mulAI, q_mulAL, a_wb, q_divW, Function.comp_def, q_starI, q_starIT, a_wp, a_fz, a_fz0, a_fz1, a_ext, a_ins, a_insA, a_pop, a_parN, a_evO0, a_evO1, a_setO0, a_setO1, a_ix2, a_setII, a_zN, a_zC, a_lcO, d_oo, pEq_int, pNe_int, pIxL, pIxT, atI_nat, atI_0, atI_1, atI_2, atI_3, atI_m1, cutLo, cutHi, cutLo1, cutHi1, a_seq, a_ifS, a_B, a_op, a_ov, a_ev0, a_evv, a_evs, a_C, a_V, a_M, a_set, a_setI, a_app, a_ret, a_ex, a_skip, a_no, a_not, a_andT, a_orT, a_and, a_or, a_notV, a_if, a_par, a_call, a_forS, a_sq, a_r1, a_r2, a_en, a_zp, a_asT, a_chI, a_yes, a_lc, a_fn, okA, f_fr, bkA, rsvs, rsv, dvs, on1, on2, d_fr, d_ol, rsO, ndS, sl, putB, asT, setAll, ofO, Dy.ints1, Dy.ints2, nE, wipeE, unw, frO, q_addI, q_addL, q_addT, q_addS, q_sub, q_div, q_mod, q_pow, q_neg, q_cm, pIs, pIsn, q_isN, q_isI, q_isS, q_isT, q_isL, q_isB, q_lenL, q_lenT, pTup, pLst, q_tupL, q_tupT, q_lstL, q_lstT, q_revL, q_slL, q_slT, q_shL, q_shT, q_sqL, q_sqT, q_intI, q_max2, q_min2, q_aII, q_aBI, q_aTI, q_aTT, q_aLL, q_aTL, q_aIT, z, z']
  have hv : n.1 ∈ lvs (fun a => decide (a = n.2.length)) as := lvs_mem.mpr ⟨_, hn.1, by simp⟩
  have hne : lvs (fun a => decide (a = n.2.length)) as ≠ [] := fun z => by rw [z] at hv; cases hv
  obtain ⟨d, o2, hd, p2, e2⟩ := pickA (xs := (lvs (fun a => decide (a = n.2.length)) as).map dN) p1 (fun z => hne (List.map_eq_nil_iff.mp z)) (by have := lvs_len (fun a => decide (a = n.2.length)) as; simp; omega)
  obtain ⟨op, hop, rfl⟩ := List.mem_map.mp hd
  obtain ⟨a0, ha0, hz⟩ := lvs_mem.mp hop
  have hz : a0 = n.2.length := by simpa using hz
  subst hz
  obtain ⟨r, o3, r3, p3, e3⟩ := drawA_lit (mi := 2) 2 p2 (by decide) (by decide) rfl
  have e0 := e0 _ rfl
  have put : ∀ m : Nd, NdOk as k m → TrOk as (t.set k m) ∧ (t.set k m).map encN = (t.map encN).take k ++ encN m :: (t.map encN).drop (k + 1) := fun m hm => by
    refine ⟨⟨ht.wf.put hm, fun z => ht.ne (by have := congrArg List.length z; simp at this; exact this), by rw [List.length_set]; exact ht.len⟩, ?_⟩
    rw [List.map_set, List.set_eq_take_append_cons_drop, if_pos (by rw [List.length_map]; exact k1)]
  have d1 : cutD (t.map encN) none (some (k : Int)) = (t.map encN).take k := cutHi _ _
  have d2 : cutD (t.map encN) (some ((k : Int) + 1)) none = (t.map encN).drop (k + 1) := cutLo _ (k + 1)
  have hk' : (t.map encN)[k]? = some (encN n) := by rw [List.getElem?_map, hk]; rfl
  have tl : (t.map encN).length = t.length := List.length_map _
  rw [← tl] at e1 k1
  have c1 : (t.map encN).length ≤ 300 := by omega
  have c2 : (List.take k (t.map encN)).length ≤ 300 := by rw [List.length_take]; omega
  have c3 : (List.drop (k + 1) (t.map encN)).length ≤ 300 := by rw [List.length_drop]; omega
  obtain ⟨m, hm, em⟩ : ∃ m : Nd, NdOk as k m ∧ M__law_other [o, .fr (encA as), .fr (.tuple (t.map encN))] = .ok (.fr (.tuple ((t.map encN).take k ++ encN m :: (t.map encN).drop (k + 1))), [o3, .fr (encA as), .fr (.tuple (t.map encN))]) := by
    generalize (lvs (fun a => decide (a = n.2.length)) as).map dN = LL at *
    generalize hT : t.map encN = T at *
    generalize hA : List.take k T = TA at *
    generalize hB : List.drop (k + 1) T = TB at *
    have c4 : TA.length + 1 ≤ 1000000 := by omega
    have c5 : TA.length + (TB.length + 1) ≤ 1000000 := by omega
    have c6 : TA.length + 1 + TB.length ≤ 1000000 := by omega
    have c7 : 1 + n.2.length ≤ 1000000 := by omega
    match r, r3 with
    | 0, _ =>
      refine ⟨(op, n.2), ⟨ha0, hn.2⟩, ?_⟩
      simp [M__law_other, b__law_other, q_mulAI, q_mulAL, a_wb, q_divW, Function.comp_def, q_starI, q_starIT, a_wp, a_fz, a_fz0, a_fz1, a_ext, a_ins, a_insA, a_pop, a_parN, a_evO0, a_evO1, a_setO0, a_setO1, a_ix2, a_setII, a_zN, a_zC, a_lcO, d_oo, pEq_int, pNe_int, pIxL, pIxT, atI_nat, atI_0, atI_1, atI_2, atI_3, atI_m1, cutLo, cutHi, cutLo1, cutHi1, a_seq, a_ifS, a_B, a_op, a_ov, a_ev0, a_evv, a_evs, a_C, a_V, a_M, a_set, a_setI, a_app, a_ret, a_ex, a_skip, a_no, a_not, a_andT, a_orT, a_and, a_or, a_notV, a_if, a_par, a_call, a_forS, a_sq, a_r1, a_r2, a_en, a_zp, a_asT, a_chI, a_yes, a_lc, a_fn, okA, f_fr, bkA, rsvs, rsv, dvs, on1, on2, d_fr, d_ol, rsO, ndS, sl, putB, asT, setAll, ofO, Dy.ints1, Dy.ints2, nE, wipeE, unw, frO, q_addI, q_addL, q_addT, q_addS, q_sub, q_div, q_mod, q_pow, q_neg, q_cm, pIs, pIsn, q_isN, q_isI, q_isS, q_isT, q_isL, q_isB, q_lenL, q_lenT, pTup, pLst, q_tupL, q_tupT, q_lstL, q_lstT, q_revL, q_slL, q_slT, q_shL, q_shT, q_sqL, q_sqT, q_intI, q_max2, q_min2, q_aII, q_aBI, q_aTI, q_aTT, q_aLL, q_aTL, q_aIT, e1, hk', e0, e2, e3, d1, d2, q_revAT4, c4, c5, c6, c7, encN]
    | 1, _ =>
      refine ⟨(n.1, n.2.reverse), ⟨by dsimp only; rw [List.length_reverse]; exact hn.1, fun p hp => hn.2 p (List.mem_reverse.mp hp)⟩, ?_⟩
      simp [M__law_other, b__law_other, q_mulAI, q_mulAL, a_wb, q_divW, Function.comp_def, q_starI, q_starIT, a_wp, a_fz, a_fz0, a_fz1, a_ext, a_ins, a_insA, a_pop, a_parN, a_evO0, a_evO1, a_setO0, a_setO1, a_ix2, a_setII, a_zN, a_zC, a_lcO, d_oo, pEq_int, pNe_int, pIxL, pIxT, atI_nat, atI_0, atI_1, atI_2, atI_3, atI_m1, cutLo, cutHi, cutLo1, cutHi1, a_seq, a_ifS, a_B, a_op, a_ov, a_ev0, a_evv, a_evs, a_C, a_V, a_M, a_set, a_setI, a_app, a_ret, a_ex, a_skip, a_no, a_not, a_andT, a_orT, a_and, a_or, a_notV, a_if, a_par, a_call, a_forS, a_sq, a_r1, a_r2, a_en, a_zp, a_asT, a_chI, a_yes, a_lc, a_fn, okA, f_fr, bkA, rsvs, rsv, dvs, on1, on2, d_fr, d_ol, rsO, ndS, sl, putB, asT, setAll, ofO, Dy.ints1, Dy.ints2, nE, wipeE, unw, frO, q_addI, q_addL, q_addT, q_addS, q_sub, q_div, q_mod, q_pow, q_neg, q_cm, pIs, pIsn, q_isN, q_isI, q_isS, q_isT, q_isL, q_isB, q_lenL, q_lenT, pTup, pLst, q_tupL, q_tupT, q_lstL, q_lstT, q_revL, q_slL, q_slT, q_shL, q_shT, q_sqL, q_sqT, q_intI, q_max2, q_min2, q_aII, q_aBI, q_aTI, q_aTT, q_aLL, q_aTL, q_aIT, e1, hk', e0, e2, e3, d1, d2, q_revAT4, c4, c5, c6, c7, encN]
  obtain ⟨q1, q2⟩ := put m hm
  exact ⟨t.set k m, o3, q1, p3, by show _ = Res.ok (O.fr (PyData.tuple ((t.set k m).map encN)), _); rw [q2]; exact em⟩
def wfB (as : List Nat) (t : List Nd) : Bool := (ens t).all fun p => decide (as[p.2.1]? = some p.2.2.length) && p.2.2.all fun x => decide (x < p.1)
theorem wfB_ok {as : List Nat} {t : List Nd} (h : wfB as t = true) : WF as t := fun k n hk => by
  have := List.all_eq_true.mp h _ (mem_ens hk)
  simp only [Bool.and_eq_true, decide_eq_true_eq, List.all_eq_true] at this
  exact this
def full4 : List Nd := (0, []) :: (List.range 60).map fun k => (1, [k, k])
def low4 : List Nd := (0, []) :: (0, []) :: (List.range 60).map fun k => (1, [k, k + 1])
theorem ar02 : ArOk [0, 2] := ⟨by decide, by decide, by decide⟩
theorem tr_full : TrOk [0, 2] full4 := ⟨wfB_ok (by decide +kernel), by decide +kernel, by decide +kernel⟩
theorem tr_low : TrOk [0, 2] low4 := ⟨wfB_ok (by decide +kernel), by decide +kernel, by decide +kernel⟩
theorem tr_f60 : TrOk [0, 2] (full4.take 60) := ⟨wfB_ok (by decide +kernel), by decide +kernel, by decide +kernel⟩
theorem sFF : M_same [.fr (.tuple [.int 0, .int 2]), .fr (encT full4), .fr (encT full4)] = .ok (.fr (.bool true), [.fr (.tuple [.int 0, .int 2]), .fr (encT full4), .fr (encT full4)]) := by
  have e := same4 ar02 tr_full tr_full
  rw [eqR_iff.mpr rfl] at e
  exact e
mutual
def Tr.h : Tr → Nat
  | .nd _ xs => Tr.hs xs + 1
def Tr.hs : List Tr → Nat
  | [] => 0
  | x :: xs => max x.h (Tr.hs xs)
end
theorem full_at {k : Nat} (hk : k < 60) : full4[k + 1]? = some (1, [k, k]) := by simp [full4, hk]
theorem low_at {k : Nat} (hk : k < 60) : low4[k + 2]? = some (1, [k, k + 1]) := by simp [low4, hk]
theorem full_h : ∀ k : Nat, k ≤ 60 → (gT (un full4) k).h = k + 1
  | 0, _ => by
    rw [un_at tr_full.wf (k := 0) (n := (0, [])) rfl]
    simp [Tr.h, Tr.hs]
  | k + 1, hk => by
    have ih := full_h k (by omega)
    rw [un_at tr_full.wf (full_at (by omega))]
    simp [Tr.h, Tr.hs, ih]
theorem low_h : ∀ k : Nat, k ≤ 60 → (gT (un low4) (k + 1)).h = k + 1 ∧ (gT (un low4) k).h ≤ k + 1
  | 0, _ => by
    rw [un_at tr_low.wf (k := 0) (n := (0, [])) rfl, un_at tr_low.wf (k := 0 + 1) (n := (0, [])) rfl]
    simp [Tr.h, Tr.hs]
  | k + 1, hk => by
    obtain ⟨h1, h2⟩ := low_h k (by omega)
    refine ⟨?_, by omega⟩
    show (gT (un low4) (k + 2)).h = _
    rw [un_at tr_low.wf (low_at (by omega))]
    simp [Tr.h, Tr.hs, h1]
    omega
theorem len_full : full4.length = 61 := by simp [full4]
theorem len_low : low4.length = 62 := by simp [low4]
theorem root_full : root full4 = .nd 1 [gT (un full4) 59, gT (un full4) 59] := by
  rw [root_at tr_full.ne, len_full, un_at tr_full.wf (k := 60) (full_at (k := 59) (by decide))]
  rfl
theorem root_low : root low4 = .nd 1 [gT (un low4) 59, gT (un low4) 60] := by
  rw [root_at tr_low.ne, len_low, un_at tr_low.wf (k := 61) (low_at (k := 59) (by decide))]
  rfl
theorem sFL : M_same [.fr (.tuple [.int 0, .int 2]), .fr (encT full4), .fr (encT low4)] = .ok (.fr (.bool false), [.fr (.tuple [.int 0, .int 2]), .fr (encT full4), .fr (encT low4)]) := by
  have e := same4 ar02 tr_full tr_low
  have f : eqR full4 low4 = false := by
    rw [← Bool.not_eq_true, eqR_iff, root_full, root_low]
    intro h
    simp only [Tr.nd.injEq, List.cons.injEq, true_and, and_true] at h
    have h1 := (low_h 58 (by decide)).1
    have h2 := (low_h 59 (by decide)).1
    rw [← h.1] at h1
    rw [← h.2] at h2
    omega
  rw [f] at e
  exact e
theorem len_f60 : (full4.take 60).length = 60 := by rw [List.length_take, len_full]; rfl
theorem sFS : M_same [.fr (.tuple [.int 0, .int 2]), .fr (encT full4), .fr (encT (full4.take 60))] = .ok (.fr (.bool false), [.fr (.tuple [.int 0, .int 2]), .fr (encT full4), .fr (encT (full4.take 60))]) := by
  have e := same4 ar02 tr_full tr_f60
  have f : eqR full4 (full4.take 60) = false := by
    rw [← Bool.not_eq_true, eqR_iff]
    intro h
    have h1 := full_h 60 (by decide)
    have h2 := full_h 59 (by decide)
    have e1 : root full4 = gT (un full4) 60 := by rw [root_at tr_full.ne, len_full]
    have e2 : root (full4.take 60) = gT (un full4) 59 := by
      rw [root_at tr_f60.ne, len_f60]
      have := un_app (t := full4.take 60) (u := full4.drop 60) (x := 59) (by rw [len_f60]; decide)
      rw [List.take_append_drop] at this
      exact this.symm
    rw [e1, e2] at h
    rw [h] at h1
    omega
  rw [f] at e
  exact e
end Q
namespace Q
open PySem Dy
open L2 (atI ixN)
theorem nx4 {a b : SF} {e e' : Dy.Env} {r : Res (Fl × Dy.Env)} (h : a e = .ok (.nx, e')) (k : b e' = r) : fSeq a b e = r := by
  show (a e >>= fun r => match r.1 with | .nx => b r.2 | _ => .ok r) = _
  rw [h]; exact k
theorem cut4 (t : List Nd) : ∃ m, cutD (t.map encN) none (some (-1)) = (t.take m).map encN := by
  unfold cutD
  rw [HT.sIx_none, List.drop_zero]
  exact ⟨_, (List.map_take).symm⟩
/-- what stands in the list: a tree, or () -/
def Ok4 (as : List Nat) (d : PyData) : Prop := ∃ w : List Nd, d = encT w ∧ (w = [] ∨ TrOk as w)
theorem step4 {as : List Nat} {t : List Nd} {d : PyData} {sc o a : Option O} {S : Option O} (ha : ArOk as) (ht : TrOk as t) (h : Ok4 as d) :
    (asT (.nm 12) d (V_law_20 (script := sc) (pen_here := o) (arities_here := fr (encA as)) (written_here := fr (encT t)) (again_here := a) (some_ := S)) >>= L1_law_20) =
      .ok (.nx, V_law_20 (script := sc) (pen_here := o) (arities_here := fr (encA as)) (written_here := fr (encT t)) (again_here := a) (some_ := S)) := by
  obtain ⟨w, rfl, h⟩ := h
  rcases h with rfl | hw
  · have e : pNe (encT []) (.tuple []) = some (.fr (.bool false)) := by show pNe (.tuple []) (.tuple []) = _; rw [pNe_T _ _ shpT0 shpT0]; rfl
    simp [L1_law_20, q_mulAI, q_mulAL, a_wb, q_divW, Function.comp_def, q_starI, q_starIT, a_wp, a_fz, a_fz0, a_fz1, a_ext, a_ins, a_insA, a_pop, a_parN, a_evO0, a_evO1, a_setO0, a_setO1, a_ix2, a_setII, a_zN, a_zC, a_lcO, d_oo, pEq_int, pNe_int, pIxL, pIxT, atI_nat, atI_0, atI_1, atI_2, atI_3, atI_m1, cutLo, cutHi, cutLo1, cutHi1, a_seq, a_ifS, a_B, a_op, a_ov, a_ev0, a_evv, a_evs, a_C, a_V, a_M, a_set, a_setI, a_app, a_ret, a_ex, a_skip, a_no, a_not, a_andT, a_orT, a_and, a_or, a_notV, a_if, a_par, a_call, a_forS, a_sq, a_r1, a_r2, a_en, a_zp, a_asT, a_chI, a_yes, a_lc, a_fn, okA, f_fr, bkA, rsvs, rsv, dvs, on1, on2, d_fr, d_ol, rsO, ndS, sl, putB, asT, setAll, ofO, Dy.ints1, Dy.ints2, nE, wipeE, unw, frO, q_addI, q_addL, q_addT, q_addS, q_sub, q_div, q_mod, q_pow, q_neg, q_cm, pIs, pIsn, q_isN, q_isI, q_isS, q_isT, q_isL, q_isB, q_lenL, q_lenT, pTup, pLst, q_tupL, q_tupT, q_lstL, q_lstT, q_revL, q_slL, q_slT, q_shL, q_shT, q_sqL, q_sqT, q_intI, q_max2, q_min2, q_aII, q_aBI, q_aTI, q_aTT, q_aLL, q_aTL, q_aIT, e]
  · have e : pNe (encT w) (.tuple []) = some (.fr (.bool true)) := by
      rw [pNe_T _ _ ((rkT ha hw.wf hw.len).shp (by decide)) shpT0, eqvAll_nil]
      have := hw.ne
      cases w with
      | nil => exact absurd rfl this
      | cons _ _ => rfl
    have er := right4 ha ht hw
    generalize encT w = TW at *
    generalize encT t = TT at *
    simp [L1_law_20, q_mulAI, q_mulAL, a_wb, q_divW, Function.comp_def, q_starI, q_starIT, a_wp, a_fz, a_fz0, a_fz1, a_ext, a_ins, a_insA, a_pop, a_parN, a_evO0, a_evO1, a_setO0, a_setO1, a_ix2, a_setII, a_zN, a_zC, a_lcO, d_oo, pEq_int, pNe_int, pIxL, pIxT, atI_nat, atI_0, atI_1, atI_2, atI_3, atI_m1, cutLo, cutHi, cutLo1, cutHi1, a_seq, a_ifS, a_B, a_op, a_ov, a_ev0, a_evv, a_evs, a_C, a_V, a_M, a_set, a_setI, a_app, a_ret, a_ex, a_skip, a_no, a_not, a_andT, a_orT, a_and, a_or, a_notV, a_if, a_par, a_call, a_forS, a_sq, a_r1, a_r2, a_en, a_zp, a_asT, a_chI, a_yes, a_lc, a_fn, okA, f_fr, bkA, rsvs, rsv, dvs, on1, on2, d_fr, d_ol, rsO, ndS, sl, putB, asT, setAll, ofO, Dy.ints1, Dy.ints2, nE, wipeE, unw, frO, q_addI, q_addL, q_addT, q_addS, q_sub, q_div, q_mod, q_pow, q_neg, q_cm, pIs, pIsn, q_isN, q_isI, q_isS, q_isT, q_isL, q_isB, q_lenL, q_lenT, pTup, pLst, q_tupL, q_tupT, q_lstL, q_lstT, q_revL, q_slL, q_slT, q_shL, q_shT, q_sqL, q_sqT, q_intI, q_max2, q_min2, q_aII, q_aBI, q_aTI, q_aTT, q_aLL, q_aTL, q_aIT, e, er]
theorem lap4L {sc : PyData} {o : O} {j : Nat} (hp : PenA o) :
    ∃ o', PenA o' ∧ (asT (.nm 6) (.int (j : Int)) (V_law_20 (script := fr sc) (pen_here := some o)) >>= L2_law_20) = .ok (.nx, V_law_20 (script := fr sc) (pen_here := some o')) := by
  obtain ⟨as, o1, ha, h0, hl, p1, e1⟩ := aritiesA hp
  obtain ⟨up, u1, u2, eu⟩ : ∃ up : Nat, 0 < up ∧ up ≤ 30 ∧ ∀ X : Option O, fOp (on2 pIx) [.v (fOv pLst [.v (fC (.int 5)), .v (fC (.int 12)), .v (fC (.int 30))]), .v (fOp (on2 pMod) [.s 6, .v (fC (.int 3))])] (V_law_20 (script := fr sc) (pen_here := some o1) (lap := fr (.int (j : Int))) (arities_here := X)) = .ok (.fr (dN up), V_law_20 (script := fr sc) (pen_here := some o1) (lap := fr (.int (j : Int))) (arities_here := X)) := by
    have hm : (j : Int) % 3 = ((j % 3 : Nat) : Int) := by omega
    rcases (by omega : j % 3 = 0 ∨ j % 3 = 1 ∨ j % 3 = 2) with h | h | h
    · exact ⟨5, by decide, by decide, fun X => by simp [q_mulAI, q_mulAL, a_wb, q_divW, Function.comp_def, q_starI, q_starIT, a_wp, a_fz, a_fz0, a_fz1, a_ext, a_ins, a_insA, a_pop, a_parN, a_evO0, a_evO1, a_setO0, a_setO1, a_ix2, a_setII, a_zN, a_zC, a_lcO, d_oo, pEq_int, pNe_int, pIxL, pIxT, atI_nat, atI_0, atI_1, atI_2, atI_3, atI_m1, cutLo, cutHi, cutLo1, cutHi1, a_seq, a_ifS, a_B, a_op, a_ov, a_ev0, a_evv, a_evs, a_C, a_V, a_M, a_set, a_setI, a_app, a_ret, a_ex, a_skip, a_no, a_not, a_andT, a_orT, a_and, a_or, a_notV, a_if, a_par, a_call, a_forS, a_sq, a_r1, a_r2, a_en, a_zp, a_asT, a_chI, a_yes, a_lc, a_fn, okA, f_fr, bkA, rsvs, rsv, dvs, on1, on2, d_fr, d_ol, rsO, ndS, sl, putB, asT, setAll, ofO, Dy.ints1, Dy.ints2, nE, wipeE, unw, frO, q_addI, q_addL, q_addT, q_addS, q_sub, q_div, q_mod, q_pow, q_neg, q_cm, pIs, pIsn, q_isN, q_isI, q_isS, q_isT, q_isL, q_isB, q_lenL, q_lenT, pTup, pLst, q_tupL, q_tupT, q_lstL, q_lstT, q_revL, q_slL, q_slT, q_shL, q_shT, q_sqL, q_sqT, q_intI, q_max2, q_min2, q_aII, q_aBI, q_aTI, q_aTT, q_aLL, q_aTL, q_aIT, hm, h]⟩
    · exact ⟨12, by decide, by decide, fun X => by simp [q_mulAI, q_mulAL, a_wb, q_divW, Function.comp_def, q_starI, q_starIT, a_wp, a_fz, a_fz0, a_fz1, a_ext, a_ins, a_insA, a_pop, a_parN, a_evO0, a_evO1, a_setO0, a_setO1, a_ix2, a_setII, a_zN, a_zC, a_lcO, d_oo, pEq_int, pNe_int, pIxL, pIxT, atI_nat, atI_0, atI_1, atI_2, atI_3, atI_m1, cutLo, cutHi, cutLo1, cutHi1, a_seq, a_ifS, a_B, a_op, a_ov, a_ev0, a_evv, a_evs, a_C, a_V, a_M, a_set, a_setI, a_app, a_ret, a_ex, a_skip, a_no, a_not, a_andT, a_orT, a_and, a_or, a_notV, a_if, a_par, a_call, a_forS, a_sq, a_r1, a_r2, a_en, a_zp, a_asT, a_chI, a_yes, a_lc, a_fn, okA, f_fr, bkA, rsvs, rsv, dvs, on1, on2, d_fr, d_ol, rsO, ndS, sl, putB, asT, setAll, ofO, Dy.ints1, Dy.ints2, nE, wipeE, unw, frO, q_addI, q_addL, q_addT, q_addS, q_sub, q_div, q_mod, q_pow, q_neg, q_cm, pIs, pIsn, q_isN, q_isI, q_isS, q_isT, q_isL, q_isB, q_lenL, q_lenT, pTup, pLst, q_tupL, q_tupT, q_lstL, q_lstT, q_revL, q_slL, q_slT, q_shL, q_shT, q_sqL, q_sqT, q_intI, q_max2, q_min2, q_aII, q_aBI, q_aTI, q_aTT, q_aLL, q_aTL, q_aIT, hm, h]⟩
    · exact ⟨30, by decide, by decide, fun X => by simp [q_mulAI, q_mulAL, a_wb, q_divW, Function.comp_def, q_starI, q_starIT, a_wp, a_fz, a_fz0, a_fz1, a_ext, a_ins, a_insA, a_pop, a_parN, a_evO0, a_evO1, a_setO0, a_setO1, a_ix2, a_setII, a_zN, a_zC, a_lcO, d_oo, pEq_int, pNe_int, pIxL, pIxT, atI_nat, atI_0, atI_1, atI_2, atI_3, atI_m1, cutLo, cutHi, cutLo1, cutHi1, a_seq, a_ifS, a_B, a_op, a_ov, a_ev0, a_evv, a_evs, a_C, a_V, a_M, a_set, a_setI, a_app, a_ret, a_ex, a_skip, a_no, a_not, a_andT, a_orT, a_and, a_or, a_notV, a_if, a_par, a_call, a_forS, a_sq, a_r1, a_r2, a_en, a_zp, a_asT, a_chI, a_yes, a_lc, a_fn, okA, f_fr, bkA, rsvs, rsv, dvs, on1, on2, d_fr, d_ol, rsO, ndS, sl, putB, asT, setAll, ofO, Dy.ints1, Dy.ints2, nE, wipeE, unw, frO, q_addI, q_addL, q_addT, q_addS, q_sub, q_div, q_mod, q_pow, q_neg, q_cm, pIs, pIsn, q_isN, q_isI, q_isS, q_isT, q_isL, q_isB, q_lenL, q_lenT, pTup, pLst, q_tupL, q_tupT, q_lstL, q_lstT, q_revL, q_slL, q_slT, q_shL, q_shT, q_sqL, q_sqT, q_intI, q_max2, q_min2, q_aII, q_aBI, q_aTI, q_aTT, q_aLL, q_aTL, q_aIT, hm, h]⟩
  obtain ⟨t, o2, ht, tl, p2, e2⟩ := wrA4 up p1 ha h0 u1 (by omega) rfl
  obtain ⟨u, o3, hu, ul, ru, p3, e3⟩ := again4 p2 ha ht (by omega)
  obtain ⟨x, hx, xl, ex⟩ : ∃ x : List Nd, TrOk as x ∧ x.length ≤ 90 ∧ x = if u.length < 31 then u else t := by
    by_cases c : u.length < 31
    · exact ⟨u, hu, by omega, by rw [if_pos c]⟩
    · exact ⟨t, ht, by omega, by rw [if_neg c]⟩
  obtain ⟨v, o4, hv, vl, rv, p4, e4⟩ := again4 p3 ha hx (by omega)
  obtain ⟨w1, o5, hw1, p5, e5⟩ := other4 p4 ha ht (by omega)
  obtain ⟨w2, o6, hw2, p6, e6⟩ := other4 p5 ha hu (by omega)
  obtain ⟨w3, o7, hw3, _, p7, e7⟩ := wrA4 (ui := 6) 6 p6 ha h0 (by decide) (by decide) rfl
  obtain ⟨m, em⟩ := cut4 t
  have hcut : Ok4 as (.tuple (cutD (t.map encN) none (some (-1)))) := by
    rw [em]
    refine ⟨t.take m, rfl, ?_⟩
    by_cases z : t.take m = []
    · exact .inl z
    · refine .inr ⟨?_, z, by rw [List.length_take]; have := ht.len; omega⟩
      have := ht.wf
      rw [← List.take_append_drop m t] at this
      exact this.pre
  have hall : ∀ d ∈ [encT u, encT v, encT w1, encT w2, encT w3, .tuple (cutD (t.map encN) none (some (-1)))], Ok4 as d := fun d hd => by
    simp only [List.mem_cons, List.not_mem_nil, or_false] at hd
    rcases hd with rfl | rfl | rfl | rfl | rfl | rfl
    · exact ⟨_, rfl, .inr hu⟩
    · exact ⟨_, rfl, .inr hv⟩
    · exact ⟨_, rfl, .inr hw1⟩
    · exact ⟨_, rfl, .inr hw2⟩
    · exact ⟨_, rfl, .inr hw3⟩
    · exact hcut
  have es := same4 ha ht hu
  rw [eqR_iff.mpr ru.symm] at es
  obtain ⟨_, _, ef⟩ := for_l (t := .nm 12) (body := L1_law_20) (fun d : PyData => d) (fun _ : Unit => V_law_20 (script := fr sc) (pen_here := some o7) (arities_here := fr (encA as)) (written_here := fr (encT t)) (again_here := fr (encT u)) (some_ := fr (.list [encT u, encT v, encT w1, encT w2, encT w3, .tuple (cutD (t.map encN) none (some (-1)))]))) (fun _ _ => True) [encT u, encT v, encT w1, encT w2, encT w3, .tuple (cutD (t.map encN) none (some (-1)))] (s := ()) trivial (fun pre d post s e _ => ⟨(), trivial, step4 ha ht (hall d (by rw [e]; simp))⟩)
  rw [List.map_id'] at ef
  refine ⟨o7, p7, ?_⟩
  have ea : asT (.nm 6) (.int (j : Int)) (V_law_20 (script := fr sc) (pen_here := some o)) = .ok (V_law_20 (script := fr sc) (pen_here := some o) (lap := fr (.int (j : Int)))) := rfl
  rw [ea, bind_ok]
  unfold L2_law_20
  have ulen : (u.map encN).length = u.length := List.length_map _
  have ex' : encT x = if u.length < 31 then encT u else encT t := by rw [ex]; split <;> rfl
  have cu : ((u.length : Int) < 31) = (u.length < 31) := by simp; omega
  refine nx4 (e' := V_law_20 (script := fr sc) (pen_here := some o1) (lap := fr (.int (j : Int))) (arities_here := fr (encA as))) (by simp [q_mulAI, q_mulAL, a_wb, q_divW, Function.comp_def, q_starI, q_starIT, a_wp, a_fz, a_fz0, a_fz1, a_ext, a_ins, a_insA, a_pop, a_parN, a_evO0, a_evO1, a_setO0, a_setO1, a_ix2, a_setII, a_zN, a_zC, a_lcO, d_oo, pEq_int, pNe_int, pIxL, pIxT, atI_nat, atI_0, atI_1, atI_2, atI_3, atI_m1, cutLo, cutHi, cutLo1, cutHi1, a_seq, a_ifS, a_B, a_op, a_ov, a_ev0, a_evv, a_evs, a_C, a_V, a_M, a_set, a_setI, a_app, a_ret, a_ex, a_skip, a_no, a_not, a_andT, a_orT, a_and, a_or, a_notV, a_if, a_par, a_call, a_forS, a_sq, a_r1, a_r2, a_en, a_zp, a_asT, a_chI, a_yes, a_lc, a_fn, okA, f_fr, bkA, rsvs, rsv, dvs, on1, on2, d_fr, d_ol, rsO, ndS, sl, putB, asT, setAll, ofO, Dy.ints1, Dy.ints2, nE, wipeE, unw, frO, q_addI, q_addL, q_addT, q_addS, q_sub, q_div, q_mod, q_pow, q_neg, q_cm, pIs, pIsn, q_isN, q_isI, q_isS, q_isT, q_isL, q_isB, q_lenL, q_lenT, pTup, pLst, q_tupL, q_tupT, q_lstL, q_lstT, q_revL, q_slL, q_slT, q_shL, q_shT, q_sqL, q_sqT, q_intI, q_max2, q_min2, q_aII, q_aBI, q_aTI, q_aTT, q_aLL, q_aTL, q_aIT, e1]) ?_
  refine nx4 (e' := V_law_20 (script := fr sc) (pen_here := some o2) (lap := fr (.int (j : Int))) (arities_here := fr (encA as)) (written_here := fr (encT t))) ?_ ?_
  · have eu := eu (fr (encA as))
    generalize encT t = TT at *
    generalize encA as = AA at *
    generalize fOp (on2 pIx) [.v (fOv pLst [.v (fC (.int 5)), .v (fC (.int 12)), .v (fC (.int 30))]), .v (fOp (on2 pMod) [.s 6, .v (fC (.int 3))])] = FF at *
    simp [q_mulAI, q_mulAL, a_wb, q_divW, Function.comp_def, q_starI, q_starIT, a_wp, a_fz, a_fz0, a_fz1, a_ext, a_ins, a_insA, a_pop, a_parN, a_evO0, a_evO1, a_setO0, a_setO1, a_ix2, a_setII, a_zN, a_zC, a_lcO, d_oo, pEq_int, pNe_int, pIxL, pIxT, atI_nat, atI_0, atI_1, atI_2, atI_3, atI_m1, cutLo, cutHi, cutLo1, cutHi1, a_seq, a_ifS, a_B, a_op, a_ov, a_ev0, a_evv, a_evs, a_C, a_V, a_M, a_set, a_setI, a_app, a_ret, a_ex, a_skip, a_no, a_not, a_andT, a_orT, a_and, a_or, a_notV, a_if, a_par, a_call, a_forS, a_sq, a_r1, a_r2, a_en, a_zp, a_asT, a_chI, a_yes, a_lc, a_fn, okA, f_fr, bkA, rsvs, rsv, dvs, on1, on2, d_fr, d_ol, rsO, ndS, sl, putB, asT, setAll, ofO, Dy.ints1, Dy.ints2, nE, wipeE, unw, frO, q_addI, q_addL, q_addT, q_addS, q_sub, q_div, q_mod, q_pow, q_neg, q_cm, pIs, pIsn, q_isN, q_isI, q_isS, q_isT, q_isL, q_isB, q_lenL, q_lenT, pTup, pLst, q_tupL, q_tupT, q_lstL, q_lstT, q_revL, q_slL, q_slT, q_shL, q_shT, q_sqL, q_sqT, q_intI, q_max2, q_min2, q_aII, q_aBI, q_aTI, q_aTT, q_aLL, q_aTL, q_aIT, eu, e2]
  refine nx4 (e' := V_law_20 (script := fr sc) (pen_here := some o3) (lap := fr (.int (j : Int))) (arities_here := fr (encA as)) (written_here := fr (encT t)) (again_here := fr (encT u))) ?_ ?_
  · generalize encT t = TT at *
    generalize encT u = TU at *
    generalize encA as = AA at *
    simp [q_mulAI, q_mulAL, a_wb, q_divW, Function.comp_def, q_starI, q_starIT, a_wp, a_fz, a_fz0, a_fz1, a_ext, a_ins, a_insA, a_pop, a_parN, a_evO0, a_evO1, a_setO0, a_setO1, a_ix2, a_setII, a_zN, a_zC, a_lcO, d_oo, pEq_int, pNe_int, pIxL, pIxT, atI_nat, atI_0, atI_1, atI_2, atI_3, atI_m1, cutLo, cutHi, cutLo1, cutHi1, a_seq, a_ifS, a_B, a_op, a_ov, a_ev0, a_evv, a_evs, a_C, a_V, a_M, a_set, a_setI, a_app, a_ret, a_ex, a_skip, a_no, a_not, a_andT, a_orT, a_and, a_or, a_notV, a_if, a_par, a_call, a_forS, a_sq, a_r1, a_r2, a_en, a_zp, a_asT, a_chI, a_yes, a_lc, a_fn, okA, f_fr, bkA, rsvs, rsv, dvs, on1, on2, d_fr, d_ol, rsO, ndS, sl, putB, asT, setAll, ofO, Dy.ints1, Dy.ints2, nE, wipeE, unw, frO, q_addI, q_addL, q_addT, q_addS, q_sub, q_div, q_mod, q_pow, q_neg, q_cm, pIs, pIsn, q_isN, q_isI, q_isS, q_isT, q_isL, q_isB, q_lenL, q_lenT, pTup, pLst, q_tupL, q_tupT, q_lstL, q_lstT, q_revL, q_slL, q_slT, q_shL, q_shT, q_sqL, q_sqT, q_intI, q_max2, q_min2, q_aII, q_aBI, q_aTI, q_aTT, q_aLL, q_aTL, q_aIT, e3]
  refine nx4 (e' := V_law_20 (script := fr sc) (pen_here := some o4) (lap := fr (.int (j : Int))) (arities_here := fr (encA as)) (written_here := fr (encT t)) (again_here := fr (encT u)) (more := fr (encT v))) ?_ ?_
  · have eif : fIf (fB (fOp (on2 (cmI (fun i j => decide (i < j)))) [.v (fOp (on1 pLen) [.s 9]), .v (fC (.int 31))])) (fV 9) (fV 8) (V_law_20 (script := fr sc) (pen_here := some o3) (lap := fr (.int (j : Int))) (arities_here := fr (encA as)) (written_here := fr (encT t)) (again_here := fr (encT u))) = .ok (.fr (encT x), V_law_20 (script := fr sc) (pen_here := some o3) (lap := fr (.int (j : Int))) (arities_here := fr (encA as)) (written_here := fr (encT t)) (again_here := fr (encT u))) := by
      rw [ex']
      by_cases c : u.length < 31
      · have c' : (u.length : Int) < 31 := by omega
        simp [q_mulAI, q_mulAL, a_wb, q_divW, Function.comp_def, q_starI, q_starIT, a_wp, a_fz, a_fz0, a_fz1, a_ext, a_ins, a_insA, a_pop, a_parN, a_evO0, a_evO1, a_setO0, a_setO1, a_ix2, a_setII, a_zN, a_zC, a_lcO, d_oo, pEq_int, pNe_int, pIxL, pIxT, atI_nat, atI_0, atI_1, atI_2, atI_3, atI_m1, cutLo, cutHi, cutLo1, cutHi1, a_seq, a_ifS, a_B, a_op, a_ov, a_ev0, a_evv, a_evs, a_C, a_V, a_M, a_set, a_setI, a_app, a_ret, a_ex, a_skip, a_no, a_not, a_andT, a_orT, a_and, a_or, a_notV, a_if, a_par, a_call, a_forS, a_sq, a_r1, a_r2, a_en, a_zp, a_asT, a_chI, a_yes, a_lc, a_fn, okA, f_fr, bkA, rsvs, rsv, dvs, on1, on2, d_fr, d_ol, rsO, ndS, sl, putB, asT, setAll, ofO, Dy.ints1, Dy.ints2, nE, wipeE, unw, frO, q_addI, q_addL, q_addT, q_addS, q_sub, q_div, q_mod, q_pow, q_neg, q_cm, pIs, pIsn, q_isN, q_isI, q_isS, q_isT, q_isL, q_isB, q_lenL, q_lenT, pTup, pLst, q_tupL, q_tupT, q_lstL, q_lstT, q_revL, q_slL, q_slT, q_shL, q_shT, q_sqL, q_sqT, q_intI, q_max2, q_min2, q_aII, q_aBI, q_aTI, q_aTT, q_aLL, q_aTL, q_aIT, c, c']
      · have c' : ¬ (u.length : Int) < 31 := by omega
        simp [q_mulAI, q_mulAL, a_wb, q_divW, Function.comp_def, q_starI, q_starIT, a_wp, a_fz, a_fz0, a_fz1, a_ext, a_ins, a_insA, a_pop, a_parN, a_evO0, a_evO1, a_setO0, a_setO1, a_ix2, a_setII, a_zN, a_zC, a_lcO, d_oo, pEq_int, pNe_int, pIxL, pIxT, atI_nat, atI_0, atI_1, atI_2, atI_3, atI_m1, cutLo, cutHi, cutLo1, cutHi1, a_seq, a_ifS, a_B, a_op, a_ov, a_ev0, a_evv, a_evs, a_C, a_V, a_M, a_set, a_setI, a_app, a_ret, a_ex, a_skip, a_no, a_not, a_andT, a_orT, a_and, a_or, a_notV, a_if, a_par, a_call, a_forS, a_sq, a_r1, a_r2, a_en, a_zp, a_asT, a_chI, a_yes, a_lc, a_fn, okA, f_fr, bkA, rsvs, rsv, dvs, on1, on2, d_fr, d_ol, rsO, ndS, sl, putB, asT, setAll, ofO, Dy.ints1, Dy.ints2, nE, wipeE, unw, frO, q_addI, q_addL, q_addT, q_addS, q_sub, q_div, q_mod, q_pow, q_neg, q_cm, pIs, pIsn, q_isN, q_isI, q_isS, q_isT, q_isL, q_isB, q_lenL, q_lenT, pTup, pLst, q_tupL, q_tupT, q_lstL, q_lstT, q_revL, q_slL, q_slT, q_shL, q_shT, q_sqL, q_sqT, q_intI, q_max2, q_min2, q_aII, q_aBI, q_aTI, q_aTT, q_aLL, q_aTL, q_aIT, c, c']
    generalize encT t = TT at *
    generalize encT u = TU at *
    generalize encT x = TX at *
    generalize encT v = TV at *
    generalize encA as = AA at *
    generalize fIf (fB (fOp (on2 (cmI (fun i j => decide (i < j)))) [.v (fOp (on1 pLen) [.s 9]), .v (fC (.int 31))])) (fV 9) (fV 8) = FF at *
    simp [q_mulAI, q_mulAL, a_wb, q_divW, Function.comp_def, q_starI, q_starIT, a_wp, a_fz, a_fz0, a_fz1, a_ext, a_ins, a_insA, a_pop, a_parN, a_evO0, a_evO1, a_setO0, a_setO1, a_ix2, a_setII, a_zN, a_zC, a_lcO, d_oo, pEq_int, pNe_int, pIxL, pIxT, atI_nat, atI_0, atI_1, atI_2, atI_3, atI_m1, cutLo, cutHi, cutLo1, cutHi1, a_seq, a_ifS, a_B, a_op, a_ov, a_ev0, a_evv, a_evs, a_C, a_V, a_M, a_set, a_setI, a_app, a_ret, a_ex, a_skip, a_no, a_not, a_andT, a_orT, a_and, a_or, a_notV, a_if, a_par, a_call, a_forS, a_sq, a_r1, a_r2, a_en, a_zp, a_asT, a_chI, a_yes, a_lc, a_fn, okA, f_fr, bkA, rsvs, rsv, dvs, on1, on2, d_fr, d_ol, rsO, ndS, sl, putB, asT, setAll, ofO, Dy.ints1, Dy.ints2, nE, wipeE, unw, frO, q_addI, q_addL, q_addT, q_addS, q_sub, q_div, q_mod, q_pow, q_neg, q_cm, pIs, pIsn, q_isN, q_isI, q_isS, q_isT, q_isL, q_isB, q_lenL, q_lenT, pTup, pLst, q_tupL, q_tupT, q_lstL, q_lstT, q_revL, q_slL, q_slT, q_shL, q_shT, q_sqL, q_sqT, q_intI, q_max2, q_min2, q_aII, q_aBI, q_aTI, q_aTT, q_aLL, q_aTL, q_aIT, eif, e4]
  refine nx4 (e' := V_law_20 (script := fr sc) (pen_here := some o5) (lap := fr (.int (j : Int))) (arities_here := fr (encA as)) (written_here := fr (encT t)) (again_here := fr (encT u)) (more := fr (encT v)) (some_ := fr (.list [encT u, encT v, encT w1]))) ?_ ?_
  · generalize encT t = TT at *
    generalize encT u = TU at *
    generalize encT v = TV at *
    generalize encT w1 = T1 at *
    generalize encA as = AA at *
    simp [q_mulAI, q_mulAL, a_wb, q_divW, Function.comp_def, q_starI, q_starIT, a_wp, a_fz, a_fz0, a_fz1, a_ext, a_ins, a_insA, a_pop, a_parN, a_evO0, a_evO1, a_setO0, a_setO1, a_ix2, a_setII, a_zN, a_zC, a_lcO, d_oo, pEq_int, pNe_int, pIxL, pIxT, atI_nat, atI_0, atI_1, atI_2, atI_3, atI_m1, cutLo, cutHi, cutLo1, cutHi1, a_seq, a_ifS, a_B, a_op, a_ov, a_ev0, a_evv, a_evs, a_C, a_V, a_M, a_set, a_setI, a_app, a_ret, a_ex, a_skip, a_no, a_not, a_andT, a_orT, a_and, a_or, a_notV, a_if, a_par, a_call, a_forS, a_sq, a_r1, a_r2, a_en, a_zp, a_asT, a_chI, a_yes, a_lc, a_fn, okA, f_fr, bkA, rsvs, rsv, dvs, on1, on2, d_fr, d_ol, rsO, ndS, sl, putB, asT, setAll, ofO, Dy.ints1, Dy.ints2, nE, wipeE, unw, frO, q_addI, q_addL, q_addT, q_addS, q_sub, q_div, q_mod, q_pow, q_neg, q_cm, pIs, pIsn, q_isN, q_isI, q_isS, q_isT, q_isL, q_isB, q_lenL, q_lenT, pTup, pLst, q_tupL, q_tupT, q_lstL, q_lstT, q_revL, q_slL, q_slT, q_shL, q_shT, q_sqL, q_sqT, q_intI, q_max2, q_min2, q_aII, q_aBI, q_aTI, q_aTT, q_aLL, q_aTL, q_aIT, e5]
  refine nx4 (e' := V_law_20 (script := fr sc) (pen_here := some o7) (arities_here := fr (encA as)) (written_here := fr (encT t)) (again_here := fr (encT u)) (some_ := fr (.list [encT u, encT v, encT w1, encT w2, encT w3, .tuple (cutD (t.map encN) none (some (-1)))]))) ?_ ?_
  · generalize encT v = TV at *
    generalize encT u = TU at *
    generalize encT w1 = T1 at *
    generalize encT w2 = T2 at *
    generalize encT w3 = T3 at *
    generalize encA as = AA at *
    simp [q_mulAI, q_mulAL, a_wb, q_divW, Function.comp_def, q_starI, q_starIT, a_wp, a_fz, a_fz0, a_fz1, a_ext, a_ins, a_insA, a_pop, a_parN, a_evO0, a_evO1, a_setO0, a_setO1, a_ix2, a_setII, a_zN, a_zC, a_lcO, d_oo, pEq_int, pNe_int, pIxL, pIxT, atI_nat, atI_0, atI_1, atI_2, atI_3, atI_m1, cutLo, cutHi, cutLo1, cutHi1, a_seq, a_ifS, a_B, a_op, a_ov, a_ev0, a_evv, a_evs, a_C, a_V, a_M, a_set, a_setI, a_app, a_ret, a_ex, a_skip, a_no, a_not, a_andT, a_orT, a_and, a_or, a_notV, a_if, a_par, a_call, a_forS, a_sq, a_r1, a_r2, a_en, a_zp, a_asT, a_chI, a_yes, a_lc, a_fn, okA, f_fr, bkA, rsvs, rsv, dvs, on1, on2, d_fr, d_ol, rsO, ndS, sl, putB, asT, setAll, ofO, Dy.ints1, Dy.ints2, nE, wipeE, unw, frO, q_addI, q_addL, q_addT, q_addS, q_sub, q_div, q_mod, q_pow, q_neg, q_cm, pIs, pIsn, q_isN, q_isI, q_isS, q_isT, q_isL, q_isB, q_lenL, q_lenT, pTup, pLst, q_tupL, q_tupT, q_lstL, q_lstT, q_revL, q_slL, q_slT, q_shL, q_shT, q_sqL, q_sqT, q_intI, q_max2, q_min2, q_aII, q_aBI, q_aTI, q_aTT, q_aLL, q_aTL, q_aIT, e6, e7]
  refine nx4 (e' := V_law_20 (script := fr sc) (pen_here := some o7) (arities_here := fr (encA as)) (written_here := fr (encT t)) (again_here := fr (encT u))) ?_ ?_
  · generalize L1_law_20 = LB at *
    generalize [encT u, encT v, encT w1, encT w2, encT w3, .tuple (cutD (t.map encN) none (some (-1)))] = LL at *
    generalize encT t = TT at *
    generalize encT u = TU at *
    simp [q_mulAI, q_mulAL, a_wb, q_divW, Function.comp_def, q_starI, q_starIT, a_wp, a_fz, a_fz0, a_fz1, a_ext, a_ins, a_insA, a_pop, a_parN, a_evO0, a_evO1, a_setO0, a_setO1, a_ix2, a_setII, a_zN, a_zC, a_lcO, d_oo, pEq_int, pNe_int, pIxL, pIxT, atI_nat, atI_0, atI_1, atI_2, atI_3, atI_m1, cutLo, cutHi, cutLo1, cutHi1, a_seq, a_ifS, a_B, a_op, a_ov, a_ev0, a_evv, a_evs, a_C, a_V, a_M, a_set, a_setI, a_app, a_ret, a_ex, a_skip, a_no, a_not, a_andT, a_orT, a_and, a_or, a_notV, a_if, a_par, a_call, a_forS, a_sq, a_r1, a_r2, a_en, a_zp, a_asT, a_chI, a_yes, a_lc, a_fn, okA, f_fr, bkA, rsvs, rsv, dvs, on1, on2, d_fr, d_ol, rsO, ndS, sl, putB, asT, setAll, ofO, Dy.ints1, Dy.ints2, nE, wipeE, unw, frO, q_addI, q_addL, q_addT, q_addS, q_sub, q_div, q_mod, q_pow, q_neg, q_cm, pIs, pIsn, q_isN, q_isI, q_isS, q_isT, q_isL, q_isB, q_lenL, q_lenT, pTup, pLst, q_tupL, q_tupT, q_lstL, q_lstT, q_revL, q_slL, q_slT, q_shL, q_shT, q_sqL, q_sqT, q_intI, q_max2, q_min2, q_aII, q_aBI, q_aTI, q_aTT, q_aLL, q_aTL, q_aIT, ef]
  · generalize encT t = TT at *
    generalize encT u = TU at *
    generalize encA as = AA at *
    simp [q_mulAI, q_mulAL, a_wb, q_divW, Function.comp_def, q_starI, q_starIT, a_wp, a_fz, a_fz0, a_fz1, a_ext, a_ins, a_insA, a_pop, a_parN, a_evO0, a_evO1, a_setO0, a_setO1, a_ix2, a_setII, a_zN, a_zC, a_lcO, d_oo, pEq_int, pNe_int, pIxL, pIxT, atI_nat, atI_0, atI_1, atI_2, atI_3, atI_m1, cutLo, cutHi, cutLo1, cutHi1, a_seq, a_ifS, a_B, a_op, a_ov, a_ev0, a_evv, a_evs, a_C, a_V, a_M, a_set, a_setI, a_app, a_ret, a_ex, a_skip, a_no, a_not, a_andT, a_orT, a_and, a_or, a_notV, a_if, a_par, a_call, a_forS, a_sq, a_r1, a_r2, a_en, a_zp, a_asT, a_chI, a_yes, a_lc, a_fn, okA, f_fr, bkA, rsvs, rsv, dvs, on1, on2, d_fr, d_ol, rsO, ndS, sl, putB, asT, setAll, ofO, Dy.ints1, Dy.ints2, nE, wipeE, unw, frO, q_addI, q_addL, q_addT, q_addS, q_sub, q_div, q_mod, q_pow, q_neg, q_cm, pIs, pIsn, q_isN, q_isI, q_isS, q_isT, q_isL, q_isB, q_lenL, q_lenT, pTup, pLst, q_tupL, q_tupT, q_lstL, q_lstT, q_revL, q_slL, q_slT, q_shL, q_shT, q_sqL, q_sqT, q_intI, q_max2, q_min2, q_aII, q_aBI, q_aTI, q_aTT, q_aLL, q_aTL, q_aIT, es, pIsnB]
theorem loop4 (ns : List Int) : fForS (fR1 (.v (fOp (pMax) [.v (fC (.int 1)), .v (fOp (pMin) [.v (fOp (on1 pLen) [.s 0]), .v (fC (.int 3))])]))) (.nm 4) (L3_law_20) (V_law_20 (script := fr (.list (ns.map PyData.int)))) = .ok (.nx, V_law_20 (script := fr (.list (ns.map PyData.int)))) := by
  obtain ⟨_, _, e⟩ := for_r (t := .nm 4) (body := L3_law_20) (fun _ : Unit => V_law_20 (script := fr (.list (ns.map PyData.int)))) (fun _ _ => True) (max 1 (min (ns.length : Int) 3)).toNat (s := ()) trivial (fun k s hk _ => by
    obtain ⟨z, ez⟩ := cellA_ok (ns := ns) (k := k)
    obtain ⟨o, hp, eo⟩ := penA_ok z
    obtain ⟨o2, p2, e2⟩ := for_r (t := .nm 6) (body := L2_law_20) (fun o : O => V_law_20 (script := fr (.list (ns.map PyData.int))) (pen_here := some o)) (fun _ o => PenA o) 8 (s := o) hp (fun j o hj hp => lap4L hp)
    refine ⟨(), trivial, ?_⟩
    unfold L3_law_20
    generalize L2_law_20 = LB at *
    simp [q_mulAI, q_mulAL, a_wb, q_divW, Function.comp_def, q_starI, q_starIT, a_wp, a_fz, a_fz0, a_fz1, a_ext, a_ins, a_insA, a_pop, a_parN, a_evO0, a_evO1, a_setO0, a_setO1, a_ix2, a_setII, a_zN, a_zC, a_lcO, d_oo, pEq_int, pNe_int, pIxL, pIxT, atI_nat, atI_0, atI_1, atI_2, atI_3, atI_m1, cutLo, cutHi, cutLo1, cutHi1, a_seq, a_ifS, a_B, a_op, a_ov, a_ev0, a_evv, a_evs, a_C, a_V, a_M, a_set, a_setI, a_app, a_ret, a_ex, a_skip, a_no, a_not, a_andT, a_orT, a_and, a_or, a_notV, a_if, a_par, a_call, a_forS, a_sq, a_r1, a_r2, a_en, a_zp, a_asT, a_chI, a_yes, a_lc, a_fn, okA, f_fr, bkA, rsvs, rsv, dvs, on1, on2, d_fr, d_ol, rsO, ndS, sl, putB, asT, setAll, ofO, Dy.ints1, Dy.ints2, nE, wipeE, unw, frO, q_addI, q_addL, q_addT, q_addS, q_sub, q_div, q_mod, q_pow, q_neg, q_cm, pIs, pIsn, q_isN, q_isI, q_isS, q_isT, q_isL, q_isB, q_lenL, q_lenT, pTup, pLst, q_tupL, q_tupT, q_lstL, q_lstT, q_revL, q_slL, q_slT, q_shL, q_shT, q_sqL, q_sqT, q_intI, q_max2, q_min2, q_aII, q_aBI, q_aTI, q_aTT, q_aLL, q_aTL, q_aIT, ez, eo, e2])
  have c : max 1 (min (ns.length : Int) 3) ≤ 1000000000 ∧ -1000000000 ≤ max 1 (min (ns.length : Int) 3) := ⟨by omega, by omega⟩
  generalize L3_law_20 = L at *
  simp [q_mulAI, q_mulAL, a_wb, q_divW, Function.comp_def, q_starI, q_starIT, a_wp, a_fz, a_fz0, a_fz1, a_ext, a_ins, a_insA, a_pop, a_parN, a_evO0, a_evO1, a_setO0, a_setO1, a_ix2, a_setII, a_zN, a_zC, a_lcO, d_oo, pEq_int, pNe_int, pIxL, pIxT, atI_nat, atI_0, atI_1, atI_2, atI_3, atI_m1, cutLo, cutHi, cutLo1, cutHi1, a_seq, a_ifS, a_B, a_op, a_ov, a_ev0, a_evv, a_evs, a_C, a_V, a_M, a_set, a_setI, a_app, a_ret, a_ex, a_skip, a_no, a_not, a_andT, a_orT, a_and, a_or, a_notV, a_if, a_par, a_call, a_forS, a_sq, a_r1, a_r2, a_en, a_zp, a_asT, a_chI, a_yes, a_lc, a_fn, okA, f_fr, bkA, rsvs, rsv, dvs, on1, on2, d_fr, d_ol, rsO, ndS, sl, putB, asT, setAll, ofO, Dy.ints1, Dy.ints2, nE, wipeE, unw, frO, q_addI, q_addL, q_addT, q_addS, q_sub, q_div, q_mod, q_pow, q_neg, q_cm, pIs, pIsn, q_isN, q_isI, q_isS, q_isT, q_isL, q_isB, q_lenL, q_lenT, pTup, pLst, q_tupL, q_tupT, q_lstL, q_lstT, q_revL, q_slL, q_slT, q_shL, q_shT, q_sqL, q_sqT, q_intI, q_max2, q_min2, q_aII, q_aBI, q_aTI, q_aTT, q_aLL, q_aTL, q_aIT, c, e]
end Q
namespace Q
open PySem Dy
open L2 (atI ixN)
theorem full_enc : full4.map encN = .tuple [.int 0] :: (List.range 60).map fun k => encN (1, [k, k]) := by
  simp [full4, encN, Function.comp_def]
theorem low_enc : low4.map encN = .tuple [.int 0] :: .tuple [.int 0] :: (List.range 60).map fun k => encN (1, [k, k + 1]) := by
  simp [low4, encN, Function.comp_def]
theorem eL1 {e : Dy.Env} {x : Option O} (he : e = V_law_20 (script := x)) : lcL [14] (.nm 14) fYes E1_law_20 (rng 0 60) e [] = .ok ((List.range 60).map (fun k => encN (1, [k, k])), e) := by
  subst he
  rw [rng_eq]
  exact lc_tm dN (fun k => encN (1, [k, k])) (List.range 60) rfl (fun k hk => by simp [E1_law_20, q_mulAI, q_mulAL, a_wb, q_divW, Function.comp_def, q_starI, q_starIT, a_wp, a_fz, a_fz0, a_fz1, a_ext, a_ins, a_insA, a_pop, a_parN, a_evO0, a_evO1, a_setO0, a_setO1, a_ix2, a_setII, a_zN, a_zC, a_lcO, d_oo, pEq_int, pNe_int, pIxL, pIxT, atI_nat, atI_0, atI_1, atI_2, atI_3, atI_m1, cutLo, cutHi, cutLo1, cutHi1, a_seq, a_ifS, a_B, a_op, a_ov, a_ev0, a_evv, a_evs, a_C, a_V, a_M, a_set, a_setI, a_app, a_ret, a_ex, a_skip, a_no, a_not, a_andT, a_orT, a_and, a_or, a_notV, a_if, a_par, a_call, a_forS, a_sq, a_r1, a_r2, a_en, a_zp, a_asT, a_chI, a_yes, a_lc, a_fn, okA, f_fr, bkA, rsvs, rsv, dvs, on1, on2, d_fr, d_ol, rsO, ndS, sl, putB, asT, setAll, ofO, Dy.ints1, Dy.ints2, nE, wipeE, unw, frO, q_addI, q_addL, q_addT, q_addS, q_sub, q_div, q_mod, q_pow, q_neg, q_cm, pIs, pIsn, q_isN, q_isI, q_isS, q_isT, q_isL, q_isB, q_lenL, q_lenT, pTup, pLst, q_tupL, q_tupT, q_lstL, q_lstT, q_revL, q_slL, q_slT, q_shL, q_shT, q_sqL, q_sqT, q_intI, q_max2, q_min2, q_aII, q_aBI, q_aTI, q_aTT, q_aLL, q_aTL, q_aIT, encN]) (by simp)
theorem eL2 {e : Dy.Env} {x y : Option O} (he : e = V_law_20 (script := x) (full := y)) : lcL [14] (.nm 14) fYes E2_law_20 (rng 0 60) e [] = .ok ((List.range 60).map (fun k => encN (1, [k, k + 1])), e) := by
  subst he
  rw [rng_eq]
  exact lc_tm dN (fun k => encN (1, [k, k + 1])) (List.range 60) rfl (fun k hk => by simp [E2_law_20, q_mulAI, q_mulAL, a_wb, q_divW, Function.comp_def, q_starI, q_starIT, a_wp, a_fz, a_fz0, a_fz1, a_ext, a_ins, a_insA, a_pop, a_parN, a_evO0, a_evO1, a_setO0, a_setO1, a_ix2, a_setII, a_zN, a_zC, a_lcO, d_oo, pEq_int, pNe_int, pIxL, pIxT, atI_nat, atI_0, atI_1, atI_2, atI_3, atI_m1, cutLo, cutHi, cutLo1, cutHi1, a_seq, a_ifS, a_B, a_op, a_ov, a_ev0, a_evv, a_evs, a_C, a_V, a_M, a_set, a_setI, a_app, a_ret, a_ex, a_skip, a_no, a_not, a_andT, a_orT, a_and, a_or, a_notV, a_if, a_par, a_call, a_forS, a_sq, a_r1, a_r2, a_en, a_zp, a_asT, a_chI, a_yes, a_lc, a_fn, okA, f_fr, bkA, rsvs, rsv, dvs, on1, on2, d_fr, d_ol, rsO, ndS, sl, putB, asT, setAll, ofO, Dy.ints1, Dy.ints2, nE, wipeE, unw, frO, q_addI, q_addL, q_addT, q_addS, q_sub, q_div, q_mod, q_pow, q_neg, q_cm, pIs, pIsn, q_isN, q_isI, q_isS, q_isT, q_isL, q_isB, q_lenL, q_lenT, pTup, pLst, q_tupL, q_tupT, q_lstL, q_lstT, q_revL, q_slL, q_slT, q_shL, q_shT, q_sqL, q_sqT, q_intI, q_max2, q_min2, q_aII, q_aBI, q_aTI, q_aTT, q_aLL, q_aTL, q_aIT, encN]) (by simp)
theorem eL3 {e : Dy.Env} {x y z : Option O} (he : e = V_law_20 (script := x) (full := y) (low := z)) : lcL [14] (.nm 14) fYes E3_law_20 (rng 1 60) e [] = .ok ((List.range 60).map (fun k => encN (1, [k, k + 1])), e) := by
  subst he
  unfold rng
  refine lc_tm (fun k : Nat => PyData.int (1 + (k : Int))) (fun k => encN (1, [k, k + 1])) (List.range 60) rfl (fun k hk => ?_) (by simp)
  have h1 : max (0 : Int) (1 + (k : Int) - 1) = k := by omega
  have h2 : 1 + (k : Int) = (k : Int) + 1 := by omega
  simp [E3_law_20, q_mulAI, q_mulAL, a_wb, q_divW, Function.comp_def, q_starI, q_starIT, a_wp, a_fz, a_fz0, a_fz1, a_ext, a_ins, a_insA, a_pop, a_parN, a_evO0, a_evO1, a_setO0, a_setO1, a_ix2, a_setII, a_zN, a_zC, a_lcO, d_oo, pEq_int, pNe_int, pIxL, pIxT, atI_nat, atI_0, atI_1, atI_2, atI_3, atI_m1, cutLo, cutHi, cutLo1, cutHi1, a_seq, a_ifS, a_B, a_op, a_ov, a_ev0, a_evv, a_evs, a_C, a_V, a_M, a_set, a_setI, a_app, a_ret, a_ex, a_skip, a_no, a_not, a_andT, a_orT, a_and, a_or, a_notV, a_if, a_par, a_call, a_forS, a_sq, a_r1, a_r2, a_en, a_zp, a_asT, a_chI, a_yes, a_lc, a_fn, okA, f_fr, bkA, rsvs, rsv, dvs, on1, on2, d_fr, d_ol, rsO, ndS, sl, putB, asT, setAll, ofO, Dy.ints1, Dy.ints2, nE, wipeE, unw, frO, q_addI, q_addL, q_addT, q_addS, q_sub, q_div, q_mod, q_pow, q_neg, q_cm, pIs, pIsn, q_isN, q_isI, q_isS, q_isT, q_isL, q_isB, q_lenL, q_lenT, pTup, pLst, q_tupL, q_tupT, q_lstL, q_lstT, q_revL, q_slL, q_slT, q_shL, q_shT, q_sqL, q_sqT, q_intI, q_max2, q_min2, q_aII, q_aBI, q_aTI, q_aTT, q_aLL, q_aTL, q_aIT, h1, encN, h2]
theorem setA (x : Option O) : fSet 1 (fOp (on2 pAdd) [.v (fOv pTup [.v (fOv pTup [.v (fC (.int 0))])]), .v (fOp (on1 pTuple) [.v (fLc (fR1 (.v (fC (.int 60)))) [14] (.nm 14) (fYes) (E1_law_20))])]) (V_law_20 (script := x)) = .ok (.nx, V_law_20 (script := x) (full := fr (encT full4))) := by
  have e := eL1 (x := x) rfl
  have hF := full_enc
  obtain ⟨L, hL⟩ : ∃ L, L = (List.range 60).map fun k => encN (1, [k, k]) := ⟨_, rfl⟩
  have hl : L.length = 60 := by rw [hL]; simp
  rw [← hL] at e hF
  show _ = Res.ok (Fl.nx, V_law_20 (script := x) (full := fr (.tuple (full4.map encN))))
  rw [hF]
  simp [q_mulAI, q_mulAL, a_wb, q_divW, Function.comp_def, q_starI, q_starIT, a_wp, a_fz, a_fz0, a_fz1, a_ext, a_ins, a_insA, a_pop, a_parN, a_evO0, a_evO1, a_setO0, a_setO1, a_ix2, a_setII, a_zN, a_zC, a_lcO, d_oo, pEq_int, pNe_int, pIxL, pIxT, atI_nat, atI_0, atI_1, atI_2, atI_3, atI_m1, cutLo, cutHi, cutLo1, cutHi1, a_seq, a_ifS, a_B, a_op, a_ov, a_ev0, a_evv, a_evs, a_C, a_V, a_M, a_set, a_setI, a_app, a_ret, a_ex, a_skip, a_no, a_not, a_andT, a_orT, a_and, a_or, a_notV, a_if, a_par, a_call, a_forS, a_sq, a_r1, a_r2, a_en, a_zp, a_asT, a_chI, a_yes, a_lc, a_fn, okA, f_fr, bkA, rsvs, rsv, dvs, on1, on2, d_fr, d_ol, rsO, ndS, sl, putB, asT, setAll, ofO, Dy.ints1, Dy.ints2, nE, wipeE, unw, frO, q_addI, q_addL, q_addT, q_addS, q_sub, q_div, q_mod, q_pow, q_neg, q_cm, pIs, pIsn, q_isN, q_isI, q_isS, q_isT, q_isL, q_isB, q_lenL, q_lenT, pTup, pLst, q_tupL, q_tupT, q_lstL, q_lstT, q_revL, q_slL, q_slT, q_shL, q_shT, q_sqL, q_sqT, q_intI, q_max2, q_min2, q_aII, q_aBI, q_aTI, q_aTT, q_aLL, q_aTL, q_aIT, e, hl]
theorem setB (x y : Option O) : fSet 2 (fOp (on2 pAdd) [.v (fOv pTup [.v (fOv pTup [.v (fC (.int 0))]), .v (fOv pTup [.v (fC (.int 0))])]), .v (fOp (on1 pTuple) [.v (fLc (fR1 (.v (fC (.int 60)))) [14] (.nm 14) (fYes) (E2_law_20))])]) (V_law_20 (script := x) (full := y)) = .ok (.nx, V_law_20 (script := x) (full := y) (low := fr (encT low4))) := by
  have e := eL2 (x := x) (y := y) rfl
  have hF := low_enc
  obtain ⟨L, hL⟩ : ∃ L, L = (List.range 60).map fun k => encN (1, [k, k + 1]) := ⟨_, rfl⟩
  have hl : L.length = 60 := by rw [hL]; simp
  rw [← hL] at e hF
  show _ = Res.ok (Fl.nx, V_law_20 (script := x) (full := y) (low := fr (.tuple (low4.map encN))))
  rw [hF]
  simp [q_mulAI, q_mulAL, a_wb, q_divW, Function.comp_def, q_starI, q_starIT, a_wp, a_fz, a_fz0, a_fz1, a_ext, a_ins, a_insA, a_pop, a_parN, a_evO0, a_evO1, a_setO0, a_setO1, a_ix2, a_setII, a_zN, a_zC, a_lcO, d_oo, pEq_int, pNe_int, pIxL, pIxT, atI_nat, atI_0, atI_1, atI_2, atI_3, atI_m1, cutLo, cutHi, cutLo1, cutHi1, a_seq, a_ifS, a_B, a_op, a_ov, a_ev0, a_evv, a_evs, a_C, a_V, a_M, a_set, a_setI, a_app, a_ret, a_ex, a_skip, a_no, a_not, a_andT, a_orT, a_and, a_or, a_notV, a_if, a_par, a_call, a_forS, a_sq, a_r1, a_r2, a_en, a_zp, a_asT, a_chI, a_yes, a_lc, a_fn, okA, f_fr, bkA, rsvs, rsv, dvs, on1, on2, d_fr, d_ol, rsO, ndS, sl, putB, asT, setAll, ofO, Dy.ints1, Dy.ints2, nE, wipeE, unw, frO, q_addI, q_addL, q_addT, q_addS, q_sub, q_div, q_mod, q_pow, q_neg, q_cm, pIs, pIsn, q_isN, q_isI, q_isS, q_isT, q_isL, q_isB, q_lenL, q_lenT, pTup, pLst, q_tupL, q_tupT, q_lstL, q_lstT, q_revL, q_slL, q_slT, q_shL, q_shT, q_sqL, q_sqT, q_intI, q_max2, q_min2, q_aII, q_aBI, q_aTI, q_aTT, q_aLL, q_aTL, q_aIT, e, hl]
theorem setC (x y z : Option O) : fSet 3 (fOp (on2 pAdd) [.v (fOv pTup [.v (fOv pTup [.v (fC (.int 0))]), .v (fOv pTup [.v (fC (.int 0))])]), .v (fOp (on1 pTuple) [.v (fLc (fR2 (.v (fC (.int 1))) (.v (fC (.int 61)))) [14] (.nm 14) (fYes) (E3_law_20))])]) (V_law_20 (script := x) (full := y) (low := z)) = .ok (.nx, V_law_20 (script := x) (full := y) (low := z) (tall := fr (encT low4))) := by
  have e := eL3 (x := x) (y := y) (z := z) rfl
  have hF := low_enc
  obtain ⟨L, hL⟩ : ∃ L, L = (List.range 60).map fun k => encN (1, [k, k + 1]) := ⟨_, rfl⟩
  have hl : L.length = 60 := by rw [hL]; simp
  rw [← hL] at e hF
  show _ = Res.ok (Fl.nx, V_law_20 (script := x) (full := y) (low := z) (tall := fr (.tuple (low4.map encN))))
  rw [hF]
  have er : fR2 (.v (fC (.int 1))) (.v (fC (.int 61))) (V_law_20 (script := x) (full := y) (low := z)) = .ok (rng 1 60, V_law_20 (script := x) (full := y) (low := z)) := by rw [a_r2]; rfl
  generalize E3_law_20 = EE at *
  have e' : fLc (fR2 (.v (fC (.int 1))) (.v (fC (.int 61)))) [14] (.nm 14) (fYes) EE (V_law_20 (script := x) (full := y) (low := z)) = .ok (.ol L, V_law_20 (script := x) (full := y) (low := z)) := by
    rw [a_lc, er, bind_ok]
    show (lcL [14] (.nm 14) fYes EE (rng 1 60) (V_law_20 (script := x) (full := y) (low := z)) [] >>= _) = _
    rw [e]; rfl
  generalize fLc (fR2 (.v (fC (.int 1))) (.v (fC (.int 61)))) [14] (.nm 14) (fYes) EE = FF at *
  simp [q_mulAI, q_mulAL, a_wb, q_divW, Function.comp_def, q_starI, q_starIT, a_wp, a_fz, a_fz0, a_fz1, a_ext, a_ins, a_insA, a_pop, a_parN, a_evO0, a_evO1, a_setO0, a_setO1, a_ix2, a_setII, a_zN, a_zC, a_lcO, d_oo, pEq_int, pNe_int, pIxL, pIxT, atI_nat, atI_0, atI_1, atI_2, atI_3, atI_m1, cutLo, cutHi, cutLo1, cutHi1, a_seq, a_ifS, a_B, a_op, a_ov, a_ev0, a_evv, a_evs, a_C, a_V, a_M, a_set, a_setI, a_app, a_ret, a_ex, a_skip, a_no, a_not, a_andT, a_orT, a_and, a_or, a_notV, a_if, a_par, a_call, a_forS, a_sq, a_r1, a_r2, a_en, a_zp, a_asT, a_chI, a_yes, a_lc, a_fn, okA, f_fr, bkA, rsvs, rsv, dvs, on1, on2, d_fr, d_ol, rsO, ndS, sl, putB, asT, setAll, ofO, Dy.ints1, Dy.ints2, nE, wipeE, unw, frO, q_addI, q_addL, q_addT, q_addS, q_sub, q_div, q_mod, q_pow, q_neg, q_cm, pIs, pIsn, q_isN, q_isI, q_isS, q_isT, q_isL, q_isB, q_lenL, q_lenT, pTup, pLst, q_tupL, q_tupT, q_lstL, q_lstT, q_revL, q_slL, q_slT, q_shL, q_shT, q_sqL, q_sqT, q_intI, q_max2, q_min2, q_aII, q_aBI, q_aTI, q_aTT, q_aLL, q_aTL, q_aIT, e', hl]
theorem guardG (x : Option O) {FL LL SL : List PyData} (c60 : cutD FL none (some 60) = SL)
    (e1 : M_same [.fr (.tuple [.int 0, .int 2]), .fr (.tuple FL), .fr (.tuple FL)] = .ok (.fr (.bool true), [.fr (.tuple [.int 0, .int 2]), .fr (.tuple FL), .fr (.tuple FL)]))
    (e2 : M_same [.fr (.tuple [.int 0, .int 2]), .fr (.tuple FL), .fr (.tuple LL)] = .ok (.fr (.bool false), [.fr (.tuple [.int 0, .int 2]), .fr (.tuple FL), .fr (.tuple LL)]))
    (e3 : M_same [.fr (.tuple [.int 0, .int 2]), .fr (.tuple FL), .fr (.tuple SL)] = .ok (.fr (.bool false), [.fr (.tuple [.int 0, .int 2]), .fr (.tuple FL), .fr (.tuple SL)])) :
    fWp [1, 2, 3] (fIfS (fB (fOp (on2 pNe) [.v (fLc (fSq (.v (fOv pTup [.v (fV 1), .v (fV 2), .v (fV 3), .v (fOp (on2 pSl2h) [.s 1, .v (fC (.int 60))])]))) [13] (.nm 13) (fYes) (E4_law_20)), .v (fOv pLst [.v (fC (.bool true)), .v (fC (.bool false)), .v (fC (.bool false)), .v (fC (.bool false))])])) (fRet (fC (.bool false))) (fSkip)) (V_law_20 (script := x) (full := fr (.tuple FL)) (low := fr (.tuple LL)) (tall := fr (.tuple LL))) = .ok (.nx, V_law_20 (script := x)) := by
  have en : pNe (.list [.bool true, .bool false, .bool false, .bool false]) (.list [.bool true, .bool false, .bool false, .bool false]) = some (.fr (.bool false)) := by
    have hs : shp (.list [.bool true, .bool false, .bool false, .bool false]) = true := (Rk.lst (n := 0) (w := 5) (fun d hd => by simp at hd; rcases hd with rfl | rfl <;> exact Rk.bool _)).shp (by decide)
    rw [pNe_L _ _ hs hs]
    simp [PyData.eqvAll, PyData.eqv]
  simp [q_mulAI, q_mulAL, a_wb, q_divW, Function.comp_def, q_starI, q_starIT, a_wp, a_fz, a_fz0, a_fz1, a_ext, a_ins, a_insA, a_pop, a_parN, a_evO0, a_evO1, a_setO0, a_setO1, a_ix2, a_setII, a_zN, a_zC, a_lcO, d_oo, pEq_int, pNe_int, pIxL, pIxT, atI_nat, atI_0, atI_1, atI_2, atI_3, atI_m1, cutLo, cutHi, cutLo1, cutHi1, a_seq, a_ifS, a_B, a_op, a_ov, a_ev0, a_evv, a_evs, a_C, a_V, a_M, a_set, a_setI, a_app, a_ret, a_ex, a_skip, a_no, a_not, a_andT, a_orT, a_and, a_or, a_notV, a_if, a_par, a_call, a_forS, a_sq, a_r1, a_r2, a_en, a_zp, a_asT, a_chI, a_yes, a_lc, a_fn, okA, f_fr, bkA, rsvs, rsv, dvs, on1, on2, d_fr, d_ol, rsO, ndS, sl, putB, asT, setAll, ofO, Dy.ints1, Dy.ints2, nE, wipeE, unw, frO, q_addI, q_addL, q_addT, q_addS, q_sub, q_div, q_mod, q_pow, q_neg, q_cm, pIs, pIsn, q_isN, q_isI, q_isS, q_isT, q_isL, q_isB, q_lenL, q_lenT, pTup, pLst, q_tupL, q_tupT, q_lstL, q_lstT, q_revL, q_slL, q_slT, q_shL, q_shT, q_sqL, q_sqT, q_intI, q_max2, q_min2, q_aII, q_aBI, q_aTI, q_aTT, q_aLL, q_aTL, q_aIT, lcL, E4_law_20, c60, e1, e2, e3, en]
theorem lof0_4 {S : SF} {vs : List Nat} {e0 e3 : Dy.Env} (hs : S e0 = .ok (.nx, e3)) : fSeq (fWp vs S) (fRet (fC (.bool true))) e0 = .ok (.rt (.fr (.bool true)), wipeE e3 vs) := by
  have e1 : fWp vs S e0 = .ok (.nx, wipeE e3 vs) := by rw [a_wp, hs]; rfl
  show (fWp vs S e0 >>= fun r => match r.1 with | .nx => fRet (fC (.bool true)) r.2 | _ => .ok r) = _
  rw [e1]; rfl
theorem fn1_4 {N : Nat} {b : SF} {d : PyData} {o : O} {e : Dy.Env} (h : b (some (.fr d) :: List.replicate N none) = .ok (.rt o, e)) : fnM 1 (N + 1) [] b [.fr d] = .ok (o, [.fr d]) := by
  show (b (some (.fr d) :: List.replicate (N + 1 - 1) none) >>= fun r => match bkA [] r.2 0 [.fr d] with | none => .no | some os' => match r.1 with | .rt o => .ok (o, os') | .nx => .ok (.fr .none, os') | _ => .no) = _
  rw [show N + 1 - 1 = N from rfl, h]; rfl
theorem law_true_04 (ns : List Int) (hl : ns.length ≤ 63) : ∃ os, M_law_20 [.fr (.list (ns.map PyData.int))] = .ok (.fr (.bool true), os) := by
  refine ⟨[.fr (.list (ns.map PyData.int))], fn1_4 (N := 14) (e := wipeE (V_law_20 (script := fr (.list (ns.map PyData.int)))) [0, 4, 5, 6, 7, 8, 9, 10, 11, 12]) ?_⟩
  unfold b_law_20
  refine nx4 (setA _) (nx4 (setB _ _) (nx4 (setC _ _ _) (nx4 (guardG _ (show cutD (full4.map encN) none (some 60) = (full4.take 60).map encN by rw [List.map_take]; exact cutHi _ 60) sFF sFL sFS) ?_)))
  exact lof0_4 (loop4 ns)
end Q
namespace W04
open PySem PySem.Spec PyProof.Rows L2 Dy Q
def topS (i : Nat) : Stmt := PySem.Challenge.pw_codepick_k04_same_trees.main.body.getD i (.Pass ⟨0, 0, 0, 0⟩)
section
variable {P : Program} {w : World} {K : PySem.W.Frag} {mg : Str → Option Value} {T : List (Addr × Str)}
abbrev s__law_pen : Stmt := topS 19
theorem sc__law_pen : FnScope ["_law_cell_here"] ["_law_cell_here"] (defScope s__law_pen) := ⟨rfl, rfl, rfl, by decide +kernel, rfl, by decide +kernel, by decide +kernel⟩
theorem ok__law_pen {f : Addr} {fd : FuncData} {k : Nat} (F : Fun K "_law_pen" "_law_pen" s__law_pen f fd) (hm : mg "_law_pen" = some (.ref f)) (hb : Binds K fd ["_law_cell_here"] []) (z_max : mg "max" = none) : CallOk P w K mg T (k + 1) "_law_pen" ["_law_cell_here"] M__law_pen_2 :=
  callOk_of F hm hb fun base => fnD F sc__law_pen rfl rfl (by decide) fun cdv A outer s H qv E hgd hr => (dss_one (ds_ret (de_lst (da_cons (dx_v (de_callB (cl_max rfl) os_max rfl z_max bt_max (da_cons (dx_v de_int) (da_cons (dx_v (de_op op_sub os_sub (dx_s 0 (pv 0)) (dx_v (de_op op_pow os_pow (dx_v de_int) (dx_v de_int))))) da_nil)))) (da_cons (dx_v (de_op op_addA os_add (dx_v (de_op op_mod os_mod (dx_s 0 (pv 0)) (dx_v de_int))) (dx_v de_int))) (da_cons (dx_v de_int) da_nil))))))
abbrev s_is_between : Stmt := topS 7
theorem sc_is_between : FnScope ["thing", "low", "high"] ["thing", "low", "high"] (defScope s_is_between) := ⟨rfl, rfl, rfl, by decide +kernel, rfl, by decide +kernel, by decide +kernel⟩
theorem ok_is_between {f : Addr} {fd : FuncData} {k : Nat} (F : Fun K "is_between" "is_between" s_is_between f fd) (hm : mg "is_between" = some (.ref f)) (hb : Binds K fd ["thing", "low", "high"] []) (z_bool : mg "bool" = none) (z_int : mg "int" = none) (z_isinstance : mg "isinstance" = none) : CallOk P w K mg T (k + 1) "is_between" ["thing", "low", "high"] M_is_between :=
  callOk_of F hm hb fun base => fnD F sc_is_between rfl rfl (by decide) fun cdv A outer s H qv E hgd hr => (dss_one (ds_ret (de_and (de_isi .int rfl z_isinstance bt_isinstance (dx_s 0 (pv 0)) (pty rfl z_int bt_int)) (de_and (de_not (de_isi .bool rfl z_isinstance bt_isinstance (dx_s 0 (pv 0)) (pty rfl z_bool bt_bool))) (de_one (de_chI op_le op_le (fun a b c => pe_chain op_le op_le a b c) (dx_s 1 (pv 1)) (dx_s 0 (pv 0)) (dx_s 2 (pv 2))))))))
abbrev s_is_arities : Stmt := topS 8
theorem sc_is_arities : FnScope ["thing", "arity"] ["thing"] (defScope s_is_arities) := ⟨rfl, rfl, rfl, by decide +kernel, rfl, by decide +kernel, by decide +kernel⟩
theorem ok_is_arities {f : Addr} {fd : FuncData} {k : Nat} (F : Fun K "is_arities" "is_arities" s_is_arities f fd) (hm : mg "is_arities" = some (.ref f)) (hb : Binds K fd ["thing"] []) (c_is_between : CallOk P w K mg T k "is_between" ["thing", "low", "high"] M_is_between) (z_all : mg "all" = none) (z_isinstance : mg "isinstance" = none) (z_len : mg "len" = none) (z_tuple : mg "tuple" = none) {t_MOST_ARITY : Tok} (g_MOST_ARITY : mg "MOST_ARITY" = some (.int 2 t_MOST_ARITY)) {t_MOST_OPERATORS : Tok} (g_MOST_OPERATORS : mg "MOST_OPERATORS" = some (.int 6 t_MOST_OPERATORS)) : CallOk P w K mg T (k + 1) "is_arities" ["thing"] M_is_arities :=
  callOk_of F hm hb fun base => fnD F sc_is_arities rfl rfl (by decide) fun cdv A outer s H qv E hgd hr => (dss_cons (ds_if (dw_t (dw_or (dt_not (dt_val (de_isi .tuple rfl z_isinstance bt_isinstance (dx_s 0 (pv 0)) (pty rfl z_tuple bt_tuple)))) (dw_or1 (dt_not (dt_chI (fun a b c => pt_chain op_le op_le a b c) (dx_v de_int) (dx_v (de_callB call_lenA os_len rfl z_len bt_len (da_cons (dx_s 0 (pv 0)) da_nil))) (dx_v (de_gint rfl g_MOST_OPERATORS))))))) (dss_one (ds_ret de_bl)) dss_nil)
    (dss_one (ds_ret (de_callB (cr_all rfl) os_all rfl z_all bt_all (da_cons (dx_v (de_lc (own := [("arity", 1)]) (npn rfl) (by decide) rfl sc_is_arities.nd (di_seq (dx_v (de_v 0 (pv 0)))) (blkOk_by (N := ["thing", "arity"]) (sc := defScope s_is_arities) (own := [("arity", 1)]) (by decide +kernel)) (fun _ _ _ _ _ => (pg_name (i := 1) sc_is_arities.nd rfl (by first | exact .inl rfl | exact .inr rfl))) (fun _ _ _ _ _ => pts_yes) (fun _ _ _ _ _ => (dcall c_is_between hgd hr rfl passL (da_cons (dx_v (de_v 1 (pv 1))) (da_cons (dx_v de_int) (da_cons (dx_v (de_gint rfl g_MOST_ARITY)) da_nil))))))) da_nil)))))
abbrev s_need_arities : Stmt := topS 9
theorem sc_need_arities : FnScope ["thing"] ["thing"] (defScope s_need_arities) := ⟨rfl, rfl, rfl, by decide +kernel, rfl, by decide +kernel, by decide +kernel⟩
theorem ok_need_arities {f : Addr} {fd : FuncData} {k : Nat} (F : Fun K "need_arities" "need_arities" s_need_arities f fd) (hm : mg "need_arities" = some (.ref f)) (hb : Binds K fd ["thing"] []) (c_is_arities : CallOk P w K mg T k "is_arities" ["thing"] M_is_arities) : CallOk P w K mg T (k + 1) "need_arities" ["thing"] M_need_arities :=
  callOk_of F hm hb fun base => fnD F sc_need_arities rfl rfl (by decide) fun cdv A outer s H qv E hgd hr => (dss_one (ds_if (dt_not (dt_val (dcall c_is_arities hgd hr rfl (passes_call (takes_of rfl rfl rfl rfl) (fun _ _ _ _ h => h)) (da_cons (dx_v (de_v 0 (pv 0))) da_nil)))) (dss_one ds_never) dss_nil))
abbrev s_is_node : Stmt := topS 11
theorem sc_is_node : FnScope ["arities", "thing", "before", "node"] ["arities", "thing", "before"] (defScope s_is_node) := ⟨rfl, rfl, rfl, by decide +kernel, rfl, by decide +kernel, by decide +kernel⟩
theorem ok_is_node {f : Addr} {fd : FuncData} {k : Nat} (F : Fun K "is_node" "is_node" s_is_node f fd) (hm : mg "is_node" = some (.ref f)) (hb : Binds K fd ["arities", "thing", "before"] []) (c_is_between : CallOk P w K mg T k "is_between" ["thing", "low", "high"] M_is_between) (z_all : mg "all" = none) (z_isinstance : mg "isinstance" = none) (z_len : mg "len" = none) (z_tuple : mg "tuple" = none) : CallOk P w K mg T (k + 1) "is_node" ["arities", "thing", "before"] M_is_node :=
  callOk_of F hm hb fun base => fnD F sc_is_node rfl rfl (by decide) fun cdv A outer s H qv E hgd hr => (dss_cons (ds_if (dw_t (dw_or (dt_not (dt_val (de_isi .tuple rfl z_isinstance bt_isinstance (dx_s 1 (pv 1)) (pty rfl z_tuple bt_tuple)))) (dw_or (dt_cmp (op_eqA (ru64 hr)) os_eq (dx_s 1 (pv 1)) (dx_v (de_tup da_nil)) (nomark _)) (dw_or1 (dt_not (dt_val (dcall c_is_between hgd hr rfl (passes_call (takes_of rfl rfl rfl rfl) (fun _ _ _ _ h => h)) (da_cons (dx_v (de_ix (ixD (ru65 hr)) os_ix (dx_s 1 (pv 1)) (dx_v de_int) (fun _ _ => rfl))) (da_cons (dx_v de_int) (da_cons (dx_v (de_op op_sub os_sub (dx_v (de_callB call_lenA os_len rfl z_len bt_len (da_cons (dx_s 0 (pv 0)) da_nil))) (dx_v de_int))) da_nil)))))))))) (dss_one (ds_ret de_bl)) dss_nil)
    (dss_cons (ds_if (dt_cmp (op_neA (ru64 hr)) os_ne (dx_v (de_callB call_lenA os_len rfl z_len bt_len (da_cons (dx_s 1 (pv 1)) da_nil))) (dx_v (de_op op_addA os_add (dx_v de_int) (dx_v (de_ix (ixD (ru65 hr)) os_ix (dx_s 0 (pv 0)) (dx_v (de_ix (ixD (ru65 hr)) os_ix (dx_s 1 (pv 1)) (dx_v de_int) (fun _ _ => rfl))) (fun _ _ => rfl))))) (nomark _)) (dss_one (ds_ret de_bl)) dss_nil)
    (dss_one (ds_ret (de_callB (cr_all rfl) os_all rfl z_all bt_all (da_cons (dx_v (de_lc (own := [("node", 3)]) (npn rfl) (by decide) rfl sc_is_node.nd (di_seq (dx_v (de_slLo (dx_s 1 (pv 1)) (dx_v de_int)))) (blkOk_by (N := ["arities", "thing", "before", "node"]) (sc := defScope s_is_node) (own := [("node", 3)]) (by decide +kernel)) (fun _ _ _ _ _ => (pg_name (i := 3) sc_is_node.nd rfl (by first | exact .inl rfl | exact .inr rfl))) (fun _ _ _ _ _ => pts_yes) (fun _ _ _ _ _ => (dcall c_is_between hgd hr rfl passL (da_cons (dx_v (de_v 3 (pv 3))) (da_cons (dx_v de_int) (da_cons (dx_v (de_op op_sub os_sub (dx_s 2 (pv 2)) (dx_v de_int))) da_nil))))))) da_nil))))))
abbrev s_is_written : Stmt := topS 12
theorem sc_is_written : FnScope ["arities", "thing", "at", "node"] ["arities", "thing"] (defScope s_is_written) := ⟨rfl, rfl, rfl, by decide +kernel, rfl, by decide +kernel, by decide +kernel⟩
theorem ok_is_written {f : Addr} {fd : FuncData} {k : Nat} (F : Fun K "is_written" "is_written" s_is_written f fd) (hm : mg "is_written" = some (.ref f)) (hb : Binds K fd ["arities", "thing"] []) (c_is_node : CallOk P w K mg T k "is_node" ["arities", "thing", "before"] M_is_node) (z_all : mg "all" = none) (z_enumerate : mg "enumerate" = none) (z_isinstance : mg "isinstance" = none) (z_tuple : mg "tuple" = none) : CallOk P w K mg T (k + 1) "is_written" ["arities", "thing"] M_is_written :=
  callOk_of F hm hb fun base => fnD F sc_is_written rfl rfl (by decide) fun cdv A outer s H qv E hgd hr => (dss_cons (ds_if (dw_t (dw_or (dt_not (dt_val (de_isi .tuple rfl z_isinstance bt_isinstance (dx_s 1 (pv 1)) (pty rfl z_tuple bt_tuple)))) (dw_or1 (dt_cmp (op_eqA (ru64 hr)) os_eq (dx_s 1 (pv 1)) (dx_v (de_tup da_nil)) (nomark _))))) (dss_one (ds_ret de_bl)) dss_nil)
    (dss_one (ds_ret (de_callB (cr_all rfl) os_all rfl z_all bt_all (da_cons (dx_v (de_lc (own := [("at", 2), ("node", 3)]) (npn rfl) (by decide) rfl sc_is_written.nd (di_en rfl z_enumerate (da_cons (dx_v (de_v 1 (pv 1))) da_nil)) (blkOk_by (N := ["arities", "thing", "at", "node"]) (sc := defScope s_is_written) (own := [("at", 2), ("node", 3)]) (by decide +kernel)) (fun _ _ _ _ _ => (pg_tup rfl (pgs_cons (pg_name (i := 2) sc_is_written.nd rfl (by first | exact .inl rfl | exact .inr rfl)) (pgs_cons (pg_name (i := 3) sc_is_written.nd rfl (by first | exact .inl rfl | exact .inr rfl)) pgs_nil)))) (fun _ _ _ _ _ => pts_yes) (fun _ _ _ _ _ => (dcall c_is_node hgd hr rfl passL (da_cons (dx_v (de_v 0 (pv 0))) (da_cons (dx_v (de_v 3 (pv 3))) (da_cons (dx_v (de_v 2 (pv 2))) da_nil))))))) da_nil)))))
abbrev s_need_tree : Stmt := topS 13
theorem sc_need_tree : FnScope ["arities", "thing"] ["arities", "thing"] (defScope s_need_tree) := ⟨rfl, rfl, rfl, by decide +kernel, rfl, by decide +kernel, by decide +kernel⟩
theorem ok_need_tree {f : Addr} {fd : FuncData} {k : Nat} (F : Fun K "need_tree" "need_tree" s_need_tree f fd) (hm : mg "need_tree" = some (.ref f)) (hb : Binds K fd ["arities", "thing"] []) (c_is_written : CallOk P w K mg T k "is_written" ["arities", "thing"] M_is_written) : CallOk P w K mg T (k + 1) "need_tree" ["arities", "thing"] M_need_tree :=
  callOk_of F hm hb fun base => fnD F sc_need_tree rfl rfl (by decide) fun cdv A outer s H qv E hgd hr => (dss_one (ds_if (dt_not (dt_val (dcall c_is_written hgd hr rfl (passes_call (takes_of rfl rfl rfl rfl) (fun _ _ _ _ h => h)) (da_cons (dx_v (de_v 0 (pv 0))) (da_cons (dx_v (de_v 1 (pv 1))) da_nil))))) (dss_one ds_never) dss_nil))
abbrev s_need_both : Stmt := topS 14
theorem sc_need_both : FnScope ["arities", "tree"] ["arities", "tree"] (defScope s_need_both) := ⟨rfl, rfl, rfl, by decide +kernel, rfl, by decide +kernel, by decide +kernel⟩
theorem ok_need_both {f : Addr} {fd : FuncData} {k : Nat} (F : Fun K "need_both" "need_both" s_need_both f fd) (hm : mg "need_both" = some (.ref f)) (hb : Binds K fd ["arities", "tree"] []) (c_need_arities : CallOk P w K mg T k "need_arities" ["thing"] M_need_arities) (c_need_tree : CallOk P w K mg T k "need_tree" ["arities", "thing"] M_need_tree) : CallOk P w K mg T (k + 1) "need_both" ["arities", "tree"] M_need_both :=
  callOk_of F hm hb fun base => fnD F sc_need_both rfl rfl (by decide) fun cdv A outer s H qv E hgd hr => (dss_cons (ds_expr (dcall c_need_arities hgd hr rfl (passes_call (takes_of rfl rfl rfl rfl) (fun _ _ _ _ h => h)) (da_cons (dx_v (de_v 0 (pv 0))) da_nil)))
    (dss_one (ds_expr (dcall c_need_tree hgd hr rfl (passes_call (takes_of rfl rfl rfl rfl) (fun _ _ _ _ h => h)) (da_cons (dx_v (de_v 0 (pv 0))) (da_cons (dx_v (de_v 1 (pv 1))) da_nil))))))
abbrev s_numbered : Stmt := topS 15
theorem sc_numbered : FnScope ["tree", "known", "found", "node", "part", "one"] ["tree", "known"] (defScope s_numbered) := ⟨rfl, rfl, rfl, by decide +kernel, rfl, by decide +kernel, by decide +kernel⟩
theorem ok_numbered {f : Addr} {fd : FuncData} {k : Nat} (F : Fun K "numbered" "numbered" s_numbered f fd) (hm : mg "numbered" = some (.ref f)) (hb : Binds K fd ["tree", "known"] []) (z_len : mg "len" = none) : CallOk P w K mg T (k + 1) "numbered" ["tree", "known"] M_numbered :=
  callOk_of F hm hb fun base => fnD F sc_numbered rfl rfl (by decide) fun cdv A outer s H qv E hgd hr => (dss_cons (ds_set (i := 2) sc_numbered.nd rfl (by first | exact .inl rfl | exact .inr rfl) (np1 rfl) (de_lst da_nil))
    (dss_cons (ds_wp [0, 3, 4] (ds_for (npn rfl) (passes_of rfl) rfl (di_seq (dx_v (de_v 0 (pv 0)))) (pg_name (i := 3) sc_numbered.nd rfl (by first | exact .inl rfl | exact .inr rfl)) (dss_cons (ds_set (i := 4) sc_numbered.nd rfl (by first | exact .inl rfl | exact .inr rfl) (np1 rfl) (de_tupS (dx_v (de_ix (ixD (ru65 hr)) os_ix (dx_s 3 (pv 3)) (dx_v de_int) (fun _ _ => rfl))) (dx_v (de_lc (own := [("one", 5)]) (npn rfl) (by decide) rfl sc_numbered.nd (di_seq (dx_v (de_slLo (dx_s 3 (pv 3)) (dx_v de_int)))) (blkOk_by (N := ["tree", "known", "found", "node", "part", "one"]) (sc := defScope s_numbered) (own := [("one", 5)]) (by decide +kernel)) (fun _ _ _ _ _ => (pg_name (i := 5) sc_numbered.nd rfl (by first | exact .inl rfl | exact .inr rfl))) (fun _ _ _ _ _ => pts_yes) (fun _ _ _ _ _ => (de_ix (ixD (ru65 hr)) os_ix (dx_s 2 (pv 2)) (dx_s 5 (pv 5)) (fun _ _ => rfl))))) (h2 := StX.pa_star (dx_v (de_lc (own := [("one", 5)]) (npn rfl) (by decide) rfl sc_numbered.nd (di_seq (dx_v (de_slLo (dx_s 3 (pv 3)) (dx_v de_int)))) (blkOk_by (N := ["tree", "known", "found", "node", "part", "one"]) (sc := defScope s_numbered) (own := [("one", 5)]) (by decide +kernel)) (fun _ _ _ _ _ => (pg_name (i := 5) sc_numbered.nd rfl (by first | exact .inl rfl | exact .inr rfl))) (fun _ _ _ _ _ => pts_yes) (fun _ _ _ _ _ => (de_ix (ixD (ru65 hr)) os_ix (dx_s 2 (pv 2)) (dx_s 5 (pv 5)) (fun _ _ => rfl))))) pa_nil)))
    (dss_cons (ds_expr (de_setd (ru65 hr) (pv 1) (da_cons (dx_v (de_v 4 (pv 4))) (da_cons (dx_v (de_callB call_lenA os_len rfl z_len bt_len (da_cons (dx_s 1 (pv 1)) da_nil))) da_nil))))
    (dss_one (ds_wp [3, 4] (ds_app (pv 2) (de_ix (ixD (ru65 hr)) os_ix (dx_s 1 (pv 1)) (dx_s 4 (pv 4)) (fun _ _ => rfl)))))))))
    (dss_one (ds_ret (de_ix (ixD (ru65 hr)) os_ix (dx_s 2 (pv 2)) (dx_v (de_un un_neg os_neg (dx_v de_int))) (fun _ _ => rfl))))))
abbrev s_same : Stmt := topS 16
theorem sc_same : FnScope ["arities", "one", "other", "known"] ["arities", "one", "other"] (defScope s_same) := ⟨rfl, rfl, rfl, by decide +kernel, rfl, by decide +kernel, by decide +kernel⟩
theorem ok_same {f : Addr} {fd : FuncData} {k : Nat} (F : Fun K "same" "same" s_same f fd) (hm : mg "same" = some (.ref f)) (hb : Binds K fd ["arities", "one", "other"] []) (c_need_both : CallOk P w K mg T k "need_both" ["arities", "tree"] M_need_both) (c_need_tree : CallOk P w K mg T k "need_tree" ["arities", "thing"] M_need_tree) (c_numbered : CallOk P w K mg T k "numbered" ["tree", "known"] M_numbered) : CallOk P w K mg T (k + 1) "same" ["arities", "one", "other"] M_same :=
  callOk_of F hm hb fun base => fnD F sc_same rfl rfl (by decide) fun cdv A outer s H qv E hgd hr => (dss_cons (ds_expr (dcall c_need_both hgd hr rfl (passes_call (takes_of rfl rfl rfl rfl) (fun _ _ _ _ h => h)) (da_cons (dx_v (de_v 0 (pv 0))) (da_cons (dx_v (de_v 1 (pv 1))) da_nil))))
    (dss_cons (ds_expr (dcall c_need_tree hgd hr rfl (passes_call (takes_of rfl rfl rfl rfl) (fun _ _ _ _ h => h)) (da_cons (dx_v (de_v 0 (pv 0))) (da_cons (dx_v (de_v 2 (pv 2))) da_nil))))
    (dss_cons (ds_set (i := 3) sc_same.nd rfl (by first | exact .inl rfl | exact .inr rfl) (np1 rfl) de_dnew)
    (dss_one (ds_ret (de_cmp (op_eqA (ru64 hr)) os_eq (dx_v (dcall c_numbered hgd hr rfl (passes_call (takes_of rfl rfl rfl rfl) (fun _ _ _ _ h => h)) (da_cons (dx_v (de_v 1 (pv 1))) (da_cons (dx_s 3 (pv 3)) da_nil)))) (dx_v (dcall c_numbered hgd hr rfl (passes_call (takes_of rfl rfl rfl rfl) (fun _ _ _ _ h => h)) (da_cons (dx_v (de_v 2 (pv 2))) (da_cons (dx_s 3 (pv 3)) da_nil)))) (nomark _)))))))
abbrev s__law_cell : Stmt := topS 18
theorem sc__law_cell : FnScope ["_law_script", "_law_k"] ["_law_script", "_law_k"] (defScope s__law_cell) := ⟨rfl, rfl, rfl, by decide +kernel, rfl, by decide +kernel, by decide +kernel⟩
theorem ok__law_cell {f : Addr} {fd : FuncData} {k : Nat} (F : Fun K "_law_cell" "_law_cell" s__law_cell f fd) (hm : mg "_law_cell" = some (.ref f)) (hb : Binds K fd ["_law_script", "_law_k"] []) (z_len : mg "len" = none) : CallOk P w K mg T (k + 1) "_law_cell" ["_law_script", "_law_k"] M__law_cell :=
  callOk_of F hm hb fun base => fnD F sc__law_cell rfl rfl (by decide) fun cdv A outer s H qv E hgd hr => (dss_cons (ds_if (dt_cmp op_lt os_cmI (dx_s 1 (pv 1)) (dx_v (de_callB call_lenA os_len rfl z_len bt_len (da_cons (dx_s 0 (pv 0)) da_nil))) (nomark _)) (dss_one (ds_ret (de_ix (ixD (ru65 hr)) os_ix (dx_s 0 (pv 0)) (dx_s 1 (pv 1)) (fun _ _ => rfl)))) dss_nil)
    (dss_one (ds_ret de_int)))
abbrev s__law_draw : Stmt := topS 20
theorem sc__law_draw : FnScope ["_law_pen_here", "_law_many", "_law_stirred", "_law_found"] ["_law_pen_here", "_law_many"] (defScope s__law_draw) := ⟨rfl, rfl, rfl, by decide +kernel, rfl, by decide +kernel, by decide +kernel⟩
theorem ok__law_draw {f : Addr} {fd : FuncData} {k : Nat} (F : Fun K "_law_draw" "_law_draw" s__law_draw f fd) (hm : mg "_law_draw" = some (.ref f)) (hb : Binds K fd ["_law_pen_here", "_law_many"] [])  : CallOk P w K mg T (k + 1) "_law_draw" ["_law_pen_here", "_law_many"] M__law_draw_2 :=
  callOk_of F hm hb fun base => fnD F sc__law_draw rfl rfl (by decide) fun cdv A outer s H qv E hgd hr => (dss_cons (ds_if (dt_cmp op_gt os_cmI (dx_v (de_ix (ixD (ru65 hr)) os_ix (dx_s 0 (pv 0)) (dx_v de_int) (fun _ _ => rfl))) (dx_v de_int) (nomark _)) (dss_cons (ds_set (i := 3) sc__law_draw.nd rfl (by first | exact .inl rfl | exact .inr rfl) (np1 rfl) (de_op op_mod os_mod (dx_v (de_ix (ixD (ru65 hr)) os_ix (dx_s 0 (pv 0)) (dx_v de_int) (fun _ _ => rfl))) (dx_s 1 (pv 1))))
    (dss_cons (ds_setI (pv 0) (dx_v de_int) (de_op op_fdivW os_divW (dx_v (de_ix (ixD (ru65 hr)) os_ix (dx_s 0 (pv 0)) (dx_v de_int) (fun _ _ => rfl))) (dx_s 1 (pv 1))))
    (dss_one (ds_ret (de_m 3 (pv 3)))))) dss_nil)
    (dss_cons (ds_setI (pv 0) (dx_v de_int) (de_op op_addA os_add (dx_v (de_ix (ixD (ru65 hr)) os_ix (dx_s 0 (pv 0)) (dx_v de_int) (fun _ _ => rfl))) (dx_v de_int)))
    (dss_cons (ds_setI (pv 0) (dx_v de_int) (de_op op_mod os_mod (dx_v (de_op op_addA os_add (dx_v (de_op op_addA os_add (dx_v (de_op op_mulB os_mulB (dx_v (de_ix (ixD (ru65 hr)) os_ix (dx_s 0 (pv 0)) (dx_v de_int) (fun _ _ => rfl))) (dx_v de_int))) (dx_v (de_op op_mulB os_mulB (dx_v de_int) (dx_v (de_ix (ixD (ru65 hr)) os_ix (dx_s 0 (pv 0)) (dx_v de_int) (fun _ _ => rfl))))))) (dx_v de_int))) (dx_v de_int)))
    (dss_cons (ds_set (i := 2) sc__law_draw.nd rfl (by first | exact .inl rfl | exact .inr rfl) (np1 rfl) (de_op op_mod os_mod (dx_v (de_op op_addA os_add (dx_v (de_op op_addA os_add (dx_v (de_op op_mulB os_mulB (dx_v (de_ix (ixD (ru65 hr)) os_ix (dx_s 0 (pv 0)) (dx_v de_int) (fun _ _ => rfl))) (dx_v (de_ix (ixD (ru65 hr)) os_ix (dx_s 0 (pv 0)) (dx_v de_int) (fun _ _ => rfl))))) (dx_v (de_op op_mulB os_mulB (dx_v de_int) (dx_v (de_ix (ixD (ru65 hr)) os_ix (dx_s 0 (pv 0)) (dx_v de_int) (fun _ _ => rfl))))))) (dx_v de_int))) (dx_v de_int)))
    (dss_cons (ds_set (i := 2) sc__law_draw.nd rfl (by first | exact .inl rfl | exact .inr rfl) (np1 rfl) (de_op op_mod os_mod (dx_v (de_op op_addA os_add (dx_v (de_op op_mulB os_mulB (dx_s 2 (pv 2)) (dx_s 2 (pv 2)))) (dx_v (de_op op_mulB os_mulB (dx_v de_int) (dx_s 2 (pv 2)))))) (dx_v de_int)))
    (dss_one (ds_ret (de_op op_mod os_mod (dx_v (de_op op_fdivW os_divW (dx_s 2 (pv 2)) (dx_v de_int))) (dx_s 1 (pv 1))))))))))
abbrev s__law_pick : Stmt := topS 21
theorem sc__law_pick : FnScope ["_law_pen_here", "_law_some"] ["_law_pen_here", "_law_some"] (defScope s__law_pick) := ⟨rfl, rfl, rfl, by decide +kernel, rfl, by decide +kernel, by decide +kernel⟩
theorem ok__law_pick {f : Addr} {fd : FuncData} {k : Nat} (F : Fun K "_law_pick" "_law_pick" s__law_pick f fd) (hm : mg "_law_pick" = some (.ref f)) (hb : Binds K fd ["_law_pen_here", "_law_some"] []) (c__law_draw : CallOk P w K mg T k "_law_draw" ["_law_pen_here", "_law_many"] M__law_draw_2) (z_len : mg "len" = none) : CallOk P w K mg T (k + 1) "_law_pick" ["_law_pen_here", "_law_some"] M__law_pick_2 :=
  callOk_of F hm hb fun base => fnD F sc__law_pick rfl rfl (by decide) fun cdv A outer s H qv E hgd hr => (dss_one (ds_ret (de_ix (ixD (ru65 hr)) os_ix (dx_s 1 (pv 1)) (dx_v (dcall c__law_draw hgd hr rfl (passes_call (takes_of rfl rfl rfl rfl) (fun _ _ _ _ h => h)) (da_cons (dx_s 0 (pv 0)) (da_cons (dx_v (de_callB call_lenA os_len rfl z_len bt_len (da_cons (dx_s 1 (pv 1)) da_nil))) da_nil)))) (fun _ _ => rfl))))
theorem ok__law_pick_r1 {f : Addr} {fd : FuncData} {k : Nat} (F : Fun K "_law_pick" "_law_pick" s__law_pick f fd) (hm : mg "_law_pick" = some (.ref f)) (hb : Binds K fd ["_law_pen_here", "_law_some"] []) (c__law_draw : CallOk P w K mg T k "_law_draw" ["_law_pen_here", "_law_many"] M__law_draw_2) (z_len : mg "len" = none) : CallOk P w K mg T (k + 1) "_law_pick" ["_law_pen_here", "_law_some"] M__law_pick_2_r1 :=
  callOk_of F hm hb fun base => fnD F sc__law_pick rfl rfl (by decide) fun cdv A outer s H qv E hgd hr => (dss_one (ds_ret (de_ix (ixD (ru65 hr)) os_ix (dx_s 1 (pv 1)) (dx_v (dcall c__law_draw hgd hr rfl (passes_call (takes_of rfl rfl rfl rfl) (fun _ _ _ _ h => h)) (da_cons (dx_s 0 (pv 0)) (da_cons (dx_v (de_callB call_lenA os_len rfl z_len bt_len (da_cons (dx_s 1 (pv 1)) da_nil))) da_nil)))) (fun _ _ => rfl))))
abbrev s__law_arities : Stmt := topS 23
theorem sc__law_arities : FnScope ["_law_pen_here", "_law_found", "_law_turn"] ["_law_pen_here"] (defScope s__law_arities) := ⟨rfl, rfl, rfl, by decide +kernel, rfl, by decide +kernel, by decide +kernel⟩
theorem ok__law_arities {f : Addr} {fd : FuncData} {k : Nat} (F : Fun K "_law_arities" "_law_arities" s__law_arities f fd) (hm : mg "_law_arities" = some (.ref f)) (hb : Binds K fd ["_law_pen_here"] []) (c__law_draw : CallOk P w K mg T k "_law_draw" ["_law_pen_here", "_law_many"] M__law_draw_2) (c__law_pick : CallOk P w K mg T k "_law_pick" ["_law_pen_here", "_law_some"] M__law_pick_2) (z_range : mg "range" = none) (z_tuple : mg "tuple" = none) : CallOk P w K mg T (k + 1) "_law_arities" ["_law_pen_here"] M__law_arities_2 :=
  callOk_of F hm hb fun base => fnD F sc__law_arities rfl rfl (by decide) fun cdv A outer s H qv E hgd hr => (dss_cons (ds_fz [1] (ds_setLc (i := 1) (own := [("_law_turn", 2)]) (np1 rfl) (npn rfl) (by decide) rfl sc__law_arities.nd rfl rfl (sw_true rfl rfl rfl (by decide +kernel)) (di_r1 rfl z_range (da_cons (dx_v (dcall c__law_draw hgd hr rfl (passes_call (takes_of rfl rfl rfl rfl) (fun _ _ _ _ h => h)) (da_cons (dx_s 0 (pv 0)) (da_cons (dx_v de_int) da_nil)))) da_nil)) (blkOk_by (N := ["_law_pen_here", "_law_found", "_law_turn"]) (sc := defScope s__law_arities) (own := [("_law_turn", 2)]) (by decide +kernel)) (fun _ _ _ _ _ => (pg_name (i := 2) sc__law_arities.nd rfl (by first | exact .inl rfl | exact .inr rfl))) (fun _ _ _ _ _ => pts_yes) (fun _ _ _ _ _ => (dcall c__law_pick hgd hr rfl passL (da_cons (dx_s 0 (pv 0)) (da_cons (dx_v (de_lst (da_cons (dx_v de_int) (da_cons (dx_v de_int) (da_cons (dx_v de_int) (da_cons (dx_v de_int) da_nil)))))) da_nil))))) nx_set)
    (dss_cons (ds_fz [1] (ds_set (i := 1) sc__law_arities.nd rfl (by first | exact .inl rfl | exact .inr rfl) (np1 rfl) (de_op op_addA os_add (dx_s 1 (pv 1)) (dx_v (de_op op_mulB os_mulB (dx_v (de_lst (da_cons (dx_v de_int) da_nil))) (dx_v (de_op op_addA os_add (dx_v de_int) (dx_v (dcall c__law_draw hgd hr rfl (passes_call (takes_of rfl rfl rfl rfl) (fun _ _ _ _ h => h)) (da_cons (dx_s 0 (pv 0)) (da_cons (dx_v de_int) da_nil)))))))))) nx_set)
    (dss_one (ds_ret (de_callTy call_tuple_of os_tuple rfl z_tuple bt_tuple (da_cons (dx_v (de_if (dt_cmp (op_eqA (ru64 hr)) os_eq (dx_v (dcall c__law_draw hgd hr rfl (passes_call (takes_of rfl rfl rfl rfl) (fun _ _ _ _ h => h)) (da_cons (dx_s 0 (pv 0)) (da_cons (dx_v de_int) da_nil)))) (dx_v de_int) (nomark _)) (de_rev (dx_s 1 (pv 1))) (de_v 1 (pv 1)))) da_nil))))))
abbrev s__law_written : Stmt := topS 24
theorem sc__law_written : FnScope ["_law_pen_here", "_law_arities_here", "_law_upto", "_law_leaves", "_law_found", "_law_turn", "_law_one", "_law_near", "_law_parts", "_law_arity", "_law_lap"] ["_law_pen_here", "_law_arities_here", "_law_upto"] (defScope s__law_written) := ⟨rfl, rfl, rfl, by decide +kernel, rfl, by decide +kernel, by decide +kernel⟩
theorem ok__law_written {f : Addr} {fd : FuncData} {k : Nat} (F : Fun K "_law_written" "_law_written" s__law_written f fd) (hm : mg "_law_written" = some (.ref f)) (hb : Binds K fd ["_law_pen_here", "_law_arities_here", "_law_upto"] []) (c__law_draw : CallOk P w K mg T k "_law_draw" ["_law_pen_here", "_law_many"] M__law_draw_2) (c__law_pick : CallOk P w K mg T k "_law_pick" ["_law_pen_here", "_law_some"] M__law_pick_2) (z_enumerate : mg "enumerate" = none) (z_len : mg "len" = none) (z_max : mg "max" = none) (z_range : mg "range" = none) (z_tuple : mg "tuple" = none) : CallOk P w K mg T (k + 1) "_law_written" ["_law_pen_here", "_law_arities_here", "_law_upto"] M__law_written :=
  callOk_of F hm hb fun base => fnD F sc__law_written rfl rfl (by decide) fun cdv A outer s H qv E hgd hr => (dss_cons (ds_fz [3] (ds_setLc (i := 3) (own := [("_law_one", 6), ("_law_arity", 9)]) (np1 rfl) (npn rfl) (by decide) rfl sc__law_written.nd rfl rfl (sw_true rfl rfl rfl (by decide +kernel)) (di_en rfl z_enumerate (da_cons (dx_v (de_v 1 (pv 1))) da_nil)) (blkOk_by (N := ["_law_pen_here", "_law_arities_here", "_law_upto", "_law_leaves", "_law_found", "_law_turn", "_law_one", "_law_near", "_law_parts", "_law_arity", "_law_lap"]) (sc := defScope s__law_written) (own := [("_law_one", 6), ("_law_arity", 9)]) (by decide +kernel)) (fun _ _ _ _ _ => (pg_tup rfl (pgs_cons (pg_name (i := 6) sc__law_written.nd rfl (by first | exact .inl rfl | exact .inr rfl)) (pgs_cons (pg_name (i := 9) sc__law_written.nd rfl (by first | exact .inl rfl | exact .inr rfl)) pgs_nil)))) (fun _ _ _ _ _ => (pts_one (dt_cmp (op_eqA (ru64 hr)) os_eq (dx_s 9 (pv 9)) (dx_v de_int) (nomark _)))) (fun _ _ _ _ _ => (de_v 6 (pv 6)))) nx_set)
    (dss_cons (ds_if (dt_cmp (op_eqA (ru64 hr)) os_eq (dx_s 3 (pv 3)) (dx_v (de_lst da_nil)) (nomark _)) (dss_one (ds_ret de_non)) dss_nil)
    (dss_cons (ds_wp [3] (ds_set (i := 4) sc__law_written.nd rfl (by first | exact .inl rfl | exact .inr rfl) (np1 rfl) (de_lst (da_cons (dx_v (de_tup (da_cons (dx_v (dcall c__law_pick hgd hr rfl (passes_call (takes_of rfl rfl rfl rfl) (fun _ _ _ _ h => h)) (da_cons (dx_s 0 (pv 0)) (da_cons (dx_v (de_v 3 (pv 3))) da_nil)))) da_nil))) da_nil))))
    (dss_cons (ds_wp [1, 2, 5, 6, 7, 8] (ds_for (npn rfl) (passes_of rfl) rfl (di_r1 rfl z_range (da_cons (dx_v (dcall c__law_draw hgd hr rfl (passes_call (takes_of rfl rfl rfl rfl) (fun _ _ _ _ h => h)) (da_cons (dx_s 0 (pv 0)) (da_cons (dx_v (de_v 2 (pv 2))) da_nil)))) da_nil)) (pg_name (i := 5) sc__law_written.nd rfl (by first | exact .inl rfl | exact .inr rfl)) (dss_cons (ds_set (i := 6) sc__law_written.nd rfl (by first | exact .inl rfl | exact .inr rfl) (np1 rfl) (dcall c__law_draw hgd hr rfl (passes_call (takes_of rfl rfl rfl rfl) (fun _ _ _ _ h => h)) (da_cons (dx_s 0 (pv 0)) (da_cons (dx_v (de_callB call_lenA os_len rfl z_len bt_len (da_cons (dx_s 1 (pv 1)) da_nil))) da_nil))))
    (dss_cons (ds_set (i := 7) sc__law_written.nd rfl (by first | exact .inl rfl | exact .inr rfl) (np1 rfl) (de_callB (cl_max rfl) os_max rfl z_max bt_max (da_cons (dx_v de_int) (da_cons (dx_v (de_op op_sub os_sub (dx_v (de_op op_sub os_sub (dx_v (de_callB call_lenA os_len rfl z_len bt_len (da_cons (dx_s 4 (pv 4)) da_nil))) (dx_v de_int))) (dx_v (dcall c__law_draw hgd hr rfl (passes_call (takes_of rfl rfl rfl rfl) (fun _ _ _ _ h => h)) (da_cons (dx_s 0 (pv 0)) (da_cons (dx_v de_int) da_nil)))))) da_nil))))
    (dss_cons (ds_fz [8] (ds_setLc (i := 8) (own := [("_law_lap", 10)]) (np1 rfl) (npn rfl) (by decide) rfl sc__law_written.nd rfl rfl (sw_true rfl rfl rfl (by decide +kernel)) (di_r1 rfl z_range (da_cons (dx_v de_int) da_nil)) (blkOk_by (N := ["_law_pen_here", "_law_arities_here", "_law_upto", "_law_leaves", "_law_found", "_law_turn", "_law_one", "_law_near", "_law_parts", "_law_arity", "_law_lap"]) (sc := defScope s__law_written) (own := [("_law_lap", 10)]) (by decide +kernel)) (fun _ _ _ _ _ => (pg_name (i := 10) sc__law_written.nd rfl (by first | exact .inl rfl | exact .inr rfl))) (fun _ _ _ _ _ => pts_yes) (fun _ _ _ _ _ => (de_ix (ixD (ru65 hr)) os_ix (dx_v (de_lst (da_cons (dx_v (de_v 7 (pv 7))) (da_cons (dx_v (de_op op_sub os_sub (dx_v (de_callB call_lenA os_len rfl z_len bt_len (da_cons (dx_s 4 (pv 4)) da_nil))) (dx_v de_int))) (da_cons (dx_v (dcall c__law_draw hgd hr rfl passL (da_cons (dx_s 0 (pv 0)) (da_cons (dx_v (de_callB call_lenA os_len rfl z_len bt_len (da_cons (dx_s 4 (pv 4)) da_nil))) da_nil)))) da_nil))))) (dx_v (dcall c__law_draw hgd hr rfl passL (da_cons (dx_s 0 (pv 0)) (da_cons (dx_v de_int) da_nil)))) (fun _ _ => rfl)))) nx_set)
    (dss_one (ds_wp [5, 6, 7, 8] (ds_app (pv 4) (de_op op_addA os_add (dx_v (de_tup (da_cons (dx_v (de_v 6 (pv 6))) da_nil))) (dx_v (de_callTy call_tuple_of os_tuple rfl z_tuple bt_tuple (da_cons (dx_v (de_slHi (dx_s 8 (pv 8)) (dx_v (de_ix (ixD (ru65 hr)) os_ix (dx_s 1 (pv 1)) (dx_s 6 (pv 6)) (fun _ _ => rfl))))) da_nil))))))))))))
    (dss_one (ds_ret (de_callTy call_tuple_of os_tuple rfl z_tuple bt_tuple (da_cons (dx_s 4 (pv 4)) da_nil))))))))
abbrev s__law_again : Stmt := topS 26
theorem sc__law_again : FnScope ["_law_pen_here", "_law_written_here", "_law_found", "_law_places", "_law_at", "_law_one", "_law_lap", "_law_part"] ["_law_pen_here", "_law_written_here"] (defScope s__law_again) := ⟨rfl, rfl, rfl, by decide +kernel, rfl, by decide +kernel, by decide +kernel⟩
theorem ok__law_again {f : Addr} {fd : FuncData} {k : Nat} (F : Fun K "_law_again" "_law_again" s__law_again f fd) (hm : mg "_law_again" = some (.ref f)) (hb : Binds K fd ["_law_pen_here", "_law_written_here"] []) (c__law_draw : CallOk P w K mg T k "_law_draw" ["_law_pen_here", "_law_many"] M__law_draw_2) (c__law_pick_r1 : CallOk P w K mg T k "_law_pick" ["_law_pen_here", "_law_some"] M__law_pick_2_r1) (z_enumerate : mg "enumerate" = none) (z_int : mg "int" = none) (z_len : mg "len" = none) (z_range : mg "range" = none) (z_tuple : mg "tuple" = none) : CallOk P w K mg T (k + 1) "_law_again" ["_law_pen_here", "_law_written_here"] M__law_again :=
  callOk_of F hm hb fun base => fnD F sc__law_again rfl rfl (by decide) fun cdv A outer s H qv E hgd hr => (dss_cons (ds_parC (i := 2) (j := 3) (np1 rfl) (np1 rfl) (pg_tup rfl (pgs_cons (pg_name (i := 2) sc__law_again.nd rfl (by first | exact .inl rfl | exact .inr rfl)) (pgs_cons (pg_name (i := 3) sc__law_again.nd rfl (by first | exact .inl rfl | exact .inr rfl)) pgs_nil))) (de_lst da_nil) (de_lstO da_nil))
    (dss_cons (ds_wp [1, 3, 4, 5, 6] (ds_for (npn rfl) (passes_of rfl) rfl (di_en rfl z_enumerate (da_cons (dx_v (de_v 1 (pv 1))) da_nil)) (pg_tup rfl (pgs_cons (pg_name (i := 4) sc__law_again.nd rfl (by first | exact .inl rfl | exact .inr rfl)) (pgs_cons (pg_name (i := 5) sc__law_again.nd rfl (by first | exact .inl rfl | exact .inr rfl)) pgs_nil))) (dss_cons (ds_if (dw_t (dw_and (dt_cmp (op_eqA (ru64 hr)) os_eq (dx_v (dcall c__law_draw hgd hr rfl (passes_call (takes_of rfl rfl rfl rfl) (fun _ _ _ _ h => h)) (da_cons (dx_s 0 (pv 0)) (da_cons (dx_v de_int) da_nil)))) (dx_v de_int) (nomark _)) (dw_and1 (dt_cmp (op_neA (ru64 hr)) os_ne (dx_s 2 (pv 2)) (dx_v (de_lst da_nil)) (nomark _))))) (dss_one (ds_app (pv 2) (dcall c__law_pick_r1 hgd hr rfl (passes_call (takes_of rfl rfl rfl rfl) (fun _ _ _ _ h => h)) (da_cons (dx_s 0 (pv 0)) (da_cons (dx_s 2 (pv 2)) da_nil))))) dss_nil)
    (dss_one (ds_wp [4, 5, 6] (ds_for (npn rfl) (passes_of rfl) rfl (di_r1 rfl z_range (da_cons (dx_v (de_op op_addA os_add (dx_v de_int) (dx_v (de_callTy call_int1 os_int rfl z_int bt_int (da_cons (dx_v (de_cmp (op_eqA (ru64 hr)) os_eq (dx_v (dcall c__law_draw hgd hr rfl (passes_call (takes_of rfl rfl rfl rfl) (fun _ _ _ _ h => h)) (da_cons (dx_s 0 (pv 0)) (da_cons (dx_v de_int) da_nil)))) (dx_v de_int) (nomark _))) da_nil))))) da_nil)) (pg_name (i := 6) sc__law_again.nd rfl (by first | exact .inl rfl | exact .inr rfl)) (dss_cons (ds_app (pv 2) (de_op op_addA os_add (dx_v (de_tup (da_cons (dx_v (de_ix (ixD (ru65 hr)) os_ix (dx_s 5 (pv 5)) (dx_v de_int) (fun _ _ => rfl))) da_nil))) (dx_v (de_callTy call_tuple_of os_tuple rfl z_tuple bt_tuple (da_cons (dx_v (de_lc (own := [("_law_part", 7)]) (npn rfl) (by decide) rfl sc__law_again.nd (di_seq (dx_v (de_slLo (dx_s 5 (pv 5)) (dx_v de_int)))) (blkOk_by (N := ["_law_pen_here", "_law_written_here", "_law_found", "_law_places", "_law_at", "_law_one", "_law_lap", "_law_part"]) (sc := defScope s__law_again) (own := [("_law_part", 7)]) (by decide +kernel)) (fun _ _ _ _ _ => (pg_name (i := 7) sc__law_again.nd rfl (by first | exact .inl rfl | exact .inr rfl))) (fun _ _ _ _ _ => pts_yes) (fun _ _ _ _ _ => (dcallR c__law_pick_r1 hgd hr rfl passL (pv 0) (pv 3) (pv 7) pi_n (fun _ _ => rfl))))) da_nil)))))
    (dss_cons (ds_if (dt_cmp (op_eqA (ru64 hr)) os_eq (dx_s 6 (pv 6)) (dx_v de_int) (nomark _)) (dss_one (ds_appO (pv 3) (de_lst da_nil))) dss_nil)
    (dss_one (ds_wp [6] (ds_appI (pv 3) (pv 4) pi_n (fun _ _ => rfl) (de_op op_sub os_sub (dx_v (de_callB call_lenA os_len rfl z_len bt_len (da_cons (dx_s 2 (pv 2)) da_nil))) (dx_v de_int)))))))))))))
    (dss_one (ds_ret (de_callTy call_tuple_of os_tuple rfl z_tuple bt_tuple (da_cons (dx_s 2 (pv 2)) da_nil))))))
abbrev s__law_other : Stmt := topS 27
theorem sc__law_other : FnScope ["_law_pen_here", "_law_arities_here", "_law_written_here", "_law_at", "_law_one", "_law_some", "_law_changed", "_law_number", "_law_arity"] ["_law_pen_here", "_law_arities_here", "_law_written_here"] (defScope s__law_other) := ⟨rfl, rfl, rfl, by decide +kernel, rfl, by decide +kernel, by decide +kernel⟩
theorem ok__law_other {f : Addr} {fd : FuncData} {k : Nat} (F : Fun K "_law_other" "_law_other" s__law_other f fd) (hm : mg "_law_other" = some (.ref f)) (hb : Binds K fd ["_law_pen_here", "_law_arities_here", "_law_written_here"] []) (c__law_draw : CallOk P w K mg T k "_law_draw" ["_law_pen_here", "_law_many"] M__law_draw_2) (c__law_pick : CallOk P w K mg T k "_law_pick" ["_law_pen_here", "_law_some"] M__law_pick_2) (z_enumerate : mg "enumerate" = none) (z_len : mg "len" = none) : CallOk P w K mg T (k + 1) "_law_other" ["_law_pen_here", "_law_arities_here", "_law_written_here"] M__law_other :=
  callOk_of F hm hb fun base => fnD F sc__law_other rfl rfl (by decide) fun cdv A outer s H qv E hgd hr => (dss_cons (ds_set (i := 3) sc__law_other.nd rfl (by first | exact .inl rfl | exact .inr rfl) (np1 rfl) (dcall c__law_draw hgd hr rfl (passes_call (takes_of rfl rfl rfl rfl) (fun _ _ _ _ h => h)) (da_cons (dx_s 0 (pv 0)) (da_cons (dx_v (de_callB call_lenA os_len rfl z_len bt_len (da_cons (dx_s 2 (pv 2)) da_nil))) da_nil))))
    (dss_cons (ds_set (i := 4) sc__law_other.nd rfl (by first | exact .inl rfl | exact .inr rfl) (np1 rfl) (de_ix (ixD (ru65 hr)) os_ix (dx_s 2 (pv 2)) (dx_s 3 (pv 3)) (fun _ _ => rfl)))
    (dss_cons (ds_fz [5] (ds_setLc (i := 5) (own := [("_law_number", 7), ("_law_arity", 8)]) (np1 rfl) (npn rfl) (by decide) rfl sc__law_other.nd rfl rfl (sw_true rfl rfl rfl (by decide +kernel)) (di_en rfl z_enumerate (da_cons (dx_v (de_v 1 (pv 1))) da_nil)) (blkOk_by (N := ["_law_pen_here", "_law_arities_here", "_law_written_here", "_law_at", "_law_one", "_law_some", "_law_changed", "_law_number", "_law_arity"]) (sc := defScope s__law_other) (own := [("_law_number", 7), ("_law_arity", 8)]) (by decide +kernel)) (fun _ _ _ _ _ => (pg_tup rfl (pgs_cons (pg_name (i := 7) sc__law_other.nd rfl (by first | exact .inl rfl | exact .inr rfl)) (pgs_cons (pg_name (i := 8) sc__law_other.nd rfl (by first | exact .inl rfl | exact .inr rfl)) pgs_nil)))) (fun _ _ _ _ _ => (pts_one (dt_cmp (op_eqA (ru64 hr)) os_eq (dx_s 8 (pv 8)) (dx_v (de_op op_sub os_sub (dx_v (de_callB call_lenA os_len rfl z_len bt_len (da_cons (dx_s 4 (pv 4)) da_nil))) (dx_v de_int))) (nomark _)))) (fun _ _ _ _ _ => (de_v 7 (pv 7)))) nx_set)
    (dss_cons (ds_set (i := 6) sc__law_other.nd rfl (by first | exact .inl rfl | exact .inr rfl) (np1 rfl) (de_ix (ixD (ru65 hr)) os_ix (dx_v (de_lst (da_cons (dx_v (de_op op_addA os_add (dx_v (de_tup (da_cons (dx_v (dcall c__law_pick hgd hr rfl (passes_call (takes_of rfl rfl rfl rfl) (fun _ _ _ _ h => h)) (da_cons (dx_s 0 (pv 0)) (da_cons (dx_v (de_v 5 (pv 5))) da_nil)))) da_nil))) (dx_v (de_slLo (dx_s 4 (pv 4)) (dx_v de_int))))) (da_cons (dx_v (de_op op_addA os_add (dx_v (de_slHi (dx_s 4 (pv 4)) (dx_v de_int))) (dx_v (de_revA (dx_v (de_slLo (dx_s 4 (pv 4)) (dx_v de_int))))))) da_nil)))) (dx_v (dcall c__law_draw hgd hr rfl (passes_call (takes_of rfl rfl rfl rfl) (fun _ _ _ _ h => h)) (da_cons (dx_s 0 (pv 0)) (da_cons (dx_v de_int) da_nil)))) (fun _ _ => rfl)))
    (dss_one (ds_ret (de_op op_addA os_add (dx_v (de_op op_addA os_add (dx_v (de_slHi (dx_s 2 (pv 2)) (dx_s 3 (pv 3)))) (dx_v (de_tup (da_cons (dx_v (de_v 6 (pv 6))) da_nil))))) (dx_v (de_slLo (dx_s 2 (pv 2)) (dx_v (de_op op_addA os_add (dx_s 3 (pv 3)) (dx_v de_int))))))))))))
abbrev s__law_mark : Stmt := topS 25
theorem sc__law_mark : FnScope ["_law_written_here", "_law_known", "_law_found", "_law_one", "_law_part", "_law_at"] ["_law_written_here", "_law_known"] (defScope s__law_mark) := ⟨rfl, rfl, rfl, by decide +kernel, rfl, by decide +kernel, by decide +kernel⟩
theorem ok__law_mark {f : Addr} {fd : FuncData} {k : Nat} (F : Fun K "_law_mark" "_law_mark" s__law_mark f fd) (hm : mg "_law_mark" = some (.ref f)) (hb : Binds K fd ["_law_written_here", "_law_known"] []) (z_tuple : mg "tuple" = none) : CallOk P w K mg T (k + 1) "_law_mark" ["_law_written_here", "_law_known"] M__law_mark :=
  callOk_of F hm hb fun base => fnD F sc__law_mark rfl rfl (by decide) fun cdv A outer s H qv E hgd hr => (dss_cons (ds_set (i := 2) sc__law_mark.nd rfl (by first | exact .inl rfl | exact .inr rfl) (np1 rfl) (de_lst da_nil))
    (dss_cons (ds_wp [0, 3, 4] (ds_for (npn rfl) (passes_of rfl) rfl (di_seq (dx_v (de_v 0 (pv 0)))) (pg_name (i := 3) sc__law_mark.nd rfl (by first | exact .inl rfl | exact .inr rfl)) (dss_cons (ds_set (i := 4) sc__law_mark.nd rfl (by first | exact .inl rfl | exact .inr rfl) (np1 rfl) (de_tup (da_cons (dx_v (de_ix (ixD (ru65 hr)) os_ix (dx_s 3 (pv 3)) (dx_v de_int) (fun _ _ => rfl))) (da_cons (dx_v (de_callTy call_tuple_of os_tuple rfl z_tuple bt_tuple (da_cons (dx_v (de_lc (own := [("_law_at", 5)]) (npn rfl) (by decide) rfl sc__law_mark.nd (di_seq (dx_v (de_slLo (dx_s 3 (pv 3)) (dx_v de_int)))) (blkOk_by (N := ["_law_written_here", "_law_known", "_law_found", "_law_one", "_law_part", "_law_at"]) (sc := defScope s__law_mark) (own := [("_law_at", 5)]) (by decide +kernel)) (fun _ _ _ _ _ => (pg_name (i := 5) sc__law_mark.nd rfl (by first | exact .inl rfl | exact .inr rfl))) (fun _ _ _ _ _ => pts_yes) (fun _ _ _ _ _ => (de_ix (ixD (ru65 hr)) os_ix (dx_s 2 (pv 2)) (dx_s 5 (pv 5)) (fun _ _ => rfl))))) da_nil))) da_nil))))
    (dss_cons (ds_if (dt_cmp (op_ninA (ru65 hr)) os_ninA (dx_s 4 (pv 4)) (dx_s 1 (pv 1)) rfl) (dss_one (ds_app (pv 1) (de_v 4 (pv 4)))) dss_nil)
    (dss_one (ds_wp [3, 4] (ds_app (pv 2) (de_indexO (ru65 hr) (pv 1) (dx_s 4 (pv 4))))))))))
    (dss_one (ds_ret (de_ix (ixD (ru65 hr)) os_ix (dx_s 2 (pv 2)) (dx_v (de_un un_neg os_neg (dx_v de_int))) (fun _ _ => rfl))))))
abbrev s__law_same : Stmt := topS 22
theorem sc__law_same : FnScope ["_law_found", "_law_due"] ["_law_found", "_law_due"] (defScope s__law_same) := ⟨rfl, rfl, rfl, by decide +kernel, rfl, by decide +kernel, by decide +kernel⟩
theorem ok__law_same {f : Addr} {fd : FuncData} {k : Nat} (F : Fun K "_law_same" "_law_same" s__law_same f fd) (hm : mg "_law_same" = some (.ref f)) (hb : Binds K fd ["_law_found", "_law_due"] []) (z_repr : mg "repr" = none) : CallOk P w K mg T (k + 1) "_law_same" ["_law_found", "_law_due"] M__law_same :=
  callOk_of F hm hb fun base => fnD F sc__law_same rfl rfl (by decide) fun cdv A outer s H qv E hgd hr => (dss_one (ds_ret (de_cmp (op_eqA (ru64 hr)) os_eq (dx_v (de_callB (cr_repr hgd hr) os_repr rfl z_repr bt_repr (da_cons (dx_s 0 (pv 0)) da_nil))) (dx_v (de_callB (cr_repr hgd hr) os_repr rfl z_repr bt_repr (da_cons (dx_s 1 (pv 1)) da_nil))) (nomark _))))
abbrev s__law_right : Stmt := topS 28
theorem sc__law_right : FnScope ["_law_arities_here", "_law_one", "_law_other_here", "_law_due", "_law_told", "_law_known", "_law_kept"] ["_law_arities_here", "_law_one", "_law_other_here"] (defScope s__law_right) := ⟨rfl, rfl, rfl, by decide +kernel, rfl, by decide +kernel, by decide +kernel⟩
theorem ok__law_right {f : Addr} {fd : FuncData} {k : Nat} (F : Fun K "_law_right" "_law_right" s__law_right f fd) (hm : mg "_law_right" = some (.ref f)) (hb : Binds K fd ["_law_arities_here", "_law_one", "_law_other_here"] []) (c__law_mark : CallOk P w K mg T k "_law_mark" ["_law_written_here", "_law_known"] M__law_mark) (c__law_same : CallOk P w K mg T k "_law_same" ["_law_found", "_law_due"] M__law_same) (c_same : CallOk P w K mg T k "same" ["arities", "one", "other"] M_same) (z_repr : mg "repr" = none) : CallOk P w K mg T (k + 1) "_law_right" ["_law_arities_here", "_law_one", "_law_other_here"] M__law_right_6 :=
  callOk_of F hm hb fun base => fnD F sc__law_right rfl rfl (by decide) fun cdv A outer s H qv E hgd hr => (dss_cons (ds_par (i := 5) (j := 6) (np1 rfl) (np1 rfl) rfl sc__law_right.nd rfl rfl (by decide) rfl rfl (de_lst da_nil) (de_callB (cr_repr hgd hr) os_repr rfl z_repr bt_repr (da_cons (dx_v (de_tup (da_cons (dx_v (de_v 1 (pv 1))) (da_cons (dx_v (de_v 2 (pv 2))) da_nil)))) da_nil)))
    (dss_cons (ds_set (i := 3) sc__law_right.nd rfl (by first | exact .inl rfl | exact .inr rfl) (np1 rfl) (de_cmp (op_eqA (ru64 hr)) os_eq (dx_v (dcall c__law_mark hgd hr rfl (passes_call (takes_of rfl rfl rfl rfl) (fun _ _ _ _ h => h)) (da_cons (dx_v (de_v 1 (pv 1))) (da_cons (dx_s 5 (pv 5)) da_nil)))) (dx_v (dcall c__law_mark hgd hr rfl (passes_call (takes_of rfl rfl rfl rfl) (fun _ _ _ _ h => h)) (da_cons (dx_v (de_v 2 (pv 2))) (da_cons (dx_s 5 (pv 5)) da_nil)))) (nomark _)))
    (dss_cons (ds_fz [4] (ds_set (i := 4) sc__law_right.nd rfl (by first | exact .inl rfl | exact .inr rfl) (np1 rfl) (de_lst (da_cons (dx_v (dcall c_same hgd hr rfl (passes_call (takes_of rfl rfl rfl rfl) (fun _ _ _ _ h => h)) (da_cons (dx_v (de_v 0 (pv 0))) (da_cons (dx_v (de_v 1 (pv 1))) (da_cons (dx_v (de_v 2 (pv 2))) da_nil))))) (da_cons (dx_v (dcall c_same hgd hr rfl (passes_call (takes_of rfl rfl rfl rfl) (fun _ _ _ _ h => h)) (da_cons (dx_v (de_v 0 (pv 0))) (da_cons (dx_v (de_v 2 (pv 2))) (da_cons (dx_v (de_v 1 (pv 1))) da_nil))))) (da_cons (dx_v (dcall c_same hgd hr rfl (passes_call (takes_of rfl rfl rfl rfl) (fun _ _ _ _ h => h)) (da_cons (dx_v (de_v 0 (pv 0))) (da_cons (dx_v (de_v 1 (pv 1))) (da_cons (dx_v (de_v 2 (pv 2))) da_nil))))) da_nil))))) nx_set)
    (dss_one (ds_ret (de_and (dcall c__law_same hgd hr rfl (passes_call (takes_of rfl rfl rfl rfl) (fun _ _ _ _ h => h)) (da_cons (dx_v (de_v 4 (pv 4))) (da_cons (dx_v (de_op op_mulB os_mulB (dx_v (de_lst (da_cons (dx_v (de_v 3 (pv 3))) da_nil))) (dx_v de_int))) da_nil))) (de_one (de_cmp (op_eqA (ru64 hr)) os_eq (dx_v (de_callB (cr_repr hgd hr) os_repr rfl z_repr bt_repr (da_cons (dx_v (de_tup (da_cons (dx_v (de_v 1 (pv 1))) (da_cons (dx_v (de_v 2 (pv 2))) da_nil)))) da_nil))) (dx_s 6 (pv 6)) (nomark _)))))))))
abbrev s_law : Stmt := topS 29
theorem sc_law : FnScope ["_law_script", "_law_full", "_law_low", "_law_tall", "_law_k", "_law_pen_here", "_law_lap", "_law_arities_here", "_law_written_here", "_law_again_here", "_law_more", "_law_some", "_law_other_here", "_law_one", "_law_at"] ["_law_script"] (defScope s_law) := ⟨rfl, rfl, rfl, by decide +kernel, rfl, by decide +kernel, by decide +kernel⟩
theorem fn_law {f : Addr} {fd : FuncData} {k : Nat} (F : Fun K "law" "law" s_law f fd) {base : Heap} (c__law_again : CallOk P w K mg T k "_law_again" ["_law_pen_here", "_law_written_here"] M__law_again) (c__law_arities : CallOk P w K mg T k "_law_arities" ["_law_pen_here"] M__law_arities_2) (c__law_cell : CallOk P w K mg T k "_law_cell" ["_law_script", "_law_k"] M__law_cell) (c__law_other : CallOk P w K mg T k "_law_other" ["_law_pen_here", "_law_arities_here", "_law_written_here"] M__law_other) (c__law_pen : CallOk P w K mg T k "_law_pen" ["_law_cell_here"] M__law_pen_2) (c__law_right : CallOk P w K mg T k "_law_right" ["_law_arities_here", "_law_one", "_law_other_here"] M__law_right_6) (c__law_written : CallOk P w K mg T k "_law_written" ["_law_pen_here", "_law_arities_here", "_law_upto"] M__law_written) (c_same : CallOk P w K mg T k "same" ["arities", "one", "other"] M_same) (z_len : mg "len" = none) (z_max : mg "max" = none) (z_min : mg "min" = none) (z_range : mg "range" = none) (z_tuple : mg "tuple" = none) : FnG P w K mg base (k + 1) f fd ["_law_script"] (spD K mg T M_law_20) :=
  fnD F sc_law rfl rfl (by decide) fun cdv A outer s H qv E hgd hr => (dss_cons (ds_set (i := 1) sc_law.nd rfl (by first | exact .inl rfl | exact .inr rfl) (np1 rfl) (de_op op_addA os_add (dx_v (de_tup (da_cons (dx_v (de_tup (da_cons (dx_v de_int) da_nil))) da_nil))) (dx_v (de_callTy call_tuple_of os_tuple rfl z_tuple bt_tuple (da_cons (dx_v (de_lc (own := [("_law_at", 14)]) (npn rfl) (by decide) rfl sc_law.nd (di_r1 rfl z_range (da_cons (dx_v de_int) da_nil)) (blkOk_by (N := ["_law_script", "_law_full", "_law_low", "_law_tall", "_law_k", "_law_pen_here", "_law_lap", "_law_arities_here", "_law_written_here", "_law_again_here", "_law_more", "_law_some", "_law_other_here", "_law_one", "_law_at"]) (sc := defScope s_law) (own := [("_law_at", 14)]) (by decide +kernel)) (fun _ _ _ _ _ => (pg_name (i := 14) sc_law.nd rfl (by first | exact .inl rfl | exact .inr rfl))) (fun _ _ _ _ _ => pts_yes) (fun _ _ _ _ _ => (de_tup (da_cons (dx_v de_int) (da_cons (dx_v (de_v 14 (pv 14))) (da_cons (dx_v (de_v 14 (pv 14))) da_nil))))))) da_nil)))))
    (dss_cons (ds_set (i := 2) sc_law.nd rfl (by first | exact .inl rfl | exact .inr rfl) (np1 rfl) (de_op op_addA os_add (dx_v (de_tup (da_cons (dx_v (de_tup (da_cons (dx_v de_int) da_nil))) (da_cons (dx_v (de_tup (da_cons (dx_v de_int) da_nil))) da_nil)))) (dx_v (de_callTy call_tuple_of os_tuple rfl z_tuple bt_tuple (da_cons (dx_v (de_lc (own := [("_law_at", 14)]) (npn rfl) (by decide) rfl sc_law.nd (di_r1 rfl z_range (da_cons (dx_v de_int) da_nil)) (blkOk_by (N := ["_law_script", "_law_full", "_law_low", "_law_tall", "_law_k", "_law_pen_here", "_law_lap", "_law_arities_here", "_law_written_here", "_law_again_here", "_law_more", "_law_some", "_law_other_here", "_law_one", "_law_at"]) (sc := defScope s_law) (own := [("_law_at", 14)]) (by decide +kernel)) (fun _ _ _ _ _ => (pg_name (i := 14) sc_law.nd rfl (by first | exact .inl rfl | exact .inr rfl))) (fun _ _ _ _ _ => pts_yes) (fun _ _ _ _ _ => (de_tup (da_cons (dx_v de_int) (da_cons (dx_v (de_v 14 (pv 14))) (da_cons (dx_v (de_op op_addA os_add (dx_s 14 (pv 14)) (dx_v de_int))) da_nil))))))) da_nil)))))
    (dss_cons (ds_set (i := 3) sc_law.nd rfl (by first | exact .inl rfl | exact .inr rfl) (np1 rfl) (de_op op_addA os_add (dx_v (de_tup (da_cons (dx_v (de_tup (da_cons (dx_v de_int) da_nil))) (da_cons (dx_v (de_tup (da_cons (dx_v de_int) da_nil))) da_nil)))) (dx_v (de_callTy call_tuple_of os_tuple rfl z_tuple bt_tuple (da_cons (dx_v (de_lc (own := [("_law_at", 14)]) (npn rfl) (by decide) rfl sc_law.nd (di_r2 rfl z_range (da_cons (dx_v de_int) (da_cons (dx_v de_int) da_nil))) (blkOk_by (N := ["_law_script", "_law_full", "_law_low", "_law_tall", "_law_k", "_law_pen_here", "_law_lap", "_law_arities_here", "_law_written_here", "_law_again_here", "_law_more", "_law_some", "_law_other_here", "_law_one", "_law_at"]) (sc := defScope s_law) (own := [("_law_at", 14)]) (by decide +kernel)) (fun _ _ _ _ _ => (pg_name (i := 14) sc_law.nd rfl (by first | exact .inl rfl | exact .inr rfl))) (fun _ _ _ _ _ => pts_yes) (fun _ _ _ _ _ => (de_tup (da_cons (dx_v de_int) (da_cons (dx_v (de_callB (cl_max rfl) os_max rfl z_max bt_max (da_cons (dx_v de_int) (da_cons (dx_v (de_op op_sub os_sub (dx_s 14 (pv 14)) (dx_v de_int))) da_nil)))) (da_cons (dx_v (de_v 14 (pv 14))) da_nil))))))) da_nil)))))
    (dss_cons (ds_wp [1, 2, 3] (ds_if (dt_cmp (op_neA (ru64 hr)) os_ne (dx_v (de_lc (own := [("_law_one", 13)]) (npn rfl) (by decide) rfl sc_law.nd (di_seq (dx_v (de_tup (da_cons (dx_v (de_v 1 (pv 1))) (da_cons (dx_v (de_v 2 (pv 2))) (da_cons (dx_v (de_v 3 (pv 3))) (da_cons (dx_v (de_slHi (dx_s 1 (pv 1)) (dx_v de_int))) da_nil))))))) (blkOk_by (N := ["_law_script", "_law_full", "_law_low", "_law_tall", "_law_k", "_law_pen_here", "_law_lap", "_law_arities_here", "_law_written_here", "_law_again_here", "_law_more", "_law_some", "_law_other_here", "_law_one", "_law_at"]) (sc := defScope s_law) (own := [("_law_one", 13)]) (by decide +kernel)) (fun _ _ _ _ _ => (pg_name (i := 13) sc_law.nd rfl (by first | exact .inl rfl | exact .inr rfl))) (fun _ _ _ _ _ => pts_yes) (fun _ _ _ _ _ => (dcall c_same hgd hr rfl passL (da_cons (dx_v (de_tup (da_cons (dx_v de_int) (da_cons (dx_v de_int) da_nil)))) (da_cons (dx_v (de_v 1 (pv 1))) (da_cons (dx_v (de_v 13 (pv 13))) da_nil))))))) (dx_v (de_lst (da_cons (dx_v de_bl) (da_cons (dx_v de_bl) (da_cons (dx_v de_bl) (da_cons (dx_v de_bl) da_nil)))))) (nomark _)) (dss_one (ds_ret de_bl)) dss_nil))
    (dss_cons (ds_wp [0, 4, 5, 6, 7, 8, 9, 10, 11, 12] (ds_for (npn rfl) (passes_of rfl) rfl (di_r1 rfl z_range (da_cons (dx_v (de_callB (cl_max rfl) os_max rfl z_max bt_max (da_cons (dx_v de_int) (da_cons (dx_v (de_callB (cl_min rfl) os_min rfl z_min bt_min (da_cons (dx_v (de_callB call_lenA os_len rfl z_len bt_len (da_cons (dx_s 0 (pv 0)) da_nil))) (da_cons (dx_v de_int) da_nil)))) da_nil)))) da_nil)) (pg_name (i := 4) sc_law.nd rfl (by first | exact .inl rfl | exact .inr rfl)) (dss_cons (ds_wp [4] (ds_set (i := 5) sc_law.nd rfl (by first | exact .inl rfl | exact .inr rfl) (np1 rfl) (dcall c__law_pen hgd hr rfl (passes_call (takes_of rfl rfl rfl rfl) (fun _ _ _ _ h => h)) (da_cons (dx_v (dcall c__law_cell hgd hr rfl (passes_call (takes_of rfl rfl rfl rfl) (fun _ _ _ _ h => h)) (da_cons (dx_v (de_v 0 (pv 0))) (da_cons (dx_v (de_v 4 (pv 4))) da_nil)))) da_nil))))
    (dss_one (ds_wp [5, 6, 7, 8, 9, 10, 11, 12] (ds_for (npn rfl) (passes_of rfl) rfl (di_r1 rfl z_range (da_cons (dx_v de_int) da_nil)) (pg_name (i := 6) sc_law.nd rfl (by first | exact .inl rfl | exact .inr rfl)) (dss_cons (ds_set (i := 7) sc_law.nd rfl (by first | exact .inl rfl | exact .inr rfl) (np1 rfl) (dcall c__law_arities hgd hr rfl (passes_call (takes_of rfl rfl rfl rfl) (fun _ _ _ _ h => h)) (da_cons (dx_s 5 (pv 5)) da_nil)))
    (dss_cons (ds_set (i := 8) sc_law.nd rfl (by first | exact .inl rfl | exact .inr rfl) (np1 rfl) (dcall c__law_written hgd hr rfl (passes_call (takes_of rfl rfl rfl rfl) (fun _ _ _ _ h => h)) (da_cons (dx_s 5 (pv 5)) (da_cons (dx_v (de_v 7 (pv 7))) (da_cons (dx_v (de_ix (ixD (ru65 hr)) os_ix (dx_v (de_lst (da_cons (dx_v de_int) (da_cons (dx_v de_int) (da_cons (dx_v de_int) da_nil))))) (dx_v (de_op op_mod os_mod (dx_s 6 (pv 6)) (dx_v de_int))) (fun _ _ => rfl))) da_nil)))))
    (dss_cons (ds_set (i := 9) sc_law.nd rfl (by first | exact .inl rfl | exact .inr rfl) (np1 rfl) (dcall c__law_again hgd hr rfl (passes_call (takes_of rfl rfl rfl rfl) (fun _ _ _ _ h => h)) (da_cons (dx_s 5 (pv 5)) (da_cons (dx_v (de_v 8 (pv 8))) da_nil))))
    (dss_cons (ds_set (i := 10) sc_law.nd rfl (by first | exact .inl rfl | exact .inr rfl) (np1 rfl) (dcall c__law_again hgd hr rfl (passes_call (takes_of rfl rfl rfl rfl) (fun _ _ _ _ h => h)) (da_cons (dx_s 5 (pv 5)) (da_cons (dx_v (de_if (dt_cmp op_lt os_cmI (dx_v (de_callB call_lenA os_len rfl z_len bt_len (da_cons (dx_s 9 (pv 9)) da_nil))) (dx_v de_int) (nomark _)) (de_v 9 (pv 9)) (de_v 8 (pv 8)))) da_nil))))
    (dss_cons (ds_fz [11] (ds_set (i := 11) sc_law.nd rfl (by first | exact .inl rfl | exact .inr rfl) (np1 rfl) (de_lst (da_cons (dx_v (de_v 9 (pv 9))) (da_cons (dx_v (de_v 10 (pv 10))) (da_cons (dx_v (dcall c__law_other hgd hr rfl (passes_call (takes_of rfl rfl rfl rfl) (fun _ _ _ _ h => h)) (da_cons (dx_s 5 (pv 5)) (da_cons (dx_v (de_v 7 (pv 7))) (da_cons (dx_v (de_v 8 (pv 8))) da_nil))))) da_nil))))) nx_set)
    (dss_cons (ds_wp [6, 10] (ds_fz [11] (ds_set (i := 11) sc_law.nd rfl (by first | exact .inl rfl | exact .inr rfl) (np1 rfl) (de_op op_addA os_add (dx_s 11 (pv 11)) (dx_v (de_lst (da_cons (dx_v (dcall c__law_other hgd hr rfl (passes_call (takes_of rfl rfl rfl rfl) (fun _ _ _ _ h => h)) (da_cons (dx_s 5 (pv 5)) (da_cons (dx_v (de_v 7 (pv 7))) (da_cons (dx_v (de_v 9 (pv 9))) da_nil))))) (da_cons (dx_v (dcall c__law_written hgd hr rfl (passes_call (takes_of rfl rfl rfl rfl) (fun _ _ _ _ h => h)) (da_cons (dx_s 5 (pv 5)) (da_cons (dx_v (de_v 7 (pv 7))) (da_cons (dx_v de_int) da_nil))))) (da_cons (dx_v (de_slHi (dx_s 8 (pv 8)) (dx_v (de_un un_neg os_neg (dx_v de_int))))) da_nil))))))) nx_set))
    (dss_cons (ds_wp [11, 12] (ds_for (npn rfl) (passes_of rfl) rfl (di_seq (dx_v (de_v 11 (pv 11)))) (pg_name (i := 12) sc_law.nd rfl (by first | exact .inl rfl | exact .inr rfl)) (dss_one (ds_wp [12] (ds_if (dw_t (dw_and (dt_cmp (op_neA (ru64 hr)) os_ne (dx_s 12 (pv 12)) (dx_v (de_tup da_nil)) (nomark _)) (dw_and1 (dt_not (dt_val (dcall c__law_right hgd hr rfl (passes_call (takes_of rfl rfl rfl rfl) (fun _ _ _ _ h => h)) (da_cons (dx_v (de_v 7 (pv 7))) (da_cons (dx_v (de_v 8 (pv 8))) (da_cons (dx_v (de_v 12 (pv 12))) da_nil))))))))) (dss_one (ds_ret de_bl)) dss_nil)))))
    (dss_one (ds_wp [7, 8, 9] (ds_if (dt_cmp op_notB os_notB (dx_v (dcall c_same hgd hr rfl (passes_call (takes_of rfl rfl rfl rfl) (fun _ _ _ _ h => h)) (da_cons (dx_v (de_v 7 (pv 7))) (da_cons (dx_v (de_v 8 (pv 8))) (da_cons (dx_v (de_v 9 (pv 9))) da_nil))))) (dx_v de_bl) (nomark _)) (dss_one (ds_ret de_bl)) dss_nil))))))))))))))))
    (dss_one (ds_ret de_bl)))))))
end
theorem all_mk {l : PySem.W.OpenLaw} {w : World} {K : PySem.W.Frag} {h : Heap} {mg : Str → Option Value} {fa : Addr} (X : K.In h) (G : h.Ns mainGlobals mg) (hfa : mg "law" = some (.ref fa))
    {f0 : Addr} {od0 an0 : Option Addr} {sl0 : Array (Option Value)} {oc0 kV0 dc0 pm0 cd0 ct0 : Value} (a0 : PySem.W.nsIn K mainGlobals "_law_pen" = some (some (.ref f0))) (l0 : K.lookup f0 = some ⟨oc0, od0, .func (PySem.W.fnOf "_law_pen" "_law_pen" (defArgs s__law_pen) (defBody s__law_pen) (defScope s__law_pen) .none kV0 dc0 pm0 an0 cd0 ct0), sl0⟩) (c0 : PySem.W.codeIn K cd0 "_law_pen" = true) (k0 : PySem.W.keepIn K (.ref f0) = true)
    {f1 : Addr} {od1 an1 : Option Addr} {sl1 : Array (Option Value)} {oc1 kV1 dc1 pm1 cd1 ct1 : Value} (a1 : PySem.W.nsIn K mainGlobals "is_between" = some (some (.ref f1))) (l1 : K.lookup f1 = some ⟨oc1, od1, .func (PySem.W.fnOf "is_between" "is_between" (defArgs s_is_between) (defBody s_is_between) (defScope s_is_between) .none kV1 dc1 pm1 an1 cd1 ct1), sl1⟩) (c1 : PySem.W.codeIn K cd1 "is_between" = true) (k1 : PySem.W.keepIn K (.ref f1) = true)
    {f2 : Addr} {od2 an2 : Option Addr} {sl2 : Array (Option Value)} {oc2 kV2 dc2 pm2 cd2 ct2 : Value} (a2 : PySem.W.nsIn K mainGlobals "is_arities" = some (some (.ref f2))) (l2 : K.lookup f2 = some ⟨oc2, od2, .func (PySem.W.fnOf "is_arities" "is_arities" (defArgs s_is_arities) (defBody s_is_arities) (defScope s_is_arities) .none kV2 dc2 pm2 an2 cd2 ct2), sl2⟩) (c2 : PySem.W.codeIn K cd2 "is_arities" = true) (k2 : PySem.W.keepIn K (.ref f2) = true)
    {f3 : Addr} {od3 an3 : Option Addr} {sl3 : Array (Option Value)} {oc3 kV3 dc3 pm3 cd3 ct3 : Value} (a3 : PySem.W.nsIn K mainGlobals "need_arities" = some (some (.ref f3))) (l3 : K.lookup f3 = some ⟨oc3, od3, .func (PySem.W.fnOf "need_arities" "need_arities" (defArgs s_need_arities) (defBody s_need_arities) (defScope s_need_arities) .none kV3 dc3 pm3 an3 cd3 ct3), sl3⟩) (c3 : PySem.W.codeIn K cd3 "need_arities" = true) (k3 : PySem.W.keepIn K (.ref f3) = true)
    {f4 : Addr} {od4 an4 : Option Addr} {sl4 : Array (Option Value)} {oc4 kV4 dc4 pm4 cd4 ct4 : Value} (a4 : PySem.W.nsIn K mainGlobals "is_node" = some (some (.ref f4))) (l4 : K.lookup f4 = some ⟨oc4, od4, .func (PySem.W.fnOf "is_node" "is_node" (defArgs s_is_node) (defBody s_is_node) (defScope s_is_node) .none kV4 dc4 pm4 an4 cd4 ct4), sl4⟩) (c4 : PySem.W.codeIn K cd4 "is_node" = true) (k4 : PySem.W.keepIn K (.ref f4) = true)
    {f5 : Addr} {od5 an5 : Option Addr} {sl5 : Array (Option Value)} {oc5 kV5 dc5 pm5 cd5 ct5 : Value} (a5 : PySem.W.nsIn K mainGlobals "is_written" = some (some (.ref f5))) (l5 : K.lookup f5 = some ⟨oc5, od5, .func (PySem.W.fnOf "is_written" "is_written" (defArgs s_is_written) (defBody s_is_written) (defScope s_is_written) .none kV5 dc5 pm5 an5 cd5 ct5), sl5⟩) (c5 : PySem.W.codeIn K cd5 "is_written" = true) (k5 : PySem.W.keepIn K (.ref f5) = true)
    {f6 : Addr} {od6 an6 : Option Addr} {sl6 : Array (Option Value)} {oc6 kV6 dc6 pm6 cd6 ct6 : Value} (a6 : PySem.W.nsIn K mainGlobals "need_tree" = some (some (.ref f6))) (l6 : K.lookup f6 = some ⟨oc6, od6, .func (PySem.W.fnOf "need_tree" "need_tree" (defArgs s_need_tree) (defBody s_need_tree) (defScope s_need_tree) .none kV6 dc6 pm6 an6 cd6 ct6), sl6⟩) (c6 : PySem.W.codeIn K cd6 "need_tree" = true) (k6 : PySem.W.keepIn K (.ref f6) = true)
    {f7 : Addr} {od7 an7 : Option Addr} {sl7 : Array (Option Value)} {oc7 kV7 dc7 pm7 cd7 ct7 : Value} (a7 : PySem.W.nsIn K mainGlobals "need_both" = some (some (.ref f7))) (l7 : K.lookup f7 = some ⟨oc7, od7, .func (PySem.W.fnOf "need_both" "need_both" (defArgs s_need_both) (defBody s_need_both) (defScope s_need_both) .none kV7 dc7 pm7 an7 cd7 ct7), sl7⟩) (c7 : PySem.W.codeIn K cd7 "need_both" = true) (k7 : PySem.W.keepIn K (.ref f7) = true)
    {f8 : Addr} {od8 an8 : Option Addr} {sl8 : Array (Option Value)} {oc8 kV8 dc8 pm8 cd8 ct8 : Value} (a8 : PySem.W.nsIn K mainGlobals "numbered" = some (some (.ref f8))) (l8 : K.lookup f8 = some ⟨oc8, od8, .func (PySem.W.fnOf "numbered" "numbered" (defArgs s_numbered) (defBody s_numbered) (defScope s_numbered) .none kV8 dc8 pm8 an8 cd8 ct8), sl8⟩) (c8 : PySem.W.codeIn K cd8 "numbered" = true) (k8 : PySem.W.keepIn K (.ref f8) = true)
    {f9 : Addr} {od9 an9 : Option Addr} {sl9 : Array (Option Value)} {oc9 kV9 dc9 pm9 cd9 ct9 : Value} (a9 : PySem.W.nsIn K mainGlobals "same" = some (some (.ref f9))) (l9 : K.lookup f9 = some ⟨oc9, od9, .func (PySem.W.fnOf "same" "same" (defArgs s_same) (defBody s_same) (defScope s_same) .none kV9 dc9 pm9 an9 cd9 ct9), sl9⟩) (c9 : PySem.W.codeIn K cd9 "same" = true) (k9 : PySem.W.keepIn K (.ref f9) = true)
    {f10 : Addr} {od10 an10 : Option Addr} {sl10 : Array (Option Value)} {oc10 kV10 dc10 pm10 cd10 ct10 : Value} (a10 : PySem.W.nsIn K mainGlobals "_law_cell" = some (some (.ref f10))) (l10 : K.lookup f10 = some ⟨oc10, od10, .func (PySem.W.fnOf "_law_cell" "_law_cell" (defArgs s__law_cell) (defBody s__law_cell) (defScope s__law_cell) .none kV10 dc10 pm10 an10 cd10 ct10), sl10⟩) (c10 : PySem.W.codeIn K cd10 "_law_cell" = true) (k10 : PySem.W.keepIn K (.ref f10) = true)
    {f11 : Addr} {od11 an11 : Option Addr} {sl11 : Array (Option Value)} {oc11 kV11 dc11 pm11 cd11 ct11 : Value} (a11 : PySem.W.nsIn K mainGlobals "_law_draw" = some (some (.ref f11))) (l11 : K.lookup f11 = some ⟨oc11, od11, .func (PySem.W.fnOf "_law_draw" "_law_draw" (defArgs s__law_draw) (defBody s__law_draw) (defScope s__law_draw) .none kV11 dc11 pm11 an11 cd11 ct11), sl11⟩) (c11 : PySem.W.codeIn K cd11 "_law_draw" = true) (k11 : PySem.W.keepIn K (.ref f11) = true)
    {f12 : Addr} {od12 an12 : Option Addr} {sl12 : Array (Option Value)} {oc12 kV12 dc12 pm12 cd12 ct12 : Value} (a12 : PySem.W.nsIn K mainGlobals "_law_pick" = some (some (.ref f12))) (l12 : K.lookup f12 = some ⟨oc12, od12, .func (PySem.W.fnOf "_law_pick" "_law_pick" (defArgs s__law_pick) (defBody s__law_pick) (defScope s__law_pick) .none kV12 dc12 pm12 an12 cd12 ct12), sl12⟩) (c12 : PySem.W.codeIn K cd12 "_law_pick" = true) (k12 : PySem.W.keepIn K (.ref f12) = true)
    {f13 : Addr} {od13 an13 : Option Addr} {sl13 : Array (Option Value)} {oc13 kV13 dc13 pm13 cd13 ct13 : Value} (a13 : PySem.W.nsIn K mainGlobals "_law_arities" = some (some (.ref f13))) (l13 : K.lookup f13 = some ⟨oc13, od13, .func (PySem.W.fnOf "_law_arities" "_law_arities" (defArgs s__law_arities) (defBody s__law_arities) (defScope s__law_arities) .none kV13 dc13 pm13 an13 cd13 ct13), sl13⟩) (c13 : PySem.W.codeIn K cd13 "_law_arities" = true) (k13 : PySem.W.keepIn K (.ref f13) = true)
    {f14 : Addr} {od14 an14 : Option Addr} {sl14 : Array (Option Value)} {oc14 kV14 dc14 pm14 cd14 ct14 : Value} (a14 : PySem.W.nsIn K mainGlobals "_law_written" = some (some (.ref f14))) (l14 : K.lookup f14 = some ⟨oc14, od14, .func (PySem.W.fnOf "_law_written" "_law_written" (defArgs s__law_written) (defBody s__law_written) (defScope s__law_written) .none kV14 dc14 pm14 an14 cd14 ct14), sl14⟩) (c14 : PySem.W.codeIn K cd14 "_law_written" = true) (k14 : PySem.W.keepIn K (.ref f14) = true)
    {f15 : Addr} {od15 an15 : Option Addr} {sl15 : Array (Option Value)} {oc15 kV15 dc15 pm15 cd15 ct15 : Value} (a15 : PySem.W.nsIn K mainGlobals "_law_again" = some (some (.ref f15))) (l15 : K.lookup f15 = some ⟨oc15, od15, .func (PySem.W.fnOf "_law_again" "_law_again" (defArgs s__law_again) (defBody s__law_again) (defScope s__law_again) .none kV15 dc15 pm15 an15 cd15 ct15), sl15⟩) (c15 : PySem.W.codeIn K cd15 "_law_again" = true) (k15 : PySem.W.keepIn K (.ref f15) = true)
    {f16 : Addr} {od16 an16 : Option Addr} {sl16 : Array (Option Value)} {oc16 kV16 dc16 pm16 cd16 ct16 : Value} (a16 : PySem.W.nsIn K mainGlobals "_law_other" = some (some (.ref f16))) (l16 : K.lookup f16 = some ⟨oc16, od16, .func (PySem.W.fnOf "_law_other" "_law_other" (defArgs s__law_other) (defBody s__law_other) (defScope s__law_other) .none kV16 dc16 pm16 an16 cd16 ct16), sl16⟩) (c16 : PySem.W.codeIn K cd16 "_law_other" = true) (k16 : PySem.W.keepIn K (.ref f16) = true)
    {f17 : Addr} {od17 an17 : Option Addr} {sl17 : Array (Option Value)} {oc17 kV17 dc17 pm17 cd17 ct17 : Value} (a17 : PySem.W.nsIn K mainGlobals "_law_mark" = some (some (.ref f17))) (l17 : K.lookup f17 = some ⟨oc17, od17, .func (PySem.W.fnOf "_law_mark" "_law_mark" (defArgs s__law_mark) (defBody s__law_mark) (defScope s__law_mark) .none kV17 dc17 pm17 an17 cd17 ct17), sl17⟩) (c17 : PySem.W.codeIn K cd17 "_law_mark" = true) (k17 : PySem.W.keepIn K (.ref f17) = true)
    {f18 : Addr} {od18 an18 : Option Addr} {sl18 : Array (Option Value)} {oc18 kV18 dc18 pm18 cd18 ct18 : Value} (a18 : PySem.W.nsIn K mainGlobals "_law_same" = some (some (.ref f18))) (l18 : K.lookup f18 = some ⟨oc18, od18, .func (PySem.W.fnOf "_law_same" "_law_same" (defArgs s__law_same) (defBody s__law_same) (defScope s__law_same) .none kV18 dc18 pm18 an18 cd18 ct18), sl18⟩) (c18 : PySem.W.codeIn K cd18 "_law_same" = true) (k18 : PySem.W.keepIn K (.ref f18) = true)
    {f19 : Addr} {od19 an19 : Option Addr} {sl19 : Array (Option Value)} {oc19 kV19 dc19 pm19 cd19 ct19 : Value} (a19 : PySem.W.nsIn K mainGlobals "_law_right" = some (some (.ref f19))) (l19 : K.lookup f19 = some ⟨oc19, od19, .func (PySem.W.fnOf "_law_right" "_law_right" (defArgs s__law_right) (defBody s__law_right) (defScope s__law_right) .none kV19 dc19 pm19 an19 cd19 ct19), sl19⟩) (c19 : PySem.W.codeIn K cd19 "_law_right" = true) (k19 : PySem.W.keepIn K (.ref f19) = true)
    {f20 : Addr} {od20 an20 : Option Addr} {sl20 : Array (Option Value)} {oc20 kV20 dc20 pm20 cd20 ct20 : Value} (a20 : PySem.W.nsIn K mainGlobals "law" = some (some (.ref f20))) (l20 : K.lookup f20 = some ⟨oc20, od20, .func (PySem.W.fnOf "law" "law" (defArgs s_law) (defBody s_law) (defScope s_law) .none kV20 dc20 pm20 an20 cd20 ct20), sl20⟩) (c20 : PySem.W.codeIn K cd20 "law" = true) (k20 : PySem.W.keepIn K (.ref f20) = true)
    (z_all : PySem.W.nsIn K mainGlobals "all" = some none)
    (z_bool : PySem.W.nsIn K mainGlobals "bool" = some none)
    (z_enumerate : PySem.W.nsIn K mainGlobals "enumerate" = some none)
    (z_int : PySem.W.nsIn K mainGlobals "int" = some none)
    (z_isinstance : PySem.W.nsIn K mainGlobals "isinstance" = some none)
    (z_len : PySem.W.nsIn K mainGlobals "len" = some none)
    (z_max : PySem.W.nsIn K mainGlobals "max" = some none)
    (z_min : PySem.W.nsIn K mainGlobals "min" = some none)
    (z_range : PySem.W.nsIn K mainGlobals "range" = some none)
    (z_repr : PySem.W.nsIn K mainGlobals "repr" = some none)
    (z_tuple : PySem.W.nsIn K mainGlobals "tuple" = some none)
    {t_MOST_ARITY : Tok} (g_MOST_ARITY : PySem.W.nsIn K mainGlobals "MOST_ARITY" = some (some (.int 2 t_MOST_ARITY)))
    {t_MOST_OPERATORS : Tok} (g_MOST_OPERATORS : PySem.W.nsIn K mainGlobals "MOST_OPERATORS" = some (some (.int 6 t_MOST_OPERATORS)))
    : ∃ fd : FuncData, (∀ (s : Shared) (v : Value), BindsTo s fd ⟨[v], []⟩ [("_law_script", v)]) ∧ ∀ base : Heap, K.In base → base.Ns mainGlobals mg → FnG l.prog w K mg base 8 fa fd ["_law_script"] (spD K mg [] M_law_20) := by
  have e := hfa.symm.trans (PySem.W.mg_of X G a20)
  cases e
  have F0 := fun_mk (st := s__law_pen) l0 c0 k0
  have b0 := F0.binds (ps := ["_law_cell_here"]) fun _ _ _ _ _ _ us hl => match us, hl with | [_], _ => rfl
  have C__law_pen : CallOk l.prog w K mg [] 1 "_law_pen" ["_law_cell_here"] M__law_pen_2 := ok__law_pen (k := 0) F0 (PySem.W.mg_of X G a0) b0 (PySem.W.mg_none_of X G z_max)
  have F1 := fun_mk (st := s_is_between) l1 c1 k1
  have b1 := F1.binds (ps := ["thing", "low", "high"]) fun _ _ _ _ _ _ us hl => match us, hl with | [_, _, _], _ => rfl
  have C_is_between : CallOk l.prog w K mg [] 1 "is_between" ["thing", "low", "high"] M_is_between := ok_is_between (k := 0) F1 (PySem.W.mg_of X G a1) b1 (PySem.W.mg_none_of X G z_bool) (PySem.W.mg_none_of X G z_int) (PySem.W.mg_none_of X G z_isinstance)
  have F2 := fun_mk (st := s_is_arities) l2 c2 k2
  have b2 := F2.binds (ps := ["thing"]) fun _ _ _ _ _ _ us hl => match us, hl with | [_], _ => rfl
  have C_is_arities : CallOk l.prog w K mg [] 2 "is_arities" ["thing"] M_is_arities := ok_is_arities (k := 1) F2 (PySem.W.mg_of X G a2) b2 (C_is_between.mono (by decide)) (PySem.W.mg_none_of X G z_all) (PySem.W.mg_none_of X G z_isinstance) (PySem.W.mg_none_of X G z_len) (PySem.W.mg_none_of X G z_tuple) (PySem.W.mg_of X G g_MOST_ARITY) (PySem.W.mg_of X G g_MOST_OPERATORS)
  have F3 := fun_mk (st := s_need_arities) l3 c3 k3
  have b3 := F3.binds (ps := ["thing"]) fun _ _ _ _ _ _ us hl => match us, hl with | [_], _ => rfl
  have C_need_arities : CallOk l.prog w K mg [] 3 "need_arities" ["thing"] M_need_arities := ok_need_arities (k := 2) F3 (PySem.W.mg_of X G a3) b3 (C_is_arities.mono (by decide))
  have F4 := fun_mk (st := s_is_node) l4 c4 k4
  have b4 := F4.binds (ps := ["arities", "thing", "before"]) fun _ _ _ _ _ _ us hl => match us, hl with | [_, _, _], _ => rfl
  have C_is_node : CallOk l.prog w K mg [] 2 "is_node" ["arities", "thing", "before"] M_is_node := ok_is_node (k := 1) F4 (PySem.W.mg_of X G a4) b4 (C_is_between.mono (by decide)) (PySem.W.mg_none_of X G z_all) (PySem.W.mg_none_of X G z_isinstance) (PySem.W.mg_none_of X G z_len) (PySem.W.mg_none_of X G z_tuple)
  have F5 := fun_mk (st := s_is_written) l5 c5 k5
  have b5 := F5.binds (ps := ["arities", "thing"]) fun _ _ _ _ _ _ us hl => match us, hl with | [_, _], _ => rfl
  have C_is_written : CallOk l.prog w K mg [] 3 "is_written" ["arities", "thing"] M_is_written := ok_is_written (k := 2) F5 (PySem.W.mg_of X G a5) b5 (C_is_node.mono (by decide)) (PySem.W.mg_none_of X G z_all) (PySem.W.mg_none_of X G z_enumerate) (PySem.W.mg_none_of X G z_isinstance) (PySem.W.mg_none_of X G z_tuple)
  have F6 := fun_mk (st := s_need_tree) l6 c6 k6
  have b6 := F6.binds (ps := ["arities", "thing"]) fun _ _ _ _ _ _ us hl => match us, hl with | [_, _], _ => rfl
  have C_need_tree : CallOk l.prog w K mg [] 4 "need_tree" ["arities", "thing"] M_need_tree := ok_need_tree (k := 3) F6 (PySem.W.mg_of X G a6) b6 (C_is_written.mono (by decide))
  have F7 := fun_mk (st := s_need_both) l7 c7 k7
  have b7 := F7.binds (ps := ["arities", "tree"]) fun _ _ _ _ _ _ us hl => match us, hl with | [_, _], _ => rfl
  have C_need_both : CallOk l.prog w K mg [] 5 "need_both" ["arities", "tree"] M_need_both := ok_need_both (k := 4) F7 (PySem.W.mg_of X G a7) b7 (C_need_arities.mono (by decide)) (C_need_tree.mono (by decide))
  have F8 := fun_mk (st := s_numbered) l8 c8 k8
  have b8 := F8.binds (ps := ["tree", "known"]) fun _ _ _ _ _ _ us hl => match us, hl with | [_, _], _ => rfl
  have C_numbered : CallOk l.prog w K mg [] 1 "numbered" ["tree", "known"] M_numbered := ok_numbered (k := 0) F8 (PySem.W.mg_of X G a8) b8 (PySem.W.mg_none_of X G z_len)
  have F9 := fun_mk (st := s_same) l9 c9 k9
  have b9 := F9.binds (ps := ["arities", "one", "other"]) fun _ _ _ _ _ _ us hl => match us, hl with | [_, _, _], _ => rfl
  have C_same : CallOk l.prog w K mg [] 6 "same" ["arities", "one", "other"] M_same := ok_same (k := 5) F9 (PySem.W.mg_of X G a9) b9 (C_need_both.mono (by decide)) (C_need_tree.mono (by decide)) (C_numbered.mono (by decide))
  have F10 := fun_mk (st := s__law_cell) l10 c10 k10
  have b10 := F10.binds (ps := ["_law_script", "_law_k"]) fun _ _ _ _ _ _ us hl => match us, hl with | [_, _], _ => rfl
  have C__law_cell : CallOk l.prog w K mg [] 1 "_law_cell" ["_law_script", "_law_k"] M__law_cell := ok__law_cell (k := 0) F10 (PySem.W.mg_of X G a10) b10 (PySem.W.mg_none_of X G z_len)
  have F11 := fun_mk (st := s__law_draw) l11 c11 k11
  have b11 := F11.binds (ps := ["_law_pen_here", "_law_many"]) fun _ _ _ _ _ _ us hl => match us, hl with | [_, _], _ => rfl
  have C__law_draw : CallOk l.prog w K mg [] 1 "_law_draw" ["_law_pen_here", "_law_many"] M__law_draw_2 := ok__law_draw (k := 0) F11 (PySem.W.mg_of X G a11) b11 
  have F12 := fun_mk (st := s__law_pick) l12 c12 k12
  have b12 := F12.binds (ps := ["_law_pen_here", "_law_some"]) fun _ _ _ _ _ _ us hl => match us, hl with | [_, _], _ => rfl
  have C__law_pick : CallOk l.prog w K mg [] 2 "_law_pick" ["_law_pen_here", "_law_some"] M__law_pick_2 := ok__law_pick (k := 1) F12 (PySem.W.mg_of X G a12) b12 (C__law_draw.mono (by decide)) (PySem.W.mg_none_of X G z_len)
  have C__law_pick_r1 : CallOk l.prog w K mg [] 2 "_law_pick" ["_law_pen_here", "_law_some"] M__law_pick_2_r1 := ok__law_pick_r1 (k := 1) F12 (PySem.W.mg_of X G a12) b12 (C__law_draw.mono (by decide)) (PySem.W.mg_none_of X G z_len)
  have F13 := fun_mk (st := s__law_arities) l13 c13 k13
  have b13 := F13.binds (ps := ["_law_pen_here"]) fun _ _ _ _ _ _ us hl => match us, hl with | [_], _ => rfl
  have C__law_arities : CallOk l.prog w K mg [] 3 "_law_arities" ["_law_pen_here"] M__law_arities_2 := ok__law_arities (k := 2) F13 (PySem.W.mg_of X G a13) b13 (C__law_draw.mono (by decide)) (C__law_pick.mono (by decide)) (PySem.W.mg_none_of X G z_range) (PySem.W.mg_none_of X G z_tuple)
  have F14 := fun_mk (st := s__law_written) l14 c14 k14
  have b14 := F14.binds (ps := ["_law_pen_here", "_law_arities_here", "_law_upto"]) fun _ _ _ _ _ _ us hl => match us, hl with | [_, _, _], _ => rfl
  have C__law_written : CallOk l.prog w K mg [] 3 "_law_written" ["_law_pen_here", "_law_arities_here", "_law_upto"] M__law_written := ok__law_written (k := 2) F14 (PySem.W.mg_of X G a14) b14 (C__law_draw.mono (by decide)) (C__law_pick.mono (by decide)) (PySem.W.mg_none_of X G z_enumerate) (PySem.W.mg_none_of X G z_len) (PySem.W.mg_none_of X G z_max) (PySem.W.mg_none_of X G z_range) (PySem.W.mg_none_of X G z_tuple)
  have F15 := fun_mk (st := s__law_again) l15 c15 k15
  have b15 := F15.binds (ps := ["_law_pen_here", "_law_written_here"]) fun _ _ _ _ _ _ us hl => match us, hl with | [_, _], _ => rfl
  have C__law_again : CallOk l.prog w K mg [] 3 "_law_again" ["_law_pen_here", "_law_written_here"] M__law_again := ok__law_again (k := 2) F15 (PySem.W.mg_of X G a15) b15 (C__law_draw.mono (by decide)) (C__law_pick_r1.mono (by decide)) (PySem.W.mg_none_of X G z_enumerate) (PySem.W.mg_none_of X G z_int) (PySem.W.mg_none_of X G z_len) (PySem.W.mg_none_of X G z_range) (PySem.W.mg_none_of X G z_tuple)
  have F16 := fun_mk (st := s__law_other) l16 c16 k16
  have b16 := F16.binds (ps := ["_law_pen_here", "_law_arities_here", "_law_written_here"]) fun _ _ _ _ _ _ us hl => match us, hl with | [_, _, _], _ => rfl
  have C__law_other : CallOk l.prog w K mg [] 3 "_law_other" ["_law_pen_here", "_law_arities_here", "_law_written_here"] M__law_other := ok__law_other (k := 2) F16 (PySem.W.mg_of X G a16) b16 (C__law_draw.mono (by decide)) (C__law_pick.mono (by decide)) (PySem.W.mg_none_of X G z_enumerate) (PySem.W.mg_none_of X G z_len)
  have F17 := fun_mk (st := s__law_mark) l17 c17 k17
  have b17 := F17.binds (ps := ["_law_written_here", "_law_known"]) fun _ _ _ _ _ _ us hl => match us, hl with | [_, _], _ => rfl
  have C__law_mark : CallOk l.prog w K mg [] 1 "_law_mark" ["_law_written_here", "_law_known"] M__law_mark := ok__law_mark (k := 0) F17 (PySem.W.mg_of X G a17) b17 (PySem.W.mg_none_of X G z_tuple)
  have F18 := fun_mk (st := s__law_same) l18 c18 k18
  have b18 := F18.binds (ps := ["_law_found", "_law_due"]) fun _ _ _ _ _ _ us hl => match us, hl with | [_, _], _ => rfl
  have C__law_same : CallOk l.prog w K mg [] 1 "_law_same" ["_law_found", "_law_due"] M__law_same := ok__law_same (k := 0) F18 (PySem.W.mg_of X G a18) b18 (PySem.W.mg_none_of X G z_repr)
  have F19 := fun_mk (st := s__law_right) l19 c19 k19
  have b19 := F19.binds (ps := ["_law_arities_here", "_law_one", "_law_other_here"]) fun _ _ _ _ _ _ us hl => match us, hl with | [_, _, _], _ => rfl
  have C__law_right : CallOk l.prog w K mg [] 7 "_law_right" ["_law_arities_here", "_law_one", "_law_other_here"] M__law_right_6 := ok__law_right (k := 6) F19 (PySem.W.mg_of X G a19) b19 (C__law_mark.mono (by decide)) (C__law_same.mono (by decide)) (C_same.mono (by decide)) (PySem.W.mg_none_of X G z_repr)
  have F20 := fun_mk (st := s_law) l20 c20 k20
  exact ⟨_, fun s v => .of_eq rfl, fun base _ _ => fn_law (k := 7) F20 (C__law_again.mono (by decide)) (C__law_arities.mono (by decide)) (C__law_cell.mono (by decide)) (C__law_other.mono (by decide)) (C__law_pen.mono (by decide)) (C__law_right.mono (by decide)) (C__law_written.mono (by decide)) (C_same.mono (by decide)) (PySem.W.mg_none_of X G z_len) (PySem.W.mg_none_of X G z_max) (PySem.W.mg_none_of X G z_min) (PySem.W.mg_none_of X G z_range) (PySem.W.mg_none_of X G z_tuple)⟩
end W04
open PySem PySem.W PyProof.Rows
set_option maxHeartbeats 0 in
theorem PySem.Challenge.cw_codepick_k04_same_trees_holds : PySem.Challenge.rw_codepick_k04_same_trees.Holds := by
  w_on; o_law; k_head; (case hw => w_witness2)
  k_fill
  refine Dy.walkG (l := PySem.Challenge.rw_codepick_k04_same_trees) (n := 63) (k := 8) (x := "_law_script") (sp := fun K mg => Dy.spD K mg [] Q.M_law_20) rfl (by decide) rfl ⟨rfl, by decide, by decide⟩ (fun w h Y => PySem.W.kIn_of Y) ?F (fun K mg H a ns hl hb hS => let ⟨os, e⟩ := Q.law_true_04 ns hl; Dy.law_ok e hS)
  case F =>
    intro w mg fa h KX G hmg
    refine' W04.all_mk KX G hmg ?a0 ?l0 ?c0 ?k0 ?a1 ?l1 ?c1 ?k1 ?a2 ?l2 ?c2 ?k2 ?a3 ?l3 ?c3 ?k3 ?a4 ?l4 ?c4 ?k4 ?a5 ?l5 ?c5 ?k5 ?a6 ?l6 ?c6 ?k6 ?a7 ?l7 ?c7 ?k7 ?a8 ?l8 ?c8 ?k8 ?a9 ?l9 ?c9 ?k9 ?a10 ?l10 ?c10 ?k10 ?a11 ?l11 ?c11 ?k11 ?a12 ?l12 ?c12 ?k12 ?a13 ?l13 ?c13 ?k13 ?a14 ?l14 ?c14 ?k14 ?a15 ?l15 ?c15 ?k15 ?a16 ?l16 ?c16 ?k16 ?a17 ?l17 ?c17 ?k17 ?a18 ?l18 ?c18 ?k18 ?a19 ?l19 ?c19 ?k19 ?a20 ?l20 ?c20 ?k20 ?z_all ?z_bool ?z_enumerate ?z_int ?z_isinstance ?z_len ?z_max ?z_min ?z_range ?z_repr ?z_tuple ?g_MOST_ARITY ?g_MOST_OPERATORS
    (case a0 => k_is); (case l0 => k_is); (case c0 => k_is); (case k0 => k_is); (case a1 => k_is); (case l1 => k_is); (case c1 => k_is); (case k1 => k_is); (case a2 => k_is); (case l2 => k_is); (case c2 => k_is); (case k2 => k_is); (case a3 => k_is); (case l3 => k_is); (case c3 => k_is); (case k3 => k_is); (case a4 => k_is); (case l4 => k_is); (case c4 => k_is); (case k4 => k_is); (case a5 => k_is); (case l5 => k_is); (case c5 => k_is); (case k5 => k_is); (case a6 => k_is); (case l6 => k_is); (case c6 => k_is); (case k6 => k_is); (case a7 => k_is); (case l7 => k_is); (case c7 => k_is); (case k7 => k_is); (case a8 => k_is); (case l8 => k_is); (case c8 => k_is); (case k8 => k_is); (case a9 => k_is); (case l9 => k_is); (case c9 => k_is); (case k9 => k_is); (case a10 => k_is); (case l10 => k_is); (case c10 => k_is); (case k10 => k_is); (case a11 => k_is); (case l11 => k_is); (case c11 => k_is); (case k11 => k_is); (case a12 => k_is); (case l12 => k_is); (case c12 => k_is); (case k12 => k_is); (case a13 => k_is); (case l13 => k_is); (case c13 => k_is); (case k13 => k_is); (case a14 => k_is); (case l14 => k_is); (case c14 => k_is); (case k14 => k_is); (case a15 => k_is); (case l15 => k_is); (case c15 => k_is); (case k15 => k_is); (case a16 => k_is); (case l16 => k_is); (case c16 => k_is); (case k16 => k_is); (case a17 => k_is); (case l17 => k_is); (case c17 => k_is); (case k17 => k_is); (case a18 => k_is); (case l18 => k_is); (case c18 => k_is); (case k18 => k_is); (case a19 => k_is); (case l19 => k_is); (case c19 => k_is); (case k19 => k_is); (case a20 => k_is); (case l20 => k_is); (case c20 => k_is); (case k20 => k_is); (case z_all => k_is); (case z_bool => k_is); (case z_enumerate => k_is); (case z_int => k_is); (case z_isinstance => k_is); (case z_len => k_is); (case z_max => k_is); (case z_min => k_is); (case z_range => k_is); (case z_repr => k_is); (case z_tuple => k_is); (case g_MOST_ARITY => k_is); (case g_MOST_OPERATORS => k_is)
