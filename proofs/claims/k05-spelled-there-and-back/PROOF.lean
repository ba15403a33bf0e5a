import PyProof.Rows.All
import Wide.All
import OpenK.AllK
import Wide.FinOn
import HandS.ForMost
import HandS.Star
import HandS.IsInst
import HandS.TupAny
import HandS.TupMul
import HandS.Wide
import HandS.Zip
import HandS.Style
import HandS.Flow
import HandS.Deep
import HandS.NoneIn
import HandS.More
import KE.KDictKeyed
import PyProof.ReprRoads
import HandS.Lambda
import HandS.ForExc
import HandS.EndBits
import KE.GoesEnum
import HandS.RevRange
import HandS.TupLen
import HandS.SetKeys
import HandS.FStrTup
import HandS.RaiseMore
import PyProof.ListMulRoad
import PyProof.FactsAll.tuple_2
import PyProof.Rows.IntBool
import PyProof.CallStr
import HandS.Exc
import HandS.ExcOwn
import HandS.ExcIs
import HandS.HeadHook1
import HandS.WordsExc
import HandS.HotCalls
import HandS.EndTab
import HandS.HeadWalk
import HandS.HeadHook4
import HandS.Head2
import HandS.HeadEnd
import HandS.Iter
import HandS.Conv
import KE.SortData
import KE.KSuper
import KE.KExcSuper
import HandS.ExcInit
import HandS.ClsMeth
import HandS.FStr
import KE.KxText
import HandS.ExcField
import KE.KExcIs
import PyProof.P3Eq
import PyProof.StrLawsRepr
import PySem.Challenge.RW_codepick_k05_spelled_there_and_back
set_option Elab.async false
set_option linter.all false
set_option maxRecDepth 100000
set_option maxHeartbeats 4000000
namespace Dy
open PySem PySem.Spec PyProof.Rows L2
abbrev St := L2.St
structure Exn where
  cls : Str
  args : List PyData
inductive Res (α : Type) where
  | ok (a : α)
  | er (x : Exn)
  | no
def Res.bind {α β : Type} : Res α → (α → Res β) → Res β
  | .ok a, f => f a
  | .er x, _ => .er x
  | .no, _ => .no
instance : Monad Res where
  pure := .ok
  bind := Res.bind
def Res.post {α : Type} (P : α → Prop) (E : Exn → Prop) : Res α → Prop
  | .ok a => P a
  | .er x => E x
  | .no => False
@[simp] theorem bind_ok {α β : Type} (a : α) (f : α → Res β) : (Res.ok a >>= f) = f a := rfl
@[simp] theorem bind_er {α β : Type} (x : Exn) (f : α → Res β) : ((Res.er x : Res α) >>= f) = .er x := rfl
@[simp] theorem bind_no {α β : Type} (f : α → Res β) : ((Res.no : Res α) >>= f) = .no := rfl
@[simp] theorem pure_ok {α : Type} (a : α) : (pure a : Res α) = .ok a := rfl
def ofO {α : Type} : Option α → Res α
  | some a => .ok a
  | none => .no
inductive O where
  | fr (d : PyData)
  | ol (ds : List PyData)
  | oo (rs : List (List PyData))
  | od (es : List (PyData × PyData))
def O.data : O → PyData
  | .fr d => d
  | .ol ds => .list ds
  | .oo rs => .list (rs.map PyData.list)
  | .od es => .dict es
abbrev Env := List (Option O)
def kD : Key → PyData
  | .inl i => .int i
  | .inr x => .str x
mutual
/-- what may be a key of a dict of tuples: None, whole numbers, tuples of such -/
def keyOf : PyData → Option NestedKey
  | .none => some .none
  | .int i => some (.num i)
  | .tuple xs => (keysOf xs).map .tup
  | .bool _ | .str _ | .list _ | .dict _ => none
def keysOf : List PyData → Option (List NestedKey)
  | [] => some []
  | x :: xs => (keyOf x).bind fun k => (keysOf xs).map fun ks => k :: ks
end
/-- the pairs of a dict of tuples: the key, its value, the value there -/
abbrev TP := NestedKey × V × V
abbrev YP := NestedKey × Addr × Value
def PY : TP → YP → Prop := fun p q => p.1 = q.1 ∧ p.2.1 = V.ref q.2.1 ∧ RelV p.2.2 q.2.2
def isDN (h : Heap) (a : Addr) (ys : List YP) : Prop := ∃ o es ep, h.get? a = some o ∧ o.ExactDict ∧ o.data = .dict es ep ∧ (∀ w : World, es.toList = ys.map fun y => ⟨y.1.hash w, .ref y.2.1, y.2.2⟩) ∧ (ys.map (·.1)).Nodup
/-- a dict whose keys are tuples -/
def dN (a : Addr) (ts : List TP) : HO := .ext fun h => (a == sysModules) = false ∧ ts.length ≤ sizeLine ∧ ∃ ys : List YP, Paired PY ts ys ∧ isDN h a ys
/-- a list to be read, its object known in full -/
def LsL (K : PySem.W.Frag) (I : Hp) (a : Addr) (xs : List V) : Prop := Rd I a (.lst xs) ∨ ∃ (its : List Value) (n : Nat), K.lookup a = some { cls := .type "list", data := .seq its.toArray n } ∧ its.length ≤ sizeLine ∧ Vals xs its
theorem LsL.of {K : PySem.W.Frag} {I : Hp} {a : Addr} {xs : List V} (h : I a = some (.lst xs)) : LsL K I a xs := .inl (.inl h)
theorem LsL.sq {K : PySem.W.Frag} {I : Hp} {a : Addr} {xs : List V} (h : LsL K I a xs) : SqL K I a xs := by
  rcases h with h | ⟨its, n, h1, h2, h3⟩
  · exact .inl h
  · exact .inr ⟨_, its.toArray, n, h1, rfl, rfl, rfl, by simpa using h2, by simpa using h3⟩
theorem LsL.obj {X : Cx} {pins : List (Addr × Obj)} {σ : St} {H : Hp} {s : Shared} {a : Addr} {xs : List V} (J : Inv X pins σ H s) (h : LsL X.K H a xs) : xs.length ≤ sizeLine ∧ ∃ (its : List Value) (n : Nat), Vals xs its ∧ xs.length = its.length ∧ s.heap.get? a = some { cls := .type "list", data := .seq its.toArray n } := by
  rcases h with h | ⟨its, n, h1, h2, h3⟩
  · obtain ⟨z, its, n, r, e⟩ := h.ok J.hok
    exact ⟨z, its, n, r, r.length, e⟩
  · exact ⟨by rw [h3.length]; exact h2, its, n, h3, h3.length, J.kIn a _ h1⟩
mutual
inductive Rp (K : PySem.W.Frag) (I : Hp) : V → PyData → Prop
  | non : Rp K I .non .none
  | bl (b : Bool) : Rp K I (.bl b) (.bool b)
  | int (i : Int) : Rp K I (.int i) (.int i)
  | str (x : Str) : Rp K I (.str x) (.str x)
  | lst {a : Addr} {xs : List V} {ds : List PyData} : LsL K I a xs → RpAll K I xs ds → Rp K I (.ref a) (.list ds)
  | tup {a : Addr} {xs : List V} {ds : List PyData} : SqT K I a xs → RpAll K I xs ds → Rp K I (.ref a) (.tuple ds)
  | dic {a : Addr} {kvs : List (Key × V)} {es : List (PyData × PyData)} : Rd I a (.dK kvs) → RpKv K I kvs es → Rp K I (.ref a) (.dict es)
  | dit {a : Addr} {ts : List TP} {es : List (PyData × PyData)} : Rd I a (dN a ts) → RpKt K I ts es → Rp K I (.ref a) (.dict es)
inductive RpAll (K : PySem.W.Frag) (I : Hp) : List V → List PyData → Prop
  | nil : RpAll K I [] []
  | cons {v : V} {vs : List V} {d : PyData} {ds : List PyData} : Rp K I v d → RpAll K I vs ds → RpAll K I (v :: vs) (d :: ds)
inductive RpKv (K : PySem.W.Frag) (I : Hp) : List (Key × V) → List (PyData × PyData) → Prop
  | nil : RpKv K I [] []
  | cons {k : Key} {v : V} {kvs : List (Key × V)} {d : PyData} {es : List (PyData × PyData)} : Rp K I v d → RpKv K I kvs es → RpKv K I ((k, v) :: kvs) ((kD k, d) :: es)
inductive RpKt (K : PySem.W.Frag) (I : Hp) : List TP → List (PyData × PyData) → Prop
  | nil : RpKt K I [] []
  | cons {k : NestedKey} {kv v : V} {ts : List TP} {kd d : PyData} {es : List (PyData × PyData)} : keyOf kd = some k → k.depth ≤ 8 → Rp K I kv kd → Rp K I v d → RpKt K I ts es → RpKt K I ((k, kv, v) :: ts) ((kd, d) :: es)
end
section
variable {K : PySem.W.Frag} {I I' H H' : Hp}
theorem same_rd {a : Addr} {u : HO} (e : Same I I') (h : Rd I a u) : Rd I' a u := by
  rcases h with h | ⟨o, h⟩
  · exact .inl (e _ _ h)
  · exact .inr ⟨o, e _ _ h⟩
theorem same_t {a : Addr} {xs : List V} (e : Same I I') (h : SqT K I a xs) : SqT K I' a xs := by
  rcases h with h | h
  · exact .inl (same_rd e h)
  · exact .inr h
theorem LsL.mono {a : Addr} {xs : List V} (e : Same I I') (h : LsL K I a xs) : LsL K I' a xs := by
  rcases h with h | h
  · exact .inl (same_rd e h)
  · exact .inr h
mutual
theorem Rp.mono (e : Same I I') : ∀ {v : V} {d : PyData}, Rp K I v d → Rp K I' v d
  | _, _, .non => .non
  | _, _, .bl b => .bl b
  | _, _, .int i => .int i
  | _, _, .str x => .str x
  | _, _, .lst s a => .lst (LsL.mono e s) (RpAll.mono e a)
  | _, _, .tup s a => .tup (same_t e s) (RpAll.mono e a)
  | _, _, .dic s a => .dic (same_rd e s) (RpKv.mono e a)
  | _, _, .dit s a => .dit (same_rd e s) (RpKt.mono e a)
theorem RpAll.mono (e : Same I I') : ∀ {vs : List V} {ds : List PyData}, RpAll K I vs ds → RpAll K I' vs ds
  | _, _, .nil => .nil
  | _, _, .cons h t => .cons (Rp.mono e h) (RpAll.mono e t)
theorem RpKv.mono (e : Same I I') : ∀ {vs : List (Key × V)} {ds : List (PyData × PyData)}, RpKv K I vs ds → RpKv K I' vs ds
  | _, _, .nil => .nil
  | _, _, .cons h t => .cons (Rp.mono e h) (RpKv.mono e t)
theorem RpKt.mono (e : Same I I') : ∀ {vs : List TP} {ds : List (PyData × PyData)}, RpKt K I vs ds → RpKt K I' vs ds
  | _, _, .nil => .nil
  | _, _, .cons h1 h2 h3 h4 t => .cons h1 h2 (Rp.mono e h3) (Rp.mono e h4) (RpKt.mono e t)
end
theorem RpAll.length : ∀ {vs : List V} {ds : List PyData}, RpAll K I vs ds → vs.length = ds.length
  | _, _, .nil => rfl
  | _, _, .cons _ t => by simp [t.length]
theorem RpAll.get : ∀ {vs : List V} {ds : List PyData} {i : Nat} {d : PyData}, RpAll K I vs ds → ds[i]? = some d → ∃ v, vs[i]? = some v ∧ Rp K I v d
  | _, _, _, _, .nil, e => by simp at e
  | _, _, 0, _, .cons h _, e => by simp at e; subst e; exact ⟨_, rfl, h⟩
  | _, _, i + 1, d, .cons _ t, e => by
    obtain ⟨v, h1, h2⟩ := RpAll.get (i := i) (d := d) t (by simpa using e)
    exact ⟨v, by simpa using h1, h2⟩
theorem RpAll.app : ∀ {vs ws : List V} {ds es : List PyData}, RpAll K I vs ds → RpAll K I ws es → RpAll K I (vs ++ ws) (ds ++ es)
  | _, _, _, _, .nil, s => s
  | _, _, _, _, .cons h t, s => .cons h (t.app s)
theorem RpAll.takes : ∀ {vs : List V} {ds : List PyData} (n : Nat), RpAll K I vs ds → RpAll K I (vs.take n) (ds.take n)
  | _, _, 0, _ => .nil
  | _, _, _ + 1, .nil => .nil
  | _, _, n + 1, .cons h t => .cons h (t.takes n)
theorem RpAll.drops : ∀ {vs : List V} {ds : List PyData} (n : Nat), RpAll K I vs ds → RpAll K I (vs.drop n) (ds.drop n)
  | _, _, 0, h => h
  | _, _, _ + 1, .nil => .nil
  | _, _, n + 1, .cons _ t => t.drops n
theorem RpAll.rev : ∀ {vs : List V} {ds : List PyData}, RpAll K I vs ds → RpAll K I vs.reverse ds.reverse
  | _, _, .nil => .nil
  | _, _, .cons h t => by
    rw [List.reverse_cons, List.reverse_cons]
    exact t.rev.app (.cons h .nil)
theorem RpAll.sets : ∀ {vs : List V} {ds : List PyData} {v : V} {d : PyData} (i : Nat), RpAll K I vs ds → Rp K I v d → RpAll K I (vs.set i v) (ds.set i d)
  | _, _, _, _, _, .nil, _ => .nil
  | _, _, _, _, 0, .cons _ t, h => .cons h t
  | _, _, _, _, i + 1, .cons h0 t, h => .cons h0 (t.sets i h)
end
/-- no table of code objects -/
def NT (o : HO) : Prop := ∀ ps, o ≠ .tbl ps
theorem NT.lst {xs : List V} : NT (.lst xs) := fun _ h => by cases h
theorem NT.dK {xs : List (Key × V)} : NT (.dK xs) := fun _ h => by cases h
theorem NT.ext {φ : Heap → Prop} : NT (.ext φ) := fun _ h => by cases h
/-- the fields of a caught exception, told by two numbers -/
def fe (i : Int) : Nat := if 0 ≤ i then 2 * i.toNat else 2 * (-i).toNat + 1
theorem fe_inj {i j : Int} (h : fe i = fe j) : i = j := by unfold fe at h; split at h <;> split at h <;> omega
def fldS (p q : Int) : Str := ⟨#[fe p, fe q]⟩
theorem fldS_inj {p q a l : Int} (h : fldS p q = fldS a l) : p = a ∧ q = l := by
  unfold fldS at h
  have := Str.mk.inj h
  simp only [Array.mk.injEq, List.cons.injEq, and_true] at this
  exact ⟨fe_inj this.1, fe_inj this.2⟩
def isFld (x : Str) : Bool := x.cps.size == 2
theorem isFld_S (p q : Int) : isFld (fldS p q) = true := rfl
def FldI (I : Hp) (p : Addr × Str) : Prop := ∃ fs : List (Str × V), I p.1 = some (.xd fs) ∧ ∀ a l : Int, p.2 = fldS a l → fs.lookup ("amount" : Str) = some (V.int a) ∧ fs.lookup ("limit" : Str) = some (V.int l)
def CodI (I H : Hp) (p : Addr × Str) : Prop := ∃ ps : Array Value, H p.1 = some (.tbl ps) ∧ I p.1 = none ∧ TriplesOk ps.toList ∧ ∀ (pos : Pos) (cv : Value), codeAmong pos ps.toList = some cv → ∃ c, cv = .ref c ∧ I c = some (LamX.CodeO c p.2)
/-- the tables: what they tell are frozen code objects (or an exception's fields) -/
def TabI (T : List (Addr × Str)) (I H : Hp) : Prop := ∀ p ∈ T, if isFld p.2 = true then FldI I p else CodI I H p
theorem TabI.cod {T : List (Addr × Str)} {I H : Hp} (t : TabI T I H) {p : Addr × Str} (hp : p ∈ T) (n : isFld p.2 = false) : CodI I H p := by
  have := t p hp
  rw [if_neg (by rw [n]; decide)] at this
  exact this
theorem TabI.fld {T : List (Addr × Str)} {I H : Hp} (t : TabI T I H) {p : Addr × Str} (hp : p ∈ T) (n : isFld p.2 = true) : FldI I p := by
  have := t p hp
  rw [if_pos n] at this
  exact this
theorem TabI.tail {T : List (Addr × Str)} {p : Addr × Str} {I H : Hp} (t : TabI (p :: T) I H) : TabI T I H := fun q hq => t q (List.mem_cons_of_mem _ hq)
theorem kt_upd {H : Hp} {a : Addr} {u o : HO} (h : H a = some u) (n : NT u) : ∀ b ps, H b = some (.tbl ps) → upd H a o b = some (.tbl ps) := fun b ps e => by
  rw [upd_ne (fun z => by subst z; rw [h] at e; cases e; exact n _ rfl)]; exact e
theorem kt_new {H : Hp} {a : Addr} {o : HO} (h : H a = none) : ∀ b ps, H b = some (.tbl ps) → upd H a o b = some (.tbl ps) := fun b ps e => by
  rw [upd_ne (fun z => by subst z; rw [h] at e; cases e)]; exact e
theorem TabI.mono {T : List (Addr × Str)} {I H I' H' : Hp} (t : TabI T I H) (e : Same I I') (k : ∀ a ps, H a = some (.tbl ps) → H' a = some (.tbl ps)) (ni : ∀ a ps, H a = some (.tbl ps) → I a = none → I' a = none) : TabI T I' H' := fun p hp => by
  have tp := t p hp
  by_cases hf : isFld p.2 = true
  · rw [if_pos hf] at tp ⊢
    obtain ⟨fs, h1, h2⟩ := tp
    exact ⟨fs, e _ _ h1, h2⟩
  · rw [if_neg hf] at tp ⊢
    obtain ⟨ps, h1, h0, h2, h3⟩ := tp
    refine ⟨ps, k _ _ h1, ni _ _ h1 h0, h2, fun pos cv hc => ?_⟩
    obtain ⟨c, e1, e2⟩ := h3 pos cv hc
    exact ⟨c, e1, e _ _ e2⟩
section
variable {K : PySem.W.Frag} {I I' H H' : Hp}
/-- the rows of an owned list of owned lists -/
inductive Rows (K : PySem.W.Frag) (I H : Hp) : List Addr → List (List PyData) → Prop
  | nil : Rows K I H [] []
  | cons {a : Addr} {as : List Addr} {us : List V} {r : List PyData} {rs : List (List PyData)} : H a = some (.lst us) → RpAll K I us r → Rows K I H as rs → Rows K I H (a :: as) (r :: rs)
def RepO (K : PySem.W.Frag) (I H : Hp) : O → V → List Addr → Prop
  | .fr d, v, F => F = [] ∧ Rp K I v d
  | .ol ds, v, F => ∃ a vs, v = .ref a ∧ F = [a] ∧ H a = some (.lst vs) ∧ RpAll K I vs ds
  | .oo rs, v, F => ∃ a as, v = .ref a ∧ F = a :: as ∧ (a :: as).Nodup ∧ H a = some (.lst (as.map V.ref)) ∧ Rows K I H as rs
  | .od es, v, F => ∃ a, v = .ref a ∧ F = [a] ∧ ((∃ kvs, H a = some (.dK kvs) ∧ RpKv K I kvs es) ∨ ∃ ts, H a = some (dN a ts) ∧ RpKt K I ts es)
theorem Rows.mono {as : List Addr} {rs : List (List PyData)} (e : Same I I') (h : Rows K I H as rs) (k : ∀ a ∈ as, H' a = H a) : Rows K I' H' as rs := by
  induction h with
  | nil => exact .nil
  | cons h1 h2 _ ih => exact .cons (by rw [k _ (by simp)]; exact h1) (h2.mono e) (ih fun a ha => k a (by simp [ha]))
theorem Rows.domN {as : List Addr} {rs : List (List PyData)} (h : Rows K I H as rs) : ∀ a ∈ as, ∃ o, H a = some o ∧ NT o := by
  induction h with
  | nil => intro a ha; cases ha
  | cons h1 _ _ ih =>
    intro a ha
    rcases List.mem_cons.mp ha with rfl | ha
    · exact ⟨_, h1, NT.lst⟩
    · exact ih a ha
theorem Rows.frz {as : List Addr} {rs : List (List PyData)} (e : Same I I') (h : Rows K I H as rs) (k : ∀ a ∈ as, I' a = H a) : RpAll K I' (as.map V.ref) (rs.map PyData.list) := by
  induction h with
  | nil => exact .nil
  | cons h1 h2 _ ih => exact .cons (.lst (LsL.of (by rw [k _ (by simp)]; exact h1)) (h2.mono e)) (ih fun a ha => k a (by simp [ha]))
theorem RepO.mono {o : O} {v : V} {F : List Addr} (h : RepO K I H o v F) (e : Same I I') (k : ∀ a ∈ F, H' a = H a) : RepO K I' H' o v F := by
  cases o with
  | fr d => exact ⟨h.1, h.2.mono e⟩
  | ol ds =>
    obtain ⟨a, vs, rfl, rfl, h1, h2⟩ := h
    exact ⟨a, vs, rfl, rfl, by rw [k a (by simp)]; exact h1, h2.mono e⟩
  | oo rs =>
    obtain ⟨a, as, rfl, rfl, nd, h1, h2⟩ := h
    exact ⟨a, as, rfl, rfl, nd, by rw [k a (by simp)]; exact h1, h2.mono e fun b hb => k b (by simp [hb])⟩
  | od es =>
    obtain ⟨a, rfl, rfl, h⟩ := h
    refine ⟨a, rfl, rfl, ?_⟩
    rw [k a (by simp)]
    rcases h with ⟨kvs, h1, h2⟩ | ⟨ts, h1, h2⟩
    · exact .inl ⟨kvs, h1, h2.mono e⟩
    · exact .inr ⟨ts, h1, h2.mono e⟩
theorem RepO.domN {o : O} {v : V} {F : List Addr} (h : RepO K I H o v F) : ∀ a ∈ F, ∃ u, H a = some u ∧ NT u := by
  cases o with
  | fr d => intro a ha; rw [h.1] at ha; cases ha
  | ol ds =>
    obtain ⟨a, vs, rfl, rfl, h1, h2⟩ := h
    intro b hb
    simp at hb; subst hb
    exact ⟨_, h1, NT.lst⟩
  | oo rs =>
    obtain ⟨a, as, rfl, rfl, nd, h1, h2⟩ := h
    intro b hb
    rcases List.mem_cons.mp hb with rfl | hb
    · exact ⟨_, h1, NT.lst⟩
    · exact h2.domN b hb
  | od es =>
    obtain ⟨a, rfl, rfl, h⟩ := h
    intro b hb
    simp at hb; subst hb
    rcases h with ⟨kvs, h1, h2⟩ | ⟨ts, h1, h2⟩
    · exact ⟨_, h1, NT.dK⟩
    · exact ⟨_, h1, NT.ext⟩
theorem Rows.dom {as : List Addr} {rs : List (List PyData)} (h : Rows K I H as rs) : ∀ a ∈ as, ∃ o, H a = some o := fun a ha => let ⟨o, e, _⟩ := h.domN a ha; ⟨o, e⟩
theorem RepO.dom {o : O} {v : V} {F : List Addr} (h : RepO K I H o v F) : ∀ a ∈ F, ∃ u, H a = some u := fun a ha => let ⟨o, e, _⟩ := h.domN a ha; ⟨o, e⟩
/-- the heap with F frozen -/
def frz (I H : Hp) (F : List Addr) : Hp := fun a => if a ∈ F then H a else I a
theorem frz_same {F : List Addr} (d : ∀ a ∈ F, I a = none) : Same I (frz I H F) := fun a o e => by
  unfold frz
  rw [if_neg (fun h => by rw [d a h] at e; cases e)]
  exact e
theorem frz_ni {o : O} {v : V} {F : List Addr} {a : Addr} {ps : Array Value} (r : RepO K I H o v F) (h : H a = some (.tbl ps)) (h2 : I a = none) : frz I H F a = none := by
  unfold frz
  rw [if_neg (fun z => ?_)]
  · exact h2
  · obtain ⟨u, e, n⟩ := r.domN a z
    rw [h] at e; cases e; exact n _ rfl
theorem frz_sub {F : List Addr} (s : Same I H) : Same (frz I H F) H := fun a o e => by
  unfold frz at e
  split at e
  · exact e
  · exact s _ _ e
theorem RepO.frz {o : O} {v : V} {F : List Addr} (h : RepO K I H o v F) (d : ∀ a ∈ F, I a = none) : Rp K (frz I H F) v o.data := by
  have e := frz_same (H := H) d
  cases o with
  | fr d => exact h.2.mono e
  | ol ds =>
    obtain ⟨a, vs, rfl, rfl, h1, h2⟩ := h
    exact .lst (LsL.of (by unfold Dy.frz; rw [if_pos (by simp)]; exact h1)) (h2.mono e)
  | oo rs =>
    obtain ⟨a, as, rfl, rfl, nd, h1, h2⟩ := h
    refine .lst (LsL.of (by unfold Dy.frz; rw [if_pos (by simp)]; exact h1)) (h2.frz e fun b hb => ?_)
    unfold Dy.frz; rw [if_pos (by simp [hb])]
  | od es =>
    obtain ⟨a, rfl, rfl, h⟩ := h
    have z : Dy.frz I H [a] a = H a := by unfold Dy.frz; rw [if_pos (by simp)]
    rcases h with ⟨kvs, h1, h2⟩ | ⟨ts, h1, h2⟩
    · exact .dic (.inl (z.trans h1)) (h2.mono e)
    · exact .dit (.inl (z.trans h1)) (h2.mono e)
end
structure Step (I H : Hp) (S : Addr → Prop) (I' H' : Hp) (S' : Addr → Prop) : Prop where
  i1 : Same I I'
  fr : ∀ a o, H a = some o → ¬ S a → NT o → H' a = some o
  th : ∀ a o, H a = some o → ¬ S a → ∃ o', H' a = some o'
  s' : ∀ a, S' a → S a ∨ H a = none
  i' : ∀ a o, I' a = some o → I a = some o ∨ S a ∨ H a = none
section
variable {I H I1 H1 I2 H2 : Hp} {S S1 S2 : Addr → Prop}
theorem Step.of4 (i1 : Same I I1) (fr : ∀ a o, H a = some o → ¬ S a → H1 a = some o) (s' : ∀ a, S1 a → S a ∨ H a = none) (i' : ∀ a o, I1 a = some o → I a = some o ∨ S a ∨ H a = none) : Step I H S I1 H1 S1 :=
  ⟨i1, fun a o h n _ => fr a o h n, fun a o h n => ⟨o, fr a o h n⟩, s', i'⟩
theorem Step.refl : Step I H S I H S := ⟨Same.refl _, fun _ _ h _ _ => h, fun _ o h _ => ⟨o, h⟩, fun _ h => .inl h, fun _ _ h => .inl h⟩
theorem Step.back (a : Step I H S I1 H1 S1) {x : Addr} (h : S1 x ∨ H1 x = none) : S x ∨ H x = none := by
  rcases h with h | h
  · exact a.s' x h
  · cases q : H x with
    | none => exact .inr rfl
    | some o =>
      by_cases hs : S x
      · exact .inl hs
      · by_cases nt : NT o
        · rw [a.fr x o q hs nt] at h; cases h
        · obtain ⟨u, hu⟩ := a.th x o q hs
          rw [hu] at h; cases h
theorem Step.trans (a : Step I H S I1 H1 S1) (b : Step I1 H1 S1 I2 H2 S2) : Step I H S I2 H2 S2 := by
  have ns : ∀ x o, H x = some o → ¬ S x → ¬ S1 x := fun x o h hs h1 => by
    rcases a.s' x h1 with z | z
    · exact hs z
    · rw [h] at z; cases z
  refine ⟨a.i1.trans b.i1, fun x o h hs nt => ?_, fun x o h hs => ?_, fun x h => a.back (b.s' x h), fun x o h => ?_⟩
  · exact b.fr x o (a.fr x o h hs nt) (ns x o h hs) nt
  · obtain ⟨o1, h1⟩ := a.th x o h hs
    exact b.th x o1 h1 (ns x o h hs)
  · rcases b.i' x o h with z | z
    · exact a.i' x o z
    · exact .inr (a.back z)
/-- less is owned behind it -/
theorem Step.less (a : Step I H S I1 H1 S1) (h : ∀ x, S2 x → S1 x) : Step I H S I1 H1 S2 := ⟨a.i1, a.fr, a.th, fun x q => a.s' x (h x q), a.i'⟩
/-- something owned stands aside -/
theorem Step.aside (a : Step I H S I1 H1 S1) (T : Addr → Prop) (ht : ∀ x, T x → ∃ o, H x = some o) (hd : ∀ x, T x → ¬ S x) : Step I H (fun x => S x ∨ T x) I1 H1 (fun x => S1 x ∨ T x) := by
  refine ⟨a.i1, fun x o h hs => a.fr x o h fun z => hs (.inl z), fun x o h hs => a.th x o h fun z => hs (.inl z), fun x h => ?_, fun x o h => ?_⟩
  · rcases h with h | h
    · rcases a.s' x h with z | z
      · exact .inl (.inl z)
      · exact .inr z
    · exact .inl (.inr h)
  · rcases a.i' x o h with z | z | z
    · exact .inl z
    · exact .inr (.inl (.inl z))
    · exact .inr (.inr z)
end
/-- what is owned aside stays as it is -/
theorem Step.keeps {I H I1 H1 : Hp} {S S1 : Addr → Prop} (a : Step I H S I1 H1 S1) {F : List Addr} (hd : ∀ x ∈ F, ∃ o, H x = some o ∧ NT o) (hn : ∀ x ∈ F, ¬ S x) : ∀ x ∈ F, H1 x = H x := fun x hx => by
  obtain ⟨o, h, nt⟩ := hd x hx
  rw [h, a.fr x o h (hn x hx) nt]
/-- the slots that hold what they held at the entry, and that -/
abbrev Pn := List Nat × (Nat → V) × List (Addr × Str)
def Ow (F : Nat → List Addr) : Addr → Prop := fun a => ∃ i, a ∈ F i
structure Sim (K : PySem.W.Frag) (π : Pn) (I H : Hp) (σ : St) (env : Env) (F : Nat → List Addr) : Prop where
  len : env.length = σ.length
  rep : ∀ (i : Nat) (o : O), env[i]? = some (some o) → ∃ v, σ[i]? = some (some v) ∧ RepO K I H o v (F i)
  out : ∀ i : Nat, (∀ o, env[i]? ≠ some (some o)) → F i = []
  dis : ∀ (i j : Nat) (a : Addr), a ∈ F i → a ∈ F j → i = j
  djI : ∀ (i : Nat) (a : Addr), a ∈ F i → I a = none
  sub : Same I H
  pin : ∀ i ∈ π.1, σ[i]? = some (some (π.2.1 i))
  tab : TabI π.2.2 I H
section
variable {K : PySem.W.Frag} {π : Pn} {I H I' H' : Hp} {σ : St} {env : Env} {F : Nat → List Addr}
theorem Sim.domN (s : Sim K π I H σ env F) {i : Nat} {a : Addr} (h : a ∈ F i) : ∃ o, H a = some o ∧ NT o := by
  by_cases q : ∃ o, env[i]? = some (some o)
  · obtain ⟨o, q⟩ := q
    obtain ⟨v, _, r⟩ := s.rep i o q
    exact r.domN a h
  · rw [s.out i fun o e => q ⟨o, e⟩] at h; cases h
theorem Sim.dom (s : Sim K π I H σ env F) {i : Nat} {a : Addr} (h : a ∈ F i) : ∃ o, H a = some o := let ⟨o, e, _⟩ := s.domN h; ⟨o, e⟩
theorem Sim.domO (s : Sim K π I H σ env F) {a : Addr} (h : Ow F a) : ∃ o, H a = some o := let ⟨_, q⟩ := h; s.dom q
theorem Sim.domT (s : Sim K π I H σ env F) {a : Addr} (h : Ow F a) {ps : Array Value} (e : H a = some (.tbl ps)) : False := by
  obtain ⟨_, q⟩ := h
  obtain ⟨o, e1, n⟩ := s.domN q
  rw [e] at e1; cases e1
  exact n _ rfl
theorem Sim.ktO (s : Sim K π I H σ env F) {i : Nat} {a : Addr} {o : HO} (h : a ∈ F i) : ∀ b ps, H b = some (.tbl ps) → upd H a o b = some (.tbl ps) := by
  obtain ⟨u, e, n⟩ := s.domN h
  exact kt_upd e n
/-- a slot is changed -/
def upF (F : Nat → List Addr) (i : Nat) (R : List Addr) : Nat → List Addr := fun j => if j = i then R else F j
theorem upF_same {i : Nat} {R : List Addr} : upF F i R i = R := if_pos rfl
theorem upF_ne {i j : Nat} {R : List Addr} (h : j ≠ i) : upF F i R j = F j := if_neg h
/-- the frame over a greater frozen heap, the other slots' things untouched -/
theorem Sim.put (s : Sim K π I H σ env F) {i : Nat} {x : Option O} {sv : Option V} {R : List Addr} (hi : i < env.length) (e : Same I I') (sub : Same I' H')
    (k : ∀ j, j ≠ i → ∀ a ∈ F j, H' a = H a) (nI : ∀ j, j ≠ i → ∀ a ∈ F j, I' a = none) (nR : ∀ a ∈ R, I' a = none) (dR : ∀ j, j ≠ i → ∀ a ∈ F j, a ∉ R)
    (hx : ∀ o, x = some o → ∃ v, sv = some v ∧ RepO K I' H' o v R) (hn : x = none → R = []) (hp : i ∈ π.1 → sv = some (π.2.1 i)) (kt : ∀ a ps, H a = some (.tbl ps) → H' a = some (.tbl ps) := by exact fun _ _ h => h) (ni : ∀ a ps, H a = some (.tbl ps) → I a = none → I' a = none := by exact fun _ _ _ h => h) : Sim K π I' H' (σ.set i sv) (env.set i x) (upF F i R) := by
  refine ⟨by simp [s.len], fun j o q => ?_, fun j q => ?_, fun j l a h1 h2 => ?_, fun j a h => ?_, sub, fun p hp' => ?_, s.tab.mono e kt ni⟩
  · by_cases hj : j = i
    · subst hj
      rw [List.getElem?_set_self hi] at q
      obtain ⟨v, e1, r⟩ := hx o (Option.some.inj q)
      exact ⟨v, by rw [List.getElem?_set_self (by rw [← s.len]; exact hi), e1], by rw [upF_same]; exact r⟩
    · rw [List.getElem?_set_ne (Ne.symm hj)] at q
      obtain ⟨v, e1, r⟩ := s.rep j o q
      exact ⟨v, by rw [List.getElem?_set_ne (Ne.symm hj)]; exact e1, by rw [upF_ne hj]; exact r.mono e (k j hj)⟩
  · by_cases hj : j = i
    · subst hj
      rw [upF_same]
      cases x with
      | none => exact hn rfl
      | some o => exact absurd (List.getElem?_set_self hi) (q o)
    · rw [upF_ne hj]
      exact s.out j fun o z => q o (by rw [List.getElem?_set_ne (Ne.symm hj)]; exact z)
  · by_cases hj : j = i
    · by_cases hl : l = i
      · rw [hj, hl]
      · subst hj
        rw [upF_same] at h1
        rw [upF_ne hl] at h2
        exact absurd h1 (dR l hl a h2)
    · by_cases hl : l = i
      · subst hl
        rw [upF_same] at h2
        rw [upF_ne hj] at h1
        exact absurd h2 (dR j hj a h1)
      · rw [upF_ne hj] at h1
        rw [upF_ne hl] at h2
        exact s.dis j l a h1 h2
  · by_cases hj : j = i
    · subst hj; rw [upF_same] at h; exact nR a h
    · rw [upF_ne hj] at h; exact nI j hj a h
  · by_cases hj : p = i
    · subst hj
      rw [List.getElem?_set_self (by rw [← s.len]; exact hi), hp hp']
    · rw [List.getElem?_set_ne (Ne.symm hj)]; exact s.pin p hp'
/-- the frame as it is, over another heap -/
theorem Sim.heap (s : Sim K π I H σ env F) (e : Same I I') (sub : Same I' H') (k : ∀ a, Ow F a → H' a = H a) (nI : ∀ a, Ow F a → I' a = none) (kt : ∀ a ps, H a = some (.tbl ps) → H' a = some (.tbl ps) := by exact fun _ _ h => h) (ni : ∀ a ps, H a = some (.tbl ps) → I a = none → I' a = none := by exact fun _ _ _ h => h) : Sim K π I' H' σ env F :=
  ⟨s.len, fun i o q => let ⟨v, e1, r⟩ := s.rep i o q; ⟨v, e1, r.mono e fun a ha => k a ⟨i, ha⟩⟩, s.out, s.dis, fun i a h => nI a ⟨i, h⟩, sub, s.pin, s.tab.mono e kt ni⟩
theorem set_same {α : Type} : ∀ {l : List α} {i : Nat} {x : α}, l[i]? = some x → l.set i x = l
  | [], _, _, h => by simp at h
  | a :: l, 0, x, h => by simp at h; subst h; rfl
  | a :: l, i + 1, x, h => by
    rw [List.set_cons_succ, set_same (by simpa using h)]
end
/-- its value is o at v; R: what o owns -/
def Aft (K : PySem.W.Frag) (π : Pn) (I H : Hp) (F : Nat → List Addr) (σ : St) (env' : Env) (o : O) (v : V) (H' : Hp) : Prop :=
  ∃ I' F' R, RepO K I' H' o v R ∧ Sim K π I' H' σ env' F' ∧ (∀ a ∈ R, I' a = none) ∧ (∀ a, Ow F' a → a ∉ R) ∧ Step I H (Ow F) I' H' (fun a => Ow F' a ∨ a ∈ R)
/-- its value is the data d at v -/
def AftD (K : PySem.W.Frag) (π : Pn) (I H : Hp) (F : Nat → List Addr) (σ : St) (env' : Env) (d : PyData) (v : V) (H' : Hp) : Prop :=
  ∃ I' F', Rp K I' v d ∧ Sim K π I' H' σ env' F' ∧ Step I H (Ow F) I' H' (Ow F')
/-- behind a statement -/
def AftS (K : PySem.W.Frag) (π : Pn) (I H : Hp) (F : Nat → List Addr) (σ' : St) (env' : Env) (H' : Hp) : Prop :=
  ∃ I' F', Sim K π I' H' σ' env' F' ∧ Step I H (Ow F) I' H' (Ow F')
/-- an exception has come -/
def Err (T : List (Addr × Str)) (I H : Hp) (S : Addr → Prop) (H' : Hp) (d : Option Addr) : Prop := ∃ I', Same I' H' ∧ TabI T I' H' ∧ (∀ (dx : Addr) (fs : List (Str × V)), d = some dx → H' dx = some (.xd fs) → I' dx = some (.xd fs)) ∧ Step I H S I' H' (fun _ => False)
section
variable {K : PySem.W.Frag} {π : Pn} {I H I1 H1 H2 : Hp} {σ σ' : St} {env : Env} {F F1 : Nat → List Addr} {o : O} {d : PyData} {v : V}
theorem Aft.frz (h : Aft K π I H F σ env o v H1) : AftD K π I H F σ env o.data v H1 := by
  obtain ⟨I', F', R, r, s, nR, dR, st⟩ := h
  have e : Same I' (Dy.frz I' H1 R) := frz_same nR
  refine ⟨Dy.frz I' H1 R, F', r.frz nR, s.heap e (frz_sub s.sub) (fun _ _ => rfl) (fun a ha => ?_) (fun _ _ h => h) (fun a ps h1 h2 => frz_ni r h1 h2), ⟨st.i1.trans e, st.fr, st.th, fun a ha => st.s' a (.inl ha), fun a u q => ?_⟩⟩
  · unfold Dy.frz; rw [if_neg (dR a ha)]; obtain ⟨i, hi⟩ := ha; exact s.djI i a hi
  · unfold Dy.frz at q
    split at q
    · exact .inr (st.s' a (.inr (by assumption)))
    · exact st.i' a u q
theorem AftD.toS (h : AftD K π I H F σ env d v H1) : AftS K π I H F σ env H1 := let ⟨I', F', _, s, st⟩ := h; ⟨I', F', s, st⟩
theorem AftD.aft (h : AftD K π I H F σ env d v H1) : Aft K π I H F σ env (.fr d) v H1 := by
  obtain ⟨I', F', r, s, st⟩ := h
  exact ⟨I', F', [], ⟨rfl, r⟩, s, fun a ha => (nomatch ha), fun a _ ha => (nomatch ha), st.less fun a ha => Or.elim ha id fun z => (nomatch z)⟩
theorem AftS.trans (st : Step I H (Ow F) I1 H1 (Ow F1)) (h : AftS K π I1 H1 F1 σ env H2) : AftS K π I H F σ env H2 := let ⟨I', F', s, t⟩ := h; ⟨I', F', s, st.trans t⟩
theorem AftD.trans (st : Step I H (Ow F) I1 H1 (Ow F1)) (h : AftD K π I1 H1 F1 σ env d v H2) : AftD K π I H F σ env d v H2 := let ⟨I', F', r, s, t⟩ := h; ⟨I', F', r, s, st.trans t⟩
theorem Aft.trans (st : Step I H (Ow F) I1 H1 (Ow F1)) (h : Aft K π I1 H1 F1 σ env o v H2) : Aft K π I H F σ env o v H2 := let ⟨I', F', R, r, s, a, b, t⟩ := h; ⟨I', F', R, r, s, a, b, st.trans t⟩
theorem Err.trans {T : List (Addr × Str)} {S S1 : Addr → Prop} {d : Option Addr} (st : Step I H S I1 H1 S1) (h : Err T I1 H1 S1 H2 d) : Err T I H S H2 d := by
  obtain ⟨I', s, t, f, k⟩ := h
  exact ⟨I', s, t, f, st.trans k⟩
theorem Err.of {T : List (Addr × Str)} {S S1 : Addr → Prop} (st : Step I H S I1 H1 S1) (s : Same I1 H1) (t : TabI T I1 H1) : Err T I H S H1 none := ⟨I1, s, t, fun _ _ e => (by cases e), st.less fun _ z => z.elim⟩
end
end Dy
namespace Dy
open PySem PySem.Spec PyProof.Rows L2
/-- an exception of the program as HandS tells it: its class's address, its own dict -/
def XR (mg : Str → Option Value) (x : Exn) (c : Value) (d : Option Addr) (_H : Hp) : Prop := ∃ a, mg x.cls = some (.ref a) ∧ c = .ref a ∧ (x.args = [] → d = none) ∧ ∀ p q : Int, x.args = [.int p, .int q] → ∃ (dx : Addr) (fs : List (Str × V)), d = some dx ∧ _H dx = some (.xd fs) ∧ fs.lookup ("amount" : Str) = some (V.int p) ∧ fs.lookup ("limit" : Str) = some (V.int q)
/-- what is carried: the written part, the module's names, the pinned slots, the wish about exceptions -/
structure G where
  K : PySem.W.Frag
  mg : Str → Option Value
  pn : Pn
  E : XK
def G.err (g : G) (I H : Hp) (F : Nat → List Addr) (x : Exn) : Prop := ∀ H' c d, Err g.pn.2.2 I H (Ow F) H' d → XR g.mg x c d H' → g.E c d H'
abbrev EF := Env → Res (O × Env)
abbrev TF := Env → Res (Bool × Env)
inductive Fl where
  | nx | bk | ct
  | rt (o : O)
abbrev SF := Env → Res (Fl × Env)
def tD (g : G) (f : EF) : TE := fun σ H Q => ∃ I env F, Sim g.K g.pn I H σ env F ∧ (f env).post (fun r => ∀ v H', Aft g.K g.pn I H F σ r.2 r.1 v H' → Q v H') (g.err I H F)
def tT (g : G) (f : TF) : TT := fun σ H Q => ∃ I env F, Sim g.K g.pn I H σ env F ∧ (f env).post (fun r => ∀ H', AftS g.K g.pn I H F σ r.2 H' → Q r.1 H') (g.err I H F)
def FlP (g : G) (D : Ends) (I H : Hp) (F : Nat → List Addr) : Fl × Env → Prop
  | (.nx, e) => ∀ σ' H', AftS g.K g.pn I H F σ' e H' → D.nx σ' H'
  | (.bk, e) => ∀ σ' H', AftS g.K g.pn I H F σ' e H' → D.bk σ' H'
  | (.ct, e) => ∀ σ' H', AftS g.K g.pn I H F σ' e H' → D.ct σ' H'
  | (.rt o, e) => ∀ v σ' H', Aft g.K g.pn I H F σ' e o v H' → D.rt v H'
def tS (g : G) (f : SF) : TS := fun D σ H => ∃ I env F, Sim g.K g.pn I H σ env F ∧ (f env).post (FlP g D I H F) (g.err I H F)
inductive AF where
  | v (f : EF)
  | s (i : Nat)
inductive AV where
  | d (x : PyData)
  | s (i : Nat)
def evA : List AF → Env → Res (List AV × Env)
  | [], e => .ok ([], e)
  | .v f :: as, e => f e >>= fun r => evA as r.2 >>= fun q => .ok (.d r.1.data :: q.1, q.2)
  | .s i :: as, e => match e[i]? with
    | some (some _) => evA as e >>= fun q => .ok (.s i :: q.1, q.2)
    | _ => .no
inductive RepAV (K : PySem.W.Frag) (I : Hp) (σ : St) : List AV → List V → Prop
  | nil : RepAV K I σ [] []
  | d {x : PyData} {v : V} {as : List AV} {vs : List V} : Rp K I v x → RepAV K I σ as vs → RepAV K I σ (.d x :: as) (v :: vs)
  | s {i : Nat} {v : V} {as : List AV} {vs : List V} : σ[i]? = some (some v) → RepAV K I σ as vs → RepAV K I σ (.s i :: as) (v :: vs)
def tArg (g : G) : AF → TE
  | .v f => tD g f
  | .s i => tVar i
def tA (g : G) (as : List AF) : TA := fun σ H Q => ∃ I env F, Sim g.K g.pn I H σ env F ∧
  (evA as env).post (fun r => ∀ vs H' I' F', Sim g.K g.pn I' H' σ r.2 F' → Step I H (Ow F) I' H' (Ow F') → RepAV g.K I' σ r.1 vs → Q vs H') (g.err I H F)
section
variable {g : G} {σ : St} {H : Hp}
theorem err_step {I I1 H1 : Hp} {F F1 : Nat → List Addr} {x : Exn} (st : Step I H (Ow F) I1 H1 (Ow F1)) (h : g.err I H F x) : g.err I1 H1 F1 x := fun H' c d e r => h H' c d (Err.trans st e) r
theorem tA_nil {Q : List V → Hp → Prop} (h : tA g [] σ H Q) : Q [] H := by
  obtain ⟨I, env, F, s, p⟩ := h
  exact p [] H I F s Step.refl .nil
theorem tA_cons {a : AF} {as : List AF} {Q : List V → Hp → Prop} (h : tA g (a :: as) σ H Q) : tArg g a σ H fun x H1 => tA g as σ H1 fun xs H2 => Q (x :: xs) H2 := by
  obtain ⟨I, env, F, s, p⟩ := h
  cases a with
  | v f =>
    refine ⟨I, env, F, s, ?_⟩
    unfold evA at p
    cases q : f env with
    | no => rw [q] at p; exact p
    | er x => rw [q] at p; exact p
    | ok r =>
      rw [q] at p
      intro v H1 af
      obtain ⟨I1, F1, rp, s1, st1⟩ := af.frz
      refine ⟨I1, r.2, F1, s1, ?_⟩
      rw [bind_ok] at p
      cases q2 : evA as r.2 with
      | no => rw [q2] at p; exact p
      | er x => rw [q2] at p; exact err_step st1 p
      | ok r2 =>
        rw [q2] at p
        intro vs H2 I2 F2 s2 st2 av
        exact p (v :: vs) H2 I2 F2 s2 (st1.trans st2) (.d (rp.mono st2.i1) av)
  | s i =>
    unfold evA at p
    cases q0 : env[i]? with
    | none => rw [q0] at p; exact p.elim
    | some y =>
      cases y with
      | none => rw [q0] at p; exact p.elim
      | some o =>
        rw [q0] at p
        obtain ⟨v, hv, _⟩ := s.rep i o q0
        refine ⟨v, hv, I, env, F, s, ?_⟩
        cases q2 : evA as env with
        | no => simp only [q2] at p; exact p
        | er x => simp only [q2] at p; exact p
        | ok r2 =>
          simp only [q2] at p
          intro vs H2 I2 F2 s2 st2 av
          exact p (v :: vs) H2 I2 F2 s2 st2 (.s hv av)
end
theorem PE.imp {X : Cx} {e : Expr} {t u : TE} (h : PE X e t) (i : ∀ σ H Q, u σ H Q → t σ H Q) : PE X e u := ⟨fun pins s σ H Q I q => h.run pins s σ H Q I (i σ H Q q)⟩
theorem PT.imp {X : Cx} {e : Expr} {t u : TT} (h : PT X e t) (i : ∀ σ H Q, u σ H Q → t σ H Q) : PT X e u := ⟨fun pins s σ H Q I q => h.run pins s σ H Q I (i σ H Q q)⟩
theorem PW.imp {X : Cx} {e : Expr} {t u : TT} (h : PW X e t) (i : ∀ σ H Q, u σ H Q → t σ H Q) : PW X e u := ⟨fun wh pins s σ H Q I q => h.run wh pins s σ H Q I (i σ H Q q)⟩
theorem PA.imp {X : Cx} {e : List Expr} {t u : TA} (h : PA X e t) (i : ∀ σ H Q, u σ H Q → t σ H Q) : PA X e u := ⟨fun ps pins s σ H Q I q => h.run ps pins s σ H Q I (i σ H Q q)⟩
theorem PS.imp {X : Cx} {e : Stmt} {t u : TS} (h : PS X e t) (i : ∀ D σ H, u D σ H → t D σ H) : PS X e u := ⟨fun pins s σ H D I q => h.run pins s σ H D I (i D σ H q)⟩
theorem PSs.imp {X : Cx} {e : List Stmt} {t u : TS} (h : PSs X e t) (i : ∀ D σ H, u D σ H → t D σ H) : PSs X e u := ⟨fun pins s σ H D I q => h.run pins s σ H D I (i D σ H q)⟩
theorem PI.imp {X : Cx} {tg e : Expr} {t u : TI} (h : PI X tg e t) (i : ∀ σ H Q, u σ H Q → t σ H Q) : PI X tg e u := ⟨fun pins s σ H Q I q => h.run pins s σ H Q I (i σ H Q q)⟩
theorem PG.imp {X : Cx} {e : Expr} {t u : TG} (h : PG X e t) (i : ∀ v σ H Q, u v σ H Q → t v σ H Q) : PG X e u := ⟨fun pins s σ H v w Q I r q => h.run pins s σ H v w Q I r (i v σ H Q q)⟩
def DE (g : G) (X : Cx) (e : Expr) (f : EF) : Prop := PE X e (tD g f)
def DX (g : G) (X : Cx) (e : Expr) (a : AF) : Prop := PE X e (tArg g a)
def DA (g : G) (X : Cx) (es : List Expr) (as : List AF) : Prop := PA X es (tA g as)
def DT (g : G) (X : Cx) (e : Expr) (f : TF) : Prop := PT X e (tT g f)
def DW (g : G) (X : Cx) (e : Expr) (f : TF) : Prop := PW X e (tT g f)
def DS (g : G) (X : Cx) (st : Stmt) (f : SF) : Prop := PS X st (tS g f)
def DSs (g : G) (X : Cx) (st : List Stmt) (f : SF) : Prop := PSs X st (tS g f)
section
variable {g : G} {X : Cx} {e : Expr} {es : List Expr}
theorem dx_v {f : EF} (h : DE g X e f) : DX g X e (.v f) := h
theorem dx_s {x : Str} {pos : Pos} (i : Nat) (h : PE X (.Name x pos) (tVar i)) : DX g X (.Name x pos) (.s i) := h
theorem da_nil : DA g X [] [] := PA.imp pa_nil fun σ H Q h => tA_nil h
theorem da_cons {a : AF} {as : List AF} (h : DX g X e a) (hr : DA g X es as) (hs : starEach (e :: es) X.env = (false, eval e X.env) :: starEach es X.env := by rfl) : DA g X (e :: es) (a :: as) :=
  PA.imp (pa_cons h hr hs) fun σ H Q h => tA_cons h
def fC (d : PyData) : EF := fun env => .ok (.fr d, env)
theorem aftC {I H : Hp} {F : Nat → List Addr} {σ : St} {env : Env} {d : PyData} {v : V} (s : Sim g.K g.pn I H σ env F) (r : Rp g.K I v d) : Aft g.K g.pn I H F σ env (.fr d) v H :=
  AftD.aft ⟨I, F, r, s, Step.refl⟩
theorem de_c {v : V} {d : PyData} (h : PE X e (tC v)) (r : ∀ I, Rp g.K I v d) : DE g X e (fC d) := PE.imp h fun σ H Q q => by
  obtain ⟨I, env, F, s, p⟩ := q
  exact p v H (aftC s (r I))
theorem de_int {i j pos} : DE g X (.Constant (.int i) j pos) (fC (.int i)) := de_c pe_int fun _ => .int i
theorem de_bl {b j pos} : DE g X (.Constant (.bool b) j pos) (fC (.bool b)) := de_c pe_bl fun _ => .bl b
theorem de_non {j pos} : DE g X (.Constant .none j pos) (fC .none) := de_c pe_non fun _ => .non
theorem de_str {x j pos} : DE g X (.Constant (.str x) j pos) (fC (.str x)) := de_c pe_str fun _ => .str x
/-- a module's int -/
theorem de_gint {x : Str} {i : Int} {t : Tok} {pos : Pos} (hg : Gl X x) (hm : X.mg x = some (.int i t)) (hd : (x == ("__debug__" : Str)) = false := by decide) : DE g X (.Name x pos) (fC (.int i)) :=
  de_c (v := .int i) (pe_glob hg hm ⟨t, rfl⟩ hd) fun _ => .int i
/-- a name, its value frozen -/
def fV (i : Nat) : EF := fun env => match env[i]? with
  | some (some (.fr d)) => .ok (.fr d, env)
  | some (some o) => .ok (.fr o.data, env.set i (some (.fr o.data)))
  | _ => .no
theorem sim_frz {I H : Hp} {F : Nat → List Addr} {σ : St} {env : Env} {i : Nat} {o : O} (s : Sim g.K g.pn I H σ env F) (q : env[i]? = some (some o)) :
    ∃ v I', σ[i]? = some (some v) ∧ Rp g.K I' v o.data ∧ Sim g.K g.pn I' H σ (env.set i (some (.fr o.data))) (upF F i []) ∧ Step I H (Ow F) I' H (Ow (upF F i [])) := by
  obtain ⟨v, e1, r⟩ := s.rep i o q
  have nI : ∀ a ∈ F i, I a = none := fun a ha => s.djI i a ha
  have hi : i < env.length := by
    cases Nat.lt_or_ge i env.length with
    | inl h => exact h
    | inr h => rw [List.getElem?_eq_none h] at q; cases q
  have sm := frz_same (H := H) nI
  have rp := r.frz nI
  refine ⟨v, Dy.frz I H (F i), e1, rp, ?_, ?_⟩
  · have := s.put (i := i) (x := some (.fr o.data)) (sv := some v) (R := []) hi sm (frz_sub s.sub) (fun _ _ _ _ => rfl) (fun j hj a ha => ?_) (fun a ha => nomatch ha) (fun _ _ _ _ h => nomatch h) (fun o' e => ?_) (fun e => by cases e) (fun hp => ?_) (fun _ _ h => h) (fun a ps h1 h2 => frz_ni r h1 h2)
    · rw [set_same e1] at this; exact this
    · unfold Dy.frz; rw [if_neg (fun h => hj (s.dis j i a ha h))]; exact s.djI j a ha
    · cases e; exact ⟨v, rfl, rfl, rp⟩
    · have := s.pin i hp; rw [e1] at this; exact Option.some.inj this
  · refine Step.of4 sm (fun _ _ h _ => h) (fun a ⟨j, ha⟩ => ?_) (fun a u h => ?_)
    · by_cases hj : j = i
      · subst hj; rw [upF_same] at ha; cases ha
      · rw [upF_ne hj] at ha; exact .inl ⟨j, ha⟩
    · unfold Dy.frz at h
      split at h
      · exact .inr (.inl ⟨i, by assumption⟩)
      · exact .inl h
theorem de_v {x : Str} {pos : Pos} (i : Nat) (h : PE X (.Name x pos) (tVar i)) : DE g X (.Name x pos) (fV i) := PE.imp h fun σ H Q q => by
  obtain ⟨I, env, F, s, p⟩ := q
  unfold fV at p
  cases q : env[i]? with
  | none => rw [q] at p; exact p.elim
  | some y =>
    cases y with
    | none => rw [q] at p; exact p.elim
    | some o =>
      have key : (match o with | .fr d => Res.ok (O.fr d, env) | o => .ok (O.fr o.data, env.set i (some (.fr o.data)))) = .ok (O.fr o.data, env.set i (some (.fr o.data))) := by
        cases o with
        | fr d => show Res.ok (O.fr d, env) = Res.ok (O.fr d, env.set i (some (O.fr d))); rw [set_same q]
        | ol _ => rfl
        | oo _ => rfl
        | od _ => rfl
      rw [q] at p
      have p : (Res.ok (O.fr o.data, env.set i (some (.fr o.data)))).post (fun r => ∀ v H', Aft g.K g.pn I H F σ r.2 r.1 v H' → Q v H') (g.err I H F) := by
        rw [← key]; cases o <;> exact p
      obtain ⟨v, I', e1, rp, s', st⟩ := sim_frz s q
      exact ⟨v, e1, p v H (AftD.aft ⟨I', _, rp, s', st⟩)⟩
/-- a name whose thing goes out of the def -/
def fM (i : Nat) : EF := fun env => match env[i]? with
  | some (some o) => .ok (o, env.set i none)
  | _ => .no
theorem de_m {x : Str} {pos : Pos} (i : Nat) (h : PE X (.Name x pos) (tVar i)) : DE g X (.Name x pos) (fM i) := PE.imp h fun σ H Q q => by
  obtain ⟨I, env, F, s, p⟩ := q
  unfold fM at p
  cases q : env[i]? with
  | none => rw [q] at p; exact p.elim
  | some y =>
    cases y with
    | none => rw [q] at p; exact p.elim
    | some o =>
      rw [q] at p
      obtain ⟨v, e1, r⟩ := s.rep i o q
      have hi : i < env.length := by
        cases Nat.lt_or_ge i env.length with
        | inl h => exact h
        | inr h => rw [List.getElem?_eq_none h] at q; cases q
      refine ⟨v, e1, p v H ⟨I, upF F i [], F i, r, ?_, fun a ha => s.djI i a ha, fun a ⟨j, hj⟩ ha => ?_, ?_⟩⟩
      · have := s.put (i := i) (x := none) (sv := some v) (R := []) hi (Same.refl _) s.sub (fun _ _ _ _ => rfl) (fun j _ a ha => s.djI j a ha) (fun a ha => nomatch ha) (fun _ _ _ _ h => nomatch h) (fun o' e => by cases e) (fun _ => rfl) (fun hp => ?_)
        · rw [set_same e1] at this; exact this
        · have := s.pin i hp; rw [e1] at this; exact Option.some.inj this
      · by_cases h : j = i
        · subst h; rw [upF_same] at hj; cases hj
        · rw [upF_ne h] at hj; exact h (s.dis j i a hj ha)
      · refine Step.of4 (Same.refl _) (fun _ _ h _ => h) (fun a ha => .inl ?_) (fun _ _ h => .inl h)
        rcases ha with ⟨j, hj⟩ | ha
        · by_cases h : j = i
          · subst h; rw [upF_same] at hj; cases hj
          · rw [upF_ne h] at hj; exact ⟨j, hj⟩
        · exact ⟨i, ha⟩
end
/-- an argument that is read: data, or an owned list of data -/
def DiO (K : PySem.W.Frag) (I H : Hp) (a : Addr) (es : List (PyData × PyData)) : Prop := (∃ kvs, H a = some (.dK kvs) ∧ RpKv K I kvs es) ∨ ∃ ts, H a = some (dN a ts) ∧ RpKt K I ts es
def DrO (K : PySem.W.Frag) (I H : Hp) (a : Addr) (es : List (PyData × PyData)) : Prop := (∃ kvs, Rd H a (.dK kvs) ∧ RpKv K I kvs es) ∨ ∃ ts, Rd H a (dN a ts) ∧ RpKt K I ts es
theorem DiO.rd {K : PySem.W.Frag} {I H : Hp} {a : Addr} {es : List (PyData × PyData)} (h : DiO K I H a es) : DrO K I H a es := by
  rcases h with ⟨k, h1, h2⟩ | ⟨k, h1, h2⟩
  · exact .inl ⟨k, .inl h1, h2⟩
  · exact .inr ⟨k, .inl h1, h2⟩
def RpS (K : PySem.W.Frag) (I H : Hp) (v : V) (d : PyData) : Prop := Rp K I v d ∨ (∃ a vs ds, v = .ref a ∧ d = .list ds ∧ H a = some (.lst vs) ∧ RpAll K I vs ds) ∨ ∃ a es, v = .ref a ∧ d = .dict es ∧ DiO K I H a es
inductive RpSs (K : PySem.W.Frag) (I H : Hp) : List V → List PyData → Prop
  | nil : RpSs K I H [] []
  | cons {v : V} {d : PyData} {vs : List V} {ds : List PyData} : RpS K I H v d → RpSs K I H vs ds → RpSs K I H (v :: vs) (d :: ds)
def rsv (env : Env) : AV → Option PyData
  | .d x => some x
  | .s i => match env[i]? with
    | some (some (.fr d)) => some d
    | some (some (.ol ds)) => some (.list ds)
    | some (some (.od es)) => some (.dict es)
    | _ => none
def rsvs (env : Env) : List AV → Option (List PyData)
  | [] => some []
  | a :: as => match rsv env a, rsvs env as with
    | some d, some ds => some (d :: ds)
    | _, _ => none
theorem rsvs_rep {K : PySem.W.Frag} {π : Pn} {I H : Hp} {σ : St} {env : Env} {F : Nat → List Addr} (s : Sim K π I H σ env F) : ∀ {as : List AV} {vs : List V} {ds : List PyData}, RepAV K I σ as vs → rsvs env as = some ds → RpSs K I H vs ds
  | _, _, ds, .nil, h => by cases h; exact .nil
  | _, _, ds, .d (as := as) r t, h => by
    unfold rsvs at h
    cases q : rsvs env as with
    | none => rw [q] at h; cases h
    | some es => rw [q] at h; cases h; exact .cons (.inl r) (rsvs_rep s t q)
  | _, _, ds, .s (i := i) (as := as) r t, h => by
    unfold rsvs at h
    cases q : rsvs env as with
    | none => rw [q] at h; cases q9 : rsv env (.s i) <;> (rw [q9] at h; cases h)
    | some es =>
      rw [q] at h
      cases q2 : rsv env (.s i) with
      | none => rw [q2] at h; cases h
      | some d =>
        rw [q2] at h; cases h
        refine .cons ?_ (rsvs_rep s t q)
        simp only [rsv] at q2
        cases q3 : env[i]? with
        | none => rw [q3] at q2; cases q2
        | some y =>
          cases y with
          | none => rw [q3] at q2; cases q2
          | some o =>
            obtain ⟨w, e1, rp⟩ := s.rep i o q3
            rw [r] at e1; cases e1
            rw [q3] at q2
            cases o with
            | fr x => cases q2; exact .inl rp.2
            | ol xs =>
              cases q2
              obtain ⟨a, us, rfl, _, h1, h2⟩ := rp
              exact .inr (.inl ⟨a, us, xs, rfl, rfl, h1, h2⟩)
            | oo _ => cases q2
            | od es =>
              cases q2
              obtain ⟨a, rfl, _, h1⟩ := rp
              exact .inr (.inr ⟨a, es, rfl, rfl, h1⟩)
/-- what a new value adds -/
structure Grow (K : PySem.W.Frag) (I H I' H' : Hp) (o : O) (v : V) (R : List Addr) : Prop where
  rep : RepO K I' H' o v R
  i1 : Same I I'
  h1 : Same H H'
  sub : Same I' H'
  fresh : ∀ a ∈ R, H a = none
  nI : ∀ a ∈ R, I' a = none
  i' : ∀ a o, I' a = some o → I a = some o ∨ H a = none
theorem Grow.val {K : PySem.W.Frag} {I H : Hp} {d : PyData} {v : V} (s : Same I H) (r : Rp K I v d) : Grow K I H I H (.fr d) v [] :=
  ⟨⟨rfl, r⟩, Same.refl _, Same.refl _, s, fun _ h => (nomatch h), fun _ h => (nomatch h), fun _ _ h => .inl h⟩
theorem same_new {H : Hp} {p : Addr} {o : HO} (h : H p = none) : Same H (upd H p o) := fun b x e => by
  rw [upd_ne (ne_of_none e h)]; exact e
theorem none_of_same {I H : Hp} (s : Same I H) {a : Addr} (h : H a = none) : I a = none := by
  cases q : I a with
  | none => rfl
  | some o => rw [s a o q] at h; cases h
/-- a new list of its own -/
theorem Grow.lst {K : PySem.W.Frag} {I H : Hp} {ds : List PyData} {vs : List V} {p : Addr} (s : Same I H) (n : H p = none) (r : RpAll K I vs ds) : Grow K I H I (upd H p (.lst vs)) (.ol ds) (.ref p) [p] :=
  ⟨⟨p, vs, rfl, rfl, upd_same, r⟩, Same.refl _, same_new n, s.trans (same_new n), fun a h => by simp at h; subst h; exact n, fun a h => by simp at h; subst h; exact none_of_same s n, fun _ _ h => .inl h⟩
/-- a new tuple -/
theorem Grow.tup {K : PySem.W.Frag} {I H : Hp} {ds : List PyData} {vs : List V} {p : Addr} (s : Same I H) (n : H p = none) (r : RpAll K I vs ds) : Grow K I H (upd I p (.tup vs)) (upd H p (.tup vs)) (.fr (.tuple ds)) (.ref p) [] := by
  have nI := none_of_same s n
  have e : Same I (upd I p (.tup vs)) := same_new nI
  refine ⟨⟨rfl, .tup (SqT.of upd_same) (r.mono e)⟩, e, same_new n, fun b x q => ?_, fun _ h => (nomatch h), fun _ h => (nomatch h), fun a o q => ?_⟩
  · by_cases h : b = p
    · subst h; rw [upd_same] at q ⊢; exact q
    · rw [upd_ne h] at q ⊢; exact s b x q
  · by_cases h : a = p
    · subst h; exact .inr n
    · rw [upd_ne h] at q; exact .inl q
theorem Grow.aft {K : PySem.W.Frag} {π : Pn} {I H I' H' : Hp} {o : O} {v : V} {R : List Addr} {σ : St} {env : Env} {F : Nat → List Addr} (g : Grow K I H I' H' o v R) (s : Sim K π I H σ env F) : Aft K π I H F σ env o v H' := by
  have nF : ∀ a, Ow F a → I' a = none := fun a ⟨i, ha⟩ => by
    cases q : I' a with
    | none => rfl
    | some u =>
      rcases g.i' a u q with z | z
      · rw [s.djI i a ha] at z; cases z
      · obtain ⟨w, hw⟩ := s.dom ha; rw [z] at hw; cases hw
  refine ⟨I', F, R, g.rep, s.heap g.i1 g.sub (fun a ha => ?_) nF (fun a ps h => g.h1 a _ h) (fun a ps h1 h2 => by
    cases q : I' a with
    | none => rfl
    | some u =>
      rcases g.i' a u q with z | z
      · rw [h2] at z; cases z
      · rw [h1] at z; cases z), g.nI, fun a ha hr => ?_, Step.of4 g.i1 (fun a u h _ => g.h1 a u h) (fun a h => ?_) (fun a u h => ?_)⟩
  · obtain ⟨w, hw⟩ := s.domO ha; rw [hw, g.h1 a w hw]
  · obtain ⟨w, hw⟩ := s.domO ha; rw [g.fresh a hr] at hw; cases hw
  · rcases h with h | h
    · exact .inl h
    · exact .inr (g.fresh a h)
  · rcases g.i' a u h with z | z
    · exact .inl z
    · exact .inr (.inr z)
/-- the operation r of HandS does on data what f tells -/
def OpS (K : PySem.W.Frag) (r : List V → Hp → VK → Prop) (f : List PyData → Option O) : Prop :=
  ∀ (vs : List V) (ds : List PyData) (I H : Hp) (Q : VK) (o : O), Same I H → RpSs K I H vs ds → f ds = some o → (∀ v H' I' R, Grow K I H I' H' o v R → Q v H') → r vs H Q
def fOp (f : List PyData → Option O) (as : List AF) : EF := fun env => evA as env >>= fun r => match rsvs r.2 r.1 with
  | none => .no
  | some ds => match f ds with
    | none => .no
    | some o => .ok (o, r.2)
end Dy
namespace Dy
open PySem PySem.Spec PyProof.Rows L2
section
variable {g : G} {X : Cx} {a b c e : Expr} {es : List Expr} {pos : Pos}
theorem op_key {r : List V → Hp → VK → Prop} {f : List PyData → Option O} {as : List AF} {σ : St} {H : Hp} {Q : VK} (ops : OpS g.K r f) (h : tD g (fOp f as) σ H Q) : tA g as σ H fun vs H' => r vs H' Q := by
  obtain ⟨I, env, F, s, p⟩ := h
  refine ⟨I, env, F, s, ?_⟩
  unfold fOp at p
  cases q : evA as env with
  | no => rw [q] at p; exact p
  | er x => rw [q] at p; exact p
  | ok y =>
    rw [q, bind_ok] at p
    cases q2 : rsvs y.2 y.1 with
    | none => rw [q2] at p; exact p.elim
    | some ds =>
      cases q3 : f ds with
      | none => simp only [q2, q3] at p; exact p.elim
      | some o =>
        simp only [q2, q3] at p
        intro vs H' I' F' s' st av
        exact ops vs ds I' H' Q o s'.sub (rsvs_rep s' av q2) q3 fun v H'' I'' R gr => p v H'' (Aft.trans st (gr.aft s'))
def one (r : V → Hp → VK → Prop) : List V → Hp → VK → Prop
  | [x], H, Q => r x H Q
  | _, _, _ => False
def two (r : R2) : List V → Hp → VK → Prop
  | [x, y], H, Q => r x y H Q
  | _, _, _ => False
theorem tA2 {x y : AF} {σ : St} {H : Hp} {R : List V → Hp → Prop} (h : tA g [x, y] σ H R) : tArg g x σ H fun v H1 => tArg g y σ H1 fun u H2 => R [v, u] H2 := by
  have := tA_cons h
  cases x with
  | v f =>
    obtain ⟨I, env, F, s, p⟩ := this
    refine ⟨I, env, F, s, ?_⟩
    cases q : f env with
    | no => rw [q] at p; exact p
    | er x => rw [q] at p; exact p
    | ok r =>
      rw [q] at p
      intro v H1 af
      have p2 := tA_cons (p v H1 af)
      cases y with
      | v f2 =>
        obtain ⟨I2, env2, F2, s2, p3⟩ := p2
        refine ⟨I2, env2, F2, s2, ?_⟩
        cases q2 : f2 env2 with
        | no => rw [q2] at p3; exact p3
        | er x => rw [q2] at p3; exact p3
        | ok r2 => rw [q2] at p3; intro v2 H2 af2; exact tA_nil (p3 v2 H2 af2)
      | s j =>
        obtain ⟨u, hu, p3⟩ := p2
        exact ⟨u, hu, tA_nil p3⟩
  | s i =>
    obtain ⟨v, hv, p⟩ := this
    refine ⟨v, hv, ?_⟩
    have p2 := tA_cons p
    cases y with
    | v f2 =>
      obtain ⟨I2, env2, F2, s2, p3⟩ := p2
      refine ⟨I2, env2, F2, s2, ?_⟩
      cases q2 : f2 env2 with
      | no => rw [q2] at p3; exact p3
      | er x => rw [q2] at p3; exact p3
      | ok r2 => rw [q2] at p3; intro v2 H2 af2; exact tA_nil (p3 v2 H2 af2)
    | s j =>
      obtain ⟨u, hu, p3⟩ := p2
      exact ⟨u, hu, tA_nil p3⟩
theorem tArg_mono {x : AF} {σ : St} {H : Hp} {Q Q' : VK} (h : tArg g x σ H Q) (i : ∀ v H', Q v H' → Q' v H') : tArg g x σ H Q' := by
  cases x with
  | v f =>
    obtain ⟨I, env, F, s, p⟩ := h
    refine ⟨I, env, F, s, ?_⟩
    cases q : f env with
    | no => rw [q] at p; exact p
    | er x => rw [q] at p; exact p
    | ok r => rw [q] at p; exact fun v H' af => i _ _ (p v H' af)
  | s j =>
    obtain ⟨v, hv, q⟩ := h
    exact ⟨v, hv, i _ _ q⟩
theorem tA1 {x : AF} {σ : St} {H : Hp} {R : List V → Hp → Prop} (h : tA g [x] σ H R) : tArg g x σ H fun v H1 => R [v] H1 := tArg_mono (tA_cons h) fun _ _ q => tA_nil q
/-- a built-in function, a built-in type called -/
theorem de_callB {id : String} {x : Str} {p : Pos} {r : List V → Hp → VK → Prop} {f : List PyData → Option O} {as : List AF} (hc : CallR X (.builtin id) r) (ops : OpS g.K r f) (hg : Gl X x) (hm : X.mg x = none) (hv : bootBuiltins x = some (.builtin id)) (ha : DA g X (e :: es) as)
    (hn : x ≠ "__name__" := by decide) (hdb : (x == ("__debug__" : Str)) = false := by decide) (he : starEach (e :: es) X.env = (false, eval e X.env) :: starEach es X.env := by rfl) (hpl : (backTo pos (starEach es X.env)).any (·.1) = false := by rfl) :
    DE g X (.Call (.Name x p) (e :: es) [] pos) (fOp f as) := PE.imp (pe_callB hc hg hm hv ha hn hdb he hpl) fun σ H Q h => op_key ops h
theorem de_callTy {T : String} {x : Str} {p : Pos} {r : List V → Hp → VK → Prop} {f : List PyData → Option O} {as : List AF} (hc : CallR X (.type T) r) (ops : OpS g.K r f) (hg : Gl X x) (hm : X.mg x = none) (hv : bootBuiltins x = some (.type T)) (ha : DA g X (e :: es) as)
    (hn : x ≠ "__name__" := by decide) (hdb : (x == ("__debug__" : Str)) = false := by decide) (he : starEach (e :: es) X.env = (false, eval e X.env) :: starEach es X.env := by rfl) (hpl : (backTo pos (starEach es X.env)).any (·.1) = false := by rfl) :
    DE g X (.Call (.Name x p) (e :: es) [] pos) (fOp f as) := PE.imp (pe_callTy hc hg hm hv ha hn hdb he hpl) fun σ H Q h => op_key ops h
/-- a op b; a cmp b; a[b]; op a -/
theorem de_op {op : Operator} {r : R2} {f : List PyData → Option O} {x y : AF} (ho : OpR X (binaryOp op) r) (ops : OpS g.K (two r) f) (ha : DX g X a x) (hb : DX g X b y) : DE g X (.BinOp a op b pos) (fOp f [x, y]) :=
  PE.imp (pe_op ho ha hb) fun σ H Q h => tA2 (op_key ops h)
theorem de_cmp {op : CmpOp} {r : R2} {f : List PyData → Option O} {x y : AF} (ho : OpR X (compareOp op) r) (ops : OpS g.K (two r) f) (ha : DX g X a x) (hb : DX g X b y) (hm : behindInMarks op b = false) : DE g X (.Compare a [op] [b] pos) (fOp f [x, y]) :=
  PE.imp (pe_cmpR ho ha hb hm) fun σ H Q h => tA2 (op_key ops h)
theorem de_ix {r : R2} {f : List PyData → Option O} {x y : AF} (ho : IxR X r) (ops : OpS g.K (two r) f) (ha : DX g X a x) (hb : DX g X b y) (hs : PlainIx b) : DE g X (.Subscript a b pos) (fOp f [x, y]) :=
  PE.imp (pe_ix ho ha hb hs) fun σ H Q h => tA2 (op_key ops h)
theorem de_un {op : UnaryOp} {r : V → Hp → VK → Prop} {f : List PyData → Option O} {x : AF} (ho : UnR X (unaryOp op) r) (ops : OpS g.K (one r) f) (ha : DX g X a x) : DE g X (.UnaryOp op a pos) (fOp f [x]) :=
  PE.imp (pe_un ho ha) fun σ H Q h => tA1 (op_key ops h)
/-- arguments that are all data -/
def dvs : List AV → Option (List PyData)
  | [] => some []
  | .d x :: as => (dvs as).map (x :: ·)
  | .s _ :: _ => none
theorem dvs_rep {K : PySem.W.Frag} {I : Hp} {σ : St} : ∀ {as : List AV} {vs : List V} {ds : List PyData}, RepAV K I σ as vs → dvs as = some ds → RpAll K I vs ds
  | _, _, _, .nil, h => by cases h; exact .nil
  | _, _, _, .d (as := as) r t, h => by
    unfold dvs at h
    cases q : dvs as with
    | none => rw [q] at h; cases h
    | some es => rw [q] at h; cases h; exact .cons r (dvs_rep t q)
  | _, _, _, .s _ _, h => by cases h
def OpV (K : PySem.W.Frag) (r : List V → Hp → VK → Prop) (f : List PyData → Option O) : Prop :=
  ∀ (vs : List V) (ds : List PyData) (I H : Hp) (Q : VK) (o : O), Same I H → RpAll K I vs ds → f ds = some o → (∀ v H' I' R, Grow K I H I' H' o v R → Q v H') → r vs H Q
def fOv (f : List PyData → Option O) (as : List AF) : EF := fun env => evA as env >>= fun r => match dvs r.1 with
  | none => .no
  | some ds => match f ds with
    | none => .no
    | some o => .ok (o, r.2)
theorem ov_key {r : List V → Hp → VK → Prop} {f : List PyData → Option O} {as : List AF} {σ : St} {H : Hp} {Q : VK} (ops : OpV g.K r f) (h : tD g (fOv f as) σ H Q) : tA g as σ H fun vs H' => r vs H' Q := by
  obtain ⟨I, env, F, s, p⟩ := h
  refine ⟨I, env, F, s, ?_⟩
  unfold fOv at p
  cases q : evA as env with
  | no => rw [q] at p; exact p
  | er x => rw [q] at p; exact p
  | ok y =>
    rw [q, bind_ok] at p
    cases q2 : dvs y.1 with
    | none => rw [q2] at p; exact p.elim
    | some ds =>
      cases q3 : f ds with
      | none => simp only [q2, q3] at p; exact p.elim
      | some o =>
        simp only [q2, q3] at p
        intro vs H' I' F' s' st av
        exact ops vs ds I' H' Q o s'.sub (dvs_rep av q2) q3 fun v H'' I'' R gr => p v H'' (Aft.trans st (gr.aft s'))
/-- displays -/
def pTup (ds : List PyData) : Option O := if ds.length ≤ 100000 then some (.fr (.tuple ds)) else none
def pLst (ds : List PyData) : Option O := if ds.length ≤ 100000 then some (.ol ds) else none
theorem ov_tup {K : PySem.W.Frag} : OpV K (fun xs H1 Q => xs.length ≤ sizeLine ∧ ∀ p, H1 p = none → Q (.ref p) (upd H1 p (.tup xs))) pTup := fun vs ds I H Q o s r e k => by
  unfold pTup at e
  by_cases hz : ds.length ≤ 100000
  · rw [if_pos hz] at e; cases e
    exact ⟨by rw [r.length]; exact Nat.le_trans hz (by decide), fun p np => k _ _ _ _ (Grow.tup s np r)⟩
  · rw [if_neg hz] at e; cases e
theorem ov_lst {K : PySem.W.Frag} : OpV K (fun xs H1 Q => xs.length ≤ sizeLine ∧ ∀ p, H1 p = none → Q (.ref p) (upd H1 p (.lst xs))) pLst := fun vs ds I H Q o s r e k => by
  unfold pLst at e
  by_cases hz : ds.length ≤ 100000
  · rw [if_pos hz] at e; cases e
    exact ⟨by rw [r.length]; exact Nat.le_trans hz (by decide), fun p np => k _ _ _ _ (Grow.lst s np r)⟩
  · rw [if_neg hz] at e; cases e
theorem de_tup {x1} {as : List AF} (h : DA g X es as) : DE g X (.Tuple es x1 pos) (fOv pTup as) := PE.imp (pe_tup h) fun σ H Q q => ov_key ov_tup q
theorem de_lst {as : List AF} (h : DA g X es as) : DE g X (.List es pos) (fOv pLst as) := PE.imp (pe_lst h) fun σ H Q q => ov_key ov_lst q
/-- (a, *b) -/
def seqOf : PyData → Option (List PyData)
  | .list xs => some xs
  | .tuple xs => some xs
  | _ => none
def on1 (f : PyData → Option O) : List PyData → Option O
  | [a] => f a
  | _ => none
def on2 (f : PyData → PyData → Option O) : List PyData → Option O
  | [a, b] => f a b
  | _ => none
theorem ops1 {K : PySem.W.Frag} {r : V → Hp → VK → Prop} {f : PyData → Option O} (h : ∀ (v : V) (d : PyData) (I H : Hp) (Q : VK) (o : O), Same I H → RpS K I H v d → f d = some o → (∀ v H' I' R, Grow K I H I' H' o v R → Q v H') → r v H Q) : OpS K (one r) (on1 f) := by
  intro vs ds I H Q o s q e k
  match vs, ds, q with
  | _, _, .nil => simp [on1] at e
  | _, _, .cons q1 .nil => exact h _ _ I H Q o s q1 e k
  | _, _, .cons _ (.cons _ _) => simp [on1] at e
theorem ops2 {K : PySem.W.Frag} {r : R2} {f : PyData → PyData → Option O} (h : ∀ (v u : V) (d e : PyData) (I H : Hp) (Q : VK) (o : O), Same I H → RpS K I H v d → RpS K I H u e → f d e = some o → (∀ v H' I' R, Grow K I H I' H' o v R → Q v H') → r v u H Q) : OpS K (two r) (on2 f) := by
  intro vs ds I H Q o s q e k
  match vs, ds, q with
  | _, _, .nil => simp [on2] at e
  | _, _, .cons _ .nil => simp [on2] at e
  | _, _, .cons q1 (.cons q2 .nil) => exact h _ _ _ _ I H Q o s q1 q2 e k
  | _, _, .cons _ (.cons _ (.cons _ _)) => simp [on2] at e
def isL : PyData → Bool
  | .list _ => true
  | .dict _ => true
  | _ => false
def pStar (d x : PyData) : Option O := if isL d then none else match seqOf x with
  | some xs => if xs.length < 100000 then some (.fr (.tuple (d :: xs))) else none
  | none => none
theorem rps_rp {K : PySem.W.Frag} {I H : Hp} {v : V} {d : PyData} (h : RpS K I H v d) (n : isL d = false) : Rp K I v d := by
  rcases h with h | ⟨a, vs, ds, rfl, rfl, h1, h2⟩ | ⟨a, es, rfl, rfl, h1⟩
  · exact h
  · cases n
  · cases n
theorem rps_seq {K : PySem.W.Frag} {I H : Hp} {v : V} {d : PyData} {xs : List PyData} (s : Same I H) (h : RpS K I H v d) (e : seqOf d = some xs) : ∃ p vs, v = .ref p ∧ (SqT K H p vs ∨ SqL K H p vs) ∧ RpAll K I vs xs := by
  rcases h with h | ⟨a, vs, ds, rfl, rfl, h1, h2⟩ | ⟨a, es, rfl, rfl, h1⟩
  · cases h with
    | lst h1 h2 => cases e; exact ⟨_, _, rfl, .inr (h1.mono s).sq, h2⟩
    | tup h1 h2 => cases e; exact ⟨_, _, rfl, .inl (same_t s h1), h2⟩
    | non => cases e
    | bl => cases e
    | int => cases e
    | str => cases e
    | dic => cases e
    | dit => cases e
  · cases e; exact ⟨_, _, rfl, .inr (SqL.of h1), h2⟩
  · cases e
end
end Dy
namespace Dy
open PySem PySem.Spec PyProof.Rows L2
theorem post_bind {α β : Type} {r : Res α} {k : α → Res β} {P : β → Prop} {E : Exn → Prop} : (r >>= k).post P E ↔ r.post (fun a => (k a).post P E) E := by
  cases r <;> exact Iff.rfl
theorem post_mono {α : Type} {r : Res α} {P P' : α → Prop} {E E' : Exn → Prop} (h : r.post P E) (hp : ∀ a, P a → P' a) (he : ∀ x, E x → E' x) : r.post P' E' := by
  cases r with
  | ok a => exact hp a h
  | er x => exact he x h
  | no => exact h
section
variable {g : G} {X : Cx} {a b c e : Expr} {es : List Expr} {pos : Pos} {σ : St} {H I : Hp} {env : Env} {F : Nat → List Addr}
theorem tD_seq {f : EF} {β : Type} {k : O × Env → Res β} {P : β → Prop} {Q : VK} (s : Sim g.K g.pn I H σ env F) (p : (f env >>= k).post P (g.err I H F))
    (h : ∀ r v H1, Aft g.K g.pn I H F σ r.2 r.1 v H1 → (k r).post P (g.err I H F) → Q v H1) : tD g f σ H Q :=
  ⟨I, env, F, s, post_mono (post_bind.mp p) (fun r q v H1 af => h r v H1 af q) fun _ z => z⟩
theorem tT_seq {f : TF} {β : Type} {k : Bool × Env → Res β} {P : β → Prop} {Q : Bool → Hp → Prop} (s : Sim g.K g.pn I H σ env F) (p : (f env >>= k).post P (g.err I H F))
    (h : ∀ r H1, AftS g.K g.pn I H F σ r.2 H1 → (k r).post P (g.err I H F) → Q r.1 H1) : tT g f σ H Q :=
  ⟨I, env, F, s, post_mono (post_bind.mp p) (fun r q H1 af => h r H1 af q) fun _ z => z⟩
def fB (f : EF) : TF := fun env => f env >>= fun r => match r.1 with
  | .fr (.bool b) => .ok (b, r.2)
  | _ => .no
theorem tB_key {f : EF} {Q : Bool → Hp → Prop} (h : tT g (fB f) σ H Q) : tD g f σ H fun x H1 => ∃ k, x = .bl k ∧ Q k H1 := by
  obtain ⟨I, env, F, s, p⟩ := h
  refine tD_seq s p fun r v H1 af q => ?_
  obtain ⟨o, e⟩ := r
  cases o with
  | ol _ => exact q.elim
  | oo _ => exact q.elim
  | od _ => exact q.elim
  | fr d =>
    cases d with
    | bool b =>
      obtain ⟨I', F', rp, s', st⟩ := af.frz
      cases rp
      exact ⟨b, rfl, q H1 ⟨I', F', s', st⟩⟩
    | _ => exact q.elim
theorem dt_val {f : EF} (h : DE g X e f) (he : ∀ whole, isTrue e X.env whole = (do let v ← whole; standAt e.pos; holding [v] (truthy v)) := by intro _; rfl) : DT g X e (fB f) :=
  PT.imp (pt_val h he) fun σ H Q q => tB_key q
theorem dt_cmp {op : CmpOp} {r : R2} {f : List PyData → Option O} {x y : AF} (ho : OpR X (compareOp op) r) (ops : OpS g.K (two r) f) (ha : DX g X a x) (hb : DX g X b y) (hm : behindInMarks op b = false) : DT g X (.Compare a [op] [b] pos) (fB (fOp f [x, y])) :=
  PT.imp (pt_cmpR ho ha hb hm) fun σ H Q h => tA2 (op_key ops (tB_key h))
def fNot (t : TF) : TF := fun env => t env >>= fun r => .ok (!r.1, r.2)
theorem dt_not {t : TF} (h : DT g X a t) : DT g X (.UnaryOp .Not a pos) (fNot t) := PT.imp (pt_not h) fun σ H Q q => by
  obtain ⟨I, env, F, s, p⟩ := q
  exact tT_seq s p fun r H1 af q => q H1 af
def fAndT (t u : TF) : TF := fun env => t env >>= fun r => if r.1 = true then u r.2 else .ok (false, r.2)
def fOrT (t u : TF) : TF := fun env => t env >>= fun r => if r.1 = true then .ok (true, r.2) else u r.2
theorem AftS.go {P : Prop} {H1 : Hp} {env' : Env} (af : AftS g.K g.pn I H F σ env' H1) (h : ∀ I1 F1, Sim g.K g.pn I1 H1 σ env' F1 → Step I H (Ow F) I1 H1 (Ow F1) → P) : P := let ⟨I1, F1, s, st⟩ := af; h I1 F1 s st
theorem dw_and1 {t : TF} (h : DT g X a t) : DW g X (.BoolOp .And [a] pos) t := pw_and1 h
theorem dw_or1 {t : TF} (h : DT g X a t) : DW g X (.BoolOp .Or [a] pos) t := pw_or1 h
theorem tT_again {u : TF} {Q : Bool → Hp → Prop} {H1 : Hp} {env' : Env} (af : AftS g.K g.pn I H F σ env' H1) (p : (u env').post (fun r => ∀ H', AftS g.K g.pn I H F σ r.2 H' → Q r.1 H') (g.err I H F)) : tT g u σ H1 Q :=
  af.go fun I1 F1 s1 st => ⟨I1, env', F1, s1, post_mono p (fun r q H' af' => q H' (AftS.trans st af')) fun x z => err_step st z⟩
theorem tD_again {f : EF} {Q : VK} {H1 : Hp} {env' : Env} (af : AftS g.K g.pn I H F σ env' H1) (p : (f env').post (fun r => ∀ v H', Aft g.K g.pn I H F σ r.2 r.1 v H' → Q v H') (g.err I H F)) : tD g f σ H1 Q :=
  af.go fun I1 F1 s1 st => ⟨I1, env', F1, s1, post_mono p (fun r q v H' af' => q v H' (Aft.trans st af')) fun x z => err_step st z⟩
theorem dw_and {t u : TF} (ha : DT g X a t) (hb : DW g X (.BoolOp .And (b :: es) pos) u) : DW g X (.BoolOp .And (a :: b :: es) pos) (fAndT t u) := PW.imp (pw_and ha hb) fun σ H Q h => by
  obtain ⟨I, env, F, s, p⟩ := h
  refine tT_seq s p fun r H1 af q => ?_
  by_cases hr : r.1 = true
  · rw [if_pos hr] at q ⊢; exact tT_again af q
  · rw [if_neg hr] at q ⊢; exact q H1 af
theorem dw_or {t u : TF} (ha : DT g X a t) (hb : DW g X (.BoolOp .Or (b :: es) pos) u) : DW g X (.BoolOp .Or (a :: b :: es) pos) (fOrT t u) := PW.imp (pw_or ha hb) fun σ H Q h => by
  obtain ⟨I, env, F, s, p⟩ := h
  refine tT_seq s p fun r H1 af q => ?_
  by_cases hr : r.1 = true
  · rw [if_pos hr] at q ⊢; exact q H1 af
  · rw [if_neg hr] at q ⊢; exact tT_again af q
theorem dw_t {t : TF} (h : DW g X e t) : DT g X e t := PW.pt h
def fAnd (f k : EF) : EF := fun env => fB f env >>= fun r => if r.1 = true then k r.2 else .ok (.fr (.bool false), r.2)
def fOr (f k : EF) : EF := fun env => fB f env >>= fun r => if r.1 = true then .ok (.fr (.bool true), r.2) else k r.2
theorem de_one {op} {f : EF} (h : DE g X a f) : DE g X (.BoolOp op [a] pos) f := pe_one h
theorem tB_seq {f : EF} {β : Type} {k : Bool × Env → Res β} {P : β → Prop} {Q : VK} (s : Sim g.K g.pn I H σ env F) (p : (fB f env >>= k).post P (g.err I H F))
    (h : ∀ r H1, AftS g.K g.pn I H F σ r.2 H1 → (k r).post P (g.err I H F) → Q (.bl r.1) H1) : tD g f σ H Q := by
  refine tD_seq (k := fun r => (match r.1 with | .fr (.bool b) => Res.ok (b, r.2) | _ => .no) >>= k) s (by
    unfold fB at p
    rw [post_bind] at p ⊢
    rw [post_bind] at p
    exact post_mono p (fun r q => post_bind.mpr q) fun _ z => z) fun r v H1 af q => ?_
  obtain ⟨o, e⟩ := r
  cases o with
  | ol _ => exact q.elim
  | oo _ => exact q.elim
  | od _ => exact q.elim
  | fr d =>
    cases d with
    | bool b =>
      obtain ⟨I', F', rp, s', st⟩ := af.frz
      cases rp
      exact h (b, e) H1 ⟨I', F', s', st⟩ q
    | _ => exact q.elim
theorem rbl {K : PySem.W.Frag} {I : Hp} {b : Bool} : Rp K I (.bl b) (.bool b) := .bl b
theorem AftS.val {H1 : Hp} {env' : Env} {d : PyData} {v : V} (af : AftS g.K g.pn I H F σ env' H1) (r : ∀ I, Rp g.K I v d) : Aft g.K g.pn I H F σ env' (.fr d) v H1 :=
  af.go fun I1 F1 s1 st => AftD.aft ⟨I1, F1, r I1, s1, st⟩
theorem de_and {f k : EF} (ha : DE g X a f) (hb : DE g X (.BoolOp .And (b :: es) pos) k) : DE g X (.BoolOp .And (a :: b :: es) pos) (fAnd f k) := PE.imp (pe_and ha hb) fun σ H Q h => by
  obtain ⟨I, env, F, s, p⟩ := h
  refine tB_seq s p fun r H1 af q => ⟨r.1, rfl, ?_⟩
  by_cases hr : r.1 = true
  · rw [if_pos hr] at q ⊢; exact tD_again af q
  · rw [if_neg hr] at q ⊢; exact q _ H1 (af.val fun _ => rbl)
theorem de_or {f k : EF} (ha : DE g X a f) (hb : DE g X (.BoolOp .Or (b :: es) pos) k) : DE g X (.BoolOp .Or (a :: b :: es) pos) (fOr f k) := PE.imp (pe_or ha hb) fun σ H Q h => by
  obtain ⟨I, env, F, s, p⟩ := h
  refine tB_seq s p fun r H1 af q => ⟨r.1, rfl, ?_⟩
  by_cases hr : r.1 = true
  · rw [if_pos hr] at q ⊢; exact q _ H1 (af.val fun _ => rbl)
  · rw [if_neg hr] at q ⊢; exact tD_again af q
def fNotV (f : EF) : EF := fun env => fB f env >>= fun r => .ok (.fr (.bool (!r.1)), r.2)
theorem de_not {f : EF} (ha : DE g X a f) : DE g X (.UnaryOp .Not a pos) (fNotV f) := PE.imp (pe_not ha) fun σ H Q h => by
  obtain ⟨I, env, F, s, p⟩ := h
  exact tB_seq s p fun r H1 af q => ⟨r.1, rfl, q _ H1 (af.val fun _ => rbl)⟩
def fIf (t : TF) (f k : EF) : EF := fun env => t env >>= fun r => if r.1 = true then f r.2 else k r.2
theorem de_if {t : TF} {f k : EF} (hc : DT g X c t) (ha : DE g X a f) (hb : DE g X b k) : DE g X (.IfExp c a b pos) (fIf t f k) := PE.imp (pe_ifExp hc ha hb) fun σ H Q h => by
  obtain ⟨I, env, F, s, p⟩ := h
  refine tT_seq s p fun r H1 af q => ?_
  by_cases hr : r.1 = true
  · rw [if_pos hr] at q ⊢; exact tD_again af q
  · rw [if_neg hr] at q ⊢; exact tD_again af q
/-- a < b < c of ints -/
def ints2 : Option (List PyData) → Option (Int × Int)
  | some [.int i, .int j] => some (i, j)
  | _ => none
def ints1 : Option (List PyData) → Option Int
  | some [.int i] => some i
  | _ => none
theorem ints2_inv {x : Option (List PyData)} {i j : Int} (h : ints2 x = some (i, j)) : x = some [.int i, .int j] := by
  unfold ints2 at h
  split at h
  · cases h; rfl
  · cases h
theorem ints1_inv {x : Option (List PyData)} {i : Int} (h : ints1 x = some i) : x = some [.int i] := by
  unfold ints1 at h
  split at h
  · cases h; rfl
  · cases h
def fChI (c1 c2 : Int → Int → Bool) (x y z : AF) : EF := fun env => evA [x, y] env >>= fun r => match ints2 (rsvs r.2 r.1) with
  | some ij => if c1 ij.1 ij.2 = true then evA [z] r.2 >>= fun q => match ints1 (rsvs q.2 q.1) with
      | some k => .ok (.fr (.bool (c2 ij.2 k)), q.2)
      | none => .no
    else .ok (.fr (.bool false), r.2)
  | none => .no
theorem rpss_int {K : PySem.W.Frag} {I H : Hp} {v : V} {i : Int} (h : RpS K I H v (.int i)) : v = .int i := by
  rcases h with h | ⟨_, _, _, _, e, _⟩ | ⟨_, _, _, e, _⟩
  · cases h; rfl
  · cases e
  · cases e
theorem ch_key {c1 c2 : Int → Int → Bool} {x y z : AF} {Q : VK} (h : tD g (fChI c1 c2 x y z) σ H Q) : tArg g x σ H fun v H1 => tArg g y σ H1 fun u H2 => rI0 (fun i j => .bl (c1 i j)) v u H2 fun w H3 => ∃ k, w = .bl k ∧
    (if k = true then tArg g z σ H3 fun w' H4 => rI0 (fun i j => .bl (c2 i j)) u w' H4 Q else Q (.bl false) H3) := by
  obtain ⟨I, env, F, s, p⟩ := h
  have key : tA g [x, y] σ H (fun vs H2 => ∃ v u, vs = [v, u] ∧ rI0 (fun i j => .bl (c1 i j)) v u H2 fun w H3 => ∃ k, w = .bl k ∧ (if k = true then tArg g z σ H3 fun w' H4 => rI0 (fun i j => .bl (c2 i j)) u w' H4 Q else Q (.bl false) H3)) := by
    refine ⟨I, env, F, s, post_mono (post_bind.mp p) (fun r q vs H' I' F' s' st av => ?_) fun _ z => z⟩
    cases q2 : ints2 (rsvs r.2 r.1) with
    | none => simp only [q2] at q; exact q.elim
    | some ij =>
      obtain ⟨i, j⟩ := ij
      simp only [q2] at q
      have rr := rsvs_rep s' av (ints2_inv q2)
      match vs, rr with
      | _, .cons r1 (.cons r2 .nil) =>
        cases rpss_int r1
        cases rpss_int r2
        refine ⟨_, _, rfl, i, j, rfl, rfl, c1 i j, rfl, ?_⟩
        by_cases hc : c1 i j = true
        · rw [if_pos hc] at q ⊢
          refine tArg_mono (tA1 (R := fun vs H4 => ∃ w', vs = [w'] ∧ rI0 (fun i j => .bl (c2 i j)) (V.int j) w' H4 Q) ⟨I', r.2, F', s', post_mono (post_bind.mp q) (fun r3 q3 vs3 H3 I3 F3 s3 st3 av3 => ?_) fun x zz => err_step st zz⟩) fun w' H4 ⟨_, e4, q4⟩ => by cases e4; exact q4
          cases q5 : ints1 (rsvs r3.2 r3.1) with
          | none => simp only [q5] at q3; exact q3.elim
          | some k =>
            simp only [q5] at q3
            have rr3 := rsvs_rep s3 av3 (ints1_inv q5)
            match vs3, rr3 with
            | _, .cons r1 .nil =>
              cases rpss_int r1
              exact ⟨_, rfl, j, k, rfl, rfl, q3 _ H3 (AftS.val ⟨I3, F3, s3, st.trans st3⟩ fun _ => rbl)⟩
        · rw [if_neg hc] at q ⊢
          exact q _ H' (AftS.val ⟨I', F', s', st⟩ fun _ => rbl)
  refine tArg_mono (tA2 key) fun v H1 q => tArg_mono q fun u H2 q => ?_
  obtain ⟨v', u', e, q⟩ := q
  cases e
  exact q
theorem de_chI {op op' : CmpOp} {c1 c2 : Int → Int → Bool} {x y z : AF} (ho : OpR X (compareOp op) (rI0 fun i j => .bl (c1 i j))) (ho' : OpR X (compareOp op') (rI0 fun i j => .bl (c2 i j))) (h : ∀ {ta tb tc : TE}, PE X a ta → PE X b tb → PE X c tc → PE X e (tChain (rI0 fun i j => .bl (c1 i j)) (rI0 fun i j => .bl (c2 i j)) ta tb tc))
    (ha : DX g X a x) (hb : DX g X b y) (hc : DX g X c z) : DE g X e (fChI c1 c2 x y z) := PE.imp (h ha hb hc) fun σ H Q q => ch_key q
theorem dt_chI {c1 c2 : Int → Int → Bool} {x y z : AF} (h : ∀ {ta tb tc : TE}, PE X a ta → PE X b tb → PE X c tc → PT X e (tTest (tChain (rI0 fun i j => .bl (c1 i j)) (rI0 fun i j => .bl (c2 i j)) ta tb tc)))
    (ha : DX g X a x) (hb : DX g X b y) (hc : DX g X c z) : DT g X e (fB (fChI c1 c2 x y z)) := PT.imp (h ha hb hc) fun σ H Q q => ch_key (tB_key q)
variable {st : Stmt} {rest : List Stmt} {D : Ends}
theorem FlP_step {I1 H1 : Hp} {F1 : Nat → List Addr} {r : Fl × Env} (st : Step I H (Ow F) I1 H1 (Ow F1)) (h : FlP g D I H F r) : FlP g D I1 H1 F1 r := by
  obtain ⟨fl, e⟩ := r
  cases fl with
  | nx => exact fun σ' H' af => h σ' H' (AftS.trans st af)
  | bk => exact fun σ' H' af => h σ' H' (AftS.trans st af)
  | ct => exact fun σ' H' af => h σ' H' (AftS.trans st af)
  | rt o => exact fun v σ' H' af => h v σ' H' (Aft.trans st af)
def fSeq (s t : SF) : SF := fun env => s env >>= fun r => match r.1 with
  | .nx => t r.2
  | _ => .ok r
def fSkip : SF := fun env => .ok (.nx, env)
def fNo : SF := fun _ => .no
theorem dss_nil : DSs g X [] fSkip := PSs.imp pss_nil fun D σ H h => by
  obtain ⟨I, env, F, s, p⟩ := h
  exact p σ H ⟨I, F, s, Step.refl⟩
theorem dss_one {f : SF} (h : DS g X st f) : DSs g X [st] f := pss_one h
theorem tS_again {f : SF} {σ' : St} {H1 : Hp} {env' : Env} (af : AftS g.K g.pn I H F σ' env' H1) (p : (f env').post (FlP g D I H F) (g.err I H F)) : tS g f D σ' H1 := by
  obtain ⟨I1, F1, s, st⟩ := af
  exact ⟨I1, env', F1, s, post_mono p (fun r q => FlP_step st q) fun x z => err_step st z⟩
theorem dss_cons {f k : SF} (h1 : DS g X st f) (h2 : DSs g X rest k) : DSs g X (st :: rest) (fSeq f k) := PSs.imp (pss_cons h1 h2) fun D σ H h => by
  obtain ⟨I, env, F, s, p⟩ := h
  refine ⟨I, env, F, s, post_mono (post_bind.mp p) (fun r q => ?_) fun _ z => z⟩
  obtain ⟨fl, e⟩ := r
  cases fl with
  | nx => exact fun σ' H' af => tS_again af q
  | bk => exact q
  | ct => exact q
  | rt o => exact q
def fRet (f : EF) : SF := fun env => f env >>= fun r => .ok (.rt r.1, r.2)
theorem ds_ret {f : EF} (h : DE g X e f) : DS g X (.Return (some e) pos) (fRet f) := PS.imp (ps_ret h) fun D σ H h => by
  obtain ⟨I, env, F, s, p⟩ := h
  exact tD_seq s p fun r v H1 af q => q v σ H1 af
def fEx (f : EF) : SF := fun env => f env >>= fun r => .ok (.nx, r.2)
theorem ds_expr {f : EF} (h : DE g X e f) (hs : swapsWith e none pos.line X.env = pure false := by rfl) : DS g X (.Expr e pos) (fEx f) := PS.imp (ps_expr h hs) fun D σ H h => by
  obtain ⟨I, env, F, s, p⟩ := h
  exact tD_seq s p fun r v H1 af q => q σ H1 af.frz.toS
def fIfS (t : TF) (f k : SF) : SF := fun env => t env >>= fun r => if r.1 = true then f r.2 else k r.2
theorem ds_if {t : TF} {f k : SF} {s1 s2 : List Stmt} (hc : DT g X c t) (ha : DSs g X s1 f) (hb : DSs g X s2 k) : DS g X (.If c s1 s2 pos) (fIfS t f k) := PS.imp (ps_if hc ha hb) fun D σ H h => by
  obtain ⟨I, env, F, s, p⟩ := h
  refine tT_seq s p fun r H1 af q => ?_
  by_cases hr : r.1 = true
  · rw [if_pos hr] at q ⊢; exact tS_again af q
  · rw [if_neg hr] at q ⊢; exact tS_again af q
theorem ow_up {i : Nat} {R : List Addr} {x : Addr} (h : Ow (upF F i R) x) : Ow F x ∨ x ∈ R := by
  obtain ⟨j, hj⟩ := h
  by_cases e : j = i
  · subst e; rw [upF_same] at hj; exact .inr hj
  · rw [upF_ne e] at hj; exact .inl ⟨j, hj⟩
/-- what an expression gave is stored in slot i -/
theorem Aft.store {i : Nat} {o : O} {v : V} {H1 : Hp} {env' : Env} (hi : i < env'.length) (hp : i ∉ g.pn.1) (af : Aft g.K g.pn I H F σ env' o v H1) : AftS g.K g.pn I H F (σ.set i (some v)) (env'.set i (some o)) H1 := by
  obtain ⟨I', F', R, r, s, nR, dR, st⟩ := af
  refine ⟨I', upF F' i R, s.put hi (Same.refl _) s.sub (fun _ _ _ _ => rfl) (fun j _ a ha => s.djI j a ha) nR (fun j _ a ha => dR a ⟨j, ha⟩) (fun o' e => ?_) (fun e => by cases e) (fun h => absurd h hp), st.less fun a ha => ow_up ha⟩
  cases e; exact ⟨v, rfl, r⟩
def fSet (i : Nat) (f : EF) : SF := fun env => f env >>= fun r => if i < r.2.length then .ok (.nx, r.2.set i (some r.1)) else .no
theorem set_key {i : Nat} {f : EF} (hp : i ∉ g.pn.1) (h : tS g (fSet i f) D σ H) : tAsg (tD g f) (gName i) D σ H := by
  obtain ⟨I, env, F, s, p⟩ := h
  refine tD_seq s p fun r v H1 af q => ?_
  by_cases hi : i < r.2.length
  · rw [if_pos hi] at q; exact q _ _ (af.store hi hp)
  · rw [if_neg hi] at q; exact q.elim
theorem ds_set {i : Nat} {x : Str} {f : EF} {pos' : Pos} (hN : X.N.Nodup) (hi : X.N[i]? = some x) (hx : Loc X.env.scope x) (hp : i ∉ g.pn.1) (he : DE g X e f) (hs : swapsWith e (some (.Name x pos')) pos.line X.env = pure false := by rfl)
    (hf : X.fn x = true ∨ X.env.scope.names.lookup x = some .local := by first | exact .inl rfl | exact .inr rfl | assumption) : DS g X (.Assign [.Name x pos'] e pos) (fSet i f) := PS.imp (ps_set hN hi hx he hs hf) fun D σ H h => set_key hp h
inductive T1 where
  | n (i : Nat)
  | t (is : List Nat)
def T1.slots : T1 → List Nat
  | .n i => [i]
  | .t is => is
inductive Tg where
  | nm (i : Nat)
  | tu (is : List Nat)
  | tl (is : List Nat)
  | tw (ts : List T1)
def gNames : List Nat → TGs
  | [] => gNil
  | i :: is => gCons (gName i) (gNames is)
def gW (K : PySem.W.Frag) : List T1 → TGs
  | [] => gNil
  | .n i :: ts => gCons (gName i) (gW K ts)
  | .t is :: ts => gCons (gTup K is.length (gNames is)) (gW K ts)
def rdT (K : PySem.W.Frag) : Tg → TG
  | .nm i => gName i
  | .tu is => gTup K is.length (gNames is)
  | .tl is => gUnl K is.length (gNames is)
  | .tw ts => gTup K ts.length (gW K ts)
def Tg.slots : Tg → List Nat
  | .nm i => [i]
  | .tu is => is
  | .tl is => is
  | .tw ts => ts.flatMap T1.slots
def setAll : List Nat → List PyData → Env → Option Env
  | [], [], e => some e
  | i :: is, d :: ds, e => if i < e.length then setAll is ds (e.set i (some (.fr d))) else none
  | _, _, _ => none
def setW : List T1 → List PyData → Env → Option Env
  | [], [], e => some e
  | .n i :: ts, d :: ds, e => if i < e.length then setW ts ds (e.set i (some (.fr d))) else none
  | .t is :: ts, .tuple xs :: ds, e => match setAll is xs e with
    | some e' => setW ts ds e'
    | none => none
  | _, _, _ => none
def asT : Tg → PyData → Env → Res Env
  | .nm i, d, e => ofO (setAll [i] [d] e)
  | .tu is, .tuple ds, e => ofO (setAll is ds e)
  | .tl is, .list ds, e => ofO (setAll is ds e)
  | .tw ts, .tuple ds, e => ofO (setW ts ds e)
  | _, _, _ => .no
/-- σ' is σ but for some slots -/
def Only' (is : List Nat) (σ σ' : St) : Prop := σ'.length = σ.length ∧ ∀ i, i ∉ is → σ'[i]? = σ[i]?
theorem names_key : ∀ (is : List Nat) {vs : List V} {ds : List PyData} {σ : St} {env env' : Env} {F : Nat → List Addr} {I H : Hp} {Q : St → Hp → Prop}, (∀ i ∈ is, i ∉ g.pn.1) → Sim g.K g.pn I H σ env F → RpAll g.K I vs ds → setAll is ds env = some env' →
    (∀ σ' F', Only' is σ σ' → Sim g.K g.pn I H σ' env' F' → (∀ a, Ow F' a → Ow F a) → Q σ' H) → gNames is vs σ H Q
  | [], _, _, σ, env, env', F, I, H, Q, _, s, .nil, e, k => by cases e; exact ⟨rfl, k σ F ⟨rfl, fun _ _ => rfl⟩ s fun _ z => z⟩
  | [], _, _, _, _, _, _, _, _, _, _, _, .cons _ _, e, _ => by cases e
  | _ :: _, _, _, _, _, _, _, _, _, _, _, _, .nil, e, _ => by cases e
  | i :: is, _, _, σ, env, env', F, I, H, Q, hp, s, .cons (v := v) (d := d) r t, e, k => by
    unfold setAll at e
    by_cases hi : i < env.length
    · rw [if_pos hi] at e
      refine ⟨v, _, rfl, ?_⟩
      have s1 : Sim g.K g.pn I H (σ.set i (some v)) (env.set i (some (.fr d))) (upF F i []) := s.put hi (Same.refl _) s.sub (fun _ _ _ _ => rfl) (fun j _ a ha => s.djI j a ha) (fun _ h => nomatch h) (fun _ _ _ _ h => nomatch h) (fun o e => by cases e; exact ⟨v, rfl, rfl, r⟩) (fun e => by cases e) (fun h => absurd h (hp i (by simp)))
      refine names_key is (fun j hj => hp j (by simp [hj])) s1 t e fun σ' F' ho s' hF => k σ' F' ⟨by rw [ho.1, List.length_set], fun j hj => ?_⟩ s' fun a ha => ?_
      · simp only [List.mem_cons, not_or] at hj
        rw [ho.2 j hj.2, List.getElem?_set_ne (Ne.symm hj.1)]
      · rcases ow_up (hF a ha) with z | z
        · exact z
        · cases z
    · rw [if_neg hi] at e; cases e
theorem setAll_len : ∀ (is : List Nat) (ds : List PyData) (a b : Env), setAll is ds a = some b → ds.length = is.length := by
  intro is
  induction is with
  | nil => intro ds a b h; cases ds <;> simp [setAll] at h ⊢
  | cons i is ih =>
    intro ds a b h
    cases ds with
    | nil => simp [setAll] at h
    | cons d ds =>
      unfold setAll at h
      split at h
      · simp [ih _ _ _ h]
      · cases h
theorem setW_len : ∀ (ts : List T1) (ds : List PyData) (a b : Env), setW ts ds a = some b → ds.length = ts.length
  | [], [], _, _, _ => rfl
  | [], _ :: _, _, _, h => by simp [setW] at h
  | .n i :: ts, [], _, _, h => by simp [setW] at h
  | .t is :: ts, [], _, _, h => by simp [setW] at h
  | .n i :: ts, d :: ds, a, b, h => by
    unfold setW at h
    split at h
    · simp [setW_len ts ds _ _ h]
    · cases h
  | .t is :: ts, d :: ds, a, b, h => by
    cases d with
    | tuple xs =>
      simp only [setW] at h
      split at h
      · simp [setW_len ts ds _ _ h]
      · cases h
    | _ => simp [setW] at h
theorem w_key : ∀ (ts : List T1) {vs : List V} {ds : List PyData} {σ : St} {env env' : Env} {F : Nat → List Addr} {I H : Hp} {Q : St → Hp → Prop}, (∀ i ∈ ts.flatMap T1.slots, i ∉ g.pn.1) → Sim g.K g.pn I H σ env F → RpAll g.K I vs ds → setW ts ds env = some env' →
    (∀ σ' F', Only' (ts.flatMap T1.slots) σ σ' → Sim g.K g.pn I H σ' env' F' → (∀ a, Ow F' a → Ow F a) → Q σ' H) → gW g.K ts vs σ H Q
  | [], _, _, σ, env, env', F, I, H, Q, _, s, .nil, e, k => by cases e; exact ⟨rfl, k σ F ⟨rfl, fun _ _ => rfl⟩ s fun _ z => z⟩
  | [], _, _, _, _, _, _, _, _, _, _, _, .cons _ _, e, _ => by cases e
  | .n _ :: _, _, _, _, _, _, _, _, _, _, _, _, .nil, e, _ => by cases e
  | .t _ :: _, _, _, _, _, _, _, _, _, _, _, _, .nil, e, _ => by cases e
  | .n i :: ts, _, _, σ, env, env', F, I, H, Q, hp, s, .cons (v := v) (d := d) r t, e, k => by
    unfold setW at e
    by_cases hi : i < env.length
    · rw [if_pos hi] at e
      refine ⟨v, _, rfl, ?_⟩
      have s1 : Sim g.K g.pn I H (σ.set i (some v)) (env.set i (some (.fr d))) (upF F i []) := s.put hi (Same.refl _) s.sub (fun _ _ _ _ => rfl) (fun j _ a ha => s.djI j a ha) (fun _ h => nomatch h) (fun _ _ _ _ h => nomatch h) (fun o e => by cases e; exact ⟨v, rfl, rfl, r⟩) (fun e => by cases e) (fun h => absurd h (hp i (by simp [T1.slots])))
      refine w_key ts (fun j hj => hp j (by rw [List.flatMap_cons]; exact List.mem_append_right _ hj)) s1 t e fun σ' F' ho s' hF => k σ' F' ⟨by rw [ho.1, List.length_set], fun j hj => ?_⟩ s' fun a ha => ?_
      · rw [List.flatMap_cons] at hj
        have h1 : j ≠ i := fun z => hj (List.mem_append_left _ (by simp [T1.slots, z]))
        rw [ho.2 j fun z => hj (List.mem_append_right _ z), List.getElem?_set_ne (Ne.symm h1)]
      · rcases ow_up (hF a ha) with z | z
        · exact z
        · cases z
    · rw [if_neg hi] at e; cases e
  | .t is :: ts, _, _, σ, env, env', F, I, H, Q, hp, s, .cons (v := v) (d := d) r t, e, k => by
    cases d with
    | tuple xs =>
      simp only [setW] at e
      cases q : setAll is xs env with
      | none => rw [q] at e; cases e
      | some e1 =>
        rw [q] at e
        cases r with
        | tup h1 h2 =>
          refine ⟨_, _, rfl, _, _, rfl, same_t s.sub h1, by rw [h2.length]; exact setAll_len _ _ _ _ q, names_key is (fun j hj => hp j (by rw [List.flatMap_cons]; exact List.mem_append_left _ hj)) s h2 q fun σ1 F1 ho1 s1 hF1 => ?_⟩
          refine w_key ts (fun j hj => hp j (by rw [List.flatMap_cons]; exact List.mem_append_right _ hj)) s1 t e fun σ' F' ho s' hF => k σ' F' ⟨by rw [ho.1, ho1.1], fun j hj => ?_⟩ s' fun a ha => hF1 a (hF a ha)
          rw [List.flatMap_cons] at hj
          rw [ho.2 j fun z => hj (List.mem_append_right _ z), ho1.2 j fun z => hj (List.mem_append_left _ z)]
    | _ => simp [setW] at e
theorem tg_key {t : Tg} {v : V} {d : PyData} {env' : Env} {Q : St → Hp → Prop} (hp : ∀ i ∈ t.slots, i ∉ g.pn.1) (s : Sim g.K g.pn I H σ env F) (r : Rp g.K I v d) (e : asT t d env = .ok env')
    (k : ∀ σ' F', Only' t.slots σ σ' → Sim g.K g.pn I H σ' env' F' → (∀ a, Ow F' a → Ow F a) → Q σ' H) : rdT g.K t v σ H Q := by
  have ofs : ∀ {x : Option Env}, ofO x = .ok env' → x = some env' := fun {x} h => by cases x <;> cases h; rfl
  cases t with
  | nm i =>
    have := names_key [i] hp s (.cons r .nil) (ofs e) k
    obtain ⟨v', r', e1, q⟩ := this
    cases e1
    exact q.2
  | tu is =>
    cases r with
    | tup h1 h2 =>
      have e := ofs e
      have hl : ∀ (is : List Nat) (ds : List PyData) (a b : Env), setAll is ds a = some b → ds.length = is.length := by
        intro is
        induction is with
        | nil => intro ds a b h; cases ds <;> simp [setAll] at h ⊢
        | cons i is ih =>
          intro ds a b h
          cases ds with
          | nil => simp [setAll] at h
          | cons d ds =>
            unfold setAll at h
            split at h
            · simp [ih _ _ _ h]
            · cases h
      exact ⟨_, _, rfl, same_t s.sub h1, by rw [h2.length]; exact hl _ _ _ _ e, names_key is hp s h2 e k⟩
    | _ => cases e
  | tl is =>
    cases r with
    | lst h1 h2 =>
      have e := ofs e
      have hl : ∀ (is : List Nat) (ds : List PyData) (a b : Env), setAll is ds a = some b → ds.length = is.length := by
        intro is
        induction is with
        | nil => intro ds a b h; cases ds <;> simp [setAll] at h ⊢
        | cons i is ih =>
          intro ds a b h
          cases ds with
          | nil => simp [setAll] at h
          | cons d ds =>
            unfold setAll at h
            split at h
            · simp [ih _ _ _ h]
            · cases h
      exact ⟨_, _, rfl, (h1.mono s.sub).sq, by rw [h2.length]; exact hl _ _ _ _ e, names_key is hp s h2 e k⟩
    | _ => cases e
  | tw ts =>
    cases r with
    | tup h1 h2 =>
      have e := ofs e
      exact ⟨_, _, rfl, same_t s.sub h1, by rw [h2.length]; exact setW_len _ _ _ _ e, w_key ts hp s h2 e k⟩
    | _ => cases e
/-- a, b = e -/
def fAsT (t : Tg) (f : EF) : SF := fun env => f env >>= fun r => asT t r.1.data r.2 >>= fun e => .ok (.nx, e)
def ItOk (K : PySem.W.Frag) (I0 : Hp) (J : It) (ds : List PyData) : Prop := ∀ (I H : Hp) (i : Nat), Same I0 I → Same I H →
  (∀ d, ds[i]? = some d → J.go i H ∧ ∀ x H', J.yld i H x H' → ∃ I', Grow K I H I' H' (.fr d) x []) ∧ (ds.length = i → J.stop i H)
abbrev IF := Env → Res (List PyData × Env)
def tI (g : G) (f : IF) : TI := fun σ H R => ∃ I env F, Sim g.K g.pn I H σ env F ∧ (f env).post (fun r => ∀ J H' I' F', Sim g.K g.pn I' H' σ r.2 F' → Step I H (Ow F) I' H' (Ow F') → ItOk g.K I' J r.1 → R J H') (g.err I H F)
def DI (g : G) (X : Cx) (tg iter : Expr) (f : IF) : Prop := PI X tg iter (tI g f)
def fFor (t : Tg) (body : SF) : List PyData → SF
  | [], env => .ok (.nx, env)
  | d :: ds, env => asT t d env >>= fun e => body e >>= fun r => match r.1 with
    | .nx => fFor t body ds r.2
    | .ct => fFor t body ds r.2
    | .bk => .ok (.nx, r.2)
    | .rt o => .ok (.rt o, r.2)
def fForS (f : IF) (t : Tg) (body : SF) : SF := fun env => f env >>= fun r => fFor t body r.1 r.2
theorem asT_er {t : Tg} {d : PyData} {x : Exn} : asT t d env ≠ .er x := by
  unfold asT ofO
  split <;> (try split) <;> exact fun h => by cases h
theorem for_key {J : It} {ds : List PyData} {t : Tg} {body : SF} (hp : ∀ i ∈ t.slots, i ∉ g.pn.1) (s : Sim g.K g.pn I H σ env F) (ok : ItOk g.K I J ds) (p : (fFor t body ds env).post (FlP g D I H F) (g.err I H F)) :
    ∃ W : Nat → Nat → St → Hp → Prop, (∃ m, W 0 m σ H) ∧ ∀ i m σ H, W i m σ H →
      (J.stop i H ∧ D.nx σ H) ∨ (J.go i H ∧ ∃ N : St → Hp → Prop, (∀ σ' H', N σ' H' → ∃ m', m' < m ∧ W (i + 1) m' σ' H') ∧ ∀ x H', J.yld i H x H' → rdT g.K t x σ H' fun σ2 H2 => tS g body { D with nx := N, ct := N, bk := D.nx } σ2 H2) := by
  let L : List PyData → St → Hp → Prop := fun ds' σ H => ∃ I1 env F, Sim g.K g.pn I1 H σ env F ∧ Same I I1 ∧ (fFor t body ds' env).post (FlP g D I1 H F) (g.err I1 H F)
  refine ⟨fun i m σ H => m = ds.length - i ∧ i ≤ ds.length ∧ L (ds.drop i) σ H, ⟨ds.length, by simp, Nat.zero_le _, I, env, F, s, Same.refl _, p⟩, ?_⟩
  rintro i m σ H ⟨rfl, hi, I1, env, F, s, sm, p⟩
  by_cases hlt : i < ds.length
  · have hd : ds[i]? = some ds[i] := List.getElem?_eq_getElem hlt
    have dr : ds.drop i = ds[i] :: ds.drop (i + 1) := List.drop_eq_getElem_cons hlt
    rw [dr] at p
    have ok1 := (ok I1 H i sm s.sub).1 _ hd
    refine .inr ⟨ok1.1, L (ds.drop (i + 1)), fun σ' H' n => ⟨ds.length - (i + 1), by omega, rfl, hlt, n⟩, fun x H' y => ?_⟩
    obtain ⟨I2, gr⟩ := ok1.2 x H' y
    have p2 := post_bind.mp p
    cases q2 : asT t ds[i] env with
    | no => rw [q2] at p2; exact p2.elim
    | er x => exact absurd q2 asT_er
    | ok e' =>
      rw [q2] at p2
      obtain ⟨I3, F3, rp, s3, st3⟩ := (gr.aft s).frz
      refine tg_key hp s3 rp q2 fun σ' F'' _ s'' hF => ?_
      have st4 := st3.less hF
      refine ⟨I3, e', F'', s'', post_mono (post_bind.mp p2) (fun r q => ?_) fun x z => err_step st4 z⟩
      obtain ⟨fl, e⟩ := r
      have nxt : (fFor t body (ds.drop (i + 1)) e).post (FlP g D I1 H F) (g.err I1 H F) → ∀ σ5 H5, AftS g.K g.pn I3 H' F'' σ5 e H5 → L (ds.drop (i + 1)) σ5 H5 := fun q σ5 H5 af => by
        obtain ⟨I5, F5, s5, st5⟩ := af
        have st6 := st4.trans st5
        exact ⟨I5, e, F5, s5, sm.trans st6.i1, post_mono q (fun r z => FlP_step st6 z) fun x z => err_step st6 z⟩
      cases fl with
      | nx => exact fun σ5 H5 af => nxt q σ5 H5 af
      | ct => exact fun σ5 H5 af => nxt q σ5 H5 af
      | bk => exact fun σ5 H5 af => q σ5 H5 (AftS.trans st4 af)
      | rt o => exact fun v σ5 H5 af => q v σ5 H5 (Aft.trans st4 af)
  · have e : i = ds.length := by omega
    subst e
    rw [List.drop_length] at p
    exact .inl ⟨(ok I1 H _ sm s.sub).2 rfl, p σ H ⟨I1, F, s, Step.refl⟩⟩
theorem ds_for {f : IF} {t : Tg} {body : SF} {tg iter : Expr} {sb : List Stmt} (hp : ∀ i ∈ t.slots, i ∉ g.pn.1) (hps : PassesOwn (model X.prog X.w) X.A X.env X.xe) (hc : X.calm = true) (hi : DI g X tg iter f) (hg : PG X tg (rdT g.K t)) (hb : DSs g X sb body)
    (hs : ∀ x, foldedSetIterable iter X.env x = pure x := by intro _; rfl) : DS g X (.For tg iter sb [] pos) (fForS f t body) := PS.imp (ps_for hps hc hi hg hb hs) fun D σ H h => by
  obtain ⟨I, env, F, s, p⟩ := h
  refine ⟨I, env, F, s, post_mono (post_bind.mp p) (fun r q J H' I' F' s' st ok => ?_) fun _ z => z⟩
  exact for_key hp s' ok (post_mono q (fun r z => FlP_step st z) fun x z => err_step st z)
/-- while -/
def fWhile (t : TF) (body : SF) : Nat → SF
  | 0, _ => .no
  | n + 1, env => t env >>= fun b => if b.1 = true then body b.2 >>= fun r => match r.1 with
      | .nx => fWhile t body n r.2
      | .ct => fWhile t body n r.2
      | .bk => .ok (.nx, r.2)
      | .rt o => .ok (.rt o, r.2)
    else .ok (.nx, b.2)
theorem ds_while {t : TF} {body : SF} {sb : List Stmt} (n : Nat) (hps : PassesOwn (model X.prog X.w) X.A X.env X.xe) (hc : DT g X c t) (hb : DSs g X sb body) : DS g X (.While c sb [] pos) (fWhile t body n) := PS.imp (ps_while hps hc hb) fun D σ H h => by
  obtain ⟨I, env, F, s, p⟩ := h
  let L : Nat → St → Hp → Prop := fun m σ H => ∃ I1 env F, Sim g.K g.pn I1 H σ env F ∧ (fWhile t body m env).post (FlP g D I1 H F) (g.err I1 H F)
  refine ⟨L, ⟨n, I, env, F, s, p⟩, ?_⟩
  rintro m σ H ⟨I1, env, F, s, p⟩
  cases m with
  | zero => exact p.elim
  | succ m =>
    refine tT_seq s p fun b H1 af q => ?_
    by_cases hb : b.1 = true
    · rw [if_pos hb] at q ⊢
      refine ⟨L m, fun σ' H' n => ⟨m, by omega, n⟩, ?_⟩
      obtain ⟨I2, F2, s2, st2⟩ := af
      refine ⟨I2, b.2, F2, s2, post_mono (post_bind.mp q) (fun r q => ?_) fun x z => err_step st2 z⟩
      obtain ⟨fl, e⟩ := r
      have nxt : (fWhile t body m e).post (FlP g D I1 H F) (g.err I1 H F) → ∀ σ5 H5, AftS g.K g.pn I2 H1 F2 σ5 e H5 → L m σ5 H5 := fun q σ5 H5 af => by
        obtain ⟨I5, F5, s5, st5⟩ := af
        have st6 := st2.trans st5
        exact ⟨I5, e, F5, s5, post_mono q (fun r z => FlP_step st6 z) fun x z => err_step st6 z⟩
      cases fl with
      | nx => exact fun σ5 H5 af => nxt q σ5 H5 af
      | ct => exact fun σ5 H5 af => nxt q σ5 H5 af
      | bk => exact fun σ5 H5 af => q σ5 H5 (AftS.trans st2 af)
      | rt o => exact fun v σ5 H5 af => q v σ5 H5 (Aft.trans st2 af)
    · rw [if_neg hb] at q ⊢
      exact q σ H1 af
end
end Dy
namespace Dy
open PySem PySem.Spec PyProof.Rows L2
def wipeE (env : Env) : List Nat → Env
  | [] => env
  | v :: vs => (wipeE env vs).set v none
theorem wipe_get {α : Type} (w : List (Option α) → List Nat → List (Option α)) (h0 : ∀ l, w l [] = l) (h1 : ∀ l v vs, w l (v :: vs) = (w l vs).set v none) (l : List (Option α)) : ∀ (vs : List Nat) (i : Nat), (w l vs)[i]? = if i ∈ vs then (if i < l.length then some none else none) else l[i]? := by
  have hl : ∀ vs, (w l vs).length = l.length := by
    intro vs
    induction vs with
    | nil => rw [h0]
    | cons v vs ih => rw [h1, List.length_set, ih]
  intro vs
  induction vs with
  | nil => intro i; rw [h0, if_neg (by simp)]
  | cons v vs ih =>
    intro i
    rw [h1]
    by_cases hv : v = i
    · subst hv
      rw [if_pos (by simp)]
      by_cases hi : v < l.length
      · rw [if_pos hi, List.getElem?_set_self (by rw [hl]; exact hi)]
      · rw [if_neg hi, List.getElem?_eq_none (by rw [List.length_set, hl]; omega)]
    · rw [List.getElem?_set_ne hv, ih i]
      by_cases hi : i ∈ vs
      · rw [if_pos hi, if_pos (List.mem_cons_of_mem _ hi)]
      · rw [if_neg hi, if_neg (by simp only [List.mem_cons, not_or]; exact ⟨fun e => hv e.symm, hi⟩)]
theorem wipe_at (σ : St) (vs : List Nat) (i : Nat) : (wipe σ vs)[i]? = if i ∈ vs then (if i < σ.length then some none else none) else σ[i]? := wipe_get wipe (fun _ => rfl) (fun _ _ _ => rfl) σ vs i
theorem wipeE_at (e : Env) (vs : List Nat) (i : Nat) : (wipeE e vs)[i]? = if i ∈ vs then (if i < e.length then some none else none) else e[i]? := wipe_get wipeE (fun _ => rfl) (fun _ _ _ => rfl) e vs i
theorem wipeE_length (e : Env) : ∀ vs : List Nat, (wipeE e vs).length = e.length
  | [] => rfl
  | v :: vs => by unfold wipeE; rw [List.length_set, wipeE_length e vs]
theorem wipe_only {vs is : List Nat} {σ σ2 : St} (hs : ∀ i ∈ is, i ∈ vs) (h : Only' is (wipe σ vs) σ2) : wipe σ2 vs = wipe σ vs := by
  have hl : σ2.length = σ.length := by rw [h.1, wipe_length]
  refine List.ext_getElem? fun i => ?_
  rw [wipe_at, wipe_at, hl]
  by_cases hi : i ∈ vs
  · rw [if_pos hi, if_pos hi]
  · rw [if_neg hi, if_neg hi, h.2 i fun z => hi (hs i z), wipe_at, if_neg hi]
def clF (F : Nat → List Addr) (vs : List Nat) : Nat → List Addr := fun i => if i ∈ vs then [] else F i
theorem clF_ow {F : Nat → List Addr} {vs : List Nat} {a : Addr} (h : Ow (clF F vs) a) : Ow F a := by
  obtain ⟨i, hi⟩ := h
  unfold clF at hi
  split at hi
  · cases hi
  · exact ⟨i, hi⟩
section
variable {K : PySem.W.Frag} {π : Pn} {I H I' H' : Hp} {σ : St} {env e : Env} {F F' : Nat → List Addr}
theorem Sim.wipe (s : Sim K π I H σ env F) {vs : List Nat} (hp : ∀ i ∈ vs, i ∉ π.1) : Sim K π I H (L2.wipe σ vs) (wipeE env vs) (clF F vs) := by
  refine ⟨by rw [wipeE_length, wipe_length, s.len], fun i o q => ?_, fun i q => ?_, fun i j a h1 h2 => ?_, fun i a h => ?_, s.sub, fun i hi => ?_, s.tab⟩
  · rw [wipeE_at] at q
    by_cases h : i ∈ vs
    · rw [if_pos h] at q; split at q <;> cases q
    · rw [if_neg h] at q
      obtain ⟨v, e1, r⟩ := s.rep i o q
      exact ⟨v, by rw [wipe_at, if_neg h]; exact e1, by unfold clF; rw [if_neg h]; exact r⟩
  · unfold clF
    by_cases h : i ∈ vs
    · rw [if_pos h]
    · rw [if_neg h]; exact s.out i fun o z => q o (by rw [wipeE_at, if_neg h]; exact z)
  · unfold clF at h1 h2
    split at h1
    · cases h1
    · split at h2
      · cases h2
      · exact s.dis i j a h1 h2
  · unfold clF at h
    split at h
    · cases h
    · exact s.djI i a h
  · rw [wipe_at, if_neg fun z => hp i z hi]; exact s.pin i hi
/-- behind the block: its own slots as they were, where they held data -/
def frO : Option (Option O) → Option O
  | some (some (.fr d)) => some (.fr d)
  | _ => none
def unw (env e : Env) : List Nat → Env
  | [] => e
  | v :: vs => (unw env e vs).set v (frO env[v]?)
theorem unw_length (env e : Env) : ∀ vs : List Nat, (unw env e vs).length = e.length
  | [] => rfl
  | v :: vs => by unfold unw; rw [List.length_set, unw_length env e vs]
theorem unw_at (env e : Env) : ∀ (vs : List Nat) (i : Nat), (unw env e vs)[i]? = if i ∈ vs then (if i < e.length then some (frO env[i]?) else none) else e[i]?
  | [], i => by rw [if_neg (by simp)]; rfl
  | v :: vs, i => by
    unfold unw
    by_cases hv : v = i
    · subst hv
      rw [if_pos (by simp)]
      by_cases hi : v < e.length
      · rw [if_pos hi, List.getElem?_set_self (by rw [unw_length]; exact hi)]
      · rw [if_neg hi, List.getElem?_eq_none (by rw [List.length_set, unw_length]; omega)]
    · rw [List.getElem?_set_ne hv, unw_at env e vs i]
      by_cases hi : i ∈ vs
      · rw [if_pos hi, if_pos (List.mem_cons_of_mem _ hi)]
      · rw [if_neg hi, if_neg (by simp only [List.mem_cons, not_or]; exact ⟨fun e => hv e.symm, hi⟩)]
theorem Sim.unwipe (s0 : Sim K π I H σ env F) (sm : Same I I') {vs : List Nat} (hp : ∀ i ∈ vs, i ∉ π.1) (s : Sim K π I' H' (L2.wipe σ vs) e F') : Sim K π I' H' σ (unw env e vs) (clF F' vs) := by
  have hl : e.length = σ.length := by rw [s.len, wipe_length]
  refine ⟨by rw [unw_length, hl], fun i o q => ?_, fun i q => ?_, fun i j a h1 h2 => ?_, fun i a h => ?_, s.sub, fun i hi => s0.pin i hi, s.tab⟩
  · rw [unw_at] at q
    by_cases h : i ∈ vs
    · rw [if_pos h] at q
      by_cases hi : i < e.length
      · rw [if_pos hi] at q
        have q := Option.some.inj q
        unfold frO at q
        cases q3 : env[i]? with
        | none => rw [q3] at q; cases q
        | some y =>
          cases y with
          | none => rw [q3] at q; cases q
          | some o' =>
            rw [q3] at q
            cases o' with
            | fr d =>
              cases q
              obtain ⟨v, e1, r⟩ := s0.rep i _ q3
              exact ⟨v, e1, by unfold clF; rw [if_pos h]; exact ⟨rfl, r.2.mono sm⟩⟩
            | ol _ => cases q
            | oo _ => cases q
            | od _ => cases q
      · rw [if_neg hi] at q; cases q
    · rw [if_neg h] at q
      obtain ⟨v, e1, r⟩ := s.rep i o q
      rw [wipe_at, if_neg h] at e1
      exact ⟨v, e1, by unfold clF; rw [if_neg h]; exact r⟩
  · unfold clF
    by_cases h : i ∈ vs
    · rw [if_pos h]
    · rw [if_neg h]; exact s.out i fun o z => q o (by rw [unw_at, if_neg h]; exact z)
  · unfold clF at h1 h2
    split at h1
    · cases h1
    · split at h2
      · cases h2
      · exact s.dis i j a h1 h2
  · unfold clF at h
    split at h
    · cases h
    · exact s.djI i a h
end
theorem Step.one {I H I1 H1 : Hp} {S S1 : Addr → Prop} (a : Step I H S I1 H1 S1) {D : Addr} {o : HO} (h : H D = some o) (n : ¬ S D) (i : I D = none) (nt : NT o := by exact NT.lst) : H1 D = some o ∧ ¬ S1 D ∧ I1 D = none := by
  refine ⟨a.fr D o h n nt, fun z => ?_, ?_⟩
  · rcases a.s' D z with y | y
    · exact n y
    · rw [h] at y; cases y
  · cases q : I1 D with
    | none => rfl
    | some u =>
      rcases a.i' D u q with y | y | y
      · rw [i] at y; cases y
      · exact (n y).elim
      · rw [h] at y; cases y
def nE {α : Type} : Res α → Res α
  | .er _ => .no
  | x => x
theorem nE_post {α : Type} {r : Res α} {P : α → Prop} {E E' : Exn → Prop} (h : (nE r).post P E) : r.post P E' := by
  cases r with
  | ok a => exact h
  | er x => exact h.elim
  | no => exact h
def lcL (vs : List Nat) (t : Tg) (test : TF) (elt : EF) : List PyData → Env → List PyData → Res (List PyData × Env)
  | [], e, acc => .ok (acc, e)
  | d :: ds, e, acc => asT t d e >>= fun e1 => nE (test e1) >>= fun b => if b.1 = true then nE (elt b.2) >>= fun r => if acc.length < 100000 then lcL vs t test elt ds (wipeE r.2 vs) (acc ++ [r.1.data]) else .no
    else lcL vs t test elt ds (wipeE b.2 vs) acc
def fLc (fi : IF) (vs : List Nat) (t : Tg) (test : TF) (elt : EF) : EF := fun env => fi env >>= fun r => lcL vs t test elt r.1 (wipeE r.2 vs) [] >>= fun q => .ok (.ol q.1, unw r.2 q.2 vs)
def fYes : TF := fun env => .ok (true, env)
def G.nox (g : G) : G := { g with E := fun _ _ _ => False }
section
variable {g : G} {X : Cx} {a b c e : Expr} {es : List Expr} {pos : Pos} {σ : St} {H I : Hp} {env : Env} {F : Nat → List Addr}
theorem lcL_er {vs : List Nat} {t : Tg} {test : TF} {elt : EF} : ∀ {ds : List PyData} {e : Env} {acc : List PyData} {x : Exn}, lcL vs t test elt ds e acc ≠ .er x
  | [], _, _, _ => fun h => by cases h
  | d :: ds, e, acc, x => fun h => by
    unfold lcL at h
    cases q : asT t d e with
    | no => rw [q] at h; cases h
    | er y => exact asT_er q
    | ok e1 =>
      rw [q, bind_ok] at h
      cases q2 : test e1 with
      | no => rw [q2] at h; cases h
      | er y => rw [q2] at h; cases h
      | ok b =>
        rw [q2] at h
        have h : (if b.1 = true then nE (elt b.2) >>= fun r => if acc.length < 100000 then lcL vs t test elt ds (wipeE r.2 vs) (acc ++ [r.1.data]) else .no else lcL vs t test elt ds (wipeE b.2 vs) acc) = .er x := h
        by_cases hb : b.1 = true
        · rw [if_pos hb] at h
          cases q3 : elt b.2 with
          | no => rw [q3] at h; cases h
          | er y => rw [q3] at h; cases h
          | ok r =>
            rw [q3] at h
            have h : (if acc.length < 100000 then lcL vs t test elt ds (wipeE r.2 vs) (acc ++ [r.1.data]) else .no) = .er x := h
            split at h
            · exact lcL_er h
            · cases h
        · rw [if_neg hb] at h; exact lcL_er h
theorem lc_key {fi : IF} {vs : List Nat} {t : Tg} {test : TF} {elt : EF} {Q : VK} (hp : ∀ i ∈ vs, i ∉ g.pn.1) (hv : ∀ i ∈ t.slots, i ∈ vs) (h : tD g (fLc fi vs t test elt) σ H Q) : tLc (tI g fi) (rdT g.K t) (tT g.nox test) (tD g.nox elt) vs σ H Q := by
  obtain ⟨I, env, F, s, p⟩ := h
  refine ⟨I, env, F, s, post_mono (post_bind.mp p) (fun r q J H1 I1 F1 s1 st1 ok D nD => ?_) fun _ z => z⟩
  have nI : I1 D = none := none_of_same s1.sub nD
  have nF : ∀ {F2 : Nat → List Addr}, F2 = F1 → ¬ Ow F2 D := fun e z => by subst e; obtain ⟨o, ho⟩ := s1.domO z; rw [nD] at ho; cases ho
  let PP : List PyData × Env → Prop := fun q => ∀ v H', Aft g.K g.pn I H F σ (unw r.2 q.2 vs) (.ol q.1) v H' → Q v H'
  let L : List PyData → Hp → Prop := fun ds H2 => ∃ I2 e F2 acc us, Sim g.K g.pn I2 H2 (wipe σ vs) e F2 ∧ H2 D = some (.lst us) ∧ RpAll g.K I2 us acc ∧ I2 D = none ∧ ¬ Ow F2 D ∧ Step I1 H1 (Ow F1) I2 H2 (fun a => Ow F2 a ∨ a = D) ∧
    (lcL vs t test elt ds e acc).post PP (fun _ => False)
  have q0 : (lcL vs t test elt r.1 (wipeE r.2 vs) []).post PP (fun _ => False) := by
    have q := post_bind.mp q
    cases z : lcL vs t test elt r.1 (wipeE r.2 vs) [] with
    | no => rw [z] at q; exact q
    | er x => exact absurd z lcL_er
    | ok y => rw [z] at q; exact q
  refine ⟨fun i m H2 => m = r.1.length - i ∧ i ≤ r.1.length ∧ L (r.1.drop i) H2, ⟨r.1.length, by simp, Nat.zero_le _, I1, wipeE r.2 vs, clF F1 vs, [], [], ?_, upd_same, .nil, nI, fun z => nF rfl (clF_ow z), ?_, q0⟩, ?_⟩
  · refine (s1.wipe hp).heap (Same.refl _) (s1.sub.trans (same_new nD)) (fun a ha => ?_) (fun a ⟨i, hi⟩ => (s1.wipe hp).djI i a hi) (kt_new nD)
    rw [upd_ne]; intro z; subst z; exact nF rfl (clF_ow ha)
  · refine Step.of4 (Same.refl _) (fun a o h _ => same_new nD a o h) (fun a h => ?_) (fun a o h => .inl h)
    rcases h with h | h
    · exact .inl (clF_ow h)
    · subst h; exact .inr nD
  · rintro i m H2 ⟨rfl, hi, I2, e, F2, acc, us, s2, hD, ra, iD, oD, st2, p2⟩
    have sm : Same I1 I2 := st2.i1
    by_cases hlt : i < r.1.length
    · have hd : r.1[i]? = some r.1[i] := List.getElem?_eq_getElem hlt
      have dr : r.1.drop i = r.1[i] :: r.1.drop (i + 1) := List.drop_eq_getElem_cons hlt
      rw [dr] at p2
      have ok1 := (ok I2 H2 i sm s2.sub).1 _ hd
      refine .inr ⟨ok1.1, L (r.1.drop (i + 1)), fun H' n => ⟨r.1.length - (i + 1), by omega, rfl, hlt, n⟩, fun x H3 y => ?_⟩
      obtain ⟨I3, gr⟩ := ok1.2 x H3 y
      obtain ⟨I4, F4, rp, s4, st4⟩ := (gr.aft s2).frz
      have p3 := post_bind.mp p2
      cases q2 : asT t r.1[i] e with
      | no => rw [q2] at p3; exact p3.elim
      | er x => exact absurd q2 asT_er
      | ok e1 =>
        rw [q2] at p3
        refine tg_key (fun j hj => hp j (hv j hj)) s4 rp q2 fun σ2 F5 ho s5 hF => ?_
        have wσ := wipe_only hv ho
        refine ⟨wσ, ?_⟩
        have st5 := st4.less hF
        obtain ⟨d1, d2, d3⟩ := st5.one hD oD iD
        have TD : ∀ x, x = D → ∃ o, H2 x = some o := fun x e => by subst e; exact ⟨_, hD⟩
        have TN : ∀ x, x = D → ¬ Ow F2 x := fun x e => by subst e; exact oD
        refine ⟨I4, e1, F5, s5, post_mono (nE_post (post_bind.mp p3)) (fun b pb H6 af => ?_) fun _ z => z⟩
        obtain ⟨I6, F6, s6, st6⟩ := af
        have st56 := st5.trans st6
        obtain ⟨b1, b2, b3⟩ := st56.one hD oD iD
        by_cases hb : b.1 = true
        · rw [if_pos hb] at pb ⊢
          refine ⟨I6, b.2, F6, s6, post_mono (nE_post (post_bind.mp pb)) (fun r7 p7 v7 H7 af7 => ?_) fun _ z => z⟩
          obtain ⟨I8, F8, rp8, s8, st8⟩ := af7.frz
          have st58 := st56.trans st8
          obtain ⟨c1, c2, c3⟩ := st58.one hD oD iD
          by_cases hz : acc.length < 100000
          · rw [if_pos hz] at p7
            refine ⟨us, c1, by rw [ra.length]; exact Nat.lt_of_lt_of_le hz (by decide), I8, wipeE r7.2 vs, clF F8 vs, acc ++ [r7.1.data], us ++ [v7], ?_, upd_same, (ra.mono st58.i1).app (.cons rp8 .nil), c3, fun z => c2 (clF_ow z), ?_, p7⟩
            · rw [← wσ]
              refine (s8.wipe hp).heap (Same.refl _) (fun a o h => ?_) (fun a ha => ?_) (fun a ⟨j, hj⟩ => (s8.wipe hp).djI j a hj) (kt_upd c1 NT.lst)
              · rw [upd_ne (fun z => by subst z; rw [c3] at h; cases h)]; exact s8.sub a o h
              · rw [upd_ne]; intro z; subst z; exact c2 (clF_ow ha)
            · refine st2.trans ((st58.aside (fun x => x = D) TD TN).trans (Step.of4 (Same.refl _) (fun a o h n => ?_) (fun a h => ?_) (fun a o h => .inl h)))
              · rw [upd_ne fun z => n (.inr z)]; exact h
              · rcases h with h | h
                · exact .inl (.inl (clF_ow h))
                · exact .inl (.inr h)
          · rw [if_neg hz] at p7; exact p7.elim
        · rw [if_neg hb] at pb ⊢
          refine ⟨I6, wipeE b.2 vs, clF F6 vs, acc, us, ?_, b1, ra.mono st56.i1, b3, fun z => b2 (clF_ow z), ?_, pb⟩
          · rw [← wσ]; exact s6.wipe hp
          · refine st2.trans ((st56.aside (fun x => x = D) TD TN).less fun a h => ?_)
            rcases h with h | h
            · exact .inl (clF_ow h)
            · exact .inr h
    · have e0 : i = r.1.length := by omega
      subst e0
      rw [List.drop_length] at p2
      refine .inl ⟨(ok I2 H2 _ sm s2.sub).2 rfl, p2 _ _ ⟨I2, clF F2 vs, [D], ⟨D, us, rfl, rfl, hD, ra⟩, s1.unwipe sm hp s2, fun a ha => ?_, fun a ha hr => ?_, ?_⟩⟩
      · simp at ha; subst ha; exact iD
      · simp at hr; subst hr; exact oD (clF_ow ha)
      · refine st1.trans (st2.less fun a h => ?_)
        rcases h with h | h
        · exact .inl (clF_ow h)
        · simp at h; exact .inr h
theorem pts_yes : PTs X [] (tT g fYes) := ⟨fun pins s σ H Q I h => pts_nil.run pins s σ H Q I (by
  obtain ⟨I, env, F, s, p⟩ := h
  exact p H ⟨I, F, s, Step.refl⟩)⟩
theorem de_lc {elt tg iter : Expr} {ifs : List Expr} {scope : Scope} {own : List (Str × Nat)} {fi : IF} {t : Tg} {test : TF} {fe : EF} (hp : ∀ i ∈ own.map (·.2), i ∉ g.pn.1) (hv : ∀ i ∈ t.slots, i ∈ own.map (·.2)) (hc : X.calm = true) (hN : X.N.Nodup) (hi : DI g X tg iter fi) (ok : BlkOk X.N X.env.scope scope own)
    (hg : ∀ (s : Shared) (H : Hp) (C : Addr) (cl : List (Str × Addr)) (fp : List Addr), PG (X.blk s H scope (compEnvC scope cl C X.env) fp) tg (rdT g.K t)) (ht : ∀ (s : Shared) (H : Hp) (C : Addr) (cl : List (Str × Addr)) (fp : List Addr), PTs (X.blk s H scope (compEnvC scope cl C X.env) fp) ifs (tT g.nox test))
    (he : ∀ (s : Shared) (H : Hp) (C : Addr) (cl : List (Str × Addr)) (fp : List Addr), DE g.nox (X.blk s H scope (compEnvC scope cl C X.env) fp) elt fe) (hs : ∀ x, foldedSetIterable iter X.env x = pure x := by intro _; rfl) :
    DE g X (.ListComp elt [⟨tg, iter, ifs, 0⟩] scope pos) (fLc fi (own.map (·.2)) t test fe) := PE.imp (pe_lc hc hN hi ok hg ht he hs) fun σ H Q h => lc_key hp hv h
/-- y = [..] -/
theorem ds_setLc {i : Nat} {y : Str} {py : Pos} {elt tg iter : Expr} {ifs : List Expr} {scope : Scope} {own : List (Str × Nat)} {spos : Pos} {fi : IF} {t : Tg} {test : TF} {fe : EF} (hpi : i ∉ g.pn.1) (hp : ∀ i ∈ own.map (·.2), i ∉ g.pn.1) (hv : ∀ i ∈ t.slots, i ∈ own.map (·.2)) (hc : X.calm = true) (hN : X.N.Nodup) (hy : X.N[i]? = some y) (hyl : X.env.scope.names.lookup y = some .local)
    (hsw : swapsWith (.ListComp elt [⟨tg, iter, ifs, 0⟩] scope pos) (some (.Name y py)) spos.line X.env = pure true) (hi : DI g X tg iter fi) (ok : BlkOk X.N X.env.scope scope own)
    (hg : ∀ (s : Shared) (H : Hp) (C : Addr) (cl : List (Str × Addr)) (fp : List Addr), PG (X.blk s H scope (compEnvC scope cl C X.env) fp) tg (rdT g.K t)) (ht : ∀ (s : Shared) (H : Hp) (C : Addr) (cl : List (Str × Addr)) (fp : List Addr), PTs (X.blk s H scope (compEnvC scope cl C X.env) fp) ifs (tT g.nox test))
    (he : ∀ (s : Shared) (H : Hp) (C : Addr) (cl : List (Str × Addr)) (fp : List Addr), DE g.nox (X.blk s H scope (compEnvC scope cl C X.env) fp) elt fe) (hs : ∀ x, foldedSetIterable iter X.env x = pure x := by intro _; rfl) :
    DS g X (.Assign [.Name y py] (.ListComp elt [⟨tg, iter, ifs, 0⟩] scope pos) spos) (fSet i (fLc fi (own.map (·.2)) t test fe)) := PS.imp (ps_setLc hc hN hy hyl hsw hi ok hg ht he hs) fun D σ H h => by
  have := set_key hpi h
  exact lc_key hp hv this
end
end Dy
namespace Dy
open PySem PySem.Spec PyProof.Rows L2
structure FnG (P : Program) (w : World) (K : PySem.W.Frag) (mg : Str → Option Value) (base : Heap) (k : Nat) (f : Addr) (fd : FuncData) (ps : List Str) (sp : Sp) : Prop where
  len : ∀ vs H Q E, sp vs H Q E → vs.length = ps.length
  run : ∀ (A : Around) (outer : List PySem.Env) (s : Shared) (H : Hp) (args : Args) (us : List Value) (vs : List V) (Q : VK) (E : XK), A.guards = some [] → Room k A → L2.Env0 P w K mg base A outer s H → BindsTo s fd args (ps.zip us) → Vals vs us →
    sp vs H Q E → codeAny (model P w) A (.call (.ref f) args) (CR (L2.CX P w) outer P w H s Q E) s
end Dy
namespace Dy
open PySem PySem.Spec PyProof.Rows L2
theorem FnG.mono {P : Program} {w : World} {K : PySem.W.Frag} {mg : Str → Option Value} {base : Heap} {j k : Nat} {f : Addr} {fd : FuncData} {ps : List Str} {sp : Sp} (F : FnG P w K mg base j f fd ps sp) (h : j ≤ k) : FnG P w K mg base k f fd ps sp :=
  ⟨F.len, fun A outer s H args us vs Q E hg hr => F.run A outer s H args us vs Q E hg (hr.mono h)⟩
theorem FnG.imp {P : Program} {w : World} {K : PySem.W.Frag} {mg : Str → Option Value} {base : Heap} {k : Nat} {f : Addr} {fd : FuncData} {ps : List Str} {sp sp' : Sp} (F : FnG P w K mg base k f fd ps sp) (h : ∀ vs H Q E, sp' vs H Q E → sp vs H Q E) : FnG P w K mg base k f fd ps sp' :=
  ⟨fun vs H Q E q => F.len vs H Q E (h _ _ _ _ q), fun A outer s H args us vs Q E hg hr he hb hv hs => F.run A outer s H args us vs Q E hg hr he hb hv (h _ _ _ _ hs)⟩
/-- by its body -/
theorem fnG_ofc {P : Program} {w : World} {K : PySem.W.Frag} {mg : Str → Option Value} {base : Heap} {k : Nat} {x qual : Str} {st : Stmt} {f : Addr} {fd : FuncData} {N ps : List Str} {sp : Sp} (F : Fun K x qual st f fd) (S : FnScope N ps (defScope st))
    (len : ∀ vs H Q E, sp vs H Q E → vs.length = ps.length)
    (body : ∀ (cdv : Value) (hcv : fd.code = cdv) (A : Around) (outer : List PySem.Env) (s : Shared) (H : Hp) (vs : List V) (Q : VK) (E : XK), (A.deeper (envOfC qual (defScope st) s.heap.objs.size f cdv)).guards = some [] → Room k (A.deeper (envOfC qual (defScope st) s.heap.objs.size f cdv)) → sp vs H Q E →
      ∃ t, PSs (cxOf (L2.CX P w) P w K mg base N qual (defScope st) f cdv A outer s H E) (defBody st) t ∧ t { nx := fun _ H' => Q .non H', rt := Q } (L2.start N vs) H) : FnG P w K mg base (k + 1) f fd ps sp := by
  obtain ⟨oc, od, kV, doc, pm, an, cdv, ct, osl, rfl, lk, hcd⟩ := F.ex
  refine ⟨len, ?_⟩
  intro A outer s H args us vs Q E hg hr e0 hb r hsp
  have KX : K.In s.heap := e0.mod.kin.keeps (fun b o e => (e0.bs b o e).1)
  have lim : s.heap.NoLimit := e0.mod.nolimit.keeps (fun b o e => (e0.bs b o e).1)
  have hk : ∀ y ∈ ps.zip us, (defScope st).names.lookup y.1 = some .local ∨ ((defScope st).names.lookup y.1 = some .cell ∧ ((cellsFrom (s.heap.objs.size + 1) (defScope st).names []).lookup y.1).isSome = true) := by
    intro y hy
    rcases S.par y.1 (List.of_mem_zip hy).1 with q | q
    · exact Or.inl q
    · exact Or.inr ⟨q, PySem.W.cellsFrom_some _ _ _ (Or.inl q)⟩
  refine codeAny_call_function hr.depth (KX f _ lk) rfl S.co S.gen rfl (PySem.W.codeRec_of KX hcd) (hb _ _ _ _ ?_)
  refine wpAny_newFunctionEnv_cells S.kind hk (fun env he s1 hc => ?_)
  subst he
  refine ⟨lim.keeps hc.toInCall.keep, codeAny_func ?_⟩
  obtain ⟨t, ht, hq⟩ := body cdv rfl A outer s H vs Q E hg (hr.deeper _) hsp
  have J : Inv (cxOf (L2.CX P w) P w K mg base N qual (defScope st) f cdv A outer s H E) [] (L2.start N vs) H s1 := inv_start S hr.hd e0 (len vs H Q E hsp) r hc
  refine wpAny_mono (ht.run [] s1 (L2.start N vs) H _ J hq) (fun fl s' hs => ?_) (fun e s' hs => hs)
  cases fl with
  | ret u =>
    obtain ⟨v, σ', H', J', rv, q⟩ := hs
    exact ⟨v, H', J'.os, J'.bare, J'.base, J'.hok, rv, q⟩
  | next =>
    obtain ⟨σ', H', J', q⟩ := hs
    exact ⟨.non, H', J'.os, J'.bare, J'.base, J'.hok, rfl, q⟩
  | brk =>
    obtain ⟨_, _, _, q⟩ := hs
    exact q.elim
  | cont =>
    obtain ⟨_, _, _, q⟩ := hs
    exact q.elim
section
variable {X : Cx} {k : Nat} {f : Addr} {fd : FuncData} {ps : List Str} {sp : Sp} {E : XK} {x : Str} {p pos : Pos} {e : Expr} {es : List Expr} {t : TA}
theorem runG {pins : List (Addr × Obj)} {σ : St} {H : Hp} {s : Shared} {Q : VK} {us : List Value} {vs : List V} (F : FnG X.prog X.w X.K X.mg X.base k f fd ps sp) (hg : X.A.guards = some []) (hr : Room k X.A) (hb : Binds X.K fd ps []) (hx : Passes (L2.CX X.prog X.w) X E)
    (J : Inv X pins σ H s) (r : Vals vs us) (h : sp vs H Q E) : wpAny (model X.prog X.w) X.A (call (.ref f) us) (EP X pins σ Q) X.xe s := by
  have hl : (us ++ []).length = ps.length := by rw [List.append_nil, ← r.length]; exact F.len _ _ _ _ h
  have hb' := hb s us J.kIn hl
  rw [List.append_nil] at hb'
  refine wpAny_call (codeAny_mono (F.run X.A X.stack s H ⟨us, []⟩ us vs Q E hg hr J.env0 hb' r h) (fun y s' hq => ?_))
  cases y with
  | error u => exact hx pins σ H s u s' J hq
  | ok fl =>
    cases fl with
    | ret u => exact J.after hq
    | next => exact hq.elim
    | brk => exact hq.elim
    | cont => exact hq.elim
theorem peG (F : FnG X.prog X.w X.K X.mg X.base k f fd ps sp) (hgd : X.A.guards = some []) (hr : Room k X.A) (hg : Gl X x) (hm : X.mg x = some (.ref f)) (hk : PySem.W.keepIn X.K (.ref f) = true) (hb : Binds X.K fd ps []) (hx : Passes (L2.CX X.prog X.w) X E)
    (ha : PA X (e :: es) t) (hdb : (x == ("__debug__" : Str)) = false := by decide) (he : starEach (e :: es) X.env = (false, eval e X.env) :: starEach es X.env := by rfl) (hpl : (backTo pos (starEach es X.env)).any (·.1) = false := by rfl) :
    PE X (.Call (.Name x p) (e :: es) [] pos) (fun σ H Q => t σ H fun vs H1 => sp vs H1 Q E) := by
  refine ⟨fun pins s σ H Q J h => wpAny_Call_Name_kw (ld_glob J hg hm ?_ hdb)⟩
  refine PySem.W.callWith_K (h₀ := X.base) J.ok.mod.kin hk (thn (ha.run pos pins s σ H _ J h) ?_) he hpl
  rintro us s1 ⟨vs, H1, J1, r, q⟩
  exact ⟨J1.kIn, runG F hgd hr hb hx J1 r q⟩
end
abbrev Fn := List O → Res (O × List O)
def p0 (T : List (Addr × Str)) : Pn := ([], fun _ => .non, T)
def spD (K : PySem.W.Frag) (mg : Str → Option Value) (T : List (Addr × Str)) (m : Fn) : Sp := fun vs H Q E => ∃ I os F, Sim K (p0 T) I H (vs.map some) (os.map some) F ∧
  (m os).post (fun r => ∀ v H', Aft K (p0 T) I H F (vs.map some) (r.2.map some) r.1 v H' → Q v H') (fun x => ∀ H' c d, Err T I H (Ow F) H' d → XR mg x c d H' → E c d H')
def isFr : O → Bool
  | .fr _ => true
  | _ => false
def okA (rp : List Nat) : Nat → List O → Bool
  | _, [] => true
  | k, o :: os => (rp.contains k || isFr o) && okA rp (k + 1) os
def bkA (rp : List Nat) (e : Env) : Nat → List O → Option (List O)
  | _, [] => some []
  | k, o :: os => match (if rp.contains k then (e[k]?).join else some o), bkA rp e (k + 1) os with
    | some o', some os' => some (o' :: os')
    | _, _ => none
def fnM (n N : Nat) (rp : List Nat) (body : SF) : Fn := fun os => if os.length = n ∧ okA rp 0 os = true then
    body (os.map some ++ List.replicate (N - n) none) >>= fun r => match bkA rp r.2 0 os with
      | none => .no
      | some os' => match r.1 with
        | .rt o => .ok (o, os')
        | .nx => .ok (.fr .none, os')
        | _ => .no
  else .no
theorem okA_at {rp : List Nat} : ∀ {os : List O} {k i : Nat} {o : O}, okA rp k os = true → os[i]? = some o → k + i ∉ rp → isFr o = true
  | [], _, _, _, _, h, _ => by simp at h
  | o :: os, k, 0, _, h, e, n => by
    simp at e; subst e
    unfold okA at h
    simp only [Bool.and_eq_true, Bool.or_eq_true, List.contains_iff_mem] at h
    rcases h.1 with z | z
    · exact absurd z n
    · exact z
  | o :: os, k, i + 1, _, h, e, n => by
    unfold okA at h
    simp only [Bool.and_eq_true] at h
    exact okA_at (k := k + 1) (i := i) h.2 (by simpa using e) (by rwa [Nat.add_right_comm k 1 i, Nat.add_assoc])
theorem bkA_at {rp : List Nat} {e : Env} : ∀ {os os' : List O} {k i : Nat} {o' : O}, bkA rp e k os = some os' → os'[i]? = some o' → (k + i ∈ rp ∧ e[k + i]? = some (some o')) ∨ (k + i ∉ rp ∧ os[i]? = some o')
  | [], _, _, _, _, h, e1 => by cases h; simp at e1
  | o :: os, os', k, i, o', h, e1 => by
    unfold bkA at h
    cases q1 : (if rp.contains k then (e[k]?).join else some o) with
    | none => rw [q1] at h; cases h
    | some y =>
      cases q2 : bkA rp e (k + 1) os with
      | none => rw [q1, q2] at h; cases h
      | some ys =>
        rw [q1, q2] at h; cases h
        cases i with
        | zero =>
          simp at e1; subst e1
          by_cases hk : k ∈ rp
          · left
            refine ⟨hk, ?_⟩
            rw [if_pos (by simpa using hk)] at q1
            rw [Nat.add_zero]
            cases z : e[k]? with
            | none => rw [z] at q1; cases q1
            | some w => rw [z] at q1; cases w <;> cases q1; rfl
          · right
            refine ⟨hk, ?_⟩
            rw [if_neg (by simpa using hk)] at q1
            simpa using q1
        | succ i =>
          rcases bkA_at q2 (i := i) (o' := o') (by simpa using e1) with ⟨a, b⟩ | ⟨a, b⟩
          · exact .inl ⟨by rwa [Nat.add_right_comm k 1 i, Nat.add_assoc] at a, by rwa [Nat.add_right_comm k 1 i, Nat.add_assoc] at b⟩
          · exact .inr ⟨by rwa [Nat.add_right_comm k 1 i, Nat.add_assoc] at a, by simpa using b⟩
theorem bkA_len {rp : List Nat} {e : Env} : ∀ {os os' : List O} {k : Nat}, bkA rp e k os = some os' → os'.length = os.length
  | [], _, _, h => by cases h; rfl
  | o :: os, os', k, h => by
    unfold bkA at h
    cases q1 : (if rp.contains k then (e[k]?).join else some o) with
    | none => rw [q1] at h; cases h
    | some y =>
      cases q2 : bkA rp e (k + 1) os with
      | none => rw [q1, q2] at h; cases h
      | some ys => rw [q1, q2] at h; cases h; simp [bkA_len q2]
theorem getm {α : Type} {l : List α} {i : Nat} {x : α} (h : (l.map some)[i]? = some (some x)) : l[i]? = some x := by
  rw [List.getElem?_map] at h
  cases q : l[i]? with
  | none => rw [q] at h; cases h
  | some y => rw [q] at h; cases h; rfl
theorem putm {α : Type} {l : List α} {i : Nat} {x : α} (h : l[i]? = some x) : (l.map some)[i]? = some (some x) := by rw [List.getElem?_map, h]; rfl
/-- back in the caller: the arguments behind the body -/
theorem back_args {T : List (Addr × Str)} {K : PySem.W.Frag} {I H : Hp} {F : Nat → List Addr} {vs : List V} {os os' : List O} {rp : List Nat} {π : Pn} {σ' : St} {e : Env} {o : O} {v : V} {H' : Hp} (s0 : Sim K (p0 T) I H (vs.map some) (os.map some) F) (hπ : π.1 = rp) (hT : π.2.2 = T) (hv : ∀ i ∈ rp, vs[i]? = some (π.2.1 i))
    (hok : okA rp 0 os = true) (hb : bkA rp e 0 os = some os') (af : Aft K π I H F σ' e o v H') : Aft K (p0 T) I H F (vs.map some) (os'.map some) o v H' := by
  obtain ⟨I', F', R, r, s, nR, dR, st⟩ := af
  have hl : os'.length = vs.length := by
    have h1 := bkA_len hb
    have h2 := s0.len
    simp only [List.length_map] at h2
    omega
  let F2 : Nat → List Addr := fun i => if i ∈ rp then F' i else []
  have ow : ∀ a, Ow F2 a → Ow F' a := fun a ⟨i, hi⟩ => by
    by_cases h : i ∈ rp
    · exact ⟨i, by simpa [F2, h] using hi⟩
    · simp [F2, h] at hi
  refine ⟨I', F2, R, r, ⟨by simp [hl], fun i y q => ?_, fun i q => ?_, fun i j a h1 h2 => ?_, fun i a h => ?_, s.sub, (fun i hi => by cases hi), (by rw [← hT] at *; exact s.tab)⟩, nR, fun a ha => dR a (ow a ha), st.less fun a h => h.elim (fun z => .inl (ow a z)) .inr⟩
  · have q := getm q
    rcases bkA_at hb q with ⟨h1, h2⟩ | ⟨h1, h2⟩
    · rw [Nat.zero_add] at h1 h2
      obtain ⟨u, e1, rr⟩ := s.rep i y h2
      have e2 := s.pin i (by rw [hπ]; exact h1)
      rw [e1] at e2; cases e2
      exact ⟨_, putm (hv i h1), by simpa [F2, h1] using rr⟩
    · rw [Nat.zero_add] at h1
      have fr := okA_at hok h2 (by rw [Nat.zero_add]; exact h1)
      cases y with
      | fr d =>
        obtain ⟨u, e1, rr⟩ := s0.rep i _ (putm h2)
        exact ⟨u, e1, by simp [F2, h1, RepO]; exact rr.2.mono st.i1⟩
      | ol _ => cases fr
      | oo _ => cases fr
      | od _ => cases fr
  · by_cases h : i ∈ rp
    · have h1 := hv i h
      have hi : i < os'.length := by
        rw [hl]
        cases Nat.lt_or_ge i vs.length with
        | inl z => exact z
        | inr z => rw [List.getElem?_eq_none z] at h1; cases h1
      exact absurd (putm (List.getElem?_eq_getElem hi)) (q _)
    · simp [F2, h]
  · by_cases h : i ∈ rp
    · by_cases h' : j ∈ rp
      · exact s.dis i j a (by simpa [F2, h] using h1) (by simpa [F2, h'] using h2)
      · simp [F2, h'] at h2
    · simp [F2, h] at h1
  · by_cases h' : i ∈ rp
    · exact s.djI i a (by simpa [F2, h'] using h)
    · simp [F2, h'] at h
theorem sim_start {T : List (Addr × Str)} {K : PySem.W.Frag} {I H : Hp} {F : Nat → List Addr} {vs : List V} {os : List O} {N : List Str} {rp : List Nat} {n : Nat} (s0 : Sim K (p0 T) I H (vs.map some) (os.map some) F) (hv : vs.length = n) (hrp : ∀ i ∈ rp, i < n) :
    Sim K (rp, (fun i => vs.getD i .non), T) I H (L2.start N vs) (os.map some ++ List.replicate (N.length - n) none) F := by
  have hl := s0.len
  simp only [List.length_map] at hl
  have low : ∀ i, i < vs.length → (L2.start N vs)[i]? = (vs.map some)[i]? := fun i h => by unfold L2.start; rw [List.getElem?_append_left (by simpa using h)]
  have env : ∀ i o, (os.map some ++ List.replicate (N.length - n) none)[i]? = some (some o) → (os.map some)[i]? = some (some o) := fun i o q => by
    by_cases h : i < os.length
    · rwa [List.getElem?_append_left (by simpa using h)] at q
    · rw [List.getElem?_append_right (by simpa using h), List.getElem?_replicate] at q
      split at q <;> cases q
  refine ⟨by unfold L2.start; simp [hl, hv], fun i o q => ?_, fun i q => s0.out i fun o z => q o ?_, s0.dis, s0.djI, s0.sub, fun i hi => ?_, s0.tab⟩
  · have q := env i o q
    obtain ⟨v, e1, r⟩ := s0.rep i o q
    refine ⟨v, ?_, r⟩
    rw [low i (by
      cases Nat.lt_or_ge i vs.length with
      | inl z => exact z
      | inr z => rw [List.getElem?_eq_none (by simpa using z)] at e1; cases e1)]
    exact e1
  · rw [List.getElem?_append_left (by
      cases Nat.lt_or_ge i os.length with
      | inl h => simpa using h
      | inr h => rw [List.getElem?_eq_none (by simpa using h)] at z; cases z)]
    exact z
  · have h := hrp i hi
    rw [low i (by omega), List.getElem?_map]
    show Option.map some vs[i]? = some (some (vs.getD i .non))
    rw [List.getD_eq_getElem?_getD, List.getElem?_eq_getElem (by omega)]
    rfl
/-- THE RULE for a def -/
theorem fnDc {T : List (Addr × Str)} {P : Program} {w : World} {K : PySem.W.Frag} {mg : Str → Option Value} {base : Heap} {k : Nat} {x qual : Str} {st : Stmt} {f : Addr} {fd : FuncData} {N ps : List Str} {n nN : Nat} {rp : List Nat} {m : SF} (F : Fun K x qual st f fd) (S : FnScope N ps (defScope st)) (hn : ps.length = n) (hN : N.length = nN) (hrp : ∀ i ∈ rp, i < n)
    (body : ∀ (cdv : Value) (hcv : fd.code = cdv) (A : Around) (outer : List PySem.Env) (s : Shared) (H : Hp) (pv : Nat → V) (E : XK), (A.deeper (envOfC qual (defScope st) s.heap.objs.size f cdv)).guards = some [] → Room k (A.deeper (envOfC qual (defScope st) s.heap.objs.size f cdv)) →
      DSs ⟨K, mg, (rp, pv, T), E⟩ (cxOf (L2.CX P w) P w K mg base N qual (defScope st) f cdv A outer s H E) (defBody st) m) : FnG P w K mg base (k + 1) f fd ps (spD K mg T (fnM n nN rp m)) := by
  have ln : ∀ {vs : List V} {H : Hp} {Q : VK} {E : XK}, spD K mg T (fnM n nN rp m) vs H Q E → ∃ I os F, Sim K (p0 T) I H (vs.map some) (os.map some) F ∧ os.length = n ∧ okA rp 0 os = true ∧ vs.length = n ∧
      (m (os.map some ++ List.replicate (nN - n) none) >>= fun r => match bkA rp r.2 0 os with
      | none => .no
      | some os' => match r.1 with
        | .rt o => .ok (o, os')
        | .nx => .ok (.fr .none, os')
        | _ => .no).post (fun r => ∀ v H', Aft K (p0 T) I H F (vs.map some) (r.2.map some) r.1 v H' → Q v H') (fun x => ∀ H' c d, Err T I H (Ow F) H' d → XR mg x c d H' → E c d H') := by
    rintro vs H Q E ⟨I, os, F, s, p⟩
    unfold fnM at p
    by_cases h : os.length = n ∧ okA rp 0 os = true
    · rw [if_pos h] at p
      have hl := s.len
      simp only [List.length_map] at hl
      exact ⟨I, os, F, s, h.1, h.2, by omega, p⟩
    · rw [if_neg h] at p; exact p.elim
  refine fnG_ofc F S (fun vs H Q E h => ?_) fun cdv hcv A outer s H vs Q E hg hr h => ?_
  · obtain ⟨_, _, _, _, _, _, h, _⟩ := ln h
    rw [hn, h]
  · obtain ⟨I, os, F, sim, h1, h2, h3, p⟩ := ln h
    refine ⟨_, body cdv hcv A outer s H (fun i => vs.getD i .non) E hg hr, I, _, F, sim_start (N := N) sim h3 hrp, ?_⟩
    rw [hN]
    refine post_mono (post_bind.mp p) (fun r q => ?_) fun x z => z
    obtain ⟨fl, e⟩ := r
    have hv : ∀ i ∈ rp, vs[i]? = some (vs.getD i .non) := fun i hi => by
      have := hrp i hi
      rw [List.getD_eq_getElem?_getD, List.getElem?_eq_getElem (by omega)]; rfl
    cases qb : bkA rp e 0 os with
    | none => simp only [qb] at q; exact q.elim
    | some os' =>
      simp only [qb] at q
      cases fl with
      | rt o => exact fun v σ' H' af => q v H' (back_args sim rfl rfl hv h2 qb af)
      | nx => exact fun σ' H' ⟨I', F', s', st'⟩ => q .non H' (back_args sim rfl rfl hv h2 qb (AftD.aft ⟨I', F', .non, s', st'⟩))
      | bk => exact q.elim
      | ct => exact q.elim
theorem fnD {T : List (Addr × Str)} {P : Program} {w : World} {K : PySem.W.Frag} {mg : Str → Option Value} {base : Heap} {k : Nat} {x qual : Str} {st : Stmt} {f : Addr} {fd : FuncData} {N ps : List Str} {n nN : Nat} {rp : List Nat} {m : SF} (F : Fun K x qual st f fd) (S : FnScope N ps (defScope st)) (hn : ps.length = n) (hN : N.length = nN) (hrp : ∀ i ∈ rp, i < n)
    (body : ∀ (cdv : Value) (A : Around) (outer : List PySem.Env) (s : Shared) (H : Hp) (pv : Nat → V) (E : XK), (A.deeper (envOfC qual (defScope st) s.heap.objs.size f cdv)).guards = some [] → Room k (A.deeper (envOfC qual (defScope st) s.heap.objs.size f cdv)) →
      DSs ⟨K, mg, (rp, pv, T), E⟩ (cxOf (L2.CX P w) P w K mg base N qual (defScope st) f cdv A outer s H E) (defBody st) m) : FnG P w K mg base (k + 1) f fd ps (spD K mg T (fnM n nN rp m)) :=
  fnDc F S hn hN hrp fun cdv _ => body cdv
def sl : List AV → Nat → Option Nat
  | [], _ => none
  | .s j :: as, i => if j = i then some 0 else (sl as i).map (· + 1)
  | .d _ :: as, i => (sl as i).map (· + 1)
def ndS : List AV → Bool
  | [] => true
  | .d _ :: as => ndS as
  | .s i :: as => (sl as i).isNone && ndS as
def rsO (env : Env) : List AV → Option (List O)
  | [] => some []
  | .d x :: as => (rsO env as).map (.fr x :: ·)
  | .s i :: as => match (env[i]?).join, rsO env as with
    | some o, some os => some (o :: os)
    | _, _ => none
def putB : List AV → List O → Env → Env
  | .d _ :: as, _ :: os, e => putB as os e
  | .s i :: as, o :: os, e => putB as os (e.set i (some o))
  | _, _, e => e
def fCall (m : Fn) (as : List AF) : EF := fun env => evA as env >>= fun r => match rsO r.2 r.1 with
  | none => .no
  | some os => if ndS r.1 = true then m os >>= fun q => .ok (q.1, putB r.1 q.2 r.2) else .no
theorem sl_some : ∀ {as : List AV} {i k : Nat}, sl as i = some k → as[k]? = some (.s i)
  | [], _, _, h => by cases h
  | .s j :: as, i, k, h => by
    unfold sl at h
    by_cases e : j = i
    · rw [if_pos e] at h; cases h; subst e; rfl
    · rw [if_neg e] at h
      cases q : sl as i with
      | none => rw [q] at h; cases h
      | some k' => rw [q] at h; cases h; simpa using sl_some q
  | .d _ :: as, i, k, h => by
    unfold sl at h
    cases q : sl as i with
    | none => rw [q] at h; cases h
    | some k' => rw [q] at h; cases h; simpa using sl_some q
theorem sl_of : ∀ {as : List AV} {i k : Nat}, ndS as = true → as[k]? = some (.s i) → sl as i = some k
  | [], _, _, _, h => by simp at h
  | .s j :: as, i, 0, n, h => by
    simp at h; subst h
    unfold sl; rw [if_pos rfl]
  | .s j :: as, i, k + 1, n, h => by
    unfold ndS at n
    simp only [Bool.and_eq_true] at n
    have q := sl_of (k := k) n.2 (by simpa using h)
    have hj : j ≠ i := fun e => by subst e; rw [q] at n; exact absurd n.1 (by simp)
    unfold sl; rw [if_neg hj, q]; rfl
  | .d _ :: as, i, 0, n, h => by simp at h
  | .d _ :: as, i, k + 1, n, h => by
    have q : sl as i = some k := sl_of (as := as) (k := k) n (by simpa using h)
    unfold sl; rw [q]; rfl
theorem putB_len : ∀ {as : List AV} {os : List O} {e : Env}, (putB as os e).length = e.length
  | [], _, _ => rfl
  | .d _ :: _, [], _ => rfl
  | .s _ :: _, [], _ => rfl
  | .d _ :: as, _ :: os, e => by unfold putB; exact putB_len
  | .s i :: as, o :: os, e => by unfold putB; rw [putB_len, List.length_set]
theorem putB_at : ∀ {as : List AV} {os : List O} {e : Env} {i : Nat}, ndS as = true → os.length = as.length → (∀ j, (sl as j).isSome = true → j < e.length) → (putB as os e)[i]? = match sl as i with
    | some k => (os[k]?).map some
    | none => e[i]?
  | [], _, _, _, _, _, _ => rfl
  | .d _ :: as, [], _, _, _, h, _ => by cases h
  | .s _ :: as, [], _, _, _, h, _ => by cases h
  | .d _ :: as, o :: os, e, i, n, h, b => by
    unfold putB sl
    rw [putB_at (as := as) (i := i) n (by simpa using h) fun j hj => b j (by unfold sl; cases q : sl as j <;> simp [q] at hj ⊢)]
    cases sl as i <;> rfl
  | .s j :: as, o :: os, e, i, n, h, b => by
    unfold ndS at n
    simp only [Bool.and_eq_true] at n
    unfold putB sl
    rw [putB_at (i := i) n.2 (by simpa using h) fun j' hj => by
      rw [List.length_set]
      refine b j' ?_
      unfold sl
      split
      · rfl
      · cases q : sl as j' <;> simp [q] at hj ⊢]
    by_cases e1 : j = i
    · subst e1
      rw [if_pos rfl]
      cases q : sl as j with
      | some k => rw [q] at n; exact absurd n.1 (by simp)
      | none =>
        show (e.set j (some o))[j]? = _
        rw [List.getElem?_set_self (b j (by unfold sl; rw [if_pos rfl]; rfl))]; rfl
    · rw [if_neg e1]
      cases q : sl as i with
      | none =>
        show (e.set j (some o))[i]? = _
        rw [List.getElem?_set_ne e1]; rfl
      | some k => rfl
theorem rsO_len {env : Env} : ∀ {as : List AV} {os : List O}, rsO env as = some os → os.length = as.length
  | [], _, h => by cases h; rfl
  | .d x :: as, os, h => by
    unfold rsO at h
    cases q : rsO env as with
    | none => rw [q] at h; cases h
    | some y => rw [q] at h; cases h; simp [rsO_len q]
  | .s i :: as, os, h => by
    unfold rsO at h
    cases q1 : (env[i]?).join with
    | none => rw [q1] at h; cases h
    | some o =>
      cases q : rsO env as with
      | none => rw [q1, q] at h; cases h
      | some y => rw [q1, q] at h; cases h; simp [rsO_len q]
theorem rsO_at {env : Env} : ∀ {as : List AV} {os : List O} {k : Nat} {o : O}, rsO env as = some os → os[k]? = some o → (∃ x, as[k]? = some (.d x) ∧ o = .fr x) ∨ (∃ i, as[k]? = some (.s i) ∧ env[i]? = some (some o))
  | [], _, _, _, h, e => by cases h; simp at e
  | .d x :: as, os, k, o, h, e => by
    unfold rsO at h
    cases q : rsO env as with
    | none => rw [q] at h; cases h
    | some y =>
      rw [q] at h; cases h
      cases k with
      | zero => simp at e; subst e; exact .inl ⟨x, rfl, rfl⟩
      | succ k => rcases rsO_at (k := k) q (by simpa using e) with ⟨x, a, b⟩ | ⟨i, a, b⟩
                  · exact .inl ⟨x, by simpa using a, b⟩
                  · exact .inr ⟨i, by simpa using a, b⟩
  | .s i :: as, os, k, o, h, e => by
    unfold rsO at h
    cases q1 : (env[i]?).join with
    | none => rw [q1] at h; cases h
    | some o1 =>
      cases q : rsO env as with
      | none => rw [q1, q] at h; cases h
      | some y =>
        rw [q1, q] at h; cases h
        cases k with
        | zero =>
          simp at e; subst e
          refine .inr ⟨i, rfl, ?_⟩
          cases z : env[i]? with
          | none => rw [z] at q1; cases q1
          | some w => rw [z] at q1; cases w <;> cases q1; rfl
        | succ k => rcases rsO_at (k := k) q (by simpa using e) with ⟨x, a, b⟩ | ⟨i, a, b⟩
                    · exact .inl ⟨x, by simpa using a, b⟩
                    · exact .inr ⟨i, by simpa using a, b⟩
theorem av_len {K : PySem.W.Frag} {I : Hp} {σ : St} : ∀ {as : List AV} {vs : List V}, RepAV K I σ as vs → vs.length = as.length
  | _, _, .nil => rfl
  | _, _, .d _ t => by simp [av_len t]
  | _, _, .s _ t => by simp [av_len t]
theorem av_at {K : PySem.W.Frag} {I : Hp} {σ : St} : ∀ {as : List AV} {vs : List V} {k : Nat} {a : AV}, RepAV K I σ as vs → as[k]? = some a → ∃ v, vs[k]? = some v ∧ (match a with | .d x => Rp K I v x | .s i => σ[i]? = some (some v))
  | _, _, _, _, .nil, h => by simp at h
  | _, _, 0, _, .d r t, h => by simp at h; subst h; exact ⟨_, rfl, r⟩
  | _, _, 0, _, .s r t, h => by simp at h; subst h; exact ⟨_, rfl, r⟩
  | _, _, k + 1, a, .d r t, h => by obtain ⟨v, h1, h2⟩ := av_at (k := k) t (by simpa using h); exact ⟨v, by simpa using h1, h2⟩
  | _, _, k + 1, a, .s r t, h => by obtain ⟨v, h1, h2⟩ := av_at (k := k) t (by simpa using h); exact ⟨v, by simpa using h1, h2⟩
section
variable {g : G} {σ : St} {I H : Hp} {env : Env} {F : Nat → List Addr}
/-- the caller's frame lends some of its slots -/
def lend (as : List AV) (F : Nat → List Addr) : Nat → List Addr := fun k => match as[k]? with
  | some (.s i) => F i
  | _ => []
theorem sim_lend {K : PySem.W.Frag} {π : Pn} {as : List AV} {vs : List V} {os : List O} (s : Sim K π I H σ env F) (nd : ndS as = true) (av : RepAV K I σ as vs) (ro : rsO env as = some os) : Sim K (p0 π.2.2) I H (vs.map some) (os.map some) (lend as F) := by
  refine ⟨by simp [rsO_len ro, av_len av], fun k o q => ?_, fun k q => ?_, fun k l a h1 h2 => ?_, fun k a h => ?_, s.sub, (fun i hi => by cases hi), s.tab⟩
  · rcases rsO_at ro (getm q) with ⟨x, h1, rfl⟩ | ⟨i, h1, h2⟩
    · obtain ⟨v, e1, r⟩ := av_at av h1
      exact ⟨v, putm e1, by unfold lend; rw [h1]; exact ⟨rfl, r⟩⟩
    · obtain ⟨v, e1, r⟩ := av_at av h1
      obtain ⟨v', e2, r'⟩ := s.rep i o h2
      have r : σ[i]? = some (some v) := r
      rw [r] at e2; cases e2
      exact ⟨v, putm e1, by unfold lend; rw [h1]; exact r'⟩
  · unfold lend
    cases z : as[k]? with
    | none => rfl
    | some y =>
      cases y with
      | d x => rfl
      | s i =>
        have hk : k < os.length := by
          rw [rsO_len ro]
          cases Nat.lt_or_ge k as.length with
          | inl h => exact h
          | inr h => rw [List.getElem?_eq_none h] at z; cases z
        exact absurd (putm (List.getElem?_eq_getElem hk)) (q _)
  · unfold lend at h1 h2
    cases z1 : as[k]? with
    | none => rw [z1] at h1; cases h1
    | some y1 =>
      cases z2 : as[l]? with
      | none => rw [z2] at h2; cases h2
      | some y2 =>
        rw [z1] at h1; rw [z2] at h2
        cases y1 with
        | d _ => cases h1
        | s i =>
          cases y2 with
          | d _ => cases h2
          | s j =>
            have e := s.dis i j a h1 h2
            subst e
            have e1 := sl_of nd z1
            rw [sl_of nd z2] at e1
            exact (Option.some.inj e1).symm
  · unfold lend at h
    cases z1 : as[k]? with
    | none => rw [z1] at h; cases h
    | some y =>
      rw [z1] at h
      cases y with
      | d _ => cases h
      | s i => exact s.djI i a h
theorem lend_ow {as : List AV} {a : Addr} (h : Ow (lend as F) a) : ∃ (k i : Nat), as[k]? = some (AV.s i) ∧ a ∈ F i := by
  obtain ⟨k, hk⟩ := h
  unfold lend at hk
  cases z : as[k]? with
  | none => rw [z] at hk; cases hk
  | some y =>
    rw [z] at hk
    cases y with
    | d _ => cases hk
    | s i => exact ⟨k, i, z, hk⟩
theorem back_call {K : PySem.W.Frag} {π : Pn} {as : List AV} {vs : List V} {os os' : List O} {o : O} {v : V} {H' : Hp} (s : Sim K π I H σ env F) (nd : ndS as = true) (av : RepAV K I σ as vs) (ro : rsO env as = some os)
    (af : Aft K (p0 π.2.2) I H (lend as F) (vs.map some) (os'.map some) o v H') : Aft K π I H F σ (putB as os' env) o v H' := by
  obtain ⟨I', FA, R, r, sA, nR, dR, st⟩ := af
  have hlo : os'.length = as.length := by
    have := sA.len
    simp only [List.length_map] at this
    rw [this, av_len av]
  have hin : ∀ j, (sl as j).isSome = true → j < env.length := fun j hj => by
    cases q : sl as j with
    | none => rw [q] at hj; cases hj
    | some k =>
      obtain ⟨w, _, e1⟩ := av_at av (sl_some q)
      have e1 : σ[j]? = some (some w) := e1
      rw [s.len]
      cases Nat.lt_or_ge j σ.length with
      | inl h => exact h
      | inr h => rw [List.getElem?_eq_none h] at e1; cases e1
  let F2 : Nat → List Addr := fun i => match sl as i with
    | some k => FA k
    | none => F i
  have notL : ∀ i, sl as i = none → ∀ a ∈ F i, ¬ Ow (lend as F) a := fun i hn a ha h => by
    obtain ⟨k, j, e1, e2⟩ := lend_ow h
    have e := s.dis i j a ha e2
    subst e
    rw [sl_of nd e1] at hn; cases hn
  have F2s : ∀ {i k}, sl as i = some k → F2 i = FA k := fun {i k} h => by show (match sl as i with | some k => FA k | none => F i) = _; rw [h]
  have F2n : ∀ {i}, sl as i = none → F2 i = F i := fun {i} h => by show (match sl as i with | some k => FA k | none => F i) = _; rw [h]
  have keepH : ∀ i, sl as i = none → ∀ a ∈ F i, H' a = H a := fun i hn a ha => by
    obtain ⟨u, hu, nu⟩ := s.domN ha
    rw [hu, st.fr a u hu (notL i hn a ha) nu]
  have nA : ∀ i, sl as i = none → ∀ a ∈ F i, ∀ k, a ∉ FA k := fun i hn a ha k hk => by
    obtain ⟨u, hu⟩ := s.dom ha
    rcases st.s' a (.inl ⟨k, hk⟩) with z | z
    · exact notL i hn a ha z
    · rw [hu] at z; cases z
  have ow : ∀ a, Ow F2 a → Ow FA a ∨ ∃ i, sl as i = none ∧ a ∈ F i := fun a ⟨i, hi⟩ => by
    cases q : sl as i with
    | some k => rw [F2s q] at hi; exact .inl ⟨k, hi⟩
    | none => rw [F2n q] at hi; exact .inr ⟨i, q, hi⟩
  refine ⟨I', F2, R, r, ⟨by rw [putB_len, s.len], fun i y q => ?_, fun i q => ?_, fun i j a h1 h2 => ?_, fun i a h => ?_, sA.sub, s.pin, sA.tab⟩, nR, fun a ha hr => ?_, ⟨st.i1, fun a u h n nt => ?_, fun a u h n => ?_, fun a h => ?_, fun a u h => ?_⟩⟩
  · rw [putB_at nd hlo hin] at q
    cases z : sl as i with
    | none =>
      rw [z] at q
      obtain ⟨w, e1, rr⟩ := s.rep i y q
      exact ⟨w, e1, by rw [F2n z]; exact rr.mono st.i1 (keepH i z)⟩
    | some k =>
      rw [z] at q
      have q : (os'[k]?).map some = some (some y) := q
      cases z2 : os'[k]? with
      | none => rw [z2] at q; cases q
      | some y' =>
        rw [z2] at q; cases q
        obtain ⟨w, e1, rr⟩ := sA.rep k y (putm z2)
        obtain ⟨w', e2, e3⟩ := av_at av (sl_some z)
        have e3 : σ[i]? = some (some w') := e3
        have := getm e1
        rw [e2] at this; cases this
        exact ⟨_, e3, by rw [F2s z]; exact rr⟩
  · cases z : sl as i with
    | none =>
      rw [F2n z]
      exact s.out i fun o hz => q o (by rw [putB_at nd hlo hin, z]; exact hz)
    | some k =>
      rw [F2s z]
      refine sA.out k fun o hz => q o ?_
      rw [putB_at nd hlo hin, z]
      show (os'[k]?).map some = some (some o)
      rw [getm hz]; rfl
  · cases z1 : sl as i with
    | none =>
      rw [F2n z1] at h1
      cases z2 : sl as j with
      | none => rw [F2n z2] at h2; exact s.dis i j a h1 h2
      | some l => rw [F2s z2] at h2; exact absurd h2 (nA i z1 a h1 l)
    | some k =>
      rw [F2s z1] at h1
      cases z2 : sl as j with
      | none => rw [F2n z2] at h2; exact absurd h1 (nA j z2 a h2 k)
      | some l =>
        rw [F2s z2] at h2
        have e := sA.dis k l a h1 h2
        subst e
        have := sl_some z1
        rw [sl_some z2] at this
        cases this; rfl
  · cases z1 : sl as i with
    | none =>
      rw [F2n z1] at h
      cases q : I' a with
      | none => rfl
      | some u =>
        rcases st.i' a u q with y | y | y
        · rw [s.djI i a h] at y; cases y
        · exact (notL i z1 a h y).elim
        · obtain ⟨w, hw⟩ := s.dom h; rw [y] at hw; cases hw
    | some k => rw [F2s z1] at h; exact sA.djI k a h
  · rcases ow a ha with z | ⟨i, hn, hi⟩
    · exact dR a z hr
    · obtain ⟨u, hu⟩ := s.dom hi
      rcases st.s' a (.inr hr) with z | z
      · exact notL i hn a hi z
      · rw [hu] at z; cases z
  · refine st.fr a u h (fun z => n ?_) nt
    obtain ⟨k, i, _, hi⟩ := lend_ow z
    exact ⟨i, hi⟩
  · refine st.th a u h fun z => n ?_
    obtain ⟨k, i, _, hi⟩ := lend_ow z
    exact ⟨i, hi⟩
  · have lo : ∀ a, Ow (lend as F) a → Ow F a := fun a z => by obtain ⟨k, i, _, hi⟩ := lend_ow z; exact ⟨i, hi⟩
    rcases h with h | h
    · rcases ow a h with z | ⟨i, _, hi⟩
      · rcases st.s' a (.inl z) with y | y
        · exact .inl (lo a y)
        · exact .inr y
      · exact .inl ⟨i, hi⟩
    · rcases st.s' a (.inr h) with y | y
      · exact .inl (lo a y)
      · exact .inr y
  · rcases st.i' a u h with z | z | z
    · exact .inl z
    · obtain ⟨k, i, _, hi⟩ := lend_ow z
      exact .inr (.inl ⟨i, hi⟩)
    · exact .inr (.inr z)
theorem call_key {m : Fn} {as : List AF} {Q : VK} (h : tD g (fCall m as) σ H Q) : tA g as σ H fun vs H1 => spD g.K g.mg g.pn.2.2 m vs H1 Q g.E := by
  obtain ⟨I, env, F, s, p⟩ := h
  refine ⟨I, env, F, s, post_mono (post_bind.mp p) (fun r q vs H' I' F' s' st av => ?_) fun _ z => z⟩
  cases qo : rsO r.2 r.1 with
  | none => simp only [qo] at q; exact q.elim
  | some os =>
    simp only [qo] at q
    by_cases nd : ndS r.1 = true
    · rw [if_pos nd] at q
      refine ⟨I', os, lend r.1 F', sim_lend s' nd av qo, post_mono (post_bind.mp q) (fun y z v H'' af => ?_) fun x z H'' c d er xr => ?_⟩
      · exact z v H'' (Aft.trans st (back_call s' nd av qo af))
      · refine z H'' c d (Err.trans st ?_) xr
        obtain ⟨I2, e1, e2, ef, k⟩ := er
        have lo : ∀ a, Ow (lend r.1 F') a → Ow F' a := fun a z => by obtain ⟨_, i, _, hi⟩ := lend_ow z; exact ⟨i, hi⟩
        refine ⟨I2, e1, e2, ef, k.i1, fun a u hu n => k.fr a u hu fun z => n (lo a z), fun a u hu n => k.th a u hu fun z => n (lo a z), fun a z => z.elim, fun a u z => ?_⟩
        rcases k.i' a u z with y | y | y
        · exact .inl y
        · exact .inr (.inl (lo a y))
        · exact .inr (.inr y)
    · rw [if_neg nd] at q; exact q.elim
end
section
variable {g : G} {X : Cx} {k : Nat} {f : Addr} {fd : FuncData} {ps : List Str} {m : Fn} {x : Str} {p pos : Pos} {e : Expr} {es : List Expr} {as : List AF}
theorem de_call (F : FnG X.prog X.w X.K X.mg X.base k f fd ps (spD g.K g.mg g.pn.2.2 m)) (hgd : X.A.guards = some []) (hr : Room k X.A) (hg : Gl X x) (hm : X.mg x = some (.ref f)) (hk : PySem.W.keepIn X.K (.ref f) = true) (hb : Binds X.K fd ps []) (hx : Passes (L2.CX X.prog X.w) X g.E)
    (ha : DA g X (e :: es) as) (hdb : (x == ("__debug__" : Str)) = false := by decide) (he : starEach (e :: es) X.env = (false, eval e X.env) :: starEach es X.env := by rfl) (hpl : (backTo pos (starEach es X.env)).any (·.1) = false := by rfl) :
    DE g X (.Call (.Name x p) (e :: es) [] pos) (fCall m as) := PE.imp (peG F hgd hr hg hm hk hb hx ha hdb he hpl) fun σ H Q h => call_key h
end
end Dy
namespace Dy
open PySem PySem.Spec PyProof.Rows L2
/-- the script's ints as data -/
theorem rp_ints {K : PySem.W.Frag} {I : Hp} : ∀ ns : List Int, RpAll K I (ns.map V.int) (ns.map PyData.int)
  | [] => .nil
  | n :: ns => .cons (.int n) (rp_ints ns)
end Dy
namespace Dy
open PySem PySem.Spec PyProof.Rows L2
open AutoSeq1 (wpAny_loadPart')
theorem meets_enum1 {v : Value} {o : Obj} {Hh : Heap → Prop} (B : Begins v o Hh) :
    Meets (Builtin.«enumerate.__new__» ⟨[.type "enumerate", v], []⟩) (fun _ R s => Hh s.heap ∧ R (.ok (.ret (.ref (s.heap.push o).objs.size))) { s with heap := (s.heap.push o).push { cls := .type "enumerate", data := .fields #[.none, .bool false, .ref s.heap.objs.size, rawInt 0, .none, .none] } }) :=
  .of_wp fun prog w A R s h => by
    obtain ⟨hp, gg, dd, tk, os⟩ := s
    obtain ⟨h1, h⟩ := h
    have hsub := sub_enumerate
    have q1 : ∀ {A' : Around} {E : Value → Shared → Prop} {Q : Value → Shared → Prop}, Q (.ref hp.objs.size) ⟨hp.push o, gg, dd, tk, os⟩ → wpAny (model prog w) A' (pyIter v) Q E ⟨hp, gg, dd, tk, os⟩ := by
      intro A' E Q q
      exact B.iter prog w _ _ ⟨hp, gg, dd, tk, os⟩ _ h1 q
    wp_walk using q1
    refine wpAny_stack_any fun stk => wpAny_pure ?_
    split
    · rename_i c _ _ _ _ _
      cases (c == Value.type "enumerate") <;> (wp_walk using q1; exact ⟨_, rfl, h⟩)
    · wp_walk using q1
      exact ⟨_, rfl, h⟩
theorem call_enum1 {prog : Program} {w : World} {A : Around} {E : Value → Shared → Prop} {s : Shared} {v : Value} {o : Obj} {Hh : Heap → Prop} {Q : Value → Shared → Prop} (B : Begins v o Hh) (h1 : Hh s.heap)
    (h : ∀ h', IsEnum h' (s.heap.objs.size + 1) s.heap.objs.size 0 .none → h'.get? s.heap.objs.size = some o → (∀ b o, s.heap.get? b = some o → h'.get? b = some o) → Q (.ref (s.heap.objs.size + 1)) { s with heap := h' }) :
    wpAny (model prog w) A (call (.type "enumerate") [v]) Q E s := by
  refine callType_new F.called_enumerate (by decide) (F.typeCall_enumerate_1 _) (F.newCall_enumerate_1 _) (fun obj => F.args_object_init_2 obj _) F.entry_enumerate_new (meets_enum1 B) ⟨h1, ?_⟩
  have hz : (s.heap.push o).objs.size = s.heap.objs.size + 1 := Heap.size_push ..
  let en : Obj := { cls := .type "enumerate", data := .fields #[.none, .bool false, .ref s.heap.objs.size, rawInt 0, .none, .none] }
  have he : IsEnum ((s.heap.push o).push en) (s.heap.objs.size + 1) s.heap.objs.size 0 .none := by
    have q := Heap.get?_push_size (s.heap.push o) (o := en) rfl
    rw [hz] at q
    exact q
  show _ ∧ _
  rw [hz]
  exact ⟨⟨_, he, rfl⟩, h _ he (Heap.get?_push_of_some _ (Heap.get?_push_size _ B.free)) fun b u x => Heap.get?_push_of_some _ (Heap.get?_push_of_some _ x)⟩
def SqX (t : Bool) (K : PySem.W.Frag) (H : Hp) (a : Addr) (xs : List V) : Prop := if t = true then SqT K H a xs else SqL K H a xs
def IsX (t : Bool) (h : Heap) (a : Addr) (items : Array Value) : Prop := if t = true then h.IsTuple a items else h.IsList a items
def ItX (t : Bool) (h : Heap) (it a : Addr) (i : Nat) : Prop := if t = true then h.IsTupleIter it a i else h.IsListIter it a i
def itO (t : Bool) (a : Addr) : Obj := if t = true then { cls := .type "tuple_iterator", data := .fields #[.ref a, .int 0 0] } else { cls := .type "list_iterator", data := .fields #[.ref a, .int 0 0] }
theorem begX (t : Bool) (a : Addr) (items : Array Value) : Begins (.ref a) (itO t a) fun h => IsX t h a items := by
  cases t
  · exact begins_list a items
  · exact begins_tuple a items
theorem itX_new {t : Bool} {h : Heap} {it a : Addr} (e : h.get? it = some (itO t a)) : ItX t h it a 0 := by
  cases t
  · exact ⟨_, e, rfl, rfl⟩
  · exact ⟨_, e, rfl, rfl⟩
theorem drX {prog : Program} {w : World} {A : Around} (hh : A.handled = none) (t : Bool) (it a : Addr) (hne : a ≠ it) (items : Array Value) : Draws prog w A it [it, a] items.size (fun i v => items[i]? = some v) (fun i h => ItX t h it a i ∧ IsX t h a items) := by
  cases t
  · exact Draws.list hh it a hne items
  · exact Draws.tuple hh it a hne items
theorem itX_obj {t : Bool} {h : Heap} {it a : Addr} {i : Nat} (x : ItX t h it a i) : ∃ o, h.get? it = some o ∧ ∀ v, o.data ≠ .cell v := by
  cases t
  · obtain ⟨o, e, _, d⟩ := x
    exact ⟨o, e, fun v z => by rw [d] at z; cases z⟩
  · obtain ⟨o, e, _, d⟩ := x
    exact ⟨o, e, fun v z => by rw [d] at z; cases z⟩
theorem itX_at {t : Bool} {h h' : Heap} {it a : Addr} {i : Nat} (x : ItX t h it a i) (k : ∀ o, h.get? it = some o → h'.get? it = some o) : ItX t h' it a i := by
  cases t
  · obtain ⟨o, e, r⟩ := x
    exact ⟨o, k o e, r⟩
  · obtain ⟨o, e, r⟩ := x
    exact ⟨o, k o e, r⟩
section
variable {X : Cx} {pins : List (Addr × Obj)} {σ : St} {H : Hp} {s : Shared} {a : Addr} {xs ys : List V} {t : Bool}
theorem invX (J : Inv X pins σ H s) (h : SqX t X.K H a xs) : ∃ its : List Value, Vals xs its ∧ IsX t s.heap a its.toArray ∧ a < s.heap.objs.size := by
  cases t
  · obtain ⟨its, r, p, _⟩ := J.list h
    exact ⟨its, r, p.isList, by obtain ⟨_, _, e, _⟩ := p; exact Heap.lt_size e⟩
  · obtain ⟨its, r, p, _⟩ := J.tuple h
    exact ⟨its, r, p, by obtain ⟨_, e, _⟩ := p; exact Heap.lt_size e⟩
theorem invX_inj (J : Inv X pins σ H s) (h : SqX t X.K H a xs) (h' : SqX t X.K H a ys) : xs = ys := by
  cases t
  · exact J.list_inj h h'
  · exact J.tuple_inj h h'
end
/-- enumerate -/
def ItEn (t : Bool) (K : PySem.W.Frag) (a : Addr) : It :=
  ⟨fun i H => ∃ (xs : List V) (x : V), SqX t K H a xs ∧ xs[i]? = some x, fun i H v H' => ∃ T x, v = .ref T ∧ H T = none ∧ H' = upd H T (.tup [.int (i : Nat), x]) ∧ ∀ xs, SqX t K H a xs → xs[i]? = some x, fun i H => ∃ xs : List V, SqX t K H a xs ∧ xs.length = i⟩
theorem turn_en {P : Program} {w : World} {K : PySem.W.Frag} {elts : List Expr} {kk : Nat} {tpos : Pos} (t : Bool) (a e it : Addr) (hai : a ≠ it) (hae : a ≠ e) :
    Turn P w K (.Tuple elts kk tpos) (ItEn t K a) [e, it] e (fun i h => (∃ old, IsEnum h e it ((i : Nat) : Int) old) ∧ ItX t h it a i ∧ e ≠ it) where
  mem := by simp
  obj := by
    rintro i h ⟨⟨old, he⟩, hx, _⟩ b hb
    simp only [List.mem_cons, List.not_mem_nil, or_false] at hb
    rcases hb with rfl | rfl
    · exact ⟨_, he, fun v q => nomatch q⟩
    · exact itX_obj hx
  keep := by
    rintro i h h' ⟨⟨old, he⟩, hx, hne⟩ k
    exact ⟨⟨old, k e (by simp) _ he⟩, itX_at hx fun o q => k it (by simp) o q, hne⟩
  item := by
    intro X hP hw hK hc i pins s σ H E J hf stt hg
    subst hP hw hK
    obtain ⟨⟨old, he⟩, hit, hne⟩ := stt
    obtain ⟨xs, x, hq, hx⟩ := hg
    obtain ⟨its, rv, p, _⟩ := invX J hq
    obtain ⟨u, hu, ru⟩ := rv.get hx
    have hel : e < s.heap.objs.size := Heap.lt_size he
    have hil : it < s.heap.objs.size := by obtain ⟨_, q, _⟩ := itX_obj hit; exact Heap.lt_size q
    have hi : i < its.toArray.size := by
      rw [List.size_toArray]
      cases Nat.lt_or_ge i its.length with
      | inl z => exact z
      | inr z => rw [List.getElem?_eq_none z] at hu; cases hu
    refine wpAny_pyNext_enum_itemD (drX (A := X.A.in1) (J.ok.hd hc) t it a hai its.toArray) he ⟨hit, p⟩ hi hne (by simp only [List.mem_cons, List.not_mem_nil, or_false, not_or]; exact ⟨hne, Ne.symm hae⟩) fun y h' tk hy ho hst hT hsz hk => ?_
    have ey : y = u := by
      have hy : its.toArray[i]? = some y := hy
      have : its[i]? = some y := by simpa using hy
      rw [hu] at this; exact (Option.some.inj this).symm
    subst ey
    refine ⟨_, rfl, wpAny_letOwnedTupleGo_enum (s := { s with heap := h', toks := tk + 1 }) ho fun h'' he' sb => ?_⟩
    have hT2 : h''.get? s.heap.objs.size = some { cls := .type "tuple", data := .seq #[.int i tk, y] } := (sb.2 _ (Nat.ne_of_gt hel)).trans hT
    have nw : ObjOk X.prog X.w (upd H s.heap.objs.size (.tup [.int (i : Nat), x])) h'' s.heap.objs.size (.tup [.int (i : Nat), x]) :=
      ⟨by show 2 ≤ sizeLine; decide, [.int i tk, y], .cons ⟨_, rfl⟩ (.cons ru .nil), ⟨_, hT2, rfl, _, rfl⟩⟩
    have J1 : Inv X pins σ (upd H s.heap.objs.size (.tup [.int (i : Nat), x])) { s with heap := h'', toks := tk + 1 } := by
      refine J.turnedNew (ch := [e, it]) (fun b ob hb q => ?_) hf (Nat.le_refl _) nw
      simp only [List.mem_cons, List.not_mem_nil, or_false, not_or] at hb
      exact (sb.2 b hb.1).trans (hk b ob hb.1 hb.2 q)
    refine ⟨.ref s.heap.objs.size, _, J1, rfl, ⟨_, x, rfl, J.hok.fresh (Nat.le_refl _), rfl, fun ys hy => by rw [invX_inj J hy hq]; exact hx⟩, ⟨⟨y, ?_⟩, itX_at hst.1 fun o q => (sb.2 it (Ne.symm hne)).trans q, hne⟩, fun b hb => ?_⟩
    · have e1 : ((i + 1 : Nat) : Int) = (i : Int) + 1 := by omega
      rw [e1]
      exact he'
    · simp only [List.mem_cons, List.not_mem_nil, or_false] at hb
      have hb' : b < s.heap.objs.size := by rcases hb with rfl | rfl <;> assumption
      rw [upd_ne (Nat.ne_of_lt hb')]
      exact (hf b (by simpa using hb)).1
  done := by
    intro X hP hw hK hc i pins s σ H E J hf stt hg
    subst hP hw hK
    obtain ⟨⟨old, he⟩, hit, hne⟩ := stt
    obtain ⟨xs, hq, hx⟩ := hg
    obtain ⟨its, rv, p, _⟩ := invX J hq
    obtain ⟨f0, f1, f2, f3, f4, f5⟩ := hf it (by simp)
    have hn : its.toArray.size = i := by rw [List.size_toArray, ← rv.length]; exact hx
    have D := drX (prog := X.prog) (w := X.w) (A := X.A.in1) (J.ok.hd hc) t it a hai its.toArray
    rw [hn] at D
    exact wpAny_pyNext_enum_endD D he ⟨hit, p⟩ fun h' eb => ⟨rfl, J.turned (t' := s.toks) (fun b o hb q => eb b o hb q) f0 f1 f3 f4 f5⟩
  self := by
    rintro A i s Q E ⟨⟨_, he⟩, _⟩ h
    exact wpAny_pyIter_enum he h
def iEn (K : PySem.W.Frag) (ta : TA) : TI := fun σ H R => ta σ H fun vs H1 => ∃ a t xs, vs = [.ref a] ∧ SqX t K H1 a xs ∧ R (ItEn t K a) H1
theorem pi_en {X : Cx} {e : Expr} {ta : TA} {p pos tpos : Pos} {elts : List Expr} {kk : Nat} (hg : Gl X "enumerate") (hm : X.mg "enumerate" = none) (ha : PA X [e] ta) (hs : starEach [e] X.env = [(false, eval e X.env)] := by rfl) :
    PI X (.Tuple elts kk tpos) (.Call (.Name "enumerate" p) [e] [] pos) (iEn X.K ta) := by
  refine ⟨fun pins s σ H R J h => ?_⟩
  refine Call_ (ld_blt J hg hm boot_enumerate (PyProof.Rows.callWith_type1 (thn (ha.run pos pins s σ H _ J h) ?_) hs rfl))
  rintro us s1 ⟨vs, H1, J1, r1, a, t, xs, rfl, hq, q⟩
  cases r1 with
  | cons r rr =>
    cases rr
    cases r
    obtain ⟨its, rv, p', hlt⟩ := invX J1 hq
    refine call_enum1 (begX t a its.toArray) p' fun h' he hit hk => wpAny_pyIter_enum he ?_
    have J2 : Inv X pins σ H1 { s1 with heap := h' } := J1.kept (t' := s1.toks) hk
    refine ⟨s1.heap.objs.size + 1, [s1.heap.objs.size + 1, s1.heap.objs.size], _, _, H1, rfl, J2, turn_en t a (s1.heap.objs.size + 1) s1.heap.objs.size (Nat.ne_of_lt hlt) (Nat.ne_of_lt (Nat.lt_succ_of_lt hlt)), ⟨⟨.none, he⟩, itX_new hit, Nat.succ_ne_self _⟩, fun b hb => ?_, q⟩
    have hle : s1.heap.objs.size ≤ b := by
      simp only [List.mem_cons, List.not_mem_nil, or_false] at hb
      rcases hb with z | z
      · rw [z]; exact Nat.le_succ _
      · rw [z]; exact Nat.le_refl _
    exact J1.fpOk hle (J1.hok.fresh hle)
end Dy
namespace Dy
open PySem PySem.Spec PyProof.Rows L2
def kindK : PyData → Option Bool
  | .int _ => some false
  | .str _ => some false
  | .tuple xs => match keysOf xs with
    | some ks => if NestedKey.depthAll ks ≤ 7 then some true else none
    | none => none
  | _ => none
def okK (es : List (PyData × PyData)) (k : PyData) : Bool := match kindK k with
  | none => false
  | some b => match es with
    | [] => true
    | e :: _ => decide (kindK e.1 = some b)
def dAt (es : List (PyData × PyData)) (k : PyData) : Option PyData := (es.find? fun e => PyData.eqv e.1 k).map (·.2)
def dPut (es : List (PyData × PyData)) (k v : PyData) : List (PyData × PyData) := if (dAt es k).isSome = true then es.map fun e => if PyData.eqv e.1 k = true then (e.1, v) else e else es ++ [(k, v)]
mutual
theorem key_eqv : ∀ {a b : PyData} {n m : NestedKey}, keyOf a = some n → keyOf b = some m → PyData.eqv a b = NestedKey.beq n m
  | .none, b, n, m, ha, hb => by
    simp only [keyOf, Option.some.injEq] at ha; subst ha
    cases b <;> simp only [keyOf, Option.some.injEq, Option.map_eq_some_iff, reduceCtorEq] at hb
    · subst hb; rfl
    · subst hb; rfl
    · obtain ⟨ks, _, rfl⟩ := hb; rfl
  | .int i, b, n, m, ha, hb => by
    simp only [keyOf, Option.some.injEq] at ha; subst ha
    cases b <;> simp only [keyOf, Option.some.injEq, Option.map_eq_some_iff, reduceCtorEq] at hb
    · subst hb; rfl
    · subst hb
      simp only [PyData.eqv, NestedKey.beq]
      by_cases h : i = ‹Int› <;> simp [h]
    · obtain ⟨ks, _, rfl⟩ := hb; rfl
  | .tuple xs, b, n, m, ha, hb => by
    simp only [keyOf, Option.map_eq_some_iff] at ha
    obtain ⟨ks, h1, rfl⟩ := ha
    cases b with
    | none => simp only [keyOf, Option.some.injEq] at hb; subst hb; rfl
    | int i => simp only [keyOf, Option.some.injEq] at hb; subst hb; rfl
    | tuple ys =>
      simp only [keyOf, Option.map_eq_some_iff] at hb
      obtain ⟨ls, h2, rfl⟩ := hb
      simp only [PyData.eqv, NestedKey.beq]
      exact keys_eqv h1 h2
    | bool _ => simp [keyOf] at hb
    | str _ => simp [keyOf] at hb
    | list _ => simp [keyOf] at hb
    | dict _ => simp [keyOf] at hb
  | .bool _, _, _, _, ha, _ => by simp [keyOf] at ha
  | .str _, _, _, _, ha, _ => by simp [keyOf] at ha
  | .list _, _, _, _, ha, _ => by simp [keyOf] at ha
  | .dict _, _, _, _, ha, _ => by simp [keyOf] at ha
theorem keys_eqv : ∀ {a b : List PyData} {n m : List NestedKey}, keysOf a = some n → keysOf b = some m → PyData.eqvAll a b = NestedKey.beqAll n m
  | [], b, n, m, ha, hb => by
    simp only [keysOf, Option.some.injEq] at ha; subst ha
    cases b with
    | nil => simp only [keysOf, Option.some.injEq] at hb; subst hb; rfl
    | cons y ys =>
      simp only [keysOf, Option.bind_eq_some_iff, Option.map_eq_some_iff] at hb
      obtain ⟨k, _, ks, _, rfl⟩ := hb; rfl
  | x :: xs, b, n, m, ha, hb => by
    simp only [keysOf, Option.bind_eq_some_iff, Option.map_eq_some_iff] at ha
    obtain ⟨k, h1, ks, h2, rfl⟩ := ha
    cases b with
    | nil => simp only [keysOf, Option.some.injEq] at hb; subst hb; rfl
    | cons y ys =>
      simp only [keysOf, Option.bind_eq_some_iff, Option.map_eq_some_iff] at hb
      obtain ⟨l, h3, ls, h4, rfl⟩ := hb
      simp only [PyData.eqvAll, NestedKey.beqAll]
      rw [key_eqv h1 h3, keys_eqv h2 h4]
end
theorem key_dec {a b : PyData} {n m : NestedKey} (ha : keyOf a = some n) (hb : keyOf b = some m) : PyData.eqv a b = decide (n = m) := by rw [NestedKey.decide_eq]; exact key_eqv ha hb
theorem kD_dec (a b : Key) : PyData.eqv (kD a) (kD b) = decide (a = b) := by
  cases a <;> cases b <;> simp [kD, PyData.eqv]
  · rename_i x y; by_cases h : x = y <;> simp [h]
  · rename_i x y; by_cases h : x = y <;> simp [h]
theorem kind_t {k : PyData} (h : kindK k = some true) : ∃ n, keyOf k = some n ∧ n.depth ≤ 8 ∧ ∃ xs, k = .tuple xs := by
  cases k <;> simp only [kindK, reduceCtorEq, Option.some.injEq] at h
  rename_i xs
  split at h
  · rename_i ks q
    split at h
    · rename_i hz
      exact ⟨.tup ks, by simp [keyOf, q], by simp only [NestedKey.depth]; omega, _, rfl⟩
    · cases h
  · cases h
theorem kind_of {k : PyData} {n : NestedKey} (h1 : keyOf k = some n) (h2 : n.depth ≤ 8) {xs : List PyData} (h3 : k = .tuple xs) : kindK k = some true := by
  subst h3
  simp only [keyOf, Option.map_eq_some_iff] at h1
  obtain ⟨ks, h1, rfl⟩ := h1
  simp only [NestedKey.depth] at h2
  simp only [kindK, h1]
  rw [if_pos (by omega)]
theorem kind_f {k : PyData} (h : kindK k = some false) : ∃ y : Key, k = kD y := by
  cases k <;> simp only [kindK, reduceCtorEq, Option.some.injEq] at h
  · exact ⟨.inl _, rfl⟩
  · exact ⟨.inr _, rfl⟩
  · split at h
    · split at h <;> cases h
    · cases h
theorem kind_kD (y : Key) : kindK (kD y) = some false := by cases y <;> rfl
inductive VN (K : PySem.W.Frag) (I : Hp) : List (PyData × PyData) → List YP → Prop
  | nil : VN K I [] []
  | cons {kd d : PyData} {k : NestedKey} {b : Addr} {v : V} {u : Value} {es : List (PyData × PyData)} {ys : List YP} : keyOf kd = some k → k.depth ≤ 8 → Rp K I (.ref b) kd → Rp K I v d → RelV v u → VN K I es ys → VN K I ((kd, d) :: es) ((k, b, u) :: ys)
inductive VKs (K : PySem.W.Frag) (I : Hp) : List (PyData × PyData) → List (Key × Value) → Prop
  | nil : VKs K I [] []
  | cons {k : Key} {d : PyData} {v : V} {u : Value} {es : List (PyData × PyData)} {vs : List (Key × Value)} : Rp K I v d → RelV v u → VKs K I es vs → VKs K I ((kD k, d) :: es) ((k, u) :: vs)
section
variable {K : PySem.W.Frag} {I : Hp}
theorem VN.of : ∀ {ts : List TP} {es : List (PyData × PyData)} {ys : List YP}, RpKt K I ts es → Paired PY ts ys → VN K I es ys
  | _, _, _, .nil, .nil => .nil
  | _, _, _, .cons (kd := kd) h1 h2 h3 h4 t, .cons (b := y) p q => by
    obtain ⟨k, b, u⟩ := y
    obtain ⟨e1, e2, e3⟩ := p
    dsimp only at e1 e2 e3
    subst e1 e2
    exact .cons h1 h2 h3 h4 e3 (VN.of t q)
theorem VN.length : ∀ {es : List (PyData × PyData)} {ys : List YP}, VN K I es ys → es.length = ys.length
  | _, _, .nil => rfl
  | _, _, .cons _ _ _ _ _ t => by simp [t.length]
theorem VKs.of : ∀ {kvs : List (Key × V)} {es : List (PyData × PyData)} {vs : List (Key × Value)}, RpKv K I kvs es → KV kvs vs → VKs K I es vs
  | _, _, _, .nil, .nil => .nil
  | _, _, _, .cons h t, .cons (b := y) p q => by
    obtain ⟨k, u⟩ := y
    obtain ⟨e1, e2⟩ := p
    dsimp only at e1 e2
    subst e1
    exact .cons h e2 (VKs.of t q)
theorem VKs.length : ∀ {es : List (PyData × PyData)} {ys : List (Key × Value)}, VKs K I es ys → es.length = ys.length
  | _, _, .nil => rfl
  | _, _, .cons _ _ t => by simp [t.length]
theorem VN.at {kd : PyData} {n : NestedKey} (hk : keyOf kd = some n) : ∀ {es : List (PyData × PyData)} {ys : List YP}, VN K I es ys → (atKey ys n = none ∧ dAt es kd = none) ∨ ∃ b u v d, atKey ys n = some (b, u) ∧ dAt es kd = some d ∧ Rp K I v d ∧ RelV v u
  | _, _, .nil => .inl ⟨rfl, rfl⟩
  | _, _, .cons (kd := kd') (k := k') (b := b') h1 h2 h3 h4 h5 t => by
    have e := key_dec h1 hk
    by_cases c : k' = n
    · subst c
      right
      refine ⟨b', _, _, _, ?_, ?_, h4, h5⟩
      · unfold atKey; rw [List.find?_cons_of_pos (by simp)]; rfl
      · unfold dAt; rw [List.find?_cons_of_pos (by simp [e])]; rfl
    · rcases VN.at hk t with ⟨a1, a2⟩ | ⟨b, u, v, d, a1, a2, a3⟩
      · left
        refine ⟨?_, ?_⟩
        · simpa [atKey, List.find?_cons, c] using a1
        · simpa [dAt, List.find?_cons, e, c] using a2
      · right
        refine ⟨b, u, v, d, ?_, ?_, a3⟩
        · simpa [atKey, List.find?_cons, c] using a1
        · simpa [dAt, List.find?_cons, e, c] using a2
theorem VKs.at (k : Key) : ∀ {es : List (PyData × PyData)} {ys : List (Key × Value)}, VKs K I es ys → (valueAt ys k = none ∧ dAt es (kD k) = none) ∨ ∃ u v d, valueAt ys k = some u ∧ dAt es (kD k) = some d ∧ Rp K I v d ∧ RelV v u
  | _, _, .nil => .inl ⟨rfl, rfl⟩
  | _, _, .cons (k := k') h4 h5 t => by
    have e := kD_dec k' k
    by_cases c : k' = k
    · subst c
      right
      refine ⟨_, _, _, ?_, ?_, h4, h5⟩
      · unfold valueAt; rw [List.find?_cons_of_pos (by simp)]; rfl
      · unfold dAt; rw [List.find?_cons_of_pos (by simp [e])]; rfl
    · rcases VKs.at k t with ⟨a1, a2⟩ | ⟨u, v, d, a1, a2, a3⟩
      · left
        refine ⟨?_, ?_⟩
        · simpa [valueAt, List.find?_cons, c] using a1
        · simpa [dAt, List.find?_cons, e, c] using a2
      · right
        refine ⟨u, v, d, ?_, ?_, a3⟩
        · simpa [valueAt, List.find?_cons, c] using a1
        · simpa [dAt, List.find?_cons, e, c] using a2
theorem VN.app : ∀ {es fs : List (PyData × PyData)} {ys zs : List YP}, VN K I es ys → VN K I fs zs → VN K I (es ++ fs) (ys ++ zs)
  | _, _, _, _, .nil, s => s
  | _, _, _, _, .cons h1 h2 h3 h4 h5 t, s => .cons h1 h2 h3 h4 h5 (t.app s)
theorem VKs.app : ∀ {es fs : List (PyData × PyData)} {ys zs : List (Key × Value)}, VKs K I es ys → VKs K I fs zs → VKs K I (es ++ fs) (ys ++ zs)
  | _, _, _, _, .nil, s => s
  | _, _, _, _, .cons h4 h5 t, s => .cons h4 h5 (t.app s)
theorem VN.upd {kd d : PyData} {n : NestedKey} {v : V} {u : Value} (hk : keyOf kd = some n) (rv : Rp K I v d) (ru : RelV v u) : ∀ {es : List (PyData × PyData)} {ys : List YP}, VN K I es ys →
    VN K I (es.map fun e => if PyData.eqv e.1 kd = true then (e.1, d) else e) (ys.map (putAt n u))
  | _, _, .nil => .nil
  | _, _, .cons (kd := kd') (k := k') h1 h2 h3 h4 h5 t => by
    have e := key_dec h1 hk
    have ih := VN.upd hk rv ru t
    simp only [List.map_cons]
    by_cases c : k' = n
    · simp only [e, c, decide_true, if_true, putAt]; exact .cons (c ▸ h1) (c ▸ h2) h3 rv ru ih
    · simp only [e, c, decide_false, Bool.false_eq_true, if_false, putAt]; exact .cons h1 h2 h3 h4 h5 ih
theorem VKs.upd {k : Key} {d : PyData} {v : V} {u : Value} (rv : Rp K I v d) (ru : RelV v u) : ∀ {es : List (PyData × PyData)} {ys : List (Key × Value)}, VKs K I es ys →
    VKs K I (es.map fun e => if PyData.eqv e.1 (kD k) = true then (e.1, d) else e) (ys.map fun kv => if kv.1 = k then (kv.1, u) else kv)
  | _, _, .nil => .nil
  | _, _, .cons (k := k') h4 h5 t => by
    have e := kD_dec k' k
    have ih := VKs.upd (k := k) rv ru t
    simp only [List.map_cons]
    by_cases c : k' = k
    · subst c; rw [if_pos (by rw [e]; simp), if_pos rfl]; exact .cons rv ru ih
    · rw [if_neg (by rw [e]; simp [c]), if_neg c]; exact .cons h4 h5 ih
theorem VN.put {kd d : PyData} {n : NestedKey} {b : Addr} {v : V} {u : Value} {es : List (PyData × PyData)} {ys : List YP} (hk : keyOf kd = some n) (h8 : n.depth ≤ 8) (rb : Rp K I (.ref b) kd) (rv : Rp K I v d) (ru : RelV v u) (h : VN K I es ys) :
    VN K I (dPut es kd d) (storedH ys n b u) := by
  unfold dPut storedH
  rcases h.at hk with ⟨a1, a2⟩ | ⟨b', u', v', d', a1, a2, _⟩
  · rw [a1, a2]; exact h.app (.cons hk h8 rb rv ru .nil)
  · rw [a1, a2]; exact h.upd hk rv ru
theorem VKs.put {k : Key} {d : PyData} {v : V} {u : Value} {es : List (PyData × PyData)} {ys : List (Key × Value)} (rv : Rp K I v d) (ru : RelV v u) (h : VKs K I es ys) : VKs K I (dPut es (kD k) d) (stored ys k u) := by
  have ea : (ys.any fun kv => decide (kv.1 = k)) = (valueAt ys k).isSome := by
    clear h
    induction ys with
    | nil => rfl
    | cons x xs ih => by_cases c : x.1 = k <;> simp [valueAt, List.find?_cons, c] <;> simpa [valueAt] using ih
  unfold dPut stored
  rw [ea]
  rcases h.at k with ⟨a1, a2⟩ | ⟨u', v', d', a1, a2, _⟩
  · rw [a1, a2]; exact h.app (.cons rv ru .nil)
  · rw [a1, a2]; exact h.upd rv ru
theorem VN.key : ∀ {es : List (PyData × PyData)} {ys : List YP}, VN K I es ys → ∀ y ∈ ys, ∃ kd, keyOf kd = some y.1 ∧ y.1.depth ≤ 8 ∧ Rp K I (.ref y.2.1) kd
  | _, _, .nil, y, hy => nomatch hy
  | _, _, .cons h1 h2 h3 _ _ t, y, hy => by
    rcases List.mem_cons.mp hy with rfl | hy
    · exact ⟨_, h1, h2, h3⟩
    · exact t.key y hy
end
section
variable {X : Cx} {pins : List (Addr × Obj)} {σ : St} {I H : Hp} {s : Shared} {a : Addr} {es : List (PyData × PyData)} {k : PyData}
mutual
theorem key_is (J : Inv X pins σ H s) (sm : Same I H) : ∀ {d : PyData} {v : V} {n : NestedKey} {u : Value}, Rp X.K I v d → keyOf d = some n → RelV v u → NestedIs s.heap n u
  | .none, v, n, u, r, h, ru => by cases r; simp only [keyOf, Option.some.injEq] at h; subst h; cases (show u = Value.none from ru); exact .none
  | .int i, v, n, u, r, h, ru => by cases r; simp only [keyOf, Option.some.injEq] at h; subst h; obtain ⟨t, rfl⟩ := ru; exact .int _ _
  | .tuple xs, v, n, u, r, h, ru => by
    simp only [keyOf, Option.map_eq_some_iff] at h
    obtain ⟨ks, h1, rfl⟩ := h
    cases r with
    | @tup a vs _ hs ha =>
      cases (show u = Value.ref a from ru)
      obtain ⟨its, rv, ⟨o, h2, h3, m, h4⟩, _⟩ := J.tuple (same_t sm hs)
      exact .tup h2 h3 h4 (by simpa using keys_are J sm ha h1 rv)
  | .bool _, _, _, _, _, h, _ => by simp [keyOf] at h
  | .str _, _, _, _, _, h, _ => by simp [keyOf] at h
  | .list _, _, _, _, _, h, _ => by simp [keyOf] at h
  | .dict _, _, _, _, _, h, _ => by simp [keyOf] at h
theorem keys_are (J : Inv X pins σ H s) (sm : Same I H) : ∀ {ds : List PyData} {vs : List V} {ns : List NestedKey} {us : List Value}, RpAll X.K I vs ds → keysOf ds = some ns → Vals vs us → NestedAll s.heap ns us
  | [], vs, ns, us, r, h, rv => by
    cases r; cases rv
    simp only [keysOf, Option.some.injEq] at h; subst h; exact .nil
  | d :: ds, vs, ns, us, r, h, rv => by
    simp only [keysOf, Option.bind_eq_some_iff, Option.map_eq_some_iff] at h
    obtain ⟨k, h1, ks, h2, rfl⟩ := h
    cases r with
    | cons r1 r2 =>
      cases rv with
      | cons v1 v2 => exact .cons (key_is J sm r1 h1 v1) (keys_are J sm r2 h2 v2)
end
theorem rp_tup_ref {K : PySem.W.Frag} {v : V} {xs : List PyData} (h : Rp K I v (.tuple xs)) : ∃ b, v = .ref b := by cases h; exact ⟨_, rfl⟩
theorem rpkt_kind {K : PySem.W.Frag} {ts : List TP} {ys : List YP} (h : RpKt K I ts es) (p : Paired PY ts ys) : ∀ e ∈ es, kindK e.1 = some true := by
  induction es generalizing ts ys with
  | nil => intro e he; cases he
  | cons x es ih =>
    cases h with
    | cons h1 h2 h3 h4 t =>
      cases p with
      | @cons _ y _ _ p q =>
        intro e he
        rcases List.mem_cons.mp he with he | he
        · subst he
          obtain ⟨_, e2, _⟩ := p
          dsimp only at e2 ⊢
          subst e2
          cases h3 with
          | tup a b => exact kind_of h1 h2 rfl
          | lst a b => simp [keyOf] at h1
          | dic a b => simp [keyOf] at h1
          | dit a b => simp [keyOf] at h1
        · exact ih t q e he
theorem rd_obj {P : Program} {w : World} {H : Hp} {h : Heap} {a : Addr} {u : HO} (ok : HOk P w H h) (e : Rd H a u) : ObjOk P w H h a u := by
  rcases e with e | ⟨o, e⟩
  · exact ok a _ e
  · exact (show h.get? a = some o ∧ ObjOk P w H h a u from ok a _ e).2
theorem viewT {ts : List TP} (J : Inv X pins σ H s) (sm : Same I H) (h1 : Rd H a (dN a ts)) (h2 : RpKt X.K I ts es) :
    ∃ ys, VN X.K I es ys ∧ s.heap.DictOfH (nestedKind X.prog X.w) a ys ∧ es.length ≤ sizeLine ∧ (a == sysModules) = false := by
  obtain ⟨⟨hd, z, ys, py, o, es', ep, e1, e2, e3, e4, e5⟩, _⟩ := (rd_obj J.hok h1)
  have vn := VN.of h2 py
  refine ⟨ys, vn, ⟨o, es', ep, e1, e2, e3, e4 X.w, fun y hy => ?_, e5⟩, by rw [vn.length, ← Paired.length py]; exact z, hd⟩
  obtain ⟨kd, q1, q2, q3⟩ := vn.key y hy
  exact ⟨key_is J sm q3 q1 rfl, q2⟩
/-- a dict with tuples for keys, or empty -/
theorem viewN (J : Inv X pins σ H s) (sm : Same I H) (h : DrO X.K I H a es) (ok : okK es k = true) (hk : kindK k = some true) :
    ∃ ys, VN X.K I es ys ∧ s.heap.DictOfH (nestedKind X.prog X.w) a ys ∧ es.length ≤ sizeLine ∧ (a == sysModules) = false := by
  rcases h with ⟨kvs, h1, h2⟩ | ⟨ts, h1, h2⟩
  · have : es = [] := by
      cases h2 with
      | nil => rfl
      | cons r t => unfold okK at ok; rw [hk] at ok; simp only [decide_eq_true_eq] at ok; rw [kind_kD] at ok; cases ok
    subst this
    cases h2
    obtain ⟨z, hd, vs, rel, o, es', ep, e1, e2, e3, e4, e5, e6⟩ := dk_rd J.hok h1
    cases rel
    have e4' : es'.toList = [] := by
      have := e5
      cases q : es'.toList with
      | nil => rfl
      | cons x r => rw [q] at this; cases this
    exact ⟨[], .nil, ⟨o, es', ep, e1, e2, e3, e4', (fun x hx => by cases hx), List.nodup_nil⟩, Nat.zero_le _, hd⟩
  · exact viewT J sm h1 h2
theorem viewK {y : Key} (J : Inv X pins σ H s) (h : DrO X.K I H a es) (ok : okK es (kD y) = true) :
    ∃ vs, VKs X.K I es vs ∧ s.heap.DictOf (mixKind X.prog X.w) a vs ∧ es.length ≤ sizeLine ∧ (a == sysModules) = false := by
  rcases h with ⟨kvs, h1, h2⟩ | ⟨ts, h1, h2⟩
  · obtain ⟨z, hd, vs, rel, dd⟩ := dk_rd J.hok h1
    have vk := VKs.of h2 rel
    exact ⟨vs, vk, dd, by rw [vk.length, ← rel.length]; exact z, hd⟩
  · obtain ⟨⟨hd, z, ys, py, o, es', ep, e1, e2, e3, e4, e5⟩, _⟩ := (rd_obj J.hok h1)
    have : es = [] := by
      cases es with
      | nil => rfl
      | cons x r =>
        have := rpkt_kind h2 py x (by simp)
        unfold okK at ok; rw [kind_kD] at ok; simp only [decide_eq_true_eq] at ok
        rw [this] at ok; cases ok
    subst this
    cases h2; cases py
    have e4' : es' = #[] := by simpa using e4 X.w
    subst e4'
    exact ⟨[], .nil, ⟨o, #[], ep, e1, e2, e3, (fun e he => by simp at he), .nil, List.nodup_nil⟩, Nat.zero_le _, hd⟩
end
section
variable {P : Program} {w : World} {K : PySem.W.Frag} {I H : Hp} {h : Heap} {a : Addr} {es : List (PyData × PyData)}
end
/-- d[k] -/
def rDG (K : PySem.W.Frag) : R2 := fun x y H Q => ∃ a I es k d, x = .ref a ∧ Same I H ∧ DrO K I H a es ∧ Rp K I y k ∧ okK es k = true ∧ dAt es k = some d ∧ ∀ v, Rp K I v d → Q v H
/-- len(d) -/
def rDL (K : PySem.W.Frag) : List V → Hp → VK → Prop := fun xs H Q => ∃ a I es, xs = [.ref a] ∧ Same I H ∧ DrO K I H a es ∧ Q (.int ((es.length : Nat) : Int)) H
section
variable {X : Cx} {pins : List (Addr × Obj)} {σ : St} {I H : Hp} {s : Shared} {a : Addr} {es : List (PyData × PyData)} {k d : PyData} {y : V} {u : Value} {A : Around} {E : Value → Shared → Prop}
theorem kD_rel {k : Key} (r : Rp X.K I y (kD k)) : y = kV k := by
  cases k with
  | inl i => cases r; rfl
  | inr x => cases r; rfl
theorem okK_kind (h : okK es k = true) : kindK k = some true ∨ kindK k = some false := by
  unfold okK at h
  cases q : kindK k with
  | none => rw [q] at h; cases h
  | some b => cases b
              · exact .inr rfl
              · exact .inl rfl
theorem room8 {A : Around} (hu : A.units + 10 < cLine) : (nestedKind X.prog X.w).room A.in1 := by
  show A.in1.units + 8 < cLine
  have : A.in1.units = A.units + 1 := rfl
  omega
theorem di_typeIs (J : Inv X pins σ H s) (h : DrO X.K I H a es) : s.TypeIs (.ref a) "dict" ∧ (∀ b, Value.ref a = .ref b → ∃ ob, s.heap.get? b = some ob ∧ ob.dict = none) ∧ (a == sysModules) = false := by
  rcases h with ⟨kvs, h1, h2⟩ | ⟨ts, h1, h2⟩
  · exact isD_at J (.inl ⟨kvs, h1⟩)
  · obtain ⟨⟨hd, z, ys, py, o, es', ep, e1, e2, e3, e4, e5⟩, _⟩ := (rd_obj J.hok h1)
    exact ⟨⟨o, e1, e2.1⟩, fun b q => by cases q; exact ⟨o, e1, e2.2.1⟩, hd⟩
theorem dd_get {Q : Value → Shared → Prop} (hu : A.units + 10 < cLine) (J : Inv X pins σ H s) (sm : Same I H) (h : DrO X.K I H a es) (ry : Rp X.K I y k) (ru : RelV y u) (ok : okK es k = true) (hd : dAt es k = some d)
    (q : ∀ v w' s', Inv X pins σ H s' → Rp X.K I v d → RelV v w' → Q w' s') : wpAny (model X.prog X.w) A (getItem (.ref a) u) Q E s := by
  rcases okK_kind ok with hk | hk
  · obtain ⟨n, h1, h2, xs, rfl⟩ := kind_t hk
    obtain ⟨b, rfl⟩ := rp_tup_ref ry
    cases (show u = Value.ref b from ru)
    obtain ⟨ys, vn, dd, z, hs⟩ := viewN J sm h ok hk
    rcases vn.at h1 with ⟨_, e⟩ | ⟨b', u', v', d', e1, e2, e3, e4⟩
    · rw [e] at hd; cases hd
    · rw [e2] at hd; cases hd
      exact wpAny_getItem_heap (room8 hu) ⟨key_is J sm ry h1 rfl, h2⟩ dd e1 (q v' u' _ (J.tok _) e3 e4)
  · obtain ⟨k, rfl⟩ := kind_f hk
    obtain ⟨vs, vk, dd, z, hs⟩ := viewK J h ok
    have ey := kD_rel ry
    subst ey
    rcases vk.at k with ⟨_, e⟩ | ⟨u', v', d', e1, e2, e3, e4⟩
    · rw [e] at hd; cases hd
    · rw [e2] at hd; cases hd
      exact wpAny_getItem_of (kV_is ru) dd.mapOf e1 (q v' u' _ (J.tok _) e3 e4)
theorem ix_dict (hu : X.A.units + 10 < cLine) : IxR X (rDG X.K) := by
  intro value slice pins s σ H x y v u Q J rx ry h hs
  obtain ⟨a, I, es, k, d, rfl, sm, hd, rk, ok, e, q⟩ := h
  cases (show v = Value.ref a from rx)
  have hT := (di_typeIs J hd).1
  unfold subscriptTail
  refine wpAny_bind ?_
  rw [getitemInPython_of_ne hT.not_modules]
  refine wpAny_bind (wpAny_specialOf hT PySem.F.slot_dict_getitem.lookup ?_)
  have fin : wpAny (model X.prog X.w) X.A (subscripted slice false (.ref a) u) (fun r s₃ => wpAny (model X.prog X.w) X.A (letTemporaryGo value (.ref a) r >>= fun _ => pure r) (EP X pins σ Q) X.xe s₃) X.xe s := by
    rw [hs]
    exact wpAny_operating (dd_get hu J sm hd rk ry ok e fun v' w' s' J' r1 r2 => wpAny_bind (wpAny_letTemporaryGo (wpAny_pure ⟨v', H, J', r2, q v' r1⟩)))
  first
    | exact wpAny_pure (wpAny_bind fin)
    | exact wpAny_bind (wpAny_pure (wpAny_bind fin))
    | exact wpAny_bind fin
theorem rpkv_len {K : PySem.W.Frag} : ∀ {kvs : List (Key × V)} {es : List (PyData × PyData)}, RpKv K I kvs es → kvs.length = es.length
  | _, _, .nil => rfl
  | _, _, .cons _ t => by simp [rpkv_len t]
theorem call_lenDD : CallR X (.builtin "len") (rDL X.K) := by
  intro pins s σ H xs us Q J r h
  obtain ⟨a, I, es, rfl, sm, hd, q⟩ := h
  obtain ⟨u, rfl, rx⟩ := vals1 r
  cases (show u = Value.ref a from rx)
  rcases hd with ⟨kvs, h1, h2⟩ | ⟨ts, h1, h2⟩
  · refine d_len J h1 fun t s' J' => ?_
    rw [rpkv_len h2]
    exact ⟨.int _, H, J', ⟨t, rfl⟩, q⟩
  · obtain ⟨ys, vn, dd, z, hd⟩ := viewT J sm h1 h2
    refine call_len_dictH hd dd (by rw [← vn.length]; rw [sizeLine_eq] at z; omega) ?_
    rw [← vn.length]
    exact ⟨.int _, H, J.tok _, ⟨_, rfl⟩, q⟩
end
end Dy
namespace Dy
open PySem PySem.Spec PyProof.Rows L2
section
variable {K : PySem.W.Frag} {I H : Hp} {v u : V} {d e : PyData}
mutual
theorem Rp.dp (s : Same I H) : ∀ {v : V} {d : PyData}, Rp K I v d → d.canLay0 = true → Dp K H v d
  | _, _, .non, _ => .non
  | _, _, .bl b, _ => .bl b
  | _, _, .int i, _ => .int i
  | _, _, .str x, _ => .str x
  | _, _, .lst h a, c => .lst (h.mono s).sq (RpAll.dp s a (by simpa [PyData.canLay0] using c))
  | _, _, .tup h a, c => .tup (same_t s h) (RpAll.dp s a (by simpa [PyData.canLay0] using c))
  | _, _, .dic h a, c => by simp [PyData.canLay0] at c
  | _, _, .dit h a, c => by simp [PyData.canLay0] at c
theorem RpAll.dp (s : Same I H) : ∀ {vs : List V} {ds : List PyData}, RpAll K I vs ds → PyData.canLayAll0 ds = true → DpAll K H vs ds
  | _, _, .nil, _ => .nil
  | _, _, .cons h t, c => by
    simp only [PyData.canLayAll0, Bool.and_eq_true] at c
    exact .cons (Rp.dp s h c.1) (RpAll.dp s t c.2)
end
theorem RpS.dp (s : Same I H) (h : RpS K I H v d) (c : d.canLay0 = true) : Dp K H v d := by
  rcases h with h | ⟨a, vs, ds, rfl, rfl, h1, h2⟩ | ⟨a, es, rfl, rfl, h1⟩
  · exact h.dp s c
  · exact .lst (SqL.of h1) (h2.dp s (by simpa [PyData.canLay0] using c))
  · simp [PyData.canLay0] at c
theorem RpS.int {i : Int} (h : RpS K I H v (.int i)) : v = .int i := rpss_int h
theorem RpS.str {x : Str} (h : RpS K I H v (.str x)) : v = .str x := by
  rcases h with h | ⟨_, _, _, _, e, _⟩ | ⟨_, _, _, e, _⟩
  · cases h; rfl
  · cases e
  · cases e
theorem RpS.bl {x : Bool} (h : RpS K I H v (.bool x)) : v = .bl x := by
  rcases h with h | ⟨_, _, _, _, e, _⟩ | ⟨_, _, _, e, _⟩
  · cases h; rfl
  · cases e
  · cases e
theorem RpS.non (h : RpS K I H v .none) : v = .non := by
  rcases h with h | ⟨_, _, _, _, e, _⟩ | ⟨_, _, _, e, _⟩
  · cases h; rfl
  · cases e
  · cases e
theorem RpS.lst {ds : List PyData} (s : Same I H) (h : RpS K I H v (.list ds)) : ∃ a vs, v = .ref a ∧ LsL K H a vs ∧ RpAll K I vs ds := by
  rcases h with h | ⟨a, vs, ds, rfl, e, h1, h2⟩ | ⟨_, _, _, e, _⟩
  · cases h with
    | lst h1 h2 => exact ⟨_, _, rfl, h1.mono s, h2⟩
  · cases e; exact ⟨a, vs, rfl, .of h1, h2⟩
  · cases e
theorem RpS.tup {ds : List PyData} (s : Same I H) (h : RpS K I H v (.tuple ds)) : ∃ a vs, v = .ref a ∧ SqT K H a vs ∧ RpAll K I vs ds := by
  rcases h with h | ⟨_, _, _, _, e, _⟩ | ⟨_, _, _, e, _⟩
  · cases h with
    | tup h1 h2 => exact ⟨_, _, rfl, same_t s h1, h2⟩
  · cases e
  · cases e
theorem RpAll.ints : ∀ {vs : List V} {ns : List Int}, RpAll K I vs (ns.map PyData.int) → vs = ns.map V.int
  | _, [], h => by cases h; rfl
  | _, n :: ns, h => by
    cases h with
    | cons h t => cases h; rw [RpAll.ints t]; rfl
theorem RpAll.bools : ∀ {vs : List V} {ns : List Bool}, RpAll K I vs (ns.map PyData.bool) → vs = ns.map V.bl
  | _, [], h => by cases h; rfl
  | _, n :: ns, h => by
    cases h with
    | cons h t => cases h; rw [RpAll.bools t]; rfl
/-- all ints, all truths -/
def intsOf : List PyData → Option (List Int)
  | [] => some []
  | .int i :: ds => (intsOf ds).map (i :: ·)
  | _ => none
def boolsOf : List PyData → Option (List Bool)
  | [] => some []
  | .bool i :: ds => (boolsOf ds).map (i :: ·)
  | _ => none
theorem intsOf_inv : ∀ {ds : List PyData} {ns : List Int}, intsOf ds = some ns → ds = ns.map PyData.int
  | [], _, h => by cases h; rfl
  | .int i :: ds, ns, h => by
    unfold intsOf at h
    cases q : intsOf ds with
    | none => rw [q] at h; cases h
    | some ms => rw [q] at h; cases h; rw [intsOf_inv q]; rfl
  | .none :: _, _, h => by cases h
  | .bool _ :: _, _, h => by cases h
  | .str _ :: _, _, h => by cases h
  | .list _ :: _, _, h => by cases h
  | .tuple _ :: _, _, h => by cases h
  | .dict _ :: _, _, h => by cases h
theorem boolsOf_inv : ∀ {ds : List PyData} {ns : List Bool}, boolsOf ds = some ns → ds = ns.map PyData.bool
  | [], _, h => by cases h; rfl
  | .bool i :: ds, ns, h => by
    unfold boolsOf at h
    cases q : boolsOf ds with
    | none => rw [q] at h; cases h
    | some ms => rw [q] at h; cases h; rw [boolsOf_inv q]; rfl
  | .none :: _, _, h => by cases h
  | .int _ :: _, _, h => by cases h
  | .str _ :: _, _, h => by cases h
  | .list _ :: _, _, h => by cases h
  | .tuple _ :: _, _, h => by cases h
  | .dict _ :: _, _, h => by cases h
theorem intsOf_map (ns : List Int) : intsOf (ns.map PyData.int) = some ns := by
  induction ns with
  | nil => rfl
  | cons n ns ih => rw [List.map_cons, intsOf, ih]; rfl
theorem boolsOf_map (ns : List Bool) : boolsOf (ns.map PyData.bool) = some ns := by
  induction ns with
  | nil => rfl
  | cons n ns ih => rw [List.map_cons, boolsOf, ih]; rfl
end
theorem OpR.or {X : Cx} {f : Value → Value → Sem Value} {r r' : R2} (h : OpR X f r) (h' : OpR X f r') : OpR X f (fun x y H Q => r x y H Q ∨ r' x y H Q) := by
  intro pins s σ H x y v u Q J rx ry q
  rcases q with q | q
  · exact h pins s σ H x y v u Q J rx ry q
  · exact h' pins s σ H x y v u Q J rx ry q
section
variable {X : Cx} {K : PySem.W.Frag}
def rCatL (K : PySem.W.Frag) : R2 := fun x y H Q => ∃ l b xs zs, x = .ref l ∧ y = .ref b ∧ LsL K H l xs ∧ LsL K H b zs ∧ xs.length + zs.length ≤ sizeLine ∧ ∀ p, H p = none → Q (.ref p) (upd H p (.lst (xs ++ zs)))
theorem op_catL : OpR X (binaryOp .Add) (rCatL X.K) := by
  rintro pins s σ H x y v u Q J rx ry ⟨l, b, xs, zs, rfl, rfl, hl, hb, hz, q⟩
  cases rx
  cases ry
  obtain ⟨z, its, n, r, e0, e⟩ := hl.obj J
  obtain ⟨z2, its2, n2, r2, e20, e2⟩ := hb.obj J
  refine PySem.P.add_list e e2 ?_ (by rw [List.size_toArray, List.size_toArray, ← e0, ← e20]; exact hz)
  rw [show its.toArray ++ its2.toArray = (its ++ its2).toArray by simp]
  exact ⟨.ref _, _, J.lnew (t' := s.toks) (r.append r2) (by rw [List.length_append]; exact hz), rfl, q _ J.fresh⟩
def rAddS' : R2 := fun x y H Q => ∃ i j, x = .str i ∧ y = .str j ∧ i.length + j.length ≤ sizeLine ∧ Q (.str (i ++ j)) H
/-- + -/
def rAdd (K : PySem.W.Frag) : R2 := fun x y H Q => (rI0 (fun i j => .int (i + j)) x y H Q ∨ rCatL K x y H Q) ∨ (rCatA K x y H Q ∨ rAddS' x y H Q)
theorem op_addA : OpR X (binaryOp .Add) (rAdd X.K) := (op_add.or op_catL).or (op_catA.or op_add_str)
def pAdd : PyData → PyData → Option O
  | .int i, .int j => some (.fr (.int (i + j)))
  | .list xs, .list ys => if xs.length + ys.length ≤ 1000000 then some (.ol (xs ++ ys)) else none
  | .tuple xs, .tuple ys => if xs.length + ys.length ≤ 1000000 then some (.fr (.tuple (xs ++ ys))) else none
  | .str x, .str y => if x.length + y.length ≤ 1000000 then some (.fr (.str (x ++ y))) else none
  | _, _ => none
theorem six {n : Nat} (h : n ≤ 1000000) : n ≤ sizeLine := Nat.le_trans h (by decide)
theorem os_add : OpS K (two (rAdd K)) (on2 pAdd) := ops2 fun v u d e I H Q o s r1 r2 q k => by
  unfold pAdd at q
  split at q
  · cases q
    rw [r1.int, r2.int]
    exact .inl (.inl ⟨_, _, rfl, rfl, k _ _ _ _ (Grow.val s (.int _))⟩)
  · split at q
    · rename_i hz
      cases q
      obtain ⟨a, vs, rfl, h1, h2⟩ := r1.lst s
      obtain ⟨b, ws, rfl, h3, h4⟩ := r2.lst s
      exact .inl (.inr ⟨a, b, vs, ws, rfl, rfl, h1, h3, by rw [h2.length, h4.length]; exact six hz, fun p np => k _ _ _ _ (Grow.lst s np (h2.app h4))⟩)
    · cases q
  · split at q
    · rename_i hz
      cases q
      obtain ⟨a, vs, rfl, h1, h2⟩ := r1.tup s
      obtain ⟨b, ws, rfl, h3, h4⟩ := r2.tup s
      refine .inr (.inl ⟨a, b, vs, ws, rfl, rfl, h1, h3, by rw [h2.length, h4.length]; exact six hz, fun e => ?_, fun _ e => ?_, fun _ _ p np => k _ _ _ _ (Grow.tup s np (h2.app h4))⟩)
      · subst e
        cases h2
        exact k _ _ _ _ (Grow.val s (rps_rp r2 rfl))
      · subst e
        cases h4
        rw [List.append_nil] at k
        exact k _ _ _ _ (Grow.val s (rps_rp r1 rfl))
    · cases q
  · split at q
    · rename_i hz
      cases q
      rw [r1.str, r2.str]
      exact .inr (.inr ⟨_, _, rfl, rfl, six hz, k _ _ _ _ (Grow.val s (.str _))⟩)
    · cases q
  · cases q
def pSub : PyData → PyData → Option O
  | .int i, .int j => some (.fr (.int (i - j)))
  | _, _ => none
theorem os_sub : OpS K (two (rI0 fun i j => .int (i - j))) (on2 pSub) := ops2 fun v u d e I H Q o s r1 r2 q k => by
  unfold pSub at q
  split at q
  · cases q
    rw [r1.int, r2.int]
    exact ⟨_, _, rfl, rfl, k _ _ _ _ (Grow.val s (.int _))⟩
  · cases q
/-- * -/
def smI (i : Int) : Bool := decide (-(2 ^ 64) < i ∧ i < 2 ^ 64)
def muOk (i j : Int) : Bool := smI j || (smI i || decide (i.natAbs.log2 + j.natAbs.log2 < 1000000))
theorem muOk_ok {i j : Int} (h : muOk i j = true) : IntMulOk i j := by
  unfold muOk smI at h
  simp only [Bool.or_eq_true, decide_eq_true_eq] at h
  rcases h with h | h | h
  · exact CMul.ok (.inr h)
  · exact CMul.ok (.inl h)
  · exact CMulW.ok h
theorem op_mulM : OpR X (binaryOp .Mult) (rI (fun i j => muOk i j = true) fun i j => .int (i * j)) := opI fun _ _ _ _ _ _ _ hc q => mul_int q (muOk_ok hc)
def rRepL (K : PySem.W.Frag) : R2 := fun x y H Q => ∃ l k xs, x = .ref l ∧ y = .int k ∧ LsL K H l xs ∧ -(2 ^ 63) ≤ k ∧ k < 2 ^ 63 ∧ xs.length * k.toNat ≤ sizeLine ∧ ∀ p, H p = none → Q (.ref p) (upd H p (.lst (List.replicate k.toNat xs).flatten))
def pMul : PyData → PyData → Option O
  | .int i, .int j => if muOk i j = true then some (.fr (.int (i * j))) else none
  | .list xs, .int k => if k ≤ 100000 ∧ -100000 ≤ k ∧ xs.length * k.toNat ≤ 1000000 then some (.ol (List.replicate k.toNat xs).flatten) else none
  | .tuple xs, .int k => if xs.length ≤ 1000 ∧ 2 ≤ k ∧ k ≤ 1000 ∧ xs ≠ [] then some (.fr (.tuple (List.replicate k.toNat xs).flatten)) else none
  | _, _ => none
theorem RpAll.rep {I : Hp} {vs : List V} {ds : List PyData} (h : RpAll K I vs ds) : ∀ n : Nat, RpAll K I (List.replicate n vs).flatten (List.replicate n ds).flatten
  | 0 => .nil
  | n + 1 => by
    rw [List.replicate_succ, List.replicate_succ, List.flatten_cons, List.flatten_cons]
    exact h.app (h.rep n)
/-- // and % -/
def pDiv : PyData → PyData → Option O
  | .int i, .int j => if 0 < j ∧ j < 1073741824 then some (.fr (.int (i / j))) else none
  | _, _ => none
def pMod : PyData → PyData → Option O
  | .int i, .int j => if 0 < j then some (.fr (.int (i % j))) else none
  | _, _ => none
theorem os_mod : OpS K (two (rI (fun _ j => 0 < j) fun i j => .int (i % j))) (on2 pMod) := ops2 fun v u d e I H Q o s r1 r2 q k => by
  unfold pMod at q
  split at q
  · split at q
    · rename_i hc
      cases q
      rw [r1.int, r2.int]
      exact ⟨_, _, rfl, rfl, hc, k _ _ _ _ (Grow.val s (.int _))⟩
    · cases q
  · cases q
def pPow : PyData → PyData → Option O
  | .int i, .int j => if 0 ≤ j ∧ j ≤ 1000000 ∧ i.natAbs < 2 ^ 64 then some (.fr (.int (i ^ j.toNat))) else none
  | _, _ => none
theorem os_pow : OpS K (two (rI CPow fun i j => .int (i ^ j.toNat))) (on2 pPow) := ops2 fun v u d e I H Q o s r1 r2 q k => by
  unfold pPow at q
  split at q
  · split at q
    · rename_i hc
      cases q
      rw [r1.int, r2.int]
      exact ⟨_, _, rfl, rfl, hc, k _ _ _ _ (Grow.val s (.int _))⟩
    · cases q
  · cases q
def pNeg : PyData → Option O
  | .int i => some (.fr (.int (-i)))
  | _ => none
theorem os_neg : OpS K (one (rU fun i => .int (-i))) (on1 pNeg) := ops1 fun v d I H Q o s r1 q k => by
  unfold pNeg at q
  split at q
  · cases q
    rw [r1.int]
    exact ⟨_, rfl, k _ _ _ _ (Grow.val s (.int _))⟩
  · cases q
def cmI (c : Int → Int → Bool) : PyData → PyData → Option O
  | .int i, .int j => some (.fr (.bool (c i j)))
  | _, _ => none
theorem os_cmI {c : Int → Int → Bool} : OpS K (two (rI0 fun i j => .bl (c i j))) (on2 (cmI c)) := ops2 fun v u d e I H Q o s r1 r2 q k => by
  unfold cmI at q
  split at q
  · cases q
    rw [r1.int, r2.int]
    exact ⟨_, _, rfl, rfl, k _ _ _ _ (Grow.val s rbl)⟩
  · cases q
def shp (d : PyData) : Bool := SeqAt.shaped d
def pEq (d e : PyData) : Option O := match d, e with
  | .str a, .str b => some (.fr (.bool (decide (a = b))))
  | d, e => if shp d = true ∧ shp e = true then some (.fr (.bool (PyData.eqv d e))) else none
def pNe (d e : PyData) : Option O := match d, e with
  | .str a, .str b => some (.fr (.bool (!decide (a = b))))
  | d, e => if shp d = true ∧ shp e = true then some (.fr (.bool (!PyData.eqv d e))) else none
def rEqA (K : PySem.W.Frag) : R2 := fun x y H Q => rEqD K x y H Q ∨ rEq x y H Q
def rNeA (K : PySem.W.Frag) : R2 := fun x y H Q => rNeD K x y H Q ∨ rNe x y H Q
theorem op_eqA (hu : X.A.units + 64 < cLine) : OpR X (compareOp .Eq) (rEqA X.K) := (op_eqD hu).or op_eq
theorem op_neA (hu : X.A.units + 64 < cLine) : OpR X (compareOp .NotEq) (rNeA X.K) := (op_neD hu).or op_ne
theorem dec_str {a b : Str} : decide (V.str a = V.str b) = decide (a = b) := by
  by_cases h : a = b
  · subst h; simp
  · rw [decide_eq_false h, decide_eq_false fun z => h (V.str.inj z)]
theorem os_eq : OpS K (two (rEqA K)) (on2 pEq) := ops2 fun v u d e I H Q o s r1 r2 q k => by
  unfold pEq at q
  split at q
  · cases q
    rw [r1.str, r2.str]
    exact .inr ⟨rfl, by rw [dec_str]; exact k _ _ _ _ (Grow.val s rbl)⟩
  · split at q
    · rename_i hc
      cases q
      exact .inl ⟨_, _, r1.dp s (SeqAt.canLay_of_shaped hc.1), r2.dp s (SeqAt.canLay_of_shaped hc.2), hc.1, hc.2, k _ _ _ _ (Grow.val s rbl)⟩
    · cases q
theorem os_ne : OpS K (two (rNeA K)) (on2 pNe) := ops2 fun v u d e I H Q o s r1 r2 q k => by
  unfold pNe at q
  split at q
  · cases q
    rw [r1.str, r2.str]
    exact .inr ⟨rfl, by rw [dec_str]; exact k _ _ _ _ (Grow.val s rbl)⟩
  · split at q
    · rename_i hc
      cases q
      exact .inl ⟨_, _, r1.dp s (SeqAt.canLay_of_shaped hc.1), r2.dp s (SeqAt.canLay_of_shaped hc.2), hc.1, hc.2, k _ _ _ _ (Grow.val s rbl)⟩
    · cases q
def isN : PyData → Bool
  | .none => true
  | _ => false
def pIs (d e : PyData) : Option O := if isN e = true then some (.fr (.bool (isN d))) else none
def pIsn (d e : PyData) : Option O := if isN e = true then some (.fr (.bool (!isN d))) else none
theorem isN_rep {I H : Hp} {v : V} {d : PyData} (h : RpS K I H v d) : decide (v = .non) = isN d := by
  rcases h with h | ⟨_, _, _, rfl, rfl, _⟩ | ⟨_, _, rfl, rfl, _⟩
  · cases h <;> rfl
  · rfl
  · rfl
theorem os_is : OpS K (two fun x y H Q => y = .non ∧ Q (.bl (decide (x = .non))) H) (on2 pIs) := ops2 fun v u d e I H Q o s r1 r2 q k => by
  unfold pIs at q
  split at q
  · rename_i hc
    cases q
    have e1 := isN_rep r2
    rw [hc] at e1
    rw [isN_rep r1]
    exact ⟨of_decide_eq_true e1, k _ _ _ _ (Grow.val s rbl)⟩
  · cases q
def pIx : PyData → PyData → Option O
  | .list xs, .int i => (atI xs i).map .fr
  | .tuple xs, .int i => (atI xs i).map .fr
  | .str z, .int i => if z.length ≤ 1000000 then (atI z.cps.toList i).map fun c => .fr (.str ⟨#[c]⟩) else none
  | .dict es, k => if okK es k = true then (dAt es k).map .fr else none
  | _, _ => none
theorem okK_isL {es : List (PyData × PyData)} {k : PyData} (h : okK es k = true) : isL k = false := by
  cases k <;> first | rfl | (unfold okK kindK at h; cases h)
theorem rps_dict {I H : Hp} {v : V} {es : List (PyData × PyData)} (s : Same I H) (h : RpS K I H v (.dict es)) : ∃ a, v = .ref a ∧ DrO K I H a es := by
  rcases h with h | ⟨_, _, _, _, e, _⟩ | ⟨a, es', rfl, e, h⟩
  · cases h with
    | dic h1 h2 => exact ⟨_, rfl, .inl ⟨_, same_rd s h1, h2⟩⟩
    | dit h1 h2 => exact ⟨_, rfl, .inr ⟨_, same_rd s h1, h2⟩⟩
  · cases e
  · cases e; exact ⟨a, rfl, h.rd⟩
def rIxD (K : PySem.W.Frag) : R2 := fun x y H Q => rIx K x y H Q ∨ rDG K x y H Q
theorem ixD {X : Cx} (hu : X.A.units + 65 < cLine) : IxR X (rIxD X.K) := ix_seq.or (ix_dict (by omega))
theorem atI_rep {I : Hp} {vs : List V} {ds : List PyData} {i : Int} {d : PyData} (r : RpAll K I vs ds) (h : atI ds i = some d) : ∃ v, atI vs i = some v ∧ Rp K I v d := by
  unfold atI at h ⊢
  rw [r.length]
  cases q : ixN ds.length i with
  | none => rw [q] at h; cases h
  | some j =>
    rw [q] at h
    exact r.get h
theorem os_ix : OpS K (two (rIxD K)) (on2 pIx) := ops2 fun v u d e I H Q o s r1 r2 q k => by
  unfold pIx at q
  split at q
  · rename_i xs i
    cases z : atI xs i with
    | none => rw [z] at q; cases q
    | some x =>
      rw [z] at q; cases q
      obtain ⟨a, vs, rfl, h1, h2⟩ := r1.lst s
      obtain ⟨y, h3, h4⟩ := atI_rep h2 z
      rw [r2.int]
      exact .inl (.inl ⟨a, vs, i, y, rfl, rfl, h1.sq, h3, k _ _ _ _ (Grow.val s h4)⟩)
  · rename_i xs i
    cases z : atI xs i with
    | none => rw [z] at q; cases q
    | some x =>
      rw [z] at q; cases q
      obtain ⟨a, vs, rfl, h1, h2⟩ := r1.tup s
      obtain ⟨y, h3, h4⟩ := atI_rep h2 z
      rw [r2.int]
      exact .inl (.inr (.inl ⟨a, vs, i, y, rfl, rfl, h1, h3, k _ _ _ _ (Grow.val s h4)⟩))
  · rename_i z i
    split at q
    · rename_i hz
      cases y : atI z.cps.toList i with
      | none => rw [y] at q; cases q
      | some c =>
        rw [y] at q; cases q
        rw [r1.str, r2.int]
        exact .inl (.inr (.inr ⟨z, i, c, rfl, rfl, six hz, y, k _ _ _ _ (Grow.val s (.str _))⟩))
    · cases q
  · rename_i es
    split at q
    · rename_i hc
      cases z : dAt es e with
      | none => rw [z] at q; cases q
      | some x =>
        rw [z] at q; cases q
        obtain ⟨a, rfl, h1⟩ := rps_dict s r1
        exact .inr ⟨a, I, es, e, x, rfl, s, h1, rps_rp r2 (okK_isL hc), hc, z, fun v r => k _ _ _ _ (Grow.val s r)⟩
    · cases q
  · cases q
def cutD {α : Type} (xs : List α) (lo hi : Option Int) : List α := (xs.drop (HT.sIx xs.length 0 lo)).take (HT.sIx xs.length xs.length hi - HT.sIx xs.length 0 lo)
theorem cut_rep {I : Hp} {vs : List V} {ds : List PyData} (r : RpAll K I vs ds) (lo hi : Option Int) : RpAll K I (cutV vs lo hi) (cutD ds lo hi) := by
  unfold cutV cutD
  rw [r.length]
  exact (r.drops _).takes _
def pSl (d : PyData) (lo hi : Option Int) : Option O := match d with
  | .list xs => some (.ol (cutD xs lo hi))
  | .tuple xs => some (.fr (.tuple (cutD xs lo hi)))
  | .str z => if z.length ≤ 1000000 then some (.fr (.str (cutS z lo hi))) else none
  | _ => none
def rSlX' (K : PySem.W.Frag) : V → Option Int → Option Int → Hp → VK → Prop := fun x lo hi H Q => (rSlL K x lo hi H Q ∨ rSlA K x lo hi H Q) ∨ rSlS x lo hi H Q
theorem sl_any : SlR X (rSlX' X.K) := (sl_list.or sl_tupA).or sl_str
theorem os_sl {v : V} {d : PyData} {lo hi : Option Int} {I H : Hp} {Q : VK} {o : O} (s : Same I H) (r1 : RpS K I H v d) (q : pSl d lo hi = some o) (k : ∀ v H' I' R, Grow K I H I' H' o v R → Q v H') : rSlX' K v lo hi H Q := by
  unfold pSl at q
  split at q
  · cases q
    obtain ⟨a, vs, rfl, h1, h2⟩ := r1.lst s
    exact .inl (.inl ⟨a, vs, rfl, h1.sq, fun p np => k _ _ _ _ (Grow.lst s np (cut_rep h2 lo hi))⟩)
  · cases q
    obtain ⟨a, vs, rfl, h1, h2⟩ := r1.tup s
    refine .inl (.inr ⟨a, vs, rfl, h1, fun e => ?_, fun _ p np => k _ _ _ _ (Grow.tup s np (cut_rep h2 lo hi))⟩)
    rename_i xs
    have ec : cutD xs lo hi = xs := by
      unfold cutD
      rw [← h2.length, e.1, e.2, List.drop_zero, Nat.sub_zero, h2.length, List.take_length]
    rw [ec] at k
    exact k _ _ _ _ (Grow.val s (rps_rp r1 rfl))
  · split at q
    · rename_i hz
      cases q
      rw [r1.str]
      exact .inr ⟨_, rfl, six hz, k _ _ _ _ (Grow.val s (.str _))⟩
    · cases q
  · cases q
end
section
variable {g : G} {X : Cx} {a b c e : Expr} {pos p2 : Pos} {σ : St} {H : Hp}
def pSl2l : PyData → PyData → Option O
  | d, .int i => pSl d (some i) none
  | _, _ => none
def pSl2h : PyData → PyData → Option O
  | d, .int i => pSl d none (some i)
  | _, _ => none
theorem de_slLo {x y : AF} (ha : DX g X a x) (hb : DX g X b y) (hK : X.K = g.K := by rfl) : DE g X (.Subscript a (.Slice (some b) none none p2) pos) (fOp (on2 pSl2l) [x, y]) :=
  PE.imp (pe_slice sl_any ha (po_some hb) po_none) fun σ H Q h => by
    refine tArg_mono (tA2 (op_key (r := two fun v u H1 Q => ∃ i, u = V.int i ∧ rSlX' X.K v (some i) none H1 Q) ?_ h)) fun v H1 q => tArg_mono q fun u H2 q => q
    refine ops2 fun v u d e I H Q o s r1 r2 q k => ?_
    unfold pSl2l at q
    split at q
    · rw [r2.int, hK]
      exact ⟨_, rfl, os_sl s r1 q k⟩
    · cases q
theorem de_slHi {x y : AF} (ha : DX g X a x) (hb : DX g X b y) (hK : X.K = g.K := by rfl) : DE g X (.Subscript a (.Slice none (some b) none p2) pos) (fOp (on2 pSl2h) [x, y]) :=
  PE.imp (pe_slice sl_any ha po_none (po_some hb)) fun σ H Q h => by
    refine tArg_mono (tA2 (op_key (r := two fun v u H1 Q => ∃ i, u = V.int i ∧ rSlX' X.K v none (some i) H1 Q) ?_ h)) fun v H1 q => tArg_mono q fun u H2 q => q
    refine ops2 fun v u d e I H Q o s r1 r2 q k => ?_
    unfold pSl2h at q
    split at q
    · rw [r2.int, hK]
      exact ⟨_, rfl, os_sl s r1 q k⟩
    · cases q
end
end Dy
namespace Dy
open PySem PySem.Spec PyProof.Rows L2
section
variable {X : Cx} {K : PySem.W.Frag}
theorem op_repL : OpR X (binaryOp .Mult) (rRepL X.K) := by
  rintro pins s σ H x y v u Q J rx ry ⟨l, k, xs, rfl, rfl, hL, h1, h2, hz, q⟩
  cases rx
  obtain ⟨t, rfl⟩ := ry
  obtain ⟨z, its, n, r, hl, e⟩ := hL.obj J
  have a1 : its.toArray.size * k.toNat ≤ sizeLine := by
    rw [List.size_toArray, ← hl]
    exact hz
  have a2 : ¬ its.toArray.size * k.toNat > (2 ^ 63 - 1) / 8 := Nat.not_lt.mpr (Nat.le_trans a1 (by decide))
  have a3 : ¬ (!Builtin.List.listFitsIndex k) = true := by rw [fitsIndex_both h1 h2]; decide
  have a4 : ¬ Builtin.List.listTooLong (its.toArray.size * k.toNat) = true := by rw [notLongL a1]; decide
  have a5 : List.foldl (fun x1 x2 => x1 ++ x2) #[] (List.replicate (if its.toArray.isEmpty = true then 0 else k.toNat) its.toArray) = (List.replicate k.toNat its).flatten.toArray := by
    rw [size_rep]
    cases its with
    | nil => simp
    | cons b c => rfl
  refine wpAny_binaryOp_repeat_ref (T := "list") (U := "int") (by decide) ⟨_, e, rfl⟩ (fun s' => typeIs_int s' k t) noFill_list_mul F.fills_int_mul F.slot_int_rmul repeat_list F.slot_int_index.lookup ?_
  refine call_meets F.slot_int_rmul (typeIs_int s k t) F.entry_int_rmul (F.args_int_rmul_2 _ _) (int___rmul___int_list k t l its.toArray n) ⟨e, rfl, ⟨_, e, rfl⟩, ?_⟩
  refine call_meets F.slot_list_mul ⟨_, e, rfl⟩ F.entry_list_mul (F.args_list_mul_2 _ _) (AutoListH.list___mul___list_int_3 l its.toArray n k t a3 a2 a4) ⟨e, ?_⟩
  rw [a5]
  exact ⟨.ref _, _, J.lnew (t' := s.toks) (r.rep k.toNat) (by rw [PyProof.Rows.lm_len_rep_flat, Nat.mul_comm]; exact hz), rfl, q _ J.fresh⟩
def rMulA (K : PySem.W.Frag) : R2 := fun x y H Q => (rI (fun i j => muOk i j = true) (fun i j => .int (i * j)) x y H Q ∨ rRepL K x y H Q) ∨ rRepT K x y H Q
theorem op_mulA : OpR X (binaryOp .Mult) (rMulA X.K) := (op_mulM.or op_repL).or op_repT
theorem os_mul : OpS K (two (rMulA K)) (on2 pMul) := ops2 fun v u d e I H Q o s r1 r2 q k => by
  unfold pMul at q
  split at q
  · split at q
    · rename_i hc
      cases q
      rw [r1.int, r2.int]
      exact .inl (.inl ⟨_, _, rfl, rfl, hc, k _ _ _ _ (Grow.val s (.int _))⟩)
    · cases q
  · split at q
    · rename_i hc
      cases q
      obtain ⟨a, vs, rfl, h1, h2⟩ := r1.lst s
      rw [r2.int]
      exact .inl (.inr ⟨a, _, vs, rfl, rfl, h1, by omega, by omega, by rw [h2.length]; exact six hc.2.2, fun p np => k _ _ _ _ (Grow.lst s np (h2.rep _))⟩)
    · cases q
  · split at q
    · rename_i hc
      cases q
      obtain ⟨a, vs, rfl, h1, h2⟩ := r1.tup s
      rw [r2.int]
      refine .inr ⟨a, _, vs, rfl, rfl, h1, fun z => ?_, hc.2.1, hc.2.2.1, by rw [h2.length]; exact hc.1, fun p np => k _ _ _ _ (Grow.tup s np (h2.rep _))⟩
      subst z
      cases h2
      exact hc.2.2.2 rfl
    · cases q
  · cases q
theorem ops1c {r : List V → Hp → VK → Prop} {f : PyData → Option O} (h : ∀ (v : V) (d : PyData) (I H : Hp) (Q : VK) (o : O), Same I H → RpS K I H v d → f d = some o → (∀ v H' I' R, Grow K I H I' H' o v R → Q v H') → r [v] H Q) : OpS K r (on1 f) := by
  intro vs ds I H Q o s q e k
  match vs, ds, q with
  | _, _, .nil => simp [on1] at e
  | _, _, .cons q1 .nil => exact h _ _ I H Q o s q1 e k
  | _, _, .cons _ (.cons _ _) => simp [on1] at e
def pLen : PyData → Option O
  | .list xs => some (.fr (.int xs.length))
  | .tuple xs => some (.fr (.int xs.length))
  | .str x => if x.length ≤ 1000000 then some (.fr (.int x.length)) else none
  | .dict es => some (.fr (.int es.length))
  | _ => none
def rLenD (K : PySem.W.Frag) : List V → Hp → VK → Prop := fun xs H Q => (∃ x n, xs = [x] ∧ LenV K x H n ∧ Q (.int n) H) ∨ rDL K xs H Q
theorem call_lenA {X : Cx} : CallR X (.builtin "len") (rLenD X.K) := by
  intro pins s σ H xs us Q I r h
  rcases h with h | h
  · exact call_len pins s σ H xs us Q I r h
  · exact call_lenDD pins s σ H xs us Q I r h
theorem os_len : OpS K (rLenD K) (on1 pLen) := ops1c fun v d I H Q o s r1 q k => by
  unfold pLen at q
  split at q
  · cases q
    obtain ⟨a, vs, rfl, h1, h2⟩ := r1.lst s
    rw [← h2.length] at k
    exact .inl ⟨_, _, rfl, .inl ⟨vs, h1.sq, rfl⟩, k _ _ _ _ (Grow.val s (.int _))⟩
  · cases q
    obtain ⟨a, vs, rfl, h1, h2⟩ := r1.tup s
    rw [← h2.length] at k
    exact .inl ⟨_, _, rfl, .inr ⟨vs, h1, rfl⟩, k _ _ _ _ (Grow.val s (.int _))⟩
  · split at q
    · rename_i hz
      cases q
      rw [r1.str]
      exact .inl ⟨_, _, rfl, ⟨six hz, rfl⟩, k _ _ _ _ (Grow.val s (.int _))⟩
    · cases q
  · cases q
    obtain ⟨a, rfl, h1⟩ := rps_dict s r1
    exact .inr ⟨a, I, _, rfl, s, h1, k _ _ _ _ (Grow.val s (.int _))⟩
  · cases q
def pSum : PyData → Option O
  | .list xs => (intsOf xs).map fun ns => .fr (.int ns.sum)
  | _ => none
theorem os_sum : OpS K (rSum K) (on1 pSum) := ops1c fun v d I H Q o s r1 q k => by
  unfold pSum at q
  split at q
  · rename_i xs
    cases z : intsOf xs with
    | none => rw [z] at q; cases q
    | some ns =>
      rw [z] at q; cases q
      obtain ⟨a, vs, rfl, h1, h2⟩ := r1.lst s
      rw [intsOf_inv z] at h2
      rw [h2.ints] at h1
      exact ⟨a, ns, rfl, h1.sq, k _ _ _ _ (Grow.val s (.int _))⟩
  · cases q
def pAll : PyData → Option O
  | .list xs => (boolsOf xs).map fun ns => .fr (.bool (ns.all id))
  | _ => none
theorem os_all : OpS K (rAll K) (on1 pAll) := ops1c fun v d I H Q o s r1 q k => by
  unfold pAll at q
  split at q
  · rename_i xs
    cases z : boolsOf xs with
    | none => rw [z] at q; cases q
    | some ns =>
      rw [z] at q; cases q
      obtain ⟨a, vs, rfl, h1, h2⟩ := r1.lst s
      rw [boolsOf_inv z] at h2
      rw [h2.bools] at h1
      exact ⟨a, ns, rfl, h1.sq, k _ _ _ _ (Grow.val s rbl)⟩
  · cases q
/-- the greatest, the least of some ints -/
def maxL : List Int → Int
  | [] => 0
  | [a] => a
  | a :: b :: r => max a (maxL (b :: r))
def minL : List Int → Int
  | [] => 0
  | [a] => a
  | a :: b :: r => min a (minL (b :: r))
theorem maxL_ge : ∀ {ns : List Int} {y : Int}, y ∈ ns → y ≤ maxL ns
  | [a], y, h => by simp at h; subst h; exact Int.le_refl _
  | a :: b :: r, y, h => by
    unfold maxL
    rcases List.mem_cons.mp h with e | h
    · subst e; omega
    · have := maxL_ge h; omega
theorem maxL_mem : ∀ {ns : List Int}, ns ≠ [] → maxL ns ∈ ns
  | [], h => absurd rfl h
  | [a], _ => by simp [maxL]
  | a :: b :: r, _ => by
    have ih := maxL_mem (ns := b :: r) (by simp)
    unfold maxL
    by_cases h : a ≤ maxL (b :: r)
    · rw [Int.max_eq_right h]; exact List.mem_cons_of_mem _ ih
    · rw [Int.max_eq_left (by omega)]; exact List.mem_cons_self
theorem minL_le : ∀ {ns : List Int} {y : Int}, y ∈ ns → minL ns ≤ y
  | [a], y, h => by simp at h; subst h; exact Int.le_refl _
  | a :: b :: r, y, h => by
    unfold minL
    rcases List.mem_cons.mp h with e | h
    · subst e; omega
    · have := minL_le h; omega
theorem minL_mem : ∀ {ns : List Int}, ns ≠ [] → minL ns ∈ ns
  | [], h => absurd rfl h
  | [a], _ => by simp [minL]
  | a :: b :: r, _ => by
    have ih := minL_mem (ns := b :: r) (by simp)
    unfold minL
    by_cases h : a ≤ minL (b :: r)
    · rw [Int.min_eq_left h]; exact List.mem_cons_self
    · rw [Int.min_eq_right (by omega)]; exact List.mem_cons_of_mem _ ih
def rMax' (K : PySem.W.Frag) : List V → Hp → VK → Prop := fun xs H Q => (∃ i j, xs = [.int i, .int j] ∧ Q (.int (if j > i then j else i)) H) ∨ rMax K xs H Q
def rMin' (K : PySem.W.Frag) : List V → Hp → VK → Prop := fun xs H Q => (∃ i j, xs = [.int i, .int j] ∧ Q (.int (if j < i then j else i)) H) ∨ rMin K xs H Q
theorem cl_max (hc : X.calm = true) : CallR X (.builtin "max") (rMax' X.K) := (call_max2 hc).or (cr_max hc)
theorem cl_min (hc : X.calm = true) : CallR X (.builtin "min") (rMin' X.K) := (call_min2 hc).or (cr_min hc)
def pMax : List PyData → Option O
  | [.int i, .int j] => some (.fr (.int (max i j)))
  | [.list xs] => match intsOf xs with
    | some (n :: ns) => some (.fr (.int (maxL (n :: ns))))
    | _ => none
  | _ => none
def pMin : List PyData → Option O
  | [.int i, .int j] => some (.fr (.int (min i j)))
  | [.list xs] => match intsOf xs with
    | some (n :: ns) => some (.fr (.int (minL (n :: ns))))
    | _ => none
  | _ => none
theorem os_max : OpS K (rMax' K) pMax := fun vs ds I H Q o s r q k => by
  unfold pMax at q
  split at q
  · rename_i i j
    cases q
    match vs, r with
    | _, .cons r1 (.cons r2 .nil) =>
      rw [r1.int, r2.int]
      refine .inl ⟨i, j, rfl, ?_⟩
      have e : (if j > i then j else i) = max i j := by split <;> omega
      rw [e]
      exact k _ _ _ _ (Grow.val s (.int _))
  · rename_i xs
    match vs, r with
    | _, .cons r1 .nil =>
      split at q
      · rename_i n ns z
        cases q
        obtain ⟨a, vs, rfl, h1, h2⟩ := r1.lst s
        rw [intsOf_inv z] at h2
        rw [h2.ints] at h1
        refine .inr ⟨a, n :: ns, rfl, h1.sq, by simp, fun m hm hb => ?_⟩
        have e : m = maxL (n :: ns) := Int.le_antisymm (maxL_ge hm) (hb _ (maxL_mem (by simp)))
        rw [e]
        exact k _ _ _ _ (Grow.val s (.int _))
      · cases q
  · cases q
theorem os_min : OpS K (rMin' K) pMin := fun vs ds I H Q o s r q k => by
  unfold pMin at q
  split at q
  · rename_i i j
    cases q
    match vs, r with
    | _, .cons r1 (.cons r2 .nil) =>
      rw [r1.int, r2.int]
      refine .inl ⟨i, j, rfl, ?_⟩
      have e : (if j < i then j else i) = min i j := by split <;> omega
      rw [e]
      exact k _ _ _ _ (Grow.val s (.int _))
  · rename_i xs
    match vs, r with
    | _, .cons r1 .nil =>
      split at q
      · rename_i n ns z
        cases q
        obtain ⟨a, vs, rfl, h1, h2⟩ := r1.lst s
        rw [intsOf_inv z] at h2
        rw [h2.ints] at h1
        refine .inr ⟨a, n :: ns, rfl, h1.sq, by simp, fun m hm hb => ?_⟩
        have e : m = minL (n :: ns) := Int.le_antisymm (hb _ (minL_mem (by simp))) (minL_le hm)
        rw [e]
        exact k _ _ _ _ (Grow.val s (.int _))
      · cases q
  · cases q
def pList (d : PyData) : Option O := (seqOf d).map .ol
theorem os_list : OpS K (fun xs H Q => ∃ p ys, xs = [.ref p] ∧ (SqL K H p ys ∨ SqT K H p ys) ∧ ∀ l, H l = none → Q (.ref l) (upd H l (.lst ys))) (on1 pList) := ops1c fun v d I H Q o s r1 q k => by
  unfold pList at q
  cases z : seqOf d with
  | none => rw [z] at q; cases q
  | some xs =>
    rw [z] at q; cases q
    obtain ⟨p, vs, rfl, h1, h2⟩ := rps_seq s r1 z
    exact ⟨p, vs, rfl, h1.symm, fun l nl => k _ _ _ _ (Grow.lst s nl h2)⟩
def pTuple (d : PyData) : Option O := (seqOf d).map fun xs => .fr (.tuple xs)
theorem os_tuple : OpS K (fun xs H Q => ∃ p ys, xs = [.ref p] ∧ ((SqL K H p ys ∧ ∀ l, H l = none → Q (.ref l) (upd H l (.tup ys))) ∨ (SqT K H p ys ∧ Q (.ref p) H))) (on1 pTuple) := ops1c fun v d I H Q o s r1 q k => by
  unfold pTuple at q
  cases d with
  | list xs =>
    cases q
    obtain ⟨p, vs, rfl, h1, h2⟩ := r1.lst s
    exact ⟨p, vs, rfl, .inl ⟨h1.sq, fun l nl => k _ _ _ _ (Grow.tup s nl h2)⟩⟩
  | tuple xs =>
    cases q
    obtain ⟨p, vs, rfl, h1, h2⟩ := r1.tup s
    exact ⟨p, vs, rfl, .inr ⟨h1, k _ _ _ _ (Grow.val s (rps_rp r1 rfl))⟩⟩
  | _ => cases q
def pInt : PyData → Option O
  | .int i => some (.fr (.int i))
  | .bool b => some (.fr (.int (if b then 1 else 0)))
  | _ => none
/-- isinstance -/
inductive Ty where
  | int | bool | str | list | tuple | dict
def Ty.name : Ty → String
  | .int => "int"
  | .bool => "bool"
  | .str => "str"
  | .list => "list"
  | .tuple => "tuple"
  | .dict => "dict"
def tyN : PyData → String
  | .none => "NoneType"
  | .bool _ => "bool"
  | .int _ => "int"
  | .str _ => "str"
  | .list _ => "list"
  | .tuple _ => "tuple"
  | .dict _ => "dict"
def isA : Ty → PyData → Bool
  | .int, .int _ => true
  | .int, .bool _ => true
  | .bool, .bool _ => true
  | .str, .str _ => true
  | .list, .list _ => true
  | .tuple, .tuple _ => true
  | .dict, .dict _ => true
  | _, _ => false
theorem isA_kit (t : Ty) (d : PyData) : kitB (tyN d) t.name = some (isA t d) := by
  cases t <;> cases d <;> first | rfl | (show kitB _ _ = _; decide +kernel)
/-- a value's type, with the dicts of tuples -/
inductive TyY (K : PySem.W.Frag) (H : Hp) : V → Value → Prop where
  | base {x : V} {t : Value} (h : TyOf K H x t) : TyY K H x t
  | wide {x : V} {t : Value} (h : TyX K H x t) : TyY K H x t
  | dn {a : Addr} {ts : List TP} (e : Rd H a (dN a ts)) : TyY K H (.ref a) (.type "dict")
  | dkf {a : Addr} {o : Obj} {kvs : List (Key × V)} (e : H a = some (.frz o (.dK kvs))) : TyY K H (.ref a) (.type "dict")
theorem TyY.dk {K : PySem.W.Frag} {H : Hp} {a : Addr} {kvs : List (Key × V)} (e : Rd H a (.dK kvs)) : TyY K H (.ref a) (.type "dict") := by
  rcases e with e | ⟨o, e⟩
  · exact .base (.dK e)
  · exact .dkf e
theorem kit_ofY {X : Cx} {pins : List (Addr × Obj)} {σ : St} {H : Hp} {s : Shared} {x : V} {u t : Value} (I : Inv X pins σ H s) (rx : RelV x u) (ty : TyY X.K H x t) : ∃ P : Heap → Prop, PySem.W.KitX X.K u t P ∧ P s.heap ∧ u ≠ .builtin "__main__.__loader__#opaque" := by
  cases ty with
  | base h => exact kit_of I rx (.base h)
  | wide h => exact kit_of I rx h
  | @dn a ts e =>
    cases (show u = Value.ref a from rx)
    have ok : ObjOk X.prog X.w H s.heap a (dN a ts) := by
      rcases e with e | ⟨ob, e⟩
      · exact I.hok a _ e
      · exact (show ObjOk X.prog X.w H s.heap a (.frz ob (dN a ts)) from I.hok a _ e).2
    obtain ⟨⟨_, _, ys, _, o, es, ep, h1, h2, _⟩, _⟩ := ok
    exact ⟨_, PySem.W.kitx_dict, ⟨o, h1, h2.1⟩, fun z => nomatch z⟩
  | @dkf a ob kvs e =>
    cases (show u = Value.ref a from rx)
    obtain ⟨_, _, _, vs, _, p⟩ := (show ObjOk X.prog X.w H s.heap a (.frz ob (.dK kvs)) from I.hok a _ e)
    obtain ⟨o, es, ep, h1, h2, _⟩ := p
    exact ⟨_, PySem.W.kitx_dict, ⟨o, h1, h2.1⟩, fun z => nomatch z⟩
def rIsiY (K : PySem.W.Frag) : List V → Hp → VK → Prop := fun xs H Q => ∃ (x c : V) (t u : Value) (b : Bool), xs = [x, c] ∧ ClsV c u ∧ TyY K H x t ∧ PySem.W.kitOne K t u = some b ∧ Q (.bl b) H
theorem call_isiY {X : Cx} : CallR X (.builtin "isinstance") (rIsiY X.K) := by
  intro pins s σ H xs us Q I r h
  obtain ⟨x, c, t, u, b, rfl, k, ty, e, q⟩ := h
  obtain ⟨u1, u2, rfl, r1, r2⟩ := vals2 r
  have e2 := k.eq r2
  subst e2
  obtain ⟨P, Z, p, hx⟩ := kit_ofY I r1 ty
  exact PySem.W.kia_one Z I.kIn p e hx fun tk => ⟨.bl b, H, I.tok tk, rfl, q⟩
theorem tyX {I H : Hp} {v : V} {d : PyData} (s : Same I H) (h : RpS K I H v d) : TyY K H v (.type (tyN d)) := by
  rcases h with h | ⟨a, vs, ds, rfl, rfl, h1, _⟩ | ⟨a, es, rfl, rfl, ⟨kvs, h1, _⟩ | ⟨ts, h1, _⟩⟩
  · cases h with
    | non => exact .base .non
    | bl b => exact .base (.bl b)
    | int i => exact .base (.int i)
    | str x => exact .base (.str x)
    | lst h1 _ =>
      rcases h1.mono s with (h1 | ⟨o, h1⟩) | ⟨its, n, h1, _⟩
      · exact .base (.lst h1)
      · exact .base (.frz h1)
      · exact .wide (.kList h1 rfl)
    | tup h1 _ =>
      rcases same_t s h1 with (h1 | ⟨o, h1⟩) | ⟨o, its, n, h1, h2, _⟩
      · exact .base (.tup h1)
      · exact .wide (.fTuple h1)
      · exact .wide (.kTuple h1 h2)
    | dic h1 _ => exact .dk (same_rd s h1)
    | dit h1 _ => exact .dn (same_rd s h1)
  · exact .base (.lst h1)
  · exact .base (.dK h1)
  · exact .dn (.inl h1)
end
section
variable {g : G} {X : Cx} {a b c e : Expr} {pos p p2 : Pos} {σ : St} {H : Hp}
theorem de_isi {x : AF} {n : Str} (t : Ty) (hg : Gl X "isinstance") (hm : X.mg "isinstance" = none) (hv : bootBuiltins "isinstance" = some (.builtin "isinstance")) (ha : DX g X a x) (hT : PE X (.Name n p2) (tC (.ty t.name))) (hK : X.K = g.K := by rfl)
    (h1 : starEach [a, .Name n p2] X.env = (false, eval a X.env) :: starEach [.Name n p2] X.env := by rfl) (h2 : starEach [.Name n p2] X.env = (false, eval (.Name n p2) X.env) :: starEach [] X.env := by rfl) (h3 : (backTo pos (starEach [.Name n p2] X.env)).any (·.1) = false := by rfl) :
    DE g X (.Call (.Name "isinstance" p) [a, .Name n p2] [] pos) (fOp (on1 fun d => some (.fr (.bool (isA t d)))) [x]) :=
  PE.imp (pe_callB call_isiY hg hm hv (pa_cons ha (pa_cons hT pa_nil h2) h1) (by decide) (by decide) h1 h3) fun σ H Q h => by
    refine tArg_mono (tA1 (op_key (r := one fun v H1 Q => rIsiY X.K [v, .ty t.name] H1 Q) ?_ h)) fun v H1 q => q
    refine ops1 fun v d I H Q o s r1 q k => ?_
    cases q
    exact ⟨v, .ty t.name, .type (tyN d), .type t.name, isA t d, rfl, .ty _, by rw [hK]; exact tyX s r1, kit_ty (isA_kit t d), k _ _ _ _ (Grow.val s rbl)⟩
def fSq (a : AF) : IF := fun env => evA [a] env >>= fun r => match dvs r.1 with
  | some [d] => match seqOf d with
    | some xs => .ok (xs, r.2)
    | none => .no
  | _ => .no
theorem it_l {K : PySem.W.Frag} {I H : Hp} {a : Addr} {vs : List V} {ds : List PyData} (h : LsL K I a vs) (r : RpAll K I vs ds) : ItOk K I (Itl K a) ds := fun I2 H2 i s1 s2 => by
  have hq : SqL K H2 a vs := (h.mono (s1.trans s2)).sq
  refine ⟨fun d hd => ?_, fun e => ⟨vs, hq, by rw [r.length]; omega⟩⟩
  obtain ⟨v, hv, rp⟩ := r.get hd
  refine ⟨⟨vs, v, hq, hv⟩, fun x H' y => ?_⟩
  obtain ⟨rfl, y⟩ := y
  have := y vs hq
  rw [hv] at this; cases this
  exact ⟨I2, Grow.val s2 (rp.mono s1)⟩
theorem it_t {K : PySem.W.Frag} {I H : Hp} {a : Addr} {vs : List V} {ds : List PyData} (h : SqT K I a vs) (r : RpAll K I vs ds) : ItOk K I (Itt K a) ds := fun I2 H2 i s1 s2 => by
  have hq : SqT K H2 a vs := same_t (s1.trans s2) h
  refine ⟨fun d hd => ?_, fun e => ⟨vs, hq, by rw [r.length]; omega⟩⟩
  obtain ⟨v, hv, rp⟩ := r.get hd
  refine ⟨⟨vs, v, hq, hv⟩, fun x H' y => ?_⟩
  obtain ⟨rfl, y⟩ := y
  have := y vs hq
  rw [hv] at this; cases this
  exact ⟨I2, Grow.val s2 (rp.mono s1)⟩
theorem di_seq {tg : Expr} {x : AF} (ha : DX g X a x) (hK : X.K = g.K := by rfl) : DI g X tg a (fSq x) := by
  refine ⟨fun pins s σ H R J h => ?_⟩
  obtain ⟨I, env, F, sm, p⟩ := h
  unfold fSq at p
  cases q : evA [x] env with
  | no => rw [q] at p; exact p.elim
  | er y =>
    rw [q] at p
    have ps : g.err I H F y := p
    refine (pi_list ha).run pins s σ H R J ?_
    refine tA1 (R := fun vs H1 => ∃ v, vs = [v] ∧ ∃ a, v = .ref a ∧ (∃ xs, SqL X.K H1 a xs) ∧ R (Itl X.K a) H1) ⟨I, env, F, sm, by rw [q]; exact ps⟩ |> fun h => tArg_mono h fun v H1 ⟨_, e, z⟩ => by cases e; exact z
  | ok r =>
    rw [q, bind_ok] at p
    cases q2 : dvs r.1 with
    | none => rw [q2] at p; exact p.elim
    | some ds =>
      match ds, q2 with
      | [], q2 => rw [q2] at p; exact p.elim
      | _ :: _ :: _, q2 => rw [q2] at p; exact p.elim
      | [d], q2 =>
        rw [q2] at p
        have ps := p
        cases d with
        | list xs =>
          have ps : ∀ J H' I' F', Sim g.K g.pn I' H' σ r.2 F' → Step I H (Ow F) I' H' (Ow F') → ItOk g.K I' J xs → R J H' := ps
          refine (pi_list ha).run pins s σ H R J ?_
          have key : tA g [x] σ H (fun vs H1 => ∃ v, vs = [v] ∧ ∃ a, v = .ref a ∧ (∃ xs, SqL X.K H1 a xs) ∧ R (Itl X.K a) H1) := by
            refine ⟨I, env, F, sm, ?_⟩
            rw [q]
            intro vs H' I' F' s' st av
            match vs, dvs_rep av q2 with
            | [v], .cons rp .nil =>
              cases rp with
              | lst h1 h2 =>
                rw [hK]
                exact ⟨_, rfl, _, rfl, ⟨_, (h1.mono s'.sub).sq⟩, ps _ _ _ _ s' st (it_l (H := H') h1 h2)⟩
          exact tArg_mono (tA1 key) fun v H1 ⟨_, e, z⟩ => by cases e; exact z
        | tuple xs =>
          have ps : ∀ J H' I' F', Sim g.K g.pn I' H' σ r.2 F' → Step I H (Ow F) I' H' (Ow F') → ItOk g.K I' J xs → R J H' := ps
          refine (pi_tup ha).run pins s σ H R J ?_
          have key : tA g [x] σ H (fun vs H1 => ∃ v, vs = [v] ∧ ∃ a, v = .ref a ∧ (∃ xs, SqT X.K H1 a xs) ∧ R (Itt X.K a) H1) := by
            refine ⟨I, env, F, sm, ?_⟩
            rw [q]
            intro vs H' I' F' s' st av
            match vs, dvs_rep av q2 with
            | [v], .cons rp .nil =>
              cases rp with
              | tup h1 h2 =>
                rw [hK]
                exact ⟨_, rfl, _, rfl, ⟨_, same_t s'.sub h1⟩, ps _ _ _ _ s' st (it_t (H := H') h1 h2)⟩
          exact tArg_mono (tA1 key) fun v H1 ⟨_, e, z⟩ => by cases e; exact z
        | none => exact ps.elim
        | bool _ => exact ps.elim
        | int _ => exact ps.elim
        | str _ => exact ps.elim
        | dict _ => exact ps.elim
end
end Dy
namespace Dy
open PySem PySem.Spec PyProof.Rows L2
section
variable {g : G} {X : Cx} {a b c e : Expr} {es : List Expr} {pos p tpos : Pos} {σ : St} {H : Hp} {elts : List Expr} {kk : Nat} {tg : Expr}
def rng (lo : Int) (n : Nat) : List PyData := (List.range n).map fun k : Nat => PyData.int (lo + (k : Int))
theorem it_r {K : PySem.W.Frag} {I : Hp} {lo : Int} {n : Nat} : ItOk K I (Itr lo n) (rng lo n) := fun I2 H2 i s1 s2 => by
  unfold rng
  refine ⟨fun d hd => ?_, fun e => ?_⟩
  · rw [List.getElem?_map] at hd
    cases q : (List.range n)[i]? with
    | none => rw [q] at hd; cases hd
    | some k =>
      rw [q] at hd; cases hd
      obtain ⟨hk, e⟩ := List.getElem?_eq_some_iff.mp q
      rw [List.length_range] at hk
      rw [List.getElem_range] at e
      subst e
      refine ⟨hk, fun x H' y => ?_⟩
      obtain ⟨rfl, rfl⟩ := y
      exact ⟨I2, Grow.val s2 (.int _)⟩
  · rw [List.length_map, List.length_range] at e
    exact Nat.le_of_eq e
def fR1 (x : AF) : IF := fun env => evA [x] env >>= fun r => match ints1 (rsvs r.2 r.1) with
  | some n => if n ≤ 1000000000 ∧ -1000000000 ≤ n then .ok (rng 0 n.toNat, r.2) else .no
  | none => .no
theorem di_r1 {x : AF} (hg : Gl X "range") (hm : X.mg "range" = none) (ha : DA g X [a] [x]) (hs : starEach [a] X.env = [(false, eval a X.env)] := by rfl) : DI g X tg (.Call (.Name "range" p) [a] [] pos) (fR1 x) :=
  PI.imp (pi_range1 hg hm ha hs) fun σ H R h => by
    obtain ⟨I, env, F, s, p⟩ := h
    refine ⟨I, env, F, s, post_mono (post_bind.mp p) (fun r q vs H' I' F' s' st av => ?_) fun _ z => z⟩
    cases q2 : ints1 (rsvs r.2 r.1) with
    | none => simp only [q2] at q; exact q.elim
    | some n =>
      simp only [q2] at q
      by_cases hz : n ≤ 1000000000 ∧ -1000000000 ≤ n
      · rw [if_pos hz] at q
        match vs, rsvs_rep s' av (ints1_inv q2) with
        | _, .cons r1 .nil =>
          cases rpss_int r1
          exact ⟨n, rfl, by omega, by omega, q _ _ _ _ s' st it_r⟩
      · rw [if_neg hz] at q; exact q.elim
def fR2 (x y : AF) : IF := fun env => evA [x, y] env >>= fun r => match ints2 (rsvs r.2 r.1) with
  | some n => if n.1 ≤ 1000000000 ∧ -1000000000 ≤ n.1 ∧ n.2 ≤ 1000000000 ∧ -1000000000 ≤ n.2 then .ok (rng n.1 (n.2 - n.1).toNat, r.2) else .no
  | none => .no
def enumD : Nat → List PyData → List PyData
  | _, [] => []
  | i, d :: ds => .tuple [.int (i : Nat), d] :: enumD (i + 1) ds
theorem enumD_at : ∀ {ds : List PyData} {k i : Nat} {x : PyData}, (enumD k ds)[i]? = some x → ∃ d, ds[i]? = some d ∧ x = .tuple [.int ((k + i : Nat) : Int), d]
  | [], _, _, _, h => by simp [enumD] at h
  | d :: ds, k, 0, x, h => by
    unfold enumD at h
    simp at h; subst h
    exact ⟨d, rfl, rfl⟩
  | d :: ds, k, i + 1, x, h => by
    unfold enumD at h
    obtain ⟨y, h1, h2⟩ := enumD_at (ds := ds) (k := k + 1) (i := i) (x := x) (by simpa using h)
    exact ⟨y, by simpa using h1, by rw [h2]; congr 3; omega⟩
theorem enumD_len : ∀ (ds : List PyData) (k : Nat), (enumD k ds).length = ds.length
  | [], _ => rfl
  | d :: ds, k => by unfold enumD; rw [List.length_cons, enumD_len ds, List.length_cons]
def zipD : List PyData → List PyData → List PyData
  | x :: xs, y :: ys => .tuple [x, y] :: zipD xs ys
  | _, _ => []
theorem sqX_of {K : PySem.W.Frag} {I : Hp} {v : V} {d : PyData} {xs : List PyData} (h : Rp K I v d) (e : seqOf d = some xs) : ∃ a t vs, v = .ref a ∧ (∀ I', Same I I' → SqX t K I' a vs) ∧ RpAll K I vs xs := by
  cases h with
  | lst h1 h2 => cases e; exact ⟨_, false, _, rfl, fun I' s => (h1.mono s).sq, h2⟩
  | tup h1 h2 => cases e; exact ⟨_, true, _, rfl, fun I' s => same_t s h1, h2⟩
  | non => cases e
  | bl => cases e
  | int => cases e
  | str => cases e
  | dic => cases e
  | dit => cases e
theorem growT {K : PySem.W.Frag} {I H : Hp} {T : Addr} {vs : List V} {ds : List PyData} (s : Same I H) (n : H T = none) (r : RpAll K I vs ds) : ∃ I', Grow K I H I' (upd H T (.tup vs)) (.fr (.tuple ds)) (.ref T) [] := ⟨_, Grow.tup s n r⟩
def fEn (x : AF) : IF := fun env => fSq x env >>= fun r => .ok (enumD 0 r.1, r.2)
theorem di_en {x : AF} (hg : Gl X "enumerate") (hm : X.mg "enumerate" = none) (ha : DA g X [a] [x]) (hK : X.K = g.K := by rfl) (hs : starEach [a] X.env = [(false, eval a X.env)] := by rfl) : DI g X (.Tuple elts kk tpos) (.Call (.Name "enumerate" p) [a] [] pos) (fEn x) :=
  PI.imp (pi_en hg hm ha hs) fun σ H R h => by
    obtain ⟨I, env, F, s, p⟩ := h
    unfold fEn fSq at p
    refine ⟨I, env, F, s, post_mono (post_bind.mp (post_bind.mp p)) (fun r q vs H' I' F' s' st av => ?_) fun _ z => z⟩
    cases q2 : dvs r.1 with
    | none => simp only [q2] at q; exact q.elim
    | some ds =>
      simp only [q2] at q
      match ds, vs, dvs_rep av q2 with
      | [], _, .nil => exact q.elim
      | _ :: _ :: _, _, .cons _ (.cons _ _) => exact q.elim
      | [d], [v], .cons rp .nil =>
        cases q3 : seqOf d with
        | none => simp only [q3] at q; exact q.elim
        | some xs =>
          simp only [q3] at q
          obtain ⟨a, t, ws, rfl, hq, ra⟩ := sqX_of rp q3
          rw [hK]
          refine ⟨a, t, ws, rfl, hq H' s'.sub, q _ _ _ _ s' st fun I2 H2 i s1 s2 => ⟨fun z hz => ?_, fun e => ⟨ws, hq H2 (s1.trans s2), by rw [ra.length, ← e, enumD_len]⟩⟩⟩
          obtain ⟨x, hx, rfl⟩ := enumD_at hz
          obtain ⟨w, hw, rw'⟩ := ra.get hx
          refine ⟨⟨ws, w, hq H2 (s1.trans s2), hw⟩, fun y H3 hy => ?_⟩
          obtain ⟨T, x', rfl, nT, rfl, hy⟩ := hy
          have := hy ws (hq H2 (s1.trans s2))
          rw [hw] at this; cases this
          rw [Nat.zero_add]
          exact growT s2 nT (.cons (.int _) (.cons (rw'.mono s1) .nil))
def fZp (x y : AF) : IF := fun env => evA [x, y] env >>= fun r => match dvs r.1 with
  | some [d, e] => match seqOf d, seqOf e with
    | some xs, some ys => .ok (zipD xs ys, r.2)
    | _, _ => .no
  | _ => .no
theorem Sim.own {K : PySem.W.Frag} {π : Pn} {I H : Hp} {σ : St} {env : Env} {F : Nat → List Addr} {i : Nat} {ds : List PyData} (s : Sim K π I H σ env F) (q : env[i]? = some (some (.ol ds))) :
    ∃ a vs, σ[i]? = some (some (.ref a)) ∧ H a = some (.lst vs) ∧ RpAll K I vs ds ∧ ∀ vs' ds', RpAll K I vs' ds' → AftS K π I H F σ (env.set i (some (.ol ds'))) (upd H a (.lst vs')) := by
  obtain ⟨v, e1, a, vs, rfl, hF, h1, h2⟩ := s.rep i _ q
  refine ⟨a, vs, e1, h1, h2, fun vs' ds' r => ?_⟩
  have hi : i < env.length := by
    cases Nat.lt_or_ge i env.length with
    | inl h => exact h
    | inr h => rw [List.getElem?_eq_none h] at q; cases q
  have ha : a ∈ F i := by rw [hF]; simp
  have nI := s.djI i a ha
  have ne : ∀ j, j ≠ i → ∀ b ∈ F j, b ≠ a := fun j hj b hb e => by subst e; exact hj (s.dis j i b hb ha)
  refine ⟨I, upF F i [a], ?_, Step.of4 (Same.refl _) (fun b o h n => ?_) (fun b h => ?_) (fun _ _ h => .inl h)⟩
  · have := s.put (i := i) (x := some (.ol ds')) (sv := some (.ref a)) (R := [a]) (H' := upd H a (.lst vs')) hi (Same.refl _) (fun b o h => ?_) (fun j hj b hb => ?_) (fun j _ b hb => s.djI j b hb) (fun b hb => ?_) (fun j hj b hb h => ?_) (fun o e => ?_) (fun e => by cases e) (fun hp => ?_) (s.ktO ha)
    · rw [set_same e1] at this; exact this
    · rw [upd_ne (fun e => by subst e; rw [nI] at h; cases h)]; exact s.sub b o h
    · rw [upd_ne (ne j hj b hb)]
    · simp at hb; subst hb; exact nI
    · simp at h; exact ne j hj b hb h
    · cases e; exact ⟨_, rfl, a, vs', rfl, rfl, upd_same, r⟩
    · have := s.pin i hp; rw [e1] at this; exact Option.some.inj this
  · rw [upd_ne (fun e => by subst e; exact n ⟨i, ha⟩)]; exact h
  · rcases ow_up h with z | z
    · exact .inl z
    · simp at z; subst z; exact .inl ⟨i, ha⟩
/-- x.append(e) -/
def fApp (i : Nat) (f : EF) : SF := fun env => match env[i]? with
  | some (some (.ol _)) => f env >>= fun r => match r.2[i]? with
    | some (some (.ol ds)) => if ds.length < 1000000 then .ok (.nx, r.2.set i (some (.ol (ds ++ [r.1.data])))) else .no
    | _ => .no
  | _ => .no
theorem ds_app {i : Nat} {x : Str} {px apos cpos spos : Pos} {f : EF} (hx : PE X (.Name x px) (tVar i)) (he : DE g X e f)
    (h2 : attributeBase (.Name x px) "append" X.env (eval (.Name x px) X.env) = eval (.Name x px) X.env := by rfl)
    (h3 : ((backTo cpos (starEach [e] X.env)).all (fun x => !x.1) && (backToKw cpos (keywordEach [] X.env)).all (fun x => x.1.isSome)
      && decide ([e].length + ([] : List Keyword).length + (if ([] : List Keyword).isEmpty then 0 else 1) < 30)) = true := by rfl)
    (h4 : (apos.endLine == cpos.line) = true := by rfl) (h5 : starEach [e] X.env = (false, eval e X.env) :: starEach [] X.env := by rfl)
    (hs : swapsWith (.Call (.Attribute (.Name x px) "append" apos) [e] [] cpos) none spos.line X.env = pure false := by rfl) :
    DS g X (.Expr (.Call (.Attribute (.Name x px) "append" apos) [e] [] cpos) spos) (fApp i f) := PS.imp (ps_expr (pe_bm PySem.F.plainAttrs_list PySem.F.slot_list_append PySem.F.type_list_append mt_append hx (pa_cons he pa_nil h5) h2 h3 h4 h5 rfl) hs) fun D σ H q => by
  obtain ⟨I, env, F, s, p⟩ := q
  unfold fApp at p
  split at p
  · rename_i ds0 q0
    obtain ⟨a, vs, e1, h1, h2, _⟩ := s.own q0
    refine ⟨.ref a, e1, .inl ⟨rfl, vs, SqL.of h1⟩, ?_⟩
    refine tD_seq s p fun r v H1 af q => ?_
    obtain ⟨I', F', rp, s', st⟩ := af.frz
    split at q
    · rename_i ds q1
      by_cases hz : ds.length < 1000000
      · rw [if_pos hz] at q
        obtain ⟨a', vs', e1', h1', h2', up⟩ := s'.own q1
        rw [e1] at e1'; cases e1'
        exact ⟨a, vs', v, rfl, rfl, h1', by rw [h2'.length]; exact Nat.lt_of_lt_of_le hz (by decide), q _ _ (AftS.trans st (up _ _ (h2'.app (.cons rp .nil))))⟩
      · rw [if_neg hz] at q; exact q.elim
    · exact q.elim
  · exact p.elim
/-- x[k] = e -/
def fSetI (i : Nat) (y : AF) (f : EF) : SF := fun env => f env >>= fun r => match r.2[i]? with
  | some (some (.ol _)) => evA [y] r.2 >>= fun q => match ints1 (rsvs q.2 q.1) with
    | none => .no
    | some k => match q.2[i]? with
      | some (some (.ol ds)) => match ixN ds.length k with
        | some j => .ok (.nx, q.2.set i (some (.ol (ds.set j r.1.data))))
        | none => .no
      | _ => .no
  | _ => .no
theorem ds_setI {i : Nat} {x : Str} {px spos : Pos} {f : EF} {y : AF} (hx : PE X (.Name x px) (tVar i)) (hk : DX g X b y) (he : DE g X e f)
    (ha : ∀ v, assign (.Subscript (.Name x px) b pos) X.env v = (do
      let ov ← holding [v] (eval (.Name x px) X.env)
      let iv ← holding [v, ov] (eval b X.env)
      standAt pos
      holding [v, ov, iv] (setItem ov iv v)
      release [v, ov, iv] []) := by intro _; rfl)
    (hs : swapsWithSole [.Subscript (.Name x px) b pos] e spos.line X.env = pure false := by rfl) (hw : swappedStores [.Subscript (.Name x px) b pos] e X.env = pure none := by rfl)
    (h1 : (assignEach [.Subscript (.Name x px) b pos] X.env).map (·.2) = [assign (.Subscript (.Name x px) b pos) X.env] := by rfl) :
    DS g X (.Assign [.Subscript (.Name x px) b pos] e spos) (fSetI i y f) := PS.imp (ps_asg he (pg_sub hx hk set_list ha) hs hw h1) fun D σ H q => by
  obtain ⟨I, env, F, s, p⟩ := q
  refine tD_seq s p fun r v H1 af q => ?_
  obtain ⟨I', F', rp, s', st⟩ := af.frz
  split at q
  · rename_i ds0 q0
    obtain ⟨w, hw, _⟩ := s'.rep i _ q0
    refine ⟨w, hw, ?_⟩
    refine tArg_mono (tA1 (R := fun vs H3 => ∃ u, vs = [u] ∧ rSetL w u v H3 fun H4 => D.nx σ H4) ⟨I', r.2, F', s', post_mono (post_bind.mp q) (fun r3 q3 vs3 H3 I3 F3 s3 st3 av3 => ?_) fun x zz => err_step st zz⟩) fun u H3 ⟨_, e3, z⟩ => by cases e3; exact z
    cases q5 : ints1 (rsvs r3.2 r3.1) with
    | none => simp only [q5] at q3; exact q3.elim
    | some k =>
      simp only [q5] at q3
      have rr3 := rsvs_rep s3 av3 (ints1_inv q5)
      match vs3, rr3 with
      | _, .cons r1 .nil =>
        cases rpss_int r1
        refine ⟨_, rfl, ?_⟩
        split at q3
        · rename_i ds q6
          obtain ⟨a, vs, e1, h1, h2, up⟩ := s3.own q6
          rw [hw] at e1; cases e1
          cases q7 : ixN ds.length k with
          | none => simp only [q7] at q3; exact q3.elim
          | some j =>
            simp only [q7] at q3
            exact ⟨a, vs, k, j, rfl, rfl, h1, by rw [h2.length]; exact q7, q3 _ _ (AftS.trans (st.trans st3) (up _ _ (h2.sets j (rp.mono st3.i1))))⟩
        · exact q3.elim
  · exact q.elim
end
end Dy
namespace Dy
open PySem PySem.Spec PyProof.Rows L2
mutual
def rw8 : PyData → Nat
  | .none => 4
  | .bool _ => 5
  | .int i => i.natAbs.log2 + 2
  | .str x => (reprText x).length
  | .list xs => rw8s xs + 2
  | .tuple xs => rw8s xs + 2
  | .dict _ => 0
def rw8s : List PyData → Nat
  | [] => 0
  | x :: xs => rw8 x + 2 + rw8s xs
end
theorem listText_le (ts : List Str) : (listText ts).length ≤ piled ts + 2 := by
  cases ts with
  | nil => decide +kernel
  | cons t r =>
    have h := textFrom_length_pos r 1 (("[" : Str) ++ (if (0 : Nat) > 0 then ", " else "" : String) ++ t) (Nat.succ_pos 0)
    have e : ((("[" : Str) ++ (if (0 : Nat) > 0 then ", " else "" : String) ++ t)).length = 1 + t.length := by
      rw [strLen_append, strLen_append]; rfl
    have hX : (listText (t :: r)).length = (textFrom 0 "[" (t :: r)).length + 1 := by
      show (textFrom 0 "[" (t :: r) ++ "]").length = _
      rw [strLen_append]; rfl
    have hY : (textFrom 0 "[" (t :: r)).length = (textFrom 1 (("[" : Str) ++ (if (0 : Nat) > 0 then ", " else "" : String) ++ t) r).length := rfl
    rw [hX, hY, h, e, piled_cons]; omega
mutual
theorem shown_len : ∀ d : PyData, d.canLay0 = true → d.shown.length ≤ rw8 d
  | .none, _ => by decide +kernel
  | .bool b, _ => by cases b <;> decide +kernel
  | .int i, _ => by
    show (Str.ofString (toString i)).length ≤ i.natAbs.log2 + 2
    rw [PySem.ofString_length]
    exact int_text_length_le (k := i.natAbs.log2 + 1) (by omega) (by omega)
  | .str x, _ => Nat.le_refl _
  | .list xs, h => by
    have := shown_len_all xs (by simpa [PyData.canLay0] using h)
    have := listText_le (PyData.shownAll xs)
    show (listText (PyData.shownAll xs)).length ≤ rw8s xs + 2
    omega
  | .tuple xs, h => by
    have := shown_len_all xs (by simpa [PyData.canLay0] using h)
    have := fmt_text (PyData.shownAll xs)
    show (tupleText (PyData.shownAll xs)).length ≤ rw8s xs + 2
    omega
  | .dict _, h => by simp [PyData.canLay0] at h
theorem shown_len_all : ∀ ds : List PyData, PyData.canLayAll0 ds = true → piled (PyData.shownAll ds) ≤ rw8s ds
  | [], _ => Nat.le_refl _
  | d :: ds, h => by
    have h' : d.canLay0 = true ∧ PyData.canLayAll0 ds = true := by simpa [PyData.canLayAll0] using h
    have h1 := shown_len d h'.1
    have h2 := shown_len_all ds h'.2
    show piled (d.shown :: PyData.shownAll ds) ≤ rw8 d + 2 + rw8s ds
    rw [piled_cons]
    omega
end
def rOk (d : PyData) : Bool := d.canLay0 && (d.showable && decide (d.depth ≤ 64 ∧ rw8 d ≤ 16777216))
def pRepr (d : PyData) : Option O := if rOk d = true then some (.fr (.str d.shown)) else none
section
variable {X : Cx}
def rRepr (K : PySem.W.Frag) : List V → Hp → VK → Prop := fun xs H Q => ∃ x d, xs = [x] ∧ Dp K H x d ∧ d.showable = true ∧ d.hasDict = false ∧ d.depth ≤ 64 ∧ d.shown.length ≤ sizeLine ∧ Q (.str d.shown) H
theorem cr_repr {k : Nat} (hg : X.A.guards = some []) (hr : Room k X.A) : CallR X (.builtin "repr") (rRepr X.K) := by
  intro pins s σ H xs us Q J r h
  obtain ⟨x, d, rfl, hd, h1, h2, h3, h4, q⟩ := h
  obtain ⟨u, rfl, ru⟩ := vals1 r
  obtain ⟨as, rd⟩ := Dp.reads J d x u hd ru
  have hu := hr.un
  cases rd with
  | none => exact PySem.P.repr_of_none ⟨.str _, H, J.tok _, ⟨_, rfl⟩, q⟩
  | bool b => cases b <;> exact PySem.P.repr_of_bool ⟨.str _, H, J.tok _, ⟨_, rfl⟩, q⟩
  | int i t => exact PySem.P.repr_of_int (by simpa [PyData.showable] using h1) ⟨.str _, H, J.tok _, ⟨_, rfl⟩, q⟩
  | str y t => exact PySem.P.repr_of_str ⟨.str _, H, J.tok _, ⟨_, rfl⟩, q⟩ h4
  | list e1 e2 e3 e4 =>
    exact repr_of_reads' (.list e1 e2 e3 e4) h1 (PyData.noDict_hsm h2) hg (by omega) (fun _ _ z => z) (fun h' u tk k => ⟨.str _, H, J.kept (t' := tk) fun b ob q => k b ob q, ⟨_, rfl⟩, q⟩) h4
  | tuple e1 e2 e3 e4 =>
    exact repr_of_reads' (.tuple e1 e2 e3 e4) h1 (PyData.noDict_hsm h2) hg (by omega) (fun _ _ z => z) (fun h' u tk k => ⟨.str _, H, J.kept (t' := tk) fun b ob q => k b ob q, ⟨_, rfl⟩, q⟩) h4
  | dict e1 e2 e3 e4 e5 => simp [PyData.hasDict] at h2
theorem os_repr {K : PySem.W.Frag} : OpS K (rRepr K) (on1 pRepr) := ops1c fun v d I H Q o s r1 q k => by
  unfold pRepr at q
  split at q
  · rename_i hc
    cases q
    unfold rOk at hc
    simp only [Bool.and_eq_true, decide_eq_true_eq] at hc
    obtain ⟨c1, c2, c3, c4⟩ := hc
    exact ⟨v, d, rfl, r1.dp s c1, c2, PyData.hasDict_of_canLay d c1, c3, Nat.le_trans (shown_len d c1) (Nat.le_trans c4 (by decide)), k _ _ _ _ (Grow.val s (.str _))⟩
  · cases q
end
def pRev : PyData → Option O
  | .list xs => some (.ol xs.reverse)
  | _ => none
section
variable {g : G} {X : Cx} {a b c e : Expr} {es : List Expr} {pos p1 p2 p3 : Pos} {σ : St} {H I : Hp} {env : Env} {F : Nat → List Addr} {D : Ends}
theorem de_rev {x : AF} {k : Nat} (ha : DX g X a x) (hK : X.K = g.K := by rfl) : DE g X (.Subscript a (.Slice none none (some (.UnaryOp .USub (.Constant (.int 1) k p1) p2)) p3) pos) (fOp (on1 pRev) [x]) :=
  PE.imp (pe_revL ha) fun σ H Q h => by
    refine tArg_mono (tA1 (op_key (r := one fun v H1 Q => ∃ a xs, v = V.ref a ∧ SqL X.K H1 a xs ∧ ∀ p, H1 p = none → Q (.ref p) (upd H1 p (.lst xs.reverse))) ?_ h)) fun v H1 q => q
    refine ops1 fun v d I H Q o s r1 q k => ?_
    unfold pRev at q
    split at q
    · cases q
      obtain ⟨a, vs, rfl, h1, h2⟩ := r1.lst s
      exact ⟨a, vs, rfl, by rw [hK]; exact h1.sq, fun p np => k _ _ _ _ (Grow.lst s np h2.rev)⟩
    · cases q
def fPar (i j : Nat) (f1 f2 : EF) : SF := fun env => f1 env >>= fun r1 => f2 r1.2 >>= fun r2 => if i < r2.2.length ∧ j < r2.2.length ∧ i ≠ j then .ok (.nx, (r2.2.set i (some r1.1)).set j (some r2.1)) else .no
theorem par_key {i j : Nat} {f1 f2 : EF} (hi : i ∉ g.pn.1) (hj : j ∉ g.pn.1) (h : tS g (fPar i j f1 f2) D σ H) :
    tD g f1 σ H fun v H1 => tD g f2 σ H1 fun w H2 => ∀ H3, Same H2 H3 → D.nx ((σ.set i (some v)).set j (some w)) H3 := by
  obtain ⟨I, env, F, s, p⟩ := h
  refine tD_seq s p fun r1 v H1 af q => ?_
  obtain ⟨I1, F1, R1, rp1, s1, n1, d1, st1⟩ := af
  have q' : (f2 r1.2 >>= fun r2 => if i < r2.2.length ∧ j < r2.2.length ∧ i ≠ j then Res.ok (Fl.nx, (r2.2.set i (some r1.1)).set j (some r2.1)) else .no).post (FlP g D I H F) (g.err I1 H1 F1) :=
    post_mono q (fun _ z => z) fun x z => err_step (st1.less fun a ha => .inl ha) z
  refine tD_seq s1 q' fun r2 w H2 af2 q2 => ?_
  obtain ⟨I2, F2, R2, rp2, s2, n2, d2, st2⟩ := af2
  intro H3 sm
  by_cases hc : i < r2.2.length ∧ j < r2.2.length ∧ i ≠ j
  · rw [if_pos hc] at q2
    have dm1 : ∀ a ∈ R1, ∃ o, H1 a = some o := rp1.dom
    have k1 : ∀ a ∈ R1, H2 a = H1 a := st2.keeps rp1.domN fun a ha hz => d1 a hz ha
    have dm2 : ∀ a ∈ R2, ∃ o, H2 a = some o := rp2.dom
    have nI2 : ∀ a ∈ R1, I2 a = none := fun a ha => by
      cases q : I2 a with
      | none => rfl
      | some u =>
        rcases st2.i' a u q with z | z | z
        · rw [n1 a ha] at z; cases z
        · exact (d1 a z ha).elim
        · obtain ⟨o, ho⟩ := dm1 a ha; rw [z] at ho; cases ho
    have dF2 : ∀ a, Ow F2 a → a ∉ R1 := fun a ha hr => by
      rcases st2.s' a (.inl ha) with z | z
      · exact d1 a z hr
      · obtain ⟨o, ho⟩ := dm1 a hr; rw [z] at ho; cases ho
    have dR : ∀ a ∈ R1, a ∉ R2 := fun a hr h2 => by
      rcases st2.s' a (.inr h2) with z | z
      · exact d1 a z hr
      · obtain ⟨o, ho⟩ := dm1 a hr; rw [z] at ho; cases ho
    have k3 : ∀ a o, H2 a = some o → H3 a = some o := fun a o h => sm a o h
    have e3 : ∀ {a}, (∃ o, H2 a = some o) → H3 a = H2 a := fun {a} ⟨o, h⟩ => by rw [h, k3 a o h]
    have s3 : Sim g.K g.pn I2 H3 σ r2.2 F2 := s2.heap (Same.refl _) (s2.sub.trans sm) (fun a ha => e3 (s2.domO ha)) (fun a ⟨l, hl⟩ => s2.djI l a hl) (fun a ps h => sm a _ h)
    have r1' : RepO g.K I2 H3 r1.1 v R1 := rp1.mono st2.i1 fun a ha => by
      rw [e3 (by obtain ⟨o, ho⟩ := dm1 a ha; exact ⟨o, by rw [k1 a ha]; exact ho⟩), k1 a ha]
    have r2' : RepO g.K I2 H3 r2.1 w R2 := rp2.mono (Same.refl _) fun a ha => e3 (dm2 a ha)
    have s4 : Sim g.K g.pn I2 H3 (σ.set i (some v)) (r2.2.set i (some r1.1)) (upF F2 i R1) :=
      s3.put hc.1 (Same.refl _) s3.sub (fun _ _ _ _ => rfl) (fun l _ a ha => s3.djI l a ha) nI2 (fun l _ a ha => dF2 a ⟨l, ha⟩) (fun o e => by cases e; exact ⟨v, rfl, r1'⟩) (fun e => by cases e) (fun h => absurd h hi)
    have s5 : Sim g.K g.pn I2 H3 ((σ.set i (some v)).set j (some w)) ((r2.2.set i (some r1.1)).set j (some r2.1)) (upF (upF F2 i R1) j R2) :=
      s4.put (by rw [List.length_set]; exact hc.2.1) (Same.refl _) s4.sub (fun _ _ _ _ => rfl) (fun l _ a ha => s4.djI l a ha) n2 (fun l _ a ha hr => by
        rcases ow_up (⟨l, ha⟩ : Ow (upF F2 i R1) a) with z | z
        · exact d2 a z hr
        · exact dR a z hr) (fun o e => by cases e; exact ⟨w, rfl, r2'⟩) (fun e => by cases e) (fun h => absurd h hj)
    refine q2 _ _ ⟨I2, _, s5, ?_⟩
    have stA := st2.aside (fun a => a ∈ R1) dm1 (fun a ha hz => d1 a hz ha)
    refine (st1.trans stA).trans (Step.of4 (Same.refl _) (fun a o h _ => k3 a o h) (fun a ha => ?_) (fun a o h => .inl h))
    rcases ow_up ha with z | z
    · rcases ow_up z with y | y
      · exact .inl (.inl (.inl y))
      · exact .inl (.inr y)
    · exact .inl (.inl (.inr z))
  · rw [if_neg hc] at q2; exact q2.elim
theorem ds_par {i j : Nat} {x y : Str} {f1 f2 : EF} {px py pt : Pos} {kt k2 pt2} (hpi : i ∉ g.pn.1) (hpj : j ∉ g.pn.1) (hc : X.calm = true) (hN : X.N.Nodup) (hi : X.N[i]? = some x) (hj : X.N[j]? = some y) (hij : i ≠ j)
    (hx : X.env.scope.names.lookup x = some .local) (hy : X.env.scope.names.lookup y = some .local) (ha : DE g X a f1) (hb : DE g X b f2)
    (hw : swappedStores [.Tuple [.Name x px, .Name y py] kt pt] (.Tuple [a, b] k2 pt2) X.env = pure (some [x, y]) := by rfl)
    (h1 : starEach [a, b] X.env = (false, eval a X.env) :: starEach [b] X.env := by rfl) (h2 : starEach [b] X.env = (false, eval b X.env) :: starEach [] X.env := by rfl)
    (hs : swapsWithSole [.Tuple [.Name x px, .Name y py] kt pt] (.Tuple [a, b] k2 pt2) pos.line X.env = pure false := by rfl) :
    DS g X (.Assign [.Tuple [.Name x px, .Name y py] kt pt] (.Tuple [a, b] k2 pt2) pos) (fPar i j f1 f2) := PS.imp (ps_par hc hN hi hj hij hx hy (pa_cons ha (pa_cons hb pa_nil h2) h1) hw hs) fun D σ H h => by
  refine tArg_mono (x := .v f1) (par_key hpi hpj h) fun v H1 q => tArg_mono (x := .v f2) q fun w H2 q => ?_
  exact ⟨v, w, rfl, q H2 (Same.refl _)⟩
end
end Dy
namespace Dy
open PySem PySem.Spec PyProof.Rows L2
/-- a def of the module by its mirror -/
def CallOk (P : Program) (w : World) (K : PySem.W.Frag) (mg : Str → Option Value) (T : List (Addr × Str)) (k : Nat) (x : Str) (ps : List Str) (m : Fn) : Prop :=
  ∃ f fd, mg x = some (.ref f) ∧ PySem.W.keepIn K (.ref f) = true ∧ Binds K fd ps [] ∧ ∀ base, FnG P w K mg base k f fd ps (spD K mg T m)
theorem CallOk.mono {P : Program} {w : World} {K : PySem.W.Frag} {mg : Str → Option Value} {T : List (Addr × Str)} {j k : Nat} {x : Str} {ps : List Str} {m : Fn} (h : CallOk P w K mg T j x ps m) (l : j ≤ k) : CallOk P w K mg T k x ps m := by
  obtain ⟨f, fd, h1, h2, h3, h4⟩ := h
  exact ⟨f, fd, h1, h2, h3, fun b => (h4 b).mono l⟩
theorem callOk_of {T : List (Addr × Str)} {P : Program} {w : World} {K : PySem.W.Frag} {mg : Str → Option Value} {k : Nat} {x qual : Str} {st : Stmt} {f : Addr} {fd : FuncData} {ps : List Str} {m : Fn} (F : Fun K x qual st f fd) (hm : mg x = some (.ref f)) (hb : Binds K fd ps []) (h : ∀ base, FnG P w K mg base k f fd ps (spD K mg T m)) : CallOk P w K mg T k x ps m :=
  ⟨f, fd, hm, F.kp, hb, h⟩
theorem ru64 {k : Nat} {A : Around} (h : Room k A) : A.units + 64 < cLine := by have := h.un; omega
theorem ru65 {k : Nat} {A : Around} (h : Room k A) : A.units + 65 < cLine := by have := h.un; omega
theorem ru0 {k : Nat} {A : Around} (h : Room k A) : A.units < cLine := by have := h.un; omega
section
variable {T : List (Addr × Str)} {g : G} {X : Cx} {k : Nat} {ps : List Str} {m : Fn} {x : Str} {p pos : Pos} {e : Expr} {es : List Expr} {as : List AF}
theorem dcall (c : CallOk X.prog X.w X.K X.mg T k x ps m) (hgd : X.A.guards = some []) (hr : Room k X.A) (hg : Gl X x) (hx : Passes (L2.CX X.prog X.w) X g.E)
    (ha : DA g X (e :: es) as) (hK : g.K = X.K := by rfl) (hM : g.mg = X.mg := by rfl) (hT : g.pn.2.2 = T := by rfl) (hdb : (x == ("__debug__" : Str)) = false := by decide) (he : starEach (e :: es) X.env = (false, eval e X.env) :: starEach es X.env := by rfl) (hpl : (backTo pos (starEach es X.env)).any (·.1) = false := by rfl) :
    DE g X (.Call (.Name x p) (e :: es) [] pos) (fCall m as) := by
  obtain ⟨f, fd, h1, h2, h3, h4⟩ := c
  have h5 := h4 X.base
  exact de_call (X := X) (by rw [hK, hM, hT]; exact h5) hgd hr hg h1 h2 h3 hx ha hdb he hpl
end
theorem npn {is rp : List Nat} (h : (is.all fun i => !rp.contains i) = true) : ∀ i ∈ is, i ∉ rp := fun i hi hr => by
  have := List.all_eq_true.mp h i hi
  rw [List.contains_iff_mem.mpr hr] at this
  cases this
theorem np1 {i : Nat} {rp : List Nat} (h : rp.contains i = false) : i ∉ rp := fun hr => by
  rw [List.contains_iff_mem.mpr hr] at h
  cases h
theorem bt_len : bootBuiltins "len" = some (.builtin "len") := by decide +kernel
theorem bt_sum : bootBuiltins "sum" = some (.builtin "sum") := by decide +kernel
theorem bt_max : bootBuiltins "max" = some (.builtin "max") := by decide +kernel
theorem bt_min : bootBuiltins "min" = some (.builtin "min") := by decide +kernel
theorem bt_all : bootBuiltins "all" = some (.builtin "all") := by decide +kernel
theorem bt_repr : bootBuiltins "repr" = some (.builtin "repr") := by decide +kernel
theorem bt_isinstance : bootBuiltins "isinstance" = some (.builtin "isinstance") := by decide +kernel
theorem bt_list : bootBuiltins "list" = some (.type "list") := by decide +kernel
theorem bt_tuple : bootBuiltins "tuple" = some (.type "tuple") := by decide +kernel
theorem bt_int : bootBuiltins "int" = some (.type "int") := by decide +kernel
theorem bt_bool : bootBuiltins "bool" = some (.type "bool") := by decide +kernel
section
variable {X : Cx} {x : Str} {pos : Pos}
/-- a built-in type's name -/
theorem pty {T : String} (hg : Gl X x) (hm : X.mg x = none) (hv : bootBuiltins x = some (.type T)) (hn : x ≠ "__name__" := by decide) (hd : (x == ("__debug__" : Str)) = false := by decide) : PE X (.Name x pos) (tC (.ty T)) := by
  exact pe_bltn hg hm hv rfl hn hd
end
end Dy
namespace Dy
open PySem
section
variable (env : Env) (i j n m : Nat) (f k : EF) (t u : TF) (s s' : SF) (as : List AF) (x y z : AF) (d : PyData)
theorem a_seq : fSeq s s' env = s env >>= fun r => match r.1 with | .nx => s' r.2 | _ => .ok r := rfl
theorem a_ifS : fIfS t s s' env = t env >>= fun r => if r.1 = true then s r.2 else s' r.2 := rfl
theorem a_B : fB f env = f env >>= fun r => match r.1 with | .fr (.bool b) => .ok (b, r.2) | _ => .no := rfl
theorem a_op (g : List PyData → Option O) : fOp g as env = evA as env >>= fun r => match rsvs r.2 r.1 with | none => .no | some ds => match g ds with | none => .no | some o => .ok (o, r.2) := rfl
theorem a_ov (g : List PyData → Option O) : fOv g as env = evA as env >>= fun r => match dvs r.1 with | none => .no | some ds => match g ds with | none => .no | some o => .ok (o, r.2) := rfl
theorem a_ev0 : evA [] env = .ok ([], env) := rfl
theorem a_evv : evA (.v f :: as) env = f env >>= fun r => evA as r.2 >>= fun q => .ok (.d r.1.data :: q.1, q.2) := rfl
theorem a_evs : evA (.s i :: as) env = match env[i]? with | some (some _) => evA as env >>= fun q => .ok (.s i :: q.1, q.2) | _ => .no := rfl
theorem a_C : fC d env = .ok (.fr d, env) := rfl
theorem a_V : fV i env = match env[i]? with | some (some (.fr d)) => .ok (.fr d, env) | some (some o) => .ok (.fr o.data, env.set i (some (.fr o.data))) | _ => .no := rfl
theorem a_M : fM i env = match env[i]? with | some (some o) => .ok (o, env.set i none) | _ => .no := rfl
theorem a_set : fSet i f env = f env >>= fun r => if i < r.2.length then .ok (.nx, r.2.set i (some r.1)) else .no := rfl
theorem a_setI : fSetI i y f env = f env >>= fun r => match r.2[i]? with
  | some (some (.ol _)) => evA [y] r.2 >>= fun q => match Dy.ints1 (rsvs q.2 q.1) with
    | none => .no
    | some k => match q.2[i]? with
      | some (some (.ol ds)) => match L2.ixN ds.length k with
        | some j => .ok (.nx, q.2.set i (some (.ol (ds.set j r.1.data))))
        | none => .no
      | _ => .no
  | _ => .no := rfl
theorem a_app : fApp i f env = match env[i]? with
  | some (some (.ol _)) => f env >>= fun r => match r.2[i]? with
    | some (some (.ol ds)) => if ds.length < 1000000 then .ok (.nx, r.2.set i (some (.ol (ds ++ [r.1.data])))) else .no
    | _ => .no
  | _ => .no := rfl
theorem a_ret : fRet f env = f env >>= fun r => .ok (.rt r.1, r.2) := rfl
theorem a_ex : fEx f env = f env >>= fun r => .ok (.nx, r.2) := rfl
theorem a_skip : fSkip env = .ok (.nx, env) := rfl
theorem a_no : fNo env = .no := rfl
theorem a_not : fNot t env = t env >>= fun r => .ok (!r.1, r.2) := rfl
theorem a_andT : fAndT t u env = t env >>= fun r => if r.1 = true then u r.2 else .ok (false, r.2) := rfl
theorem a_orT : fOrT t u env = t env >>= fun r => if r.1 = true then .ok (true, r.2) else u r.2 := rfl
theorem a_and : fAnd f k env = fB f env >>= fun r => if r.1 = true then k r.2 else .ok (.fr (.bool false), r.2) := rfl
theorem a_or : fOr f k env = fB f env >>= fun r => if r.1 = true then .ok (.fr (.bool true), r.2) else k r.2 := rfl
theorem a_notV : fNotV f env = fB f env >>= fun r => .ok (.fr (.bool (!r.1)), r.2) := rfl
theorem a_if : fIf t f k env = t env >>= fun r => if r.1 = true then f r.2 else k r.2 := rfl
theorem a_par : fPar i j f k env = f env >>= fun r1 => k r1.2 >>= fun r2 => if i < r2.2.length ∧ j < r2.2.length ∧ i ≠ j then .ok (.nx, (r2.2.set i (some r1.1)).set j (some r2.1)) else .no := rfl
theorem a_call (m : Fn) : fCall m as env = evA as env >>= fun r => match rsO r.2 r.1 with | none => .no | some os => if ndS r.1 = true then m os >>= fun q => .ok (q.1, putB r.1 q.2 r.2) else .no := rfl
theorem a_forS (g : IF) (w : Tg) : fForS g w s env = g env >>= fun r => fFor w s r.1 r.2 := rfl
theorem a_sq : fSq x env = evA [x] env >>= fun r => match dvs r.1 with | some [d] => (match seqOf d with | some xs => .ok (xs, r.2) | none => .no) | _ => .no := rfl
theorem a_r1 : fR1 x env = evA [x] env >>= fun r => match Dy.ints1 (rsvs r.2 r.1) with | some n => if n ≤ 1000000000 ∧ -1000000000 ≤ n then .ok (rng 0 n.toNat, r.2) else .no | none => .no := rfl
theorem a_r2 : fR2 x y env = evA [x, y] env >>= fun r => match Dy.ints2 (rsvs r.2 r.1) with | some n => if n.1 ≤ 1000000000 ∧ -1000000000 ≤ n.1 ∧ n.2 ≤ 1000000000 ∧ -1000000000 ≤ n.2 then .ok (rng n.1 (n.2 - n.1).toNat, r.2) else .no | none => .no := rfl
theorem a_en : fEn x env = fSq x env >>= fun r => .ok (enumD 0 r.1, r.2) := rfl
theorem a_zp : fZp x y env = evA [x, y] env >>= fun r => match dvs r.1 with | some [d, e] => (match seqOf d, seqOf e with | some xs, some ys => .ok (zipD xs ys, r.2) | _, _ => .no) | _ => .no := rfl
theorem a_asT (w : Tg) : fAsT w f env = f env >>= fun r => asT w r.1.data r.2 >>= fun e => .ok (.nx, e) := rfl
theorem a_chI (c1 c2 : Int → Int → Bool) : fChI c1 c2 x y z env = evA [x, y] env >>= fun r => match Dy.ints2 (rsvs r.2 r.1) with
  | some ij => if c1 ij.1 ij.2 = true then evA [z] r.2 >>= fun q => match Dy.ints1 (rsvs q.2 q.1) with
      | some k => .ok (.fr (.bool (c2 ij.2 k)), q.2)
      | none => .no
    else .ok (.fr (.bool false), r.2)
  | none => .no := rfl
theorem a_yes : fYes env = .ok (true, env) := rfl
theorem a_lc (g : IF) (vs : List Nat) (w : Tg) : fLc g vs w t f env = g env >>= fun r => lcL vs w t f r.1 (wipeE r.2 vs) [] >>= fun q => .ok (.ol q.1, unw r.2 q.2 vs) := rfl
theorem a_fn (rp : List Nat) (os : List O) : fnM n m rp s os = if os.length = n ∧ okA rp 0 os = true then
    s (os.map some ++ List.replicate (m - n) none) >>= fun r => match bkA rp r.2 0 os with
      | none => .no
      | some os' => match r.1 with
        | .rt o => .ok (o, os')
        | .nx => .ok (.fr .none, os')
        | _ => .no
  else .no := rfl
end
section
variable (i j : Int) (xs ys : List PyData) (d e : PyData) (a b : Str) (t : Bool) (rs : List (List PyData))
theorem d_fr : (O.fr d).data = d := rfl
theorem d_ol : (O.ol xs).data = .list xs := rfl
theorem f_fr : isFr (.fr d) = true := rfl
theorem q_addI : pAdd (.int i) (.int j) = some (.fr (.int (i + j))) := rfl
theorem q_addL : pAdd (.list xs) (.list ys) = if xs.length + ys.length ≤ 1000000 then some (.ol (xs ++ ys)) else none := rfl
theorem q_addT : pAdd (.tuple xs) (.tuple ys) = if xs.length + ys.length ≤ 1000000 then some (.fr (.tuple (xs ++ ys))) else none := rfl
theorem q_addS : pAdd (.str a) (.str b) = if a.length + b.length ≤ 1000000 then some (.fr (.str (a ++ b))) else none := rfl
theorem q_sub : pSub (.int i) (.int j) = some (.fr (.int (i - j))) := rfl
theorem q_div : pDiv (.int i) (.int j) = if 0 < j ∧ j < 1073741824 then some (.fr (.int (i / j))) else none := rfl
theorem q_mod : pMod (.int i) (.int j) = if 0 < j then some (.fr (.int (i % j))) else none := rfl
theorem q_pow : pPow (.int i) (.int j) = if 0 ≤ j ∧ j ≤ 1000000 ∧ i.natAbs < 2 ^ 64 then some (.fr (.int (i ^ j.toNat))) else none := rfl
theorem q_neg : pNeg (.int i) = some (.fr (.int (-i))) := rfl
theorem q_cm (c : Int → Int → Bool) : cmI c (.int i) (.int j) = some (.fr (.bool (c i j))) := rfl
theorem q_isN : isN .none = true := rfl
theorem q_isI : isN (.int i) = false := rfl
theorem q_isS : isN (.str a) = false := rfl
theorem q_isT : isN (.tuple xs) = false := rfl
theorem q_isL : isN (.list xs) = false := rfl
theorem q_isB : isN (.bool t) = false := rfl
theorem q_lenL : pLen (.list xs) = some (.fr (.int xs.length)) := rfl
theorem q_lenT : pLen (.tuple xs) = some (.fr (.int xs.length)) := rfl
theorem q_tupL : pTuple (.list xs) = some (.fr (.tuple xs)) := rfl
theorem q_tupT : pTuple (.tuple xs) = some (.fr (.tuple xs)) := rfl
theorem q_lstL : pList (.list xs) = some (.ol xs) := rfl
theorem q_lstT : pList (.tuple xs) = some (.ol xs) := rfl
theorem q_revL : pRev (.list xs) = some (.ol xs.reverse) := rfl
theorem q_slL : pSl2l (.list xs) (.int i) = some (.ol (cutD xs (some i) none)) := rfl
theorem q_slT : pSl2l (.tuple xs) (.int i) = some (.fr (.tuple (cutD xs (some i) none))) := rfl
theorem q_shL : pSl2h (.list xs) (.int i) = some (.ol (cutD xs none (some i))) := rfl
theorem q_shT : pSl2h (.tuple xs) (.int i) = some (.fr (.tuple (cutD xs none (some i)))) := rfl
theorem q_sqL : seqOf (.list xs) = some xs := rfl
theorem q_sqT : seqOf (.tuple xs) = some xs := rfl
theorem q_intI : pInt (.int i) = some (.fr (.int i)) := rfl
theorem q_max2 : pMax [.int i, .int j] = some (.fr (.int (max i j))) := rfl
theorem q_min2 : pMin [.int i, .int j] = some (.fr (.int (min i j))) := rfl
theorem q_aII : isA .int (.int i) = true := rfl
theorem q_aBI : isA .bool (.int i) = false := rfl
theorem q_aTI : isA .tuple (.int i) = false := rfl
theorem q_aTT : isA .tuple (.tuple xs) = true := rfl
theorem q_aLL : isA .list (.list xs) = true := rfl
theorem q_aTL : isA .tuple (.list xs) = false := rfl
theorem q_aIT : isA .int (.tuple xs) = false := rfl
end
theorem lc_inv {vs : List Nat} {t : Tg} {test : TF} {elt : EF} (P : Nat → Env → List PyData → Prop) (ds : List PyData) {env : Env} {acc : List PyData} (h0 : P 0 env acc)
    (step : ∀ k d e acc, ds[k]? = some d → P k e acc → ∃ e1 b e2, asT t d e = .ok e1 ∧ test e1 = .ok (b, e2) ∧ (b = false → P (k + 1) (wipeE e2 vs) acc) ∧ (b = true → ∃ o e3, elt e2 = .ok (o, e3) ∧ acc.length < 100000 ∧ P (k + 1) (wipeE e3 vs) (acc ++ [o.data]))) :
    ∃ e acc', lcL vs t test elt ds env acc = .ok (acc', e) ∧ P ds.length e acc' := by
  suffices h : ∀ (xs : List PyData) (k : Nat) (env : Env) (acc : List PyData), ds.drop k = xs → k ≤ ds.length → P k env acc → ∃ e acc', lcL vs t test elt xs env acc = .ok (acc', e) ∧ P ds.length e acc' from h ds 0 env acc rfl (Nat.zero_le _) h0
  intro xs
  induction xs with
  | nil =>
    intro k env acc hd hk hp
    have hl : ds.length ≤ k := List.drop_eq_nil_iff.mp hd
    have : k = ds.length := by omega
    subst this
    exact ⟨env, acc, rfl, hp⟩
  | cons x xs ih =>
    intro k env acc hd hk hp
    have hlt : k < ds.length := by
      cases Nat.lt_or_ge k ds.length with
      | inl h => exact h
      | inr h => rw [List.drop_eq_nil_iff.mpr h] at hd; cases hd
    rw [List.drop_eq_getElem_cons hlt] at hd
    cases hd
    obtain ⟨e1, b, e2, a1, a2, pf, pt⟩ := step k _ env acc (List.getElem?_eq_getElem hlt) hp
    unfold lcL
    rw [a1, bind_ok, a2]
    show ∃ e acc', (if b = true then _ else _) = Res.ok (acc', e) ∧ P ds.length e acc'
    cases b with
    | false => exact ih (k + 1) _ acc rfl hlt (pf rfl)
    | true =>
      obtain ⟨o, e3, c1, c2, p⟩ := pt rfl
      rw [if_pos rfl]
      show ∃ e acc', (nE (elt e2) >>= fun r => if acc.length < 100000 then lcL vs t test elt _ (wipeE r.2 vs) (acc ++ [r.1.data]) else .no) = Res.ok (acc', e) ∧ P ds.length e acc'
      rw [c1]
      show ∃ e acc', (if acc.length < 100000 then lcL vs t test elt _ (wipeE e3 vs) (acc ++ [o.data]) else .no) = Res.ok (acc', e) ∧ P ds.length e acc'
      rw [if_pos c2]
      exact ih (k + 1) _ _ rfl hlt p
theorem rng_at {lo : Int} {n k : Nat} {d : PyData} (h : (rng lo n)[k]? = some d) : k < n ∧ d = .int (lo + k) := by
  unfold rng at h
  rw [List.getElem?_map] at h
  cases q : (List.range n)[k]? with
  | none => rw [q] at h; cases h
  | some j =>
    rw [q] at h; cases h
    obtain ⟨hk, e⟩ := List.getElem?_eq_some_iff.mp q
    rw [List.length_range] at hk
    rw [List.getElem_range] at e
    subst e
    exact ⟨hk, rfl⟩
theorem rng_len {lo : Int} {n : Nat} : (rng lo n).length = n := by unfold rng; simp
end Dy
namespace Dy
open PySem PySem.Spec PyProof.Rows L2
theorem Rows.len {K : PySem.W.Frag} {I H : Hp} {as : List Addr} {rs : List (List PyData)} (h : Rows K I H as rs) : as.length = rs.length := by
  induction h with
  | nil => rfl
  | cons _ _ _ ih => simp [ih]
theorem Rows.app {K : PySem.W.Frag} {I H : Hp} {as bs : List Addr} {rs ss : List (List PyData)} (h : Rows K I H as rs) (k : Rows K I H bs ss) : Rows K I H (as ++ bs) (rs ++ ss) := by
  induction h with
  | nil => exact k
  | cons h1 h2 _ ih => exact .cons h1 h2 ih
theorem Rows.at {K : PySem.W.Frag} {I H : Hp} {as : List Addr} {rs : List (List PyData)} (h : Rows K I H as rs) : ∀ {k : Nat} {r : List PyData}, rs[k]? = some r → ∃ a us, as[k]? = some a ∧ H a = some (.lst us) ∧ RpAll K I us r := by
  induction h with
  | nil => intro k r e; simp at e
  | cons h1 h2 _ ih =>
    intro k r e
    cases k with
    | zero => simp at e; subst e; exact ⟨_, _, rfl, h1, h2⟩
    | succ k =>
      obtain ⟨a, us, e1, e2, e3⟩ := ih (k := k) (r := r) (by simpa using e)
      exact ⟨a, us, by simpa using e1, e2, e3⟩
theorem Rows.put {K : PySem.W.Frag} {I H : Hp} {as : List Addr} {rs : List (List PyData)} (h : Rows K I H as rs) (nd : as.Nodup) : ∀ {k : Nat} {a : Addr} {us : List V} {r : List PyData}, as[k]? = some a → RpAll K I us r → Rows K I (upd H a (.lst us)) as (rs.set k r) := by
  induction h with
  | nil => intro k a us r e; simp at e
  | @cons b bs vs r0 rs0 h1 h2 h3 ih =>
    intro k a us r e hr
    have ndb : b ∉ bs ∧ bs.Nodup := List.nodup_cons.mp nd
    cases k with
    | zero =>
      simp at e; subst e
      refine .cons upd_same hr (h3.mono (Same.refl _) fun x hx => upd_ne fun z => ?_)
      subst z; exact ndb.1 hx
    | succ k =>
      have e' : bs[k]? = some a := by simpa using e
      have hm : a ∈ bs := List.mem_of_getElem? e'
      refine .cons ?_ h2 (ih ndb.2 e' hr)
      rw [upd_ne fun z => by subst z; exact ndb.1 hm]; exact h1
def lcO (vs : List Nat) (t : Tg) (elt : EF) : List PyData → Env → List (List PyData) → Res (List (List PyData) × Env)
  | [], e, acc => .ok (acc, e)
  | d :: ds, e, acc => asT t d e >>= fun e1 => nE (elt e1) >>= fun r => match r.1 with
    | .ol x => if acc.length < 100000 then lcO vs t elt ds (wipeE r.2 vs) (acc ++ [x]) else .no
    | _ => .no
def fLcO (fi : IF) (vs : List Nat) (t : Tg) (elt : EF) : EF := fun env => fi env >>= fun r => lcO vs t elt r.1 (wipeE r.2 vs) [] >>= fun q => .ok (.oo q.1, unw r.2 q.2 vs)
/-- some addresses stand aside -/
theorem Step.set {I H I1 H1 : Hp} {S S1 : Addr → Prop} (a : Step I H S I1 H1 S1) {T : List Addr} (h : ∀ x ∈ T, ∃ o, H x = some o ∧ NT o) (n : ∀ x ∈ T, ¬ S x) (i : ∀ x ∈ T, I x = none) : (∀ x ∈ T, H1 x = H x) ∧ (∀ x ∈ T, ¬ S1 x) ∧ ∀ x ∈ T, I1 x = none := by
  refine ⟨fun x hx => ?_, fun x hx => ?_, fun x hx => ?_⟩ <;> obtain ⟨o, ho, nt⟩ := h x hx <;> have := a.one ho (n x hx) (i x hx) nt
  · rw [this.1, ho]
  · exact this.2.1
  · exact this.2.2
section
variable {g : G} {X : Cx} {a b c e : Expr} {es : List Expr} {pos : Pos} {σ : St} {H I : Hp} {env : Env} {F : Nat → List Addr}
end
end Dy
namespace Dy
open PySem PySem.Spec PyProof.Rows L2
/-- an int that is read and changes nothing -/
def PI1 (g : G) (t : TE) (z : Env → Option Int) : Prop := ∀ (I H : Hp) (σ : St) (env : Env) (F : Nat → List Addr) (k : Int) (Q : VK), Sim g.K g.pn I H σ env F → z env = some k → Q (.int k) H → t σ H Q
def zN (j : Nat) : Env → Option Int := fun env => match env[j]? with
  | some (some (.fr (.int n))) => some n
  | _ => none
def zC (n : Int) : Env → Option Int := fun _ => some n
section
variable {g : G} {X : Cx} {a b c e : Expr} {es : List Expr} {pos p1 p2 px : Pos} {σ : St} {H I : Hp} {env : Env} {F : Nat → List Addr} {D : Ends}
theorem pi_c {n : Int} : PI1 g (tC (.int n)) (zC n) := fun I H σ env F k Q s h q => by cases h; exact q
theorem pi_neg {n : Int} : PI1 g (tUn (rU fun i => .int (-i)) (tC (.int n))) (zC (-n)) := fun I H σ env F k Q s h q => by cases h; exact ⟨n, rfl, q⟩
theorem Sim.lt (s : Sim g.K g.pn I H σ env F) {i : Nat} {o : O} (q : env[i]? = some (some o)) : i < env.length := by
  cases Nat.lt_or_ge i env.length with
  | inl h => exact h
  | inr h => rw [List.getElem?_eq_none h] at q; cases q
/-- an owned list of lists: its rows -/
theorem Sim.ownO {i : Nat} {rs : List (List PyData)} (s : Sim g.K g.pn I H σ env F) (q : env[i]? = some (some (.oo rs))) :
    ∃ p as, σ[i]? = some (some (.ref p)) ∧ F i = p :: as ∧ (p :: as).Nodup ∧ H p = some (.lst (as.map V.ref)) ∧ Rows g.K I H as rs ∧
      ∀ (k : Nat) (x : Addr) (us : List V) (r : List PyData), as[k]? = some x → RpAll g.K I us r → AftS g.K g.pn I H F σ (env.set i (some (.oo (rs.set k r)))) (upd H x (.lst us)) := by
  obtain ⟨v, e1, p, as, rfl, hF, nd, h1, h2⟩ := s.rep i _ q
  refine ⟨p, as, e1, hF, nd, h1, h2, fun k x us r hk hr => ?_⟩
  have hx : x ∈ as := List.mem_of_getElem? hk
  have hxF : x ∈ F i := by rw [hF]; exact List.mem_cons_of_mem _ hx
  have hpx : p ≠ x := fun z => by subst z; exact (List.nodup_cons.mp nd).1 hx
  have nI := s.djI i x hxF
  have hi := s.lt q
  have ne : ∀ j, j ≠ i → ∀ b ∈ F j, b ≠ x := fun j hj b hb e => by subst e; exact hj (s.dis j i b hb hxF)
  refine ⟨I, upF F i (p :: as), ?_, Step.of4 (Same.refl _) (fun b o h n => ?_) (fun b h => ?_) (fun _ _ h => .inl h)⟩
  · have := s.put (i := i) (x := some (.oo (rs.set k r))) (sv := some (.ref p)) (R := p :: as) (H' := upd H x (.lst us)) hi (Same.refl _) (fun b o h => ?_) (fun j hj b hb => ?_) (fun j _ b hb => s.djI j b hb) (fun b hb => ?_) (fun j hj b hb h => ?_) (fun o e => ?_) (fun e => by cases e) (fun hp => ?_) (s.ktO hxF)
    · rw [set_same e1] at this; exact this
    · rw [upd_ne (fun e => by subst e; rw [nI] at h; cases h)]; exact s.sub b o h
    · rw [upd_ne (ne j hj b hb)]
    · exact s.djI i b (by rw [hF]; exact hb)
    · exact hj (s.dis j i b hb (by rw [hF]; exact h))
    · cases e; exact ⟨_, rfl, p, as, rfl, rfl, nd, by rw [upd_ne hpx]; exact h1, h2.put (List.nodup_cons.mp nd).2 hk hr⟩
    · have := s.pin i hp; rw [e1] at this; exact Option.some.inj this
  · rw [upd_ne (fun e => by subst e; exact n ⟨i, hxF⟩)]; exact h
  · rcases ow_up h with z | z
    · exact .inl z
    · exact .inl ⟨i, by rw [hF]; exact z⟩
/-- x[y][z] -/
def fIx2 (i : Nat) (y z : Env → Option Int) : EF := fun env => match env[i]?, y env, z env with
  | some (some (.oo rs)), some k, some l => match ixN rs.length k with
    | some j => match rs[j]? with
      | some r => match atI r l with
        | some d => .ok (.fr d, env)
        | none => .no
      | none => .no
    | none => .no
  | _, _, _ => .no
theorem de_ix2 {i : Nat} {x : Str} {y z : Env → Option Int} {ty tz : TE} (hx : PE X (.Name x px) (tVar i)) (hy : PE X b ty) (py : PI1 g ty y) (hz : PE X c tz) (pz : PI1 g tz z) (hb : PlainIx b) (hc : PlainIx c) :
    DE g X (.Subscript (.Subscript (.Name x px) b p1) c p2) (fIx2 i y z) := PE.imp (pe_ix ix_seq (pe_ix ix_list hx hy hb) hz hc) fun σ H Q h => by
  obtain ⟨I, env, F, s, p⟩ := h
  unfold fIx2 at p
  split at p
  · rename_i rs k l q1 q2 q3
    cases q4 : ixN rs.length k with
    | none => simp only [q4] at p; exact p.elim
    | some j =>
      simp only [q4] at p
      cases q5 : rs[j]? with
      | none => simp only [q5] at p; exact p.elim
      | some r =>
        simp only [q5] at p
        cases q6 : atI r l with
        | none => simp only [q6] at p; exact p.elim
        | some d =>
          simp only [q6] at p
          obtain ⟨pa, as, e1, hF, nd, h1, h2, _⟩ := s.ownO q1
          obtain ⟨xa, us, e2, e3, e4⟩ := h2.at q5
          obtain ⟨v, e5, e6⟩ := atI_rep e4 q6
          have e7 : atI (as.map V.ref) k = some (.ref xa) := by
            unfold atI
            rw [List.length_map, h2.len, q4]
            show (as.map V.ref)[j]? = _
            rw [List.getElem?_map, e2]; rfl
          refine ⟨_, e1, py I H σ env F k _ s q2 ?_⟩
          refine ⟨pa, _, k, _, rfl, rfl, SqL.of h1, e7, pz I H σ env F l _ s q3 ?_⟩
          exact .inl ⟨xa, us, l, v, rfl, rfl, SqL.of e3, e5, p v H (aftC s e6)⟩
  · exact p.elim
/-- x[y][z] = e -/
def fSetII (i : Nat) (y z : Env → Option Int) (f : EF) : SF := fun env => f env >>= fun r => match r.2[i]?, y r.2, z r.2 with
  | some (some (.oo rs)), some k, some l => match ixN rs.length k with
    | some j => match rs[j]? with
      | some w => match ixN w.length l with
        | some m => .ok (.nx, r.2.set i (some (.oo (rs.set j (w.set m r.1.data)))))
        | none => .no
      | none => .no
    | none => .no
  | _, _, _ => .no
end
end Dy
namespace Dy
open PySem PySem.Spec PyProof.Rows L2
theorem Sim.forget {K : PySem.W.Frag} {π : Pn} {I H : Hp} {σ : St} {env : Env} {F : Nat → List Addr} (s : Sim K π I H σ env F) (vs : List Nat) : Sim K π I H σ (wipeE env vs) (clF F vs) := by
  refine ⟨by rw [wipeE_length, s.len], fun i o q => ?_, fun i q => ?_, fun i j a h1 h2 => ?_, fun i a h => ?_, s.sub, s.pin, s.tab⟩
  · rw [wipeE_at] at q
    by_cases h : i ∈ vs
    · rw [if_pos h] at q; split at q <;> cases q
    · rw [if_neg h] at q
      obtain ⟨v, e1, r⟩ := s.rep i o q
      exact ⟨v, e1, by unfold clF; rw [if_neg h]; exact r⟩
  · unfold clF
    by_cases h : i ∈ vs
    · rw [if_pos h]
    · rw [if_neg h]; exact s.out i fun o z => q o (by rw [wipeE_at, if_neg h]; exact z)
  · unfold clF at h1 h2
    split at h1
    · cases h1
    · split at h2
      · cases h2
      · exact s.dis i j a h1 h2
  · unfold clF at h
    split at h
    · cases h
    · exact s.djI i a h
section
variable {g : G} {X : Cx} {a b c e : Expr} {es : List Expr} {pos p1 p2 px : Pos} {σ : St} {H I : Hp} {env : Env} {F : Nat → List Addr} {D : Ends} {st : Stmt} {sts : List Stmt}
theorem AftS.forget {H1 : Hp} {env' : Env} (af : AftS g.K g.pn I H F σ env' H1) (vs : List Nat) : AftS g.K g.pn I H F σ (wipeE env' vs) H1 := by
  obtain ⟨I', F', s, t⟩ := af
  exact ⟨I', clF F' vs, s.forget vs, t.less fun a h => clF_ow h⟩
theorem Aft.forget {H1 : Hp} {env' : Env} {o : O} {v : V} (af : Aft g.K g.pn I H F σ env' o v H1) (vs : List Nat) : Aft g.K g.pn I H F σ (wipeE env' vs) o v H1 := by
  obtain ⟨I', F', R, r, s, n, d, t⟩ := af
  exact ⟨I', clF F' vs, R, r, s.forget vs, n, fun a h => d a (clF_ow h), t.less fun a h => h.elim (fun z => .inl (clF_ow z)) .inr⟩
/-- behind a statement some slots are forgotten -/
def fWp (vs : List Nat) (f : SF) : SF := fun env => f env >>= fun r => .ok (r.1, wipeE r.2 vs)
theorem wp_key {f : SF} {vs : List Nat} (q : tS g (fWp vs f) D σ H) : tS g f D σ H := by
  obtain ⟨I, env, F, s, p⟩ := q
  refine ⟨I, env, F, s, post_mono (post_bind.mp p) (fun r q => ?_) fun _ z => z⟩
  obtain ⟨fl, e⟩ := r
  cases fl with
  | nx => exact fun σ' H' af => q σ' H' (af.forget vs)
  | bk => exact fun σ' H' af => q σ' H' (af.forget vs)
  | ct => exact fun σ' H' af => q σ' H' (af.forget vs)
  | rt o => exact fun v σ' H' af => q v σ' H' (af.forget vs)
theorem ds_wp {f : SF} (vs : List Nat) (h : DS g X st f) : DS g X st (fWp vs f) := PS.imp h fun D σ H q => wp_key q
/-- a name's thing is frozen -/
def frzE (e : Env) : List Nat → Env
  | [] => e
  | i :: is => match (frzE e is)[i]? with
    | some (some o) => (frzE e is).set i (some (.fr o.data))
    | _ => frzE e is
def fFz (vs : List Nat) (f : SF) : SF := fun env => f env >>= fun r => .ok (r.1, frzE r.2 vs)
theorem AftS.freeze {H1 : Hp} {env' : Env} (af : AftS g.K g.pn I H F σ env' H1) : ∀ vs : List Nat, AftS g.K g.pn I H F σ (frzE env' vs) H1
  | [] => af
  | i :: is => by
    have ih := AftS.freeze af is
    unfold frzE
    split
    · rename_i o q
      obtain ⟨I', F', s, t⟩ := ih
      obtain ⟨v, I2, _, _, s2, t2⟩ := sim_frz s q
      exact ⟨I2, _, s2, t.trans t2⟩
    · exact ih
theorem ds_fz {f : SF} (vs : List Nat) (h : DS g X st f) (hf : ∀ env r, f env = .ok r → r.1 = .nx) : DS g X st (fFz vs f) := PS.imp h fun D σ H q => by
  obtain ⟨I, env, F, s, p⟩ := q
  refine ⟨I, env, F, s, ?_⟩
  have p := post_bind.mp p
  cases q : f env with
  | no => rw [q] at p; exact p
  | er x => rw [q] at p; exact p
  | ok r =>
    rw [q] at p
    have h1 := hf env r q
    obtain ⟨fl, e⟩ := r
    cases h1
    exact fun σ' H' af => p σ' H' (af.freeze vs)
theorem nx_set {i : Nat} {f : EF} : ∀ env r, fSet i f env = .ok r → r.1 = .nx := fun env r h => by
  unfold fSet at h
  cases q : f env with
  | no => rw [q] at h; cases h
  | er x => rw [q] at h; cases h
  | ok y =>
    rw [q, bind_ok] at h
    split at h
    · cases h; rfl
    · cases h
theorem nx_par {i j : Nat} {f k : EF} : ∀ env r, fPar i j f k env = .ok r → r.1 = .nx := fun env r h => by
  unfold fPar at h
  cases q : f env with
  | no => rw [q] at h; cases h
  | er x => rw [q] at h; cases h
  | ok y =>
    rw [q, bind_ok] at h
    cases q2 : k y.2 with
    | no => rw [q2] at h; cases h
    | er x => rw [q2] at h; cases h
    | ok z =>
      rw [q2, bind_ok] at h
      split at h
      · cases h; rfl
      · cases h
theorem Sim.own2 {K : PySem.W.Frag} {π : Pn} {I H : Hp} {σ : St} {env : Env} {F : Nat → List Addr} {i : Nat} {ds : List PyData} (s : Sim K π I H σ env F) (q : env[i]? = some (some (.ol ds))) :
    ∃ a vs, σ[i]? = some (some (.ref a)) ∧ H a = some (.lst vs) ∧ RpAll K I vs ds ∧ ∀ vs' ds', RpAll K I vs' ds' → Sim K π I (upd H a (.lst vs')) σ (env.set i (some (.ol ds'))) (upF F i [a]) ∧ Step I H (Ow F) I (upd H a (.lst vs')) (Ow (upF F i [a])) := by
  obtain ⟨v, e1, a, vs, rfl, hF, h1, h2⟩ := s.rep i _ q
  refine ⟨a, vs, e1, h1, h2, fun vs' ds' r => ?_⟩
  have hi : i < env.length := by
    cases Nat.lt_or_ge i env.length with
    | inl h => exact h
    | inr h => rw [List.getElem?_eq_none h] at q; cases q
  have ha : a ∈ F i := by rw [hF]; simp
  have nI := s.djI i a ha
  have ne : ∀ j, j ≠ i → ∀ b ∈ F j, b ≠ a := fun j hj b hb e => by subst e; exact hj (s.dis j i b hb ha)
  refine ⟨?_, Step.of4 (Same.refl _) (fun b o h n => ?_) (fun b h => ?_) (fun _ _ h => .inl h)⟩
  · have := s.put (i := i) (x := some (.ol ds')) (sv := some (.ref a)) (R := [a]) (H' := upd H a (.lst vs')) hi (Same.refl _) (fun b o h => ?_) (fun j hj b hb => ?_) (fun j _ b hb => s.djI j b hb) (fun b hb => ?_) (fun j hj b hb h => ?_) (fun o e => ?_) (fun e => by cases e) (fun hp => ?_) (s.ktO ha)
    · rw [set_same e1] at this; exact this
    · rw [upd_ne (fun e => by subst e; rw [nI] at h; cases h)]; exact s.sub b o h
    · rw [upd_ne (ne j hj b hb)]
    · simp at hb; subst hb; exact nI
    · simp at h; exact ne j hj b hb h
    · cases e; exact ⟨_, rfl, a, vs', rfl, rfl, upd_same, r⟩
    · have := s.pin i hp; rw [e1] at this; exact Option.some.inj this
  · rw [upd_ne (fun e => by subst e; exact n ⟨i, ha⟩)]; exact h
  · rcases ow_up h with z | z
    · exact .inl z
    · simp at z; subst z; exact .inl ⟨i, ha⟩
/-- x.extend(e), e a new list -/
def fExt (i : Nat) (f : EF) : SF := fun env => match env[i]? with
  | some (some (.ol _)) => f env >>= fun r => match r.1 with
    | .ol ys => match r.2[i]? with
      | some (some (.ol xs)) => if xs.length + ys.length ≤ 1000000 then .ok (.nx, r.2.set i (some (.ol (xs ++ ys)))) else .no
      | _ => .no
    | _ => .no
  | _ => .no
theorem ds_ext {i : Nat} {x : Str} {px apos cpos spos : Pos} {f : EF} (hx : PE X (.Name x px) (tVar i)) (he : DE g X e f)
    (h2 : attributeBase (.Name x px) "extend" X.env (eval (.Name x px) X.env) = eval (.Name x px) X.env := by rfl)
    (h3 : ((backTo cpos (starEach [e] X.env)).all (fun x => !x.1) && (backToKw cpos (keywordEach [] X.env)).all (fun x => x.1.isSome)
      && decide ([e].length + ([] : List Keyword).length + (if ([] : List Keyword).isEmpty then 0 else 1) < 30)) = true := by rfl)
    (h4 : (apos.endLine == cpos.line) = true := by rfl) (h5 : starEach [e] X.env = (false, eval e X.env) :: starEach [] X.env := by rfl)
    (hs : swapsWith (.Call (.Attribute (.Name x px) "extend" apos) [e] [] cpos) none spos.line X.env = pure false := by rfl) :
    DS g X (.Expr (.Call (.Attribute (.Name x px) "extend" apos) [e] [] cpos) spos) (fExt i f) := PS.imp (ps_expr (pe_bm PySem.F.plainAttrs_list PySem.F.slot_list_extend PySem.F.type_list_extend mt_extend hx (pa_cons he pa_nil h5) h2 h3 h4 h5 rfl) hs) fun D σ H q => by
  obtain ⟨I, env, F, s, p⟩ := q
  unfold fExt at p
  split at p
  · rename_i ds0 q0
    obtain ⟨a, vs, e1, h1, h2, _⟩ := s.own q0
    refine ⟨.ref a, e1, .inl ⟨rfl, vs, SqL.of h1⟩, ?_⟩
    refine tD_seq s p fun r v H1 af q => ?_
    obtain ⟨o, e⟩ := r
    cases o with
    | fr _ => exact q.elim
    | oo _ => exact q.elim
    | od _ => exact q.elim
    | ol ys =>
      obtain ⟨I', F', R, ⟨b, us, rfl, rfl, hb, rb⟩, s', nR, dR, st⟩ := af
      dsimp only at q s'
      split at q
      · rename_i xs q1
        by_cases hz : xs.length + ys.length ≤ 1000000
        · rw [if_pos hz] at q
          obtain ⟨a', vs', e1', h1', h2', up⟩ := s'.own q1
          rw [e1] at e1'; cases e1'
          exact ⟨a, b, vs', us, rfl, rfl, h1', hb, by rw [h2'.length, rb.length]; exact Nat.le_trans hz (by decide), q _ _ (AftS.trans (st.less fun a h => .inl h) (up _ _ (h2'.app rb)))⟩
        · rw [if_neg hz] at q; exact q.elim
      · exact q.elim
  · exact p.elim
/-- x.insert(k, e) -/
def insA (xs : List PyData) : Option (List PyData) → Option (List PyData)
  | some [.int k, d] => if xs.length < 1000000 ∧ 0 ≤ k ∧ k < 1000000 then some (xs.take k.toNat ++ [d] ++ xs.drop k.toNat) else none
  | _ => none
def fIns (i : Nat) (as : List AF) : SF := fun env => match env[i]? with
  | some (some (.ol _)) => evA as env >>= fun r => match r.2[i]? with
    | some (some (.ol xs)) => match insA xs (dvs r.1) with
      | some ys => .ok (.nx, r.2.set i (some (.ol ys)))
      | none => .no
    | _ => .no
  | _ => .no
/-- x.pop() -/
def fPop (i : Nat) : EF := fun env => match env[i]? with
  | some (some (.ol xs)) => match xs[xs.length - 1]? with
    | some d => .ok (.fr d, env.set i (some (.ol xs.dropLast)))
    | none => .no
  | _ => .no
theorem RpAll.dropLast {K : PySem.W.Frag} {I : Hp} : ∀ {vs : List V} {ds : List PyData}, RpAll K I vs ds → RpAll K I vs.dropLast ds.dropLast := fun {vs ds} h => by
  rw [List.dropLast_eq_take, List.dropLast_eq_take, h.length]; exact h.takes _
theorem de_pop {i : Nat} {x : Str} {px apos cpos : Pos} (hx : PE X (.Name x px) (tVar i))
    (h2 : attributeBase (.Name x px) "pop" X.env (eval (.Name x px) X.env) = eval (.Name x px) X.env := by rfl) (h4 : (apos.endLine == cpos.line) = true := by rfl) :
    DE g X (.Call (.Attribute (.Name x px) "pop" apos) [] [] cpos) (fPop i) := PE.imp (pe_bm0 PySem.F.plainAttrs_list PySem.F.slot_list_pop PySem.F.type_list_pop mt_pop hx h2 h4) fun σ H Q q => by
  obtain ⟨I, env, F, s, p⟩ := q
  unfold fPop at p
  split at p
  · rename_i xs q0
    cases q1 : xs[xs.length - 1]? with
    | none => simp only [q1] at p; exact p.elim
    | some d =>
      simp only [q1] at p
      obtain ⟨a, vs, e1, h1, h2, up⟩ := s.own2 q0
      obtain ⟨v, ev, rv⟩ := h2.get q1
      obtain ⟨s2, st2⟩ := up _ _ h2.dropLast
      exact ⟨.ref a, e1, .inl ⟨rfl, vs, SqL.of h1⟩, a, vs, v, rfl, rfl, h1, by rw [h2.length]; exact ev, p v _ (AftD.aft ⟨I, _, rv, s2, st2⟩)⟩
  · exact p.elim
end
end Dy
namespace Dy
open PySem PySem.Spec PyProof.Rows L2
inductive Hold (K : PySem.W.Frag) (I H : Hp) : List O → List V → List (List Addr) → Prop
  | nil : Hold K I H [] [] []
  | cons {o : O} {v : V} {R : List Addr} {os : List O} {vs : List V} {Rs : List (List Addr)} : RepO K I H o v R → Hold K I H os vs Rs → Hold K I H (o :: os) (v :: vs) (R :: Rs)
theorem Hold.snoc {K : PySem.W.Frag} {I H : Hp} {os : List O} {vs : List V} {Rs : List (List Addr)} {o : O} {v : V} {R : List Addr} (h : Hold K I H os vs Rs) (r : RepO K I H o v R) : Hold K I H (os ++ [o]) (vs ++ [v]) (Rs ++ [R]) := by
  induction h with
  | nil => exact .cons r .nil
  | cons a _ ih => exact .cons a ih
theorem Hold.mono {K : PySem.W.Frag} {I H I' H' : Hp} {os : List O} {vs : List V} {Rs : List (List Addr)} (h : Hold K I H os vs Rs) (e : Same I I') (k : ∀ a ∈ Rs.flatten, H' a = H a) : Hold K I' H' os vs Rs := by
  induction h with
  | nil => exact .nil
  | cons r _ ih => exact .cons (r.mono e fun a ha => k a (by simp [ha])) (ih fun a ha => k a (by rw [List.flatten_cons]; exact List.mem_append_right _ ha))
theorem Hold.domN {K : PySem.W.Frag} {I H : Hp} {os : List O} {vs : List V} {Rs : List (List Addr)} (h : Hold K I H os vs Rs) : ∀ a ∈ Rs.flatten, ∃ o, H a = some o ∧ NT o := by
  induction h with
  | nil => intro a ha; cases ha
  | cons r _ ih =>
    intro a ha
    rw [List.flatten_cons] at ha
    rcases List.mem_append.mp ha with h | h
    · exact r.domN a h
    · exact ih a h
theorem Hold.dom {K : PySem.W.Frag} {I H : Hp} {os : List O} {vs : List V} {Rs : List (List Addr)} (h : Hold K I H os vs Rs) : ∀ a ∈ Rs.flatten, ∃ o, H a = some o := fun a ha => let ⟨o, e, _⟩ := h.domN a ha; ⟨o, e⟩
def setO : List Nat → List O → Env → Option Env
  | [], [], e => some e
  | i :: is, o :: os, e => if i < e.length then setO is os (e.set i (some o)) else none
  | _, _, _ => none
def evO : List EF → Env → Res (List O × Env)
  | [], e => .ok ([], e)
  | f :: fs, e => f e >>= fun r => evO fs r.2 >>= fun q => .ok (r.1 :: q.1, q.2)
def fParN (is : List Nat) (fs : List EF) : SF := fun env => evO fs env >>= fun r => match setO is r.1 r.2 with
  | some e => .ok (.nx, e)
  | none => .no
section
variable {g : G} {X : Cx} {a b c e : Expr} {es : List Expr} {pos p1 p2 px : Pos} {σ : St} {H I : Hp} {env : Env} {F : Nat → List Addr} {D : Ends}
end
end Dy
namespace Dy
open PySem PySem.Spec PyProof.Rows L2
section
variable {K : PySem.W.Frag} {I H : Hp} {X : Cx}
theorem rps_tup {v : V} {ds : List PyData} (h : RpS K I H v (.tuple ds)) : Rp K I v (.tuple ds) := by
  rcases h with h | ⟨a, vs, ds, rfl, e, h1, h2⟩ | ⟨_, _, _, e, _⟩
  · exact h
  · cases e
  · cases e
def pDivW : PyData → PyData → Option O
  | .int i, .int j => if 0 < j ∧ j < 1000000000000000000000000000000 then some (.fr (.int (i / j))) else none
  | _, _ => none
theorem os_divW : OpS K (two (rI CDivW fun i j => .int (i / j))) (on2 pDivW) := ops2 fun v u d e I H Q o s r1 r2 q k => by
  unfold pDivW at q
  split at q
  · split at q
    · rename_i hc
      cases q
      rw [r1.int, r2.int]
      refine ⟨_, _, rfl, rfl, ⟨hc.1, ?_⟩, k _ _ _ _ (Grow.val s (.int _))⟩
      exact Nat.lt_of_lt_of_le (PySem.Flt.log2_lt_of (k := 100) (by decide) (by omega)) (by decide)
    · cases q
  · cases q
def fWb (vs : List Nat) (f : SF) : SF := fun env => f (wipeE env vs)
theorem a_wb (vs : List Nat) (f : SF) (env : Dy.Env) : fWb vs f env = f (wipeE env vs) := rfl
theorem q_divW (i j : Int) : pDivW (.int i) (.int j) = if 0 < j ∧ j < 1000000000000000000000000000000 then some (.fr (.int (i / j))) else none := rfl
end
end Dy
namespace Dy
open PySem PySem.Spec PyProof.Rows L2
theorem tuple_mul1 (l : Addr) (items : Array Value) (n : Nat) (dd : Option Addr) (sl : Array (Option Value)) (u : Tok) :
    Meets (Builtin.«tuple.__mul__» ⟨[.ref l, .int 1 u], []⟩) (fun _ R s => s.heap.get? l = some { cls := .type "tuple", dict := dd, data := .seq items n, slots := sl } ∧
      R (.ok (.ret (Value.ref l))) s) :=
  .of_wp fun prog w A R s h => by
    obtain ⟨hp, g, d, tk, os⟩ := s
    obtain ⟨hl, h⟩ := h
    have f1 := AutoSeq1.idx_int
    have c1 : (items.isEmpty || (1 : Int) == 1) = true := by simp
    wp_walk using wpAny_loadPart' hl
    exact ⟨_, rfl, h⟩
theorem tuple_mul0 (l : Addr) (items : Array Value) (n : Nat) (dd : Option Addr) (sl : Array (Option Value)) (x : Int) (u : Tok) (c0 : (decide (x < -(2 ^ 63)) || decide (x ≥ 2 ^ 63)) = false) (c1 : (items.isEmpty || x == 1) = false) (c2 : (decide (x ≤ 0) || items.isEmpty) = true) :
    Meets (Builtin.«tuple.__mul__» ⟨[.ref l, .int x u], []⟩) (fun _ R s => s.heap.get? l = some { cls := .type "tuple", dict := dd, data := .seq items n, slots := sl } ∧
      R (.ok (.ret (Value.ref s.heap.objs.size))) { s with heap := s.heap.push { cls := Value.type "tuple", data := Data.seq #[] }, toks := s.toks }) :=
  .of_wp fun prog w A R s h => by
    obtain ⟨hp, g, d, tk, os⟩ := s
    obtain ⟨hl, h⟩ := h
    have f1 := AutoSeq1.idx_int
    wp_walk using wpAny_loadPart' hl
    repeat (first
      | (refine wpAny_ite_false (decide_eq_false (by rw [c0]; exact Bool.false_ne_true)) ?_; wp_walk using wpAny_loadPart' hl)
      | (refine wpAny_ite_false (decide_eq_false (by rw [c1]; exact Bool.false_ne_true)) ?_; wp_walk using wpAny_loadPart' hl)
      | (refine wpAny_ite_true (decide_eq_true (by rw [c2])) ?_; wp_walk using wpAny_loadPart' hl))
    exact ⟨_, rfl, h⟩
def rRepT1 (K : PySem.W.Frag) : R2 := fun x y H Q => ∃ l k xs, x = .ref l ∧ y = .int k ∧ SqT K H l xs ∧ xs ≠ [] ∧ -1000 ≤ k ∧ ((k = 1 ∧ Q (.ref l) H) ∨ (k ≤ 0 ∧ ∀ p, H p = none → Q (.ref p) (upd H p (.tup []))))
theorem op_repT1 {X : Cx} : OpR X (binaryOp .Mult) (rRepT1 X.K) := by
  intro pins s σ H x y v u Q I rx ry h
  obtain ⟨l, k, xs, rfl, rfl, hT, hne, h1, q⟩ := h
  cases rx
  obtain ⟨t, rfl⟩ := ry
  obtain ⟨its, r, ⟨⟨cls, dd, data, sl⟩, ho, hc, n, hd⟩, hs⟩ := I.tuple hT
  simp only at hc hd
  subst hc hd
  have hle : its.length = xs.length := r.length.symm
  have hn : its ≠ [] := fun e => hne (by
    rw [e] at hle
    exact List.eq_nil_of_length_eq_zero hle.symm)
  have hi : its.toArray.isEmpty = false := by
    cases its with
    | nil => exact absurd rfl hn
    | cons a b => rfl
  rcases q with ⟨rfl, q⟩ | ⟨h0, q⟩
  · refine wpAny_binaryOp_repeat_ref (T := "tuple") (U := "int") (by decide) ⟨_, ho, rfl⟩ (fun s' => typeIs_int s' 1 t) noFill_tuple_mul F.fills_int_mul F.slot_int_rmul repeat_tuple F.slot_int_index.lookup
      (call_meets F.slot_int_rmul (typeIs_int s 1 t) F.entry_int_rmul (F.args_int_rmul_2 _ _) (int_rmul_tuple 1 t l its.toArray n dd sl)
        ⟨ho, rfl, ⟨_, ho, rfl⟩, call_meets F.slot_tuple_mul ⟨_, ho, rfl⟩ F.entry_tuple_mul (F.args_tuple_mul_2 _ _) (tuple_mul1 l its.toArray n dd sl t) ⟨ho, ?_⟩⟩)
    exact ⟨.ref l, H, I, rfl, q⟩
  · have c0 : (decide (k < -(2 ^ 63)) || decide (k ≥ 2 ^ 63)) = false := by
      rw [decide_eq_false (by omega), decide_eq_false (by omega)] <;> rfl
    have c1 : (its.toArray.isEmpty || k == 1) = false := by
      rw [hi, Bool.false_or]
      exact beq_eq_false_iff_ne.mpr (by omega)
    have c2 : (decide (k ≤ 0) || its.toArray.isEmpty) = true := by
      rw [decide_eq_true h0]; rfl
    refine wpAny_binaryOp_repeat_ref (T := "tuple") (U := "int") (by decide) ⟨_, ho, rfl⟩ (fun s' => typeIs_int s' k t) noFill_tuple_mul F.fills_int_mul F.slot_int_rmul repeat_tuple F.slot_int_index.lookup
      (call_meets F.slot_int_rmul (typeIs_int s k t) F.entry_int_rmul (F.args_int_rmul_2 _ _) (int_rmul_tuple k t l its.toArray n dd sl)
        ⟨ho, rfl, ⟨_, ho, rfl⟩, call_meets F.slot_tuple_mul ⟨_, ho, rfl⟩ F.entry_tuple_mul (F.args_tuple_mul_2 _ _) (tuple_mul0 l its.toArray n dd sl k t c0 c1 c2) ⟨ho, ?_⟩⟩)
    refine ⟨.ref s.heap.objs.size, _, I.laid (t' := s.toks) (o := .tup []) (fun b ob q => Heap.get?_push_of_some _ q) (Nat.le_refl _) ?_, rfl, q _ (I.hok.fresh (Nat.le_refl _))⟩
    exact ⟨Nat.zero_le _, [], .nil, IsTup.new _ _⟩
def pMulA : PyData → PyData → Option O
  | .tuple xs, .int k => if xs.length ≤ 1000 ∧ -1000 ≤ k ∧ k ≤ 1000 ∧ xs ≠ [] then some (.fr (.tuple (List.replicate k.toNat xs).flatten)) else none
  | d, e => pMul d e
def rMulB (K : PySem.W.Frag) : R2 := fun x y H Q => rMulA K x y H Q ∨ rRepT1 K x y H Q
theorem op_mulB {X : Cx} : OpR X (binaryOp .Mult) (rMulB X.K) := op_mulA.or op_repT1
theorem os_mulB {K : PySem.W.Frag} : OpS K (two (rMulB K)) (on2 pMulA) := ops2 fun v u d e I H Q o s r1 r2 q k => by
  unfold pMulA at q
  split at q
  · rename_i xs n
    split at q
    · rename_i hc
      cases q
      by_cases h2 : 2 ≤ n
      · refine .inl (os_mul [v, u] [_, _] I H Q _ s (.cons r1 (.cons r2 .nil)) ?_ k)
        show (if _ then _ else _) = _
        rw [if_pos ⟨hc.1, h2, hc.2.2.1, hc.2.2.2⟩]
      · have hu := r2.int
        subst hu
        cases rps_tup r1 with
        | tup h1 ra =>
          rename_i a vs
          refine .inr ⟨a, n, vs, rfl, rfl, same_t s h1, fun z => ?_, hc.2.1, ?_⟩
          · subst z; have := ra.length; exact hc.2.2.2 (List.length_eq_zero_iff.mp this.symm)
          · by_cases h1' : n = 1
            · left
              subst h1'
              refine ⟨rfl, k _ _ I [] ?_⟩
              have : (List.replicate (1 : Int).toNat xs).flatten = xs := by simp
              rw [this]
              exact Grow.val s (.tup h1 ra)
            · right
              have : (List.replicate n.toNat xs).flatten = [] := by
                have : n.toNat = 0 := by omega
                rw [this]; rfl
              refine ⟨by omega, fun p np => ?_⟩
              rw [this] at k
              exact k _ _ _ _ (Grow.tup s np .nil)
    · cases q
  · exact .inl (os_mul [v, u] [_, _] I H Q o s (.cons r1 (.cons r2 .nil)) q k)
theorem q_mulAI (i j : Int) : pMulA (.int i) (.int j) = pMul (.int i) (.int j) := rfl
theorem q_mulAL (xs : List PyData) (j : Int) : pMulA (.list xs) (.int j) = pMul (.list xs) (.int j) := rfl
end Dy
namespace Dy
open PySem PySem.Spec PyProof.Rows L2
/-- what stands for a dict -/
def DiOb (K : PySem.W.Frag) (I : Hp) (ob : HO) (a : Addr) (es : List (PyData × PyData)) : Prop := (∃ kvs, ob = .dK kvs ∧ RpKv K I kvs es) ∨ ∃ ts, ob = dN a ts ∧ RpKt K I ts es
theorem DiOb.at {K : PySem.W.Frag} {I H : Hp} {ob : HO} {a : Addr} {es : List (PyData × PyData)} (h : DiOb K I ob a es) (e : H a = some ob) : DiO K I H a es := by
  rcases h with ⟨kvs, rfl, h⟩ | ⟨ts, rfl, h⟩
  · exact .inl ⟨kvs, e, h⟩
  · exact .inr ⟨ts, e, h⟩
section
variable {X : Cx} {pins : List (Addr × Obj)} {σ : St} {I H : Hp} {s : Shared} {a : Addr} {es : List (PyData × PyData)} {k d : PyData} {y v : V} {u r : Value} {A : Around} {E : Value → Shared → Prop}
end
section
variable {X : Cx}
variable {o e : Expr} {es : List Expr} {to : TE} {t : TA} {name : Str} {apos cpos : Pos} {id : String} {r : V → List V → Hp → VK → Prop}
end
section
variable {g : G} {X : Cx} {a b c e : Expr} {es : List Expr} {pos p1 p2 px : Pos} {σ : St} {H I : Hp} {env : Env} {F : Nat → List Addr} {D : Ends} {st : Stmt} {sts : List Stmt}
def fNewD : EF := fun env => .ok (.od [], env)
theorem de_dnew : DE g X (.Dict [] [] pos) fNewD := PE.imp pe_dnewK fun σ H Q q => by
  obtain ⟨I, env, F, s, p⟩ := q
  intro x hx
  refine p _ _ (Grow.aft (I' := I) (R := [x]) ⟨⟨x, rfl, rfl, .inl ⟨[], upd_same, .nil⟩⟩, Same.refl _, same_new hx, s.sub.trans (same_new hx), fun a h => by simp at h; subst h; exact hx, fun a h => by simp at h; subst h; exact none_of_same s.sub hx, fun _ _ h => .inl h⟩ s)
end
end Dy
namespace Dy
open PySem PySem.Spec PyProof.Rows L2 HT
section
variable {prog : Program} {w : World} {A : Around} {E : Value → Shared → Prop} {s : Shared}
theorem sliceApplied_rev {sl : Addr} {vs : Value} {n : Nat} {Q : Int × Int × Nat → Shared → Prop} (hs : s.heap.IsSliceOf sl .none .none vs) (ps : IsPart vs (some (-1))) (h : Q ((n : Int) - 1, -1, n) s) :
    wpAny (model prog w) A (Builtin.Slice.sliceApplied (.ref sl) (pure (n : Int))) Q E s := by
  obtain ⟨os, hos, hcs, hds⟩ := id hs
  unfold Builtin.Slice.sliceApplied Builtin.Slice.sliceFields
  refine wpAny_bind (wpAny_bind (wpAny_field hos hds (x := .none) rfl (wpAny_bind (wpAny_field hos hds (x := .none) rfl (wpAny_bind (wpAny_field hos hds (x := vs) rfl (wpAny_pure ?_)))))))
  refine wpAny_bind (slicePart_ ps ?_)
  show wpAny _ _ (if ((-1 : Int) == 0) = true then _ else _) _ _ s
  rw [if_neg (by decide)]
  refine wpAny_bind (slicePart_ .none (wpAny_bind (slicePart_ .none (wpAny_bind (wpAny_pure ?_)))))
  show wpAny _ _ (pure ((n : Int) - 1, (-1 : Int), Builtin.Slice.slicePlaces ((n : Int) - 1) (-1) (-1))) _ _ s
  have e : Builtin.Slice.slicePlaces ((n : Int) - 1) (-1) (-1) = n := by
    unfold Builtin.Slice.slicePlaces
    have h1 : ¬ ((-1 : Int) > 0) := by decide
    simp only [h1, if_false]
    split
    · rw [show (- -1 : Int) = 1 by decide, Int.ediv_one]; omega
    · omega
  rw [e]
  exact wpAny_pure h
theorem pick_rev (xs : Array Value) : ((List.range xs.size).filterMap fun (k : Nat) => xs[((xs.size : Int) - 1 + (k : Int) * -1).toNat]?).toArray = xs.toList.reverse.toArray := by
  congr 1
  have e : ((List.range xs.size).filterMap fun (k : Nat) => xs[((xs.size : Int) - 1 + (k : Int) * -1).toNat]?) = ((List.range xs.size).map fun k => xs.size - 1 - k).filterMap (xs[·]?) := by
    rw [List.filterMap_map]
    congr 1
    funext k
    show xs[((xs.size : Int) - 1 + (k : Int) * -1).toNat]? = xs[xs.size - 1 - k]?
    congr 1
    omega
  rw [e, PySem.W.krv_range, List.filterMap_reverse, PySem.W.krv_all]
theorem getItem_tuple_rev {t sl : Addr} {items : Array Value} {vs : Value} {Q : Value → Shared → Prop} (ht : IsTup s.heap t items) (hs : s.heap.IsSliceOf sl .none .none vs) (ps : IsPart vs (some (-1)))
    (h : Q (.ref s.heap.objs.size) { s with heap := s.heap.push { cls := .type "tuple", data := .seq items.toList.reverse.toArray } }) (hsz : items.size ≤ sizeLine) : wpAny (model prog w) A (getItem (.ref t) (.ref sl)) Q E s := by
  have htake : sizeOk (.seq items.toList.reverse.toArray) := by
    show items.toList.reverse.toArray.size ≤ sizeLine
    simpa using hsz
  obtain ⟨os, hos, hcs, hds⟩ := id hs
  have hTs : s.TypeIs (.ref sl) "slice" := ⟨os, hos, hcs⟩
  unfold getItem
  try with_reducible refine wpAny_holding ?_
  first | refine wpAny_bind (wpAny_pure ?_) | skip
  refine wpAny_bind (wpAny_sequenceKey ht.typeIs (by decide) ?_)
  refine wpAny_bind (wpAny_callSpecial?_slot (name := Str.ofString "__getitem__") ht.typeIs PyProof.Rows.slot_tuple_getitem
    (wpAny_call_entry PyProof.Rows.slot_tuple_getitem ht.typeIs entry_tuple_getitem ?_ (args_tuple_getitem _ _)))
  show wpAny _ _ (Builtin.Tuple.tupleItemsOf (.ref t) >>= _) _ _ s
  refine wpAny_bind (tupleItemsOf_ ht ?_)
  refine wpAny_bind (wpAny_typeOf hTs ?_)
  rw [if_pos (by decide)]
  refine wpAny_bind (sliceApplied_rev hs ps ?_)
  have hno : ¬ ((((items.size : Int) - 1) == 0 && (-1 : Int) == 1 && items.size == items.size) = true) := by
    intro q
    rw [Bool.and_eq_true, Bool.and_eq_true] at q
    exact absurd q.1.2 (by decide)
  show wpAny _ _ (if (((items.size : Int) - 1) == 0 && (-1 : Int) == 1 && items.size == items.size) = true then _ else _) _ _ s
  rw [if_neg hno, pick_rev]
  first
    | exact wpAny_bind (m := Builtin.Tuple.tupleExact _) (wpAny_newObj_type (wpAny_pure ⟨_, rfl, wpAny_pure h⟩) htake)
    | exact wpAny_bind (m := Builtin.Tuple.tupleExact _) (wpAny_newObj_type (wpAny_bind (wpAny_pure (wpAny_pure ⟨_, rfl, wpAny_pure h⟩))) htake)
    | exact wpAny_bind (wpAny_bind (m := Builtin.Tuple.tupleExact _) (wpAny_newObj_type (wpAny_pure (wpAny_pure ⟨_, rfl, wpAny_pure h⟩)) htake))
    | exact wpAny_bind (wpAny_bind (m := Builtin.Tuple.tupleExact _) (wpAny_newObj_type (wpAny_pure ⟨_, rfl, wpAny_pure h⟩) htake))
end
section
variable {X : Cx}
/-- xs[::-1] of lists and tuples -/
def tRevA (K : PySem.W.Frag) (te : TE) : TE := fun σ H Q => te σ H fun x H1 => ∃ a xs, x = .ref a ∧ ((SqL K H1 a xs ∧ ∀ p, H1 p = none → Q (.ref p) (upd H1 p (.lst xs.reverse))) ∨ (SqT K H1 a xs ∧ ∀ p, H1 p = none → Q (.ref p) (upd H1 p (.tup xs.reverse))))
theorem pe_revA {e : Expr} {te : TE} {k : Nat} {p1 p2 p3 pos : Pos} (he : PE X e te) : PE X (.Subscript e (.Slice none none (some (.UnaryOp .USub (.Constant (.int 1) k p1) p2)) p3) pos) (tRevA X.K te) := by
  refine ⟨fun pins s σ H Q I h => ?_⟩
  refine Subscript_ (thn (he.run pins s σ H _ I h) fun v s1 ⟨x, H1, I1, r1, q1⟩ => ?_)
  obtain ⟨a, xs, ex, q1⟩ := q1
  subst ex
  cases r1
  have hst : PO X (some (.UnaryOp .USub (.Constant (.int 1) k p1) p2)) (tPart (tUn (rU fun i => .int (-i)) (tC (.int 1)))) := po_some (pe_un un_neg pe_int)
  refine wpAny_Slice (thn (po_none.run pins s1 σ H1 (fun o H2 => o = none ∧ H2 = H1) I1 ⟨rfl, rfl⟩) fun vl s2 ⟨l, H2, I2, pl, el, e2⟩ => ?_)
  subst el e2
  refine thn (po_none.run pins s2 σ H2 (fun o H3 => o = none ∧ H3 = H2) I2 ⟨rfl, rfl⟩) fun vu s3 ⟨u, H3, I3, pu, eu, e3⟩ => ?_
  subst eu e3
  refine thn (hst.run pins s3 σ H3 (fun o H4 => o = some (-1) ∧ H4 = H3) I3 ⟨1, rfl, -1, rfl, rfl, rfl⟩) fun vs s4 ⟨o, H4, I4, ps, eo, e4⟩ => ?_
  subst eo e4
  have I5 : Inv X pins σ H4 { s4 with heap := s4.heap.push { cls := .type "slice", data := .fields #[vl, vu, vs] } } := I4.kept (t' := s4.toks) fun b ob q => Heap.get?_push_of_some _ q
  show wpAny (model X.prog X.w) X.A (subscriptTail e (.Slice none none (some (.UnaryOp .USub (.Constant (.int 1) k p1) p2)) p3) (.ref a) (.ref s4.heap.objs.size)) (EP X pins σ Q) X.xe { s4 with heap := s4.heap.push { cls := .type "slice", data := .fields #[vl, vu, vs] } }
  rcases q1 with ⟨hx, q⟩ | ⟨hx, q⟩
  · obtain ⟨its, r, ht, hz⟩ := I5.list hx
    have hlen := r.length
    refine tail_any (ops := [.ref a, .ref s4.heap.objs.size]) ht.isList.typeIs (PySem.slot_list_getitem.lookup) ?_ (by with_unfolding_all rfl)
    refine wpAny_getItem_list_slice ht.isList (Heap.IsSliceOf.new _ vl vu vs) pl pu ps (by decide) ?_ (by rw [List.size_toArray]; omega)
    rw [PySem.W.krv_pick]
    refine ⟨.ref _, _, I5.laid (t' := s4.toks) (o := .lst xs.reverse) (fun b ob q => Heap.get?_push_of_some _ q) (Nat.le_refl _) ?_, rfl, q _ (I5.hok.fresh (Nat.le_refl _))⟩
    exact ⟨by rw [List.length_reverse]; exact hz, _, 0, r.reverse, Heap.get?_push_size _ rfl⟩
  · obtain ⟨its, r, ht, hz⟩ := I5.tuple hx
    have hlen := r.length
    refine tail_any (ops := [.ref a, .ref s4.heap.objs.size]) ht.typeIs (PyProof.Rows.slot_tuple_getitem.lookup) ?_ (by with_unfolding_all rfl)
    cases pl; cases pu
    refine getItem_tuple_rev ht (Heap.IsSliceOf.new _ .none .none vs) ps ?_ (by rw [List.size_toArray]; omega)
    refine ⟨.ref _, _, I5.laid (t' := s4.toks) (o := .tup xs.reverse) (fun b ob q => Heap.get?_push_of_some _ q) (Nat.le_refl _) ?_, rfl, q _ (I5.hok.fresh (Nat.le_refl _))⟩
    exact ⟨by rw [List.length_reverse]; exact hz, _, r.reverse, IsTup.new _ _⟩
end
def pRevA : PyData → Option O
  | .list xs => some (.ol xs.reverse)
  | .tuple xs => some (.fr (.tuple xs.reverse))
  | _ => none
section
variable {g : G} {X : Cx} {a b c e : Expr} {es : List Expr} {pos p1 p2 p3 : Pos} {σ : St} {H I : Hp} {env : Env} {F : Nat → List Addr} {D : Ends}
theorem de_revA {x : AF} {k : Nat} (ha : DX g X a x) (hK : X.K = g.K := by rfl) : DE g X (.Subscript a (.Slice none none (some (.UnaryOp .USub (.Constant (.int 1) k p1) p2)) p3) pos) (fOp (on1 pRevA) [x]) :=
  PE.imp (pe_revA ha) fun σ H Q h => by
    refine tArg_mono (tA1 (op_key (r := one fun v H1 Q => ∃ a xs, v = V.ref a ∧ ((SqL X.K H1 a xs ∧ ∀ p, H1 p = none → Q (.ref p) (upd H1 p (.lst xs.reverse))) ∨ (SqT X.K H1 a xs ∧ ∀ p, H1 p = none → Q (.ref p) (upd H1 p (.tup xs.reverse))))) ?_ h)) fun v H1 q => q
    refine ops1 fun v d I H Q o s r1 q k => ?_
    unfold pRevA at q
    split at q
    · cases q
      obtain ⟨a, vs, rfl, h1, h2⟩ := r1.lst s
      exact ⟨a, vs, rfl, .inl ⟨by rw [hK]; exact h1.sq, fun p np => k _ _ _ _ (Grow.lst s np h2.rev)⟩⟩
    · cases q
      obtain ⟨a, vs, rfl, h1, h2⟩ := r1.tup s
      exact ⟨a, vs, rfl, .inr ⟨by rw [hK]; exact h1, fun p np => k _ _ _ _ (Grow.tup s np h2.rev)⟩⟩
    · cases q
end
end Dy
namespace Dy
open PySem PySem.Spec PyProof.Rows L2
section
variable {g : G} {X : Cx} {e : Expr} {pos : Pos} {σ : St}
end
end Dy
namespace Dy
open PySem PySem.Spec PyProof.Rows L2
def isKy : PyData → Bool
  | .int _ => true
  | .str _ => true
  | _ => false
mutual
def ndd : PyData → Bool
  | .none => true
  | .bool _ => true
  | .int _ => true
  | .str _ => true
  | .tuple xs => ndds xs
  | .list _ => false
  | .dict es => nddKv es
def ndds : List PyData → Bool
  | [] => true
  | d :: ds => ndd d && ndds ds
def nddKv : List (PyData × PyData) → Bool
  | [] => true
  | (k, d) :: es => (isKy k && ndd d) && nddKv es
end
section
variable {X : Cx} {pins : List (Addr × Obj)} {σ : St} {I H : Hp} {s : Shared}
theorem key_reads {P : Program} {w : World} {k : Key} {u : Value} {h : Heap} (e : (mixKind P w).is k u = true) : Reads h u (kD k) [] := by
  rcases keyIs_shape (show keyIs k u = true from e) with ⟨i, t, rfl, rfl⟩ | ⟨x, t, rfl, rfl⟩
  · exact Reads.int i t
  · exact Reads.str x t
mutual
theorem Rp.readsD (J : Inv X pins σ H s) (sm : Same I H) : ∀ {v : V} {d : PyData}, Rp X.K I v d → ndd d = true → ∀ u : Value, RelV v u → ∃ as, Reads s.heap u d as ∧ sysModules ∉ as
  | _, _, .non, _, u, r => by cases r; exact ⟨_, Reads.none, by simp⟩
  | _, _, .bl b, _, u, r => by cases r; exact ⟨_, Reads.bool b, by simp⟩
  | _, _, .int i, _, u, r => by obtain ⟨t, rfl⟩ := r; exact ⟨_, Reads.int i t, by simp⟩
  | _, _, .str x, _, u, r => by obtain ⟨t, rfl⟩ := r; exact ⟨_, Reads.str x t, by simp⟩
  | _, _, .lst h a, c, u, r => by simp [ndd] at c
  | _, _, .tup h a, c, u, r => by
    cases r
    obtain ⟨its, rv, ⟨o, ho, hc, n, hd⟩, _⟩ := J.tuple (same_t sm h)
    obtain ⟨as, hr, hn⟩ := RpAll.readsD J sm a (by simpa [ndd] using c) its rv
    exact ⟨_, Reads.tuple ho hc hd hr, hn⟩
  | _, _, .dic h a, c, u, r => by
    cases r
    obtain ⟨z, hd, vs, rel, o, es, ep, ho, hc, hdt, _, pr, _⟩ := dk_rd J.hok (same_rd sm h)
    obtain ⟨as, bs, r1, r2, n1, n2⟩ := RpKv.readsD J sm a (by simpa [ndd] using c) vs es.toList rel pr
    refine ⟨_, Reads.dict ho hc.1 hdt r1 r2, ?_⟩
    have n0 := beq_eq_false_iff_ne.mp hd
    simp only [List.cons_append, List.mem_cons, List.mem_append, not_or]
    exact ⟨fun e => n0 e.symm, n1, n2⟩
  | _, _, .dit (ts := ts) h a, c, u, r => by
    cases r
    have e := rd_obj J.hok (same_rd sm h)
    obtain ⟨⟨hd, _, ys, pr, o, es, ep, ho, hc, hdt, hes, _⟩, _⟩ := e
    cases a with
    | nil =>
      cases pr
      have he : es.toList = [] := hes X.w
      refine ⟨_, Reads.dict ho hc.1 hdt (by rw [he]; exact ReadsAll.nil) (by rw [he]; exact ReadsAll.nil), ?_⟩
      have n0 := beq_eq_false_iff_ne.mp hd
      simp only [List.cons_append, List.mem_cons, List.mem_append, not_or]
      exact ⟨fun e => n0 e.symm, by simp, by simp⟩
    | cons h1 h2 h3 h4 t =>
      cases pr with
      | cons p1 p2 =>
        have e := p1.2.1
        simp only at e
        subst e
        simp only [ndd, nddKv, Bool.and_eq_true] at c
        exfalso
        cases h3 <;> simp [isKy] at c
theorem RpAll.readsD (J : Inv X pins σ H s) (sm : Same I H) : ∀ {vs : List V} {ds : List PyData}, RpAll X.K I vs ds → ndds ds = true → ∀ us : List Value, Vals vs us → ∃ as, ReadsAll s.heap us ds as ∧ sysModules ∉ as
  | _, _, .nil, _, us, r => by cases r; exact ⟨_, ReadsAll.nil, by simp⟩
  | _, _, .cons h t, c, us, r => by
    simp only [ndds, Bool.and_eq_true] at c
    cases r with
    | cons r1 r2 =>
      obtain ⟨as, q1, n1⟩ := Rp.readsD J sm h c.1 _ r1
      obtain ⟨bs, q2, n2⟩ := RpAll.readsD J sm t c.2 _ r2
      exact ⟨_, ReadsAll.cons q1 q2, by simp [n1, n2]⟩
theorem RpKv.readsD (J : Inv X pins σ H s) (sm : Same I H) : ∀ {kvs : List (Key × V)} {es : List (PyData × PyData)}, RpKv X.K I kvs es → nddKv es = true → ∀ (vs : List (Key × Value)) (ds : List DictEntry), KV kvs vs → Pairs (mixKind X.prog X.w) ds vs →
    ∃ as bs, ReadsAll s.heap (ds.map (·.key)) (es.map (·.1)) as ∧ ReadsAll s.heap (ds.map (·.val)) (es.map (·.2)) bs ∧ sysModules ∉ as ∧ sysModules ∉ bs
  | _, _, .nil, _, vs, ds, r, pr => by
    cases r
    cases pr
    exact ⟨_, _, ReadsAll.nil, ReadsAll.nil, by simp, by simp⟩
  | _, _, .cons h t, c, vs, ds, r, pr => by
    simp only [nddKv, Bool.and_eq_true] at c
    cases r with
    | cons r1 r2 =>
      cases pr with
      | cons p1 p2 p3 =>
        obtain ⟨as, q1, n1⟩ := Rp.readsD J sm h c.1.2 _ r1.2
        obtain ⟨ks, bs, q2, q3, n2, n3⟩ := RpKv.readsD J sm t c.2 _ _ r2 p3
        have e1 := r1.1
        simp only at e1
        rw [← e1] at p1
        rw [← p2] at q1
        exact ⟨[] ++ ks, as ++ bs, ReadsAll.cons (key_reads p1) q2, ReadsAll.cons q1 q3, by simpa using n2, by simp [n1, n3]⟩
end
end
def rOkD (d : PyData) : Bool := ndd d && (d.showable && decide (d.depth ≤ 64 ∧ d.shown.length ≤ 16777216))
def pReprD (d : PyData) : Option O := if rOk d = true then some (.fr (.str d.shown)) else if rOkD d = true then some (.fr (.str d.shown)) else none
section
variable {X : Cx}
def rReprD (K : PySem.W.Frag) : List V → Hp → VK → Prop := fun xs H Q => rRepr K xs H Q ∨ ∃ x d I, xs = [x] ∧ Same I H ∧ Rp K I x d ∧ ndd d = true ∧ d.showable = true ∧ d.depth ≤ 64 ∧ d.shown.length ≤ sizeLine ∧ Q (.str d.shown) H
theorem cr_reprD {k : Nat} (hg : X.A.guards = some []) (hr : Room k X.A) : CallR X (.builtin "repr") (rReprD X.K) := by
  intro pins s σ H xs us Q J r h
  rcases h with h | ⟨x, d, I, rfl, sm, hd, hn, h1, h3, h4, q⟩
  · exact cr_repr hg hr pins s σ H xs us Q J r h
  obtain ⟨u, rfl, ru⟩ := vals1 r
  obtain ⟨as, rd, ns⟩ := Rp.readsD J sm hd hn u ru
  have hu := hr.un
  cases rd with
  | none => exact PySem.P.repr_of_none ⟨.str _, H, J.tok _, ⟨_, rfl⟩, q⟩
  | bool b => cases b <;> exact PySem.P.repr_of_bool ⟨.str _, H, J.tok _, ⟨_, rfl⟩, q⟩
  | int i t => exact PySem.P.repr_of_int (by simpa [PyData.showable] using h1) ⟨.str _, H, J.tok _, ⟨_, rfl⟩, q⟩
  | str y t => exact PySem.P.repr_of_str ⟨.str _, H, J.tok _, ⟨_, rfl⟩, q⟩ h4
  | list e1 e2 e3 e4 =>
    exact repr_of_reads' (.list e1 e2 e3 e4) h1 (fun _ => ns) hg (by omega) (fun _ _ z => z) (fun h' u tk k => ⟨.str _, H, J.kept (t' := tk) fun b ob q => k b ob q, ⟨_, rfl⟩, q⟩) h4
  | tuple e1 e2 e3 e4 =>
    exact repr_of_reads' (.tuple e1 e2 e3 e4) h1 (fun _ => ns) hg (by omega) (fun _ _ z => z) (fun h' u tk k => ⟨.str _, H, J.kept (t' := tk) fun b ob q => k b ob q, ⟨_, rfl⟩, q⟩) h4
  | dict e1 e2 e3 e4 e5 =>
    exact repr_of_reads' (.dict e1 e2 e3 e4 e5) h1 (fun _ => ns) hg (by omega) (fun _ _ z => z) (fun h' u tk k => ⟨.str _, H, J.kept (t' := tk) fun b ob q => k b ob q, ⟨_, rfl⟩, q⟩) h4
end
/-- for a dict of its own: what is frozen with it -/
theorem rps_rpD {K : PySem.W.Frag} {I H : Hp} {v : V} {d : PyData} (sm : Same I H) (h : RpS K I H v d) (n : ndd d = true) : ∃ I', Same I' H ∧ Rp K I' v d := by
  rcases h with h | ⟨a, vs, ds, rfl, rfl, h1, h2⟩ | ⟨a, es, rfl, rfl, h1⟩
  · exact ⟨I, sm, h⟩
  · simp [ndd] at n
  · have sm' : Same I (frz I H [a]) := fun b o e => by
      unfold frz
      split
      · rename_i hb
        exact sm _ _ e
      · exact e
    have ea : frz I H [a] a = H a := by unfold frz; rw [if_pos (by simp)]
    refine ⟨frz I H [a], frz_sub sm, ?_⟩
    rcases h1 with ⟨kvs, e, r⟩ | ⟨ts, e, r⟩
    · exact .dic (.inl (ea.trans e)) (r.mono sm')
    · exact .dit (.inl (ea.trans e)) (r.mono sm')
theorem os_reprD {K : PySem.W.Frag} : OpS K (rReprD K) (on1 pReprD) := ops1c fun v d I H Q o s r1 q k => by
  unfold pReprD at q
  split at q
  · rename_i hc
    refine .inl (os_repr [v] [d] I H Q o s (.cons r1 .nil) ?_ k)
    show pRepr d = some o
    unfold pRepr; rw [if_pos hc]; exact q
  · split at q
    · rename_i hc
      cases q
      unfold rOkD at hc
      simp only [Bool.and_eq_true, decide_eq_true_eq] at hc
      obtain ⟨c1, c2, c3, c4⟩ := hc
      obtain ⟨I', sm', rp⟩ := rps_rpD s r1 c1
      exact .inr ⟨v, d, I', rfl, sm', rp, c1, c2, c3, Nat.le_trans c4 (by decide), k _ _ _ _ (Grow.val s (.str _))⟩
    · cases q
section
variable {g : G} {X : Cx} {a b c e : Expr} {es : List Expr} {pos p1 p2 px : Pos} {σ : St} {H I : Hp} {env : Env} {F : Nat → List Addr} {D : Ends} {st : Stmt} {sts : List Stmt}
end
def fnNo : Fn := fun _ => .no
theorem callNo {T : List (Addr × Str)} {P : Program} {w : World} {K : PySem.W.Frag} {mg : Str → Option Value} {k : Nat} {x qual : Str} {st : Stmt} {f : Addr} {fd : FuncData} {ps : List Str} (F : Fun K x qual st f fd) (hm : mg x = some (.ref f)) (hb : Binds K fd ps []) : CallOk P w K mg T k x ps fnNo :=
  callOk_of F hm hb fun base => ⟨fun vs H Q E q => by obtain ⟨_, _, _, _, p⟩ := q; exact p.elim, fun A outer s H args us vs Q E _ _ _ _ _ q => by obtain ⟨_, _, _, _, p⟩ := q; exact p.elim⟩
/-- the mirror of such a def: so many calls deep -/
def rec (n N : Nat) (rp : List Nat) (b : Fn → SF) : Nat → Fn
  | 0 => fnNo
  | k + 1 => fnM n N rp (b (rec n N rp b k))
section
variable {X : Cx} {K : PySem.W.Frag}
end
end Dy
namespace Dy
open PySem PySem.Spec PyProof.Rows L2
/-- what is known of the class x, at C -/
structure ExcOk (K : PySem.W.Frag) (mg : Str → Option Value) (x : Str) (C : Addr) : Prop where
  g : mg x = some (.ref C)
  q : PySem.W.excIn K C He.veBase "ValueError.__new__" = true
  k : PySem.W.keepIn K (.ref C) = true
  b : PySem.W.subIn K (.ref C) (.type "BaseException") = some true
  t : PySem.W.typeIn K (.ref C) = some (.type "type")
section
variable {g : G} {X : Cx} {a b c e : Expr} {es : List Expr} {pos p1 p2 p3 px : Pos} {σ : St} {H I : Hp} {env : Env} {F : Nat → List Addr} {D : Ends} {st : Stmt} {sts : List Stmt}
def fRaise (x : Str) : SF := fun _ => .er ⟨x, []⟩
theorem ds_raise {x m : Str} {C : Addr} {j : Nat} (hc : X.calm = true) (tk : Takes X (fun cls d _ H => g.E cls d H)) (T : ExcOk X.K X.mg x C) (hg : Gl X x) (hM : g.mg = X.mg := by rfl) (hdb : (x == ("__debug__" : Str)) = false := by decide) :
    DS g X (.Raise (some (.Call (.Name x p1) [.Constant (.str m) j p2] [] p3)) none pos) (fRaise x) :=
  PS.imp (ps_raise hc tk (pmk_own PySem.F.excBase_ValueError T.q T.g T.k (raises_own T.b T.t) hg hdb)) fun D σ H h => by
    obtain ⟨I, env, F, s, p⟩ := h
    exact p H (.ref C) none (Err.of Step.refl s.sub s.tab) ⟨C, by rw [hM]; exact T.g, rfl, fun _ => rfl, fun p q h => by cases h⟩
theorem takes_len {W : WX} (tk : Takes X W) : Takes X (fun c d σ H => σ.length = X.N.length → W c d σ H) := fun u s' x => by
  obtain ⟨a, B, sI, pins, σ, H, cls, d, e, J, nb, up, sky, na, os, ag, w⟩ := x
  exact tk u s' ⟨a, B, sI, pins, σ, H, cls, d, e, J, nb, up, sky, na, os, ag, w J.len⟩
/-- the wish about exceptions in a try's body -/
def wTry (n : Nat) (W : WX) : XK := fun c d H => ∀ σ : St, σ.length = n → W c d σ H
structure TryX (K : PySem.W.Frag) (mg : Str → Option Value) (PE : Addr) (x : Str) (C : Addr) : Prop where
  g : mg x = some (.ref C)
  m : PySem.W.exmOne K (.ref C) (.ref PE) = some true
theorem sim_err {K : PySem.W.Frag} {T : List (Addr × Str)} {a : Addr} {i n : Nat} {H' : Hp} {σ' : St} (sub : Same I H') (tb : TabI T I H') (hl : σ'.length = n) (hi : i < n) : Sim K ([i], (fun _ => .ref a), T) I H' (σ'.set i (some (.ref a))) (List.replicate n none) (fun _ => []) := by
  refine ⟨by simp [hl], fun j o q => ?_, fun _ _ => rfl, fun _ _ _ h => (nomatch h), fun _ _ h => (nomatch h), sub, fun j hj => ?_, tb⟩
  · rw [List.getElem?_replicate] at q
    split at q <;> cases q
  · simp at hj; subst hj
    rw [List.getElem?_set_self (by omega)]
end
theorem a_raise (x : Str) (env : Env) : fRaise x env = .er ⟨x, []⟩ := rfl
end Dy
namespace Dy
open PySem PySem.Spec PyProof.Rows L2
open LamX (CodeO TabB LamS lamEnv lamCx)
abbrev lamQ (X : Cx) : Str := X.env.qual ++ "<lambda>"
theorem lam_nf (x : Str) : isFld (x ++ "<lambda>") = false := by
  unfold isFld
  have h : (x ++ ("<lambda>" : Str)).cps.size = x.cps.size + 8 := by
    show (x.cps ++ ("<lambda>" : Str).cps).size = _
    rw [Array.size_append]
    rfl
  rw [h]
  simp
/-- the table behind the making of a lambda with the code object c' -/
def Made (X : Cx) (H : Hp) (P : Addr) (ps : Array Value) (c' : Addr) (H1 : Hp) : Prop :=
  (H1 = H ∧ ∃ pos, codeAmong pos ps.toList = some (.ref c')) ∨ ∃ more : Array Value, H c' = none ∧ H1 = upd (upd H P (.tbl (ps ++ more))) c' (CodeO c' (lamQ X)) ∧ TriplesOk (ps ++ more).toList ∧ ∀ (pos : Pos) (cv : Value), codeAmong pos (ps ++ more).toList = some cv → codeAmong pos ps.toList = some cv ∨ cv = .ref c'
section
variable {X : Cx} {pins : List (Addr × Obj)} {σ : L2.St} {H : Hp} {s : Shared}
theorem lam_mk {c P : Addr} {ps : Array Value} {params : Arguments} {body : Expr} {scope : Scope} {pos : Pos} {E Q : Value → Shared → Prop} (J : Inv X pins σ H s) (TB : TabB X.base X.mg c P) (hcode : X.env.code = .ref c)
    (hP : H P = some (.tbl ps)) (ht : TriplesOk ps.toList) (ha : ∀ (pos : Pos) (cv : Value), codeAmong pos ps.toList = some cv → ∃ c, cv = .ref c ∧ H c = some (CodeO c (lamQ X))) (hdef : defaultsOf params X.env = ([], []))
    (hfree : ∀ y ∈ scope.names, y.2 = .free → ∃ c, X.env.cells.lookup y.1 = some c)
    (h : ∀ (f c' : Addr) (pm ctv : Value) (H1 : Hp) (s' : Shared), Inv X pins σ H1 s' → Made X H P ps c' H1 → s'.heap.get? f = some (PySem.W.kla_obj "<lambda>" (lamQ X) params body scope (cloFrom X.env.cells scope.names []) pm c' ctv) → H1 f = none → f ∉ frs X.stack → Q (.ref f) s') :
    wpAny (model X.prog X.w) X.A (eval (.Lambda params body scope pos) X.env) Q E s := by
  refine PySem.W.kla_eval hdef ?_
  have bm := TB.bm.keeps J.bk
  have oP : s.heap.get? P = some { cls := .none, data := .fields ps } := J.hok P _ hP
  have out : ∀ f, s.heap.objs.size ≤ f → f ∉ frs X.stack := fun f hf z => by
    rcases List.mem_cons.mp (J.stkSub _ z) with e | e
    · have h1 := J.lt
      rw [← e] at h1
      exact Nat.lt_irrefl _ (Nat.lt_of_lt_of_le h1 hf)
    · exact J.nofs hf e
  cases hc : codeAmong pos ps.toList with
  | some cv =>
    obtain ⟨c', rfl, hco⟩ := ha pos cv hc
    refine PySem.W.kla_makeFunctionHit (mg := X.mg) (c := c) (P := P) (ps := ps) (closure_ok hfree) J.ok.glob (J.mod.glob.keeps J.bk) hcode (TB.code.keeps J.bk) oP ht hc bm fun ctv h' tk hx hsz => ?_
    exact h _ c' _ ctv H _ (J.kept (t' := tk) fun b o e => Heap.get?_push_of_some _ (hx b o e)) (.inl ⟨rfl, pos, hc⟩) (Heap.get?_push_size _ rfl) (J.hok.fresh hsz) (out _ hsz)
  | none =>
    refine PySem.W.kla_makeFunction (mg := X.mg) (c := c) (P := P) (ps := ps) (closure_ok hfree) J.ok.glob (J.mod.glob.keeps J.bk) hcode (TB.code.keeps J.bk) oP ht hc TB.gP bm fun c' ctv h' tk hx hge hlt hrec htb => ?_
    obtain ⟨c2, oc, vs, t, e2, hoc, hd, hv⟩ := hrec
    cases e2
    have nC : H c' = none := J.hok.fresh hge
    have hsz : s.heap.objs.size ≤ h'.objs.size := Nat.le_trans hge (Nat.le_of_lt hlt)
    have I1 := LamX.inv_table (t' := tk) (more := #[rawInt pos.line, rawInt pos.col, .ref c']) (h' := h'.push (PySem.W.kla_obj "<lambda>" (lamQ X) params body scope (cloFrom X.env.cells scope.names []) ((X.mg "__name__").getD .none) c' ctv)) J hP
      (fun b o hb e => Heap.get?_push_of_some _ (hx b o hb e)) (Heap.get?_push_of_some _ htb) hge ⟨oc, vs, t, Heap.get?_push_of_some _ hoc, hd, hv⟩
    have eL : (ps ++ #[rawInt pos.line, rawInt pos.col, Value.ref c']).toList = ps.toList ++ [rawInt pos.line, rawInt pos.col, .ref c'] := by simp
    refine h h'.objs.size c' _ ctv _ _ I1 (.inr ⟨_, nC, rfl, by rw [eL]; exact PySem.TriplesOk_snoc _ _ _ _ ht, fun p' cv hcv => ?_⟩) (Heap.get?_push_size _ rfl) ?_ (out _ hsz)
    · rw [eL] at hcv
      exact LamX.among_app _ ht hcv
    · rw [upd_ne (Nat.ne_of_gt hlt), upd_ne (Nat.ne_of_gt (Nat.lt_of_lt_of_le (Heap.lt_size oP) hsz))]
      exact J.hok.fresh hsz
end
/-- the frame behind the making of a lambda -/
theorem sim_made {X : Cx} {π : Pn} {I H H1 : Hp} {σ : St} {env : Env} {F : Nat → List Addr} {K : PySem.W.Frag} {P c' : Addr} {ps : Array Value} (s : Sim K π I H σ env F) (hm : (P, lamQ X) ∈ π.2.2) (hu : ∀ p ∈ π.2.2, p.1 = P → p.2 = lamQ X) (hP : H P = some (.tbl ps)) (m : Made X H P ps c' H1) :
    ∃ I1, Sim K π I1 H1 σ env F ∧ Step I H (Ow F) I1 H1 (Ow F) ∧ I1 c' = some (CodeO c' (lamQ X)) := by
  obtain ⟨qs, q1, q0, q2, q3⟩ := s.tab.cod hm (lam_nf _)
  have q1 : H P = some (.tbl qs) := q1
  rw [hP] at q1; cases q1
  rcases m with ⟨rfl, pos, hc⟩ | ⟨more, nC, rfl, hok, told⟩
  · obtain ⟨c, e, hI⟩ := q3 pos _ hc
    cases e
    exact ⟨I, s, Step.refl, hI⟩
  · have nI : I c' = none := none_of_same s.sub nC
    have nPc : P ≠ c' := fun z => by rw [z, nC] at hP; cases hP
    have atP : upd (upd H P (.tbl (ps ++ more))) c' (CodeO c' (lamQ X)) P = some (.tbl (ps ++ more)) := by rw [upd_ne nPc, upd_same]
    have oth : ∀ b, b ≠ P → b ≠ c' → upd (upd H P (.tbl (ps ++ more))) c' (CodeO c' (lamQ X)) b = H b := fun b h1 h2 => by rw [upd_ne h2, upd_ne h1]
    have sm : Same I (upd I c' (CodeO c' (lamQ X))) := same_new nI
    have nFc : ∀ a, Ow F a → a ≠ c' := fun a ha z => by obtain ⟨o, ho⟩ := s.domO ha; rw [z, nC] at ho; cases ho
    have nFP : ∀ a, Ow F a → a ≠ P := fun a ha z => by subst z; exact s.domT ha hP
    refine ⟨upd I c' (CodeO c' (lamQ X)), ⟨s.len, fun i o q => ?_, s.out, s.dis, fun i a h => ?_, fun b o e => ?_, s.pin, fun p hp => ?_⟩, ⟨sm, fun a o h _ nt => ?_, fun a o h _ => ?_, fun a h => .inl h, fun a o h => ?_⟩, upd_same⟩
    · obtain ⟨v, e1, r⟩ := s.rep i o q
      exact ⟨v, e1, r.mono sm fun a ha => oth a (nFP a ⟨i, ha⟩) (nFc a ⟨i, ha⟩)⟩
    · rw [upd_ne (nFc a ⟨i, h⟩)]; exact s.djI i a h
    · by_cases hb : b = c'
      · subst hb; rw [upd_same] at e ⊢; exact e
      · rw [upd_ne hb] at e
        have e' := s.sub b o e
        rw [oth b (fun z => by subst z; have : I b = none := q0; rw [this] at e; cases e) hb]; exact e'
    · have tp := s.tab p hp
      by_cases hf : isFld p.2 = true
      · rw [if_pos hf] at tp ⊢
        obtain ⟨fs, f1, f2⟩ := tp
        exact ⟨fs, sm _ _ f1, f2⟩
      rw [if_neg hf] at tp ⊢
      obtain ⟨rs, r1, r0, r2, r3⟩ := tp
      by_cases hb : p.1 = P
      · rw [hb] at r1 r0
        rw [hP] at r1; cases r1
        unfold CodI
        rw [hb, hu p hp hb]
        refine ⟨ps ++ more, atP, by rw [upd_ne nPc]; exact r0, hok, fun pos cv hcv => ?_⟩
        rcases told pos cv hcv with z | z
        · obtain ⟨c, e1, e2⟩ := q3 pos cv z
          exact ⟨c, e1, sm _ _ e2⟩
        · exact ⟨c', z, upd_same⟩
      · have nc : p.1 ≠ c' := fun z => by rw [z, nC] at r1; cases r1
        refine ⟨rs, by rw [oth _ hb nc]; exact r1, by rw [upd_ne nc]; exact r0, r2, fun pos cv hcv => ?_⟩
        obtain ⟨c, e1, e2⟩ := r3 pos cv hcv
        exact ⟨c, e1, sm _ _ e2⟩
    · rw [oth a (fun z => by subst z; rw [hP] at h; cases h; exact nt _ rfl) (fun z => by subst z; rw [nC] at h; cases h)]; exact h
    · by_cases hb : a = P
      · subst hb; exact ⟨_, atP⟩
      · exact ⟨o, by rw [oth a hb (fun z => by subst z; rw [nC] at h; cases h)]; exact h⟩
    · by_cases hb : a = c'
      · subst hb; exact .inr (.inr nC)
      · rw [upd_ne hb] at h; exact .inl h
end Dy
namespace Dy
open PySem PySem.Spec PyProof.Rows L2
open LamX (CodeO TabB LamS lamEnv lamCx)
/-- a frame over which nothing of its own was changed -/
theorem sim_over {K : PySem.W.Frag} {π : Pn} {I H I' H' : Hp} {σ : St} {env : Env} {F : Nat → List Addr} {S' : Addr → Prop} (s : Sim K π I H σ env F) (st : Step I H (Ow fun _ => []) I' H' S') (sub : Same I' H') (tb : TabI π.2.2 I' H') :
    Sim K π I' H' σ env F ∧ Step I H (Ow F) I' H' (Ow F) := by
  have no : ∀ a, ¬ Ow (fun _ => ([] : List Addr)) a := fun a ⟨_, h⟩ => by cases h
  refine ⟨⟨s.len, fun i o q => ?_, s.out, s.dis, fun i a h => ?_, sub, s.pin, tb⟩, ⟨st.i1, fun a o h _ nt => st.fr a o h (no a) nt, fun a o h _ => st.th a o h (no a), fun a h => .inl h, fun a o h => ?_⟩⟩
  · obtain ⟨v, e1, r⟩ := s.rep i o q
    refine ⟨v, e1, r.mono st.i1 fun a ha => ?_⟩
    obtain ⟨u, hu, nt⟩ := s.domN ha
    rw [hu, st.fr a u hu (no a) nt]
  · cases q : I' a with
    | none => rfl
    | some u =>
      rcases st.i' a u q with z | z | z
      · rw [s.djI i a h] at z; cases z
      · exact absurd z (no a)
      · obtain ⟨w, hw⟩ := s.dom h; rw [z] at hw; cases hw
  · rcases st.i' a o h with z | z | z
    · exact .inl z
    · exact absurd z (no a)
    · exact .inr (.inr z)
section
variable {X : Cx} {pins : List (Addr × Obj)} {σ : L2.St} {H : Hp} {s : Shared}
/-- x(), in the def that got the lambda -/
theorem pe_actG {CXg : CXT} {Eg : XK} {Ng : List Str} {qg : Str} {sg : Scope} {g f c' : Addr} {cdg pm ctv : Value} {params : Arguments} {body : Expr} {scope : Scope} {k i : Nat} {a : Str} {pn : List (Addr × Obj)} {xe : Value → Shared → Prop} {W : WX} {E : XK} {tb : TE} {p1 p2 : Pos}
    (J : Inv X pins σ H s) (L : LamS X.env.scope scope) (hf : s.heap.get? f = some (PySem.W.kla_obj "<lambda>" (lamQ X) params body scope (cloFrom X.env.cells scope.names []) pm c' ctv)) (hfn : H f = none) (hfr : f ∉ frs X.stack)
    (hbind : bindArgs (PySem.W.kla_fn "<lambda>" (lamQ X) params body scope (cloFrom X.env.cells scope.names []) pm (.ref c') ctv) ⟨[], []⟩ = pure [])
    (tk : Takes ((cxOf CXg X.prog X.w X.K X.mg X.base Ng qg sg g cdg X.A X.stack s H Eg).tr pn xe) W) (hW : ∀ cls d σ' H', E cls d H' → W cls d σ' H') (hr : Room (k + 1) (X.A.deeper (envOfC qg sg s.heap.objs.size g cdg)))
    (hbody : ∀ (s1 : Shared) (HZ : Hp), Room k ((X.A.deeper (envOfC qg sg s.heap.objs.size g cdg)).deeper (lamEnv X scope s1.heap.objs.size f c')) → PE (lamCx X (X.A.deeper (envOfC qg sg s.heap.objs.size g cdg)) (envOfC qg sg s.heap.objs.size g cdg :: X.stack) s1 HZ E scope f c') body tb)
    (hN : Ng[i]? = some a) (hv : Vis sg a) (hd : (a == ("__debug__" : Str)) = false := by decide) (hcd : (a == ("__classdict__" : Str)) = false := by decide) :
    PE ((cxOf CXg X.prog X.w X.K X.mg X.base Ng qg sg g cdg X.A X.stack s H Eg).tr pn xe) (.Call (.Name a p1) [] [] p2) (fun σZ HZ Q => σZ[i]? = some (some (.ref f)) ∧ HZ c' = some (CodeO c' (lamQ X)) ∧ tb σ HZ Q) := by
  refine ⟨fun pinsZ sZ σZ HZ Q JZ hh => ?_⟩
  obtain ⟨hs, hc, ht⟩ := hh
  refine wpAny_Call_Name_kw (thn ((pe_var (pos := p1) (i := i) hN hv hd hcd).run pinsZ sZ σZ HZ (fun v H1 => v = .ref f ∧ H1 = HZ) JZ ⟨.ref f, hs, rfl, rfl⟩) fun u s1 hu => ?_)
  obtain ⟨v, H1, J1, r1, rfl, eH⟩ := hu
  subst eH
  cases (show u = Value.ref f from r1)
  have of1 := J1.base.keep f _ hf hfn hfr (fun z => nomatch (show f ∈ ([] : List Addr) from z))
  refine PySem.W.callWith_F0 ⟨_, _, _, _, of1⟩ ?_
  obtain ⟨⟨oc, vs, t, hoc, hdc, hvc⟩, _, _⟩ := J1.hok c' _ hc
  have rc : codeAny (model X.prog X.w) (X.A.deeper (envOfC qg sg s.heap.objs.size g cdg)) (.call (.ref f) ⟨[], []⟩) (CR (L2.CX X.prog X.w) (envOfC qg sg s.heap.objs.size g cdg :: X.stack) X.prog X.w H1 s1 Q E) s1 := by
    refine PySem.W.kla_callFunE hr.depth of1 rfl L.co L.gen rfl ⟨c', oc, vs, t, rfl, hoc, hdc, hvc⟩ ?_
    rw [hbind]
    refine wpAny_pure (wpAny_newFunctionEnv (fun y hy => (L.own y hy).2) (fun y hy => absurd hy (by simp)) (fun h₁ hns hsb => ⟨J1.nolimit.fresh _ hsb, ?_⟩) L.kind)
    show codeAny _ _ (.expr body (lamEnv X scope s1.heap.objs.size f c')) _ _
    have JL := LamX.lam_start2 (E := E) (f := f) (c' := c') (tk := s1.toks + ([] : List (Str × Value)).length) J L J1.env0 hr.hd (show Un (frs X.stack) [] H H1 s.heap s1.heap from J1.base) hns fun b o e => hsb.extBut b o (Nat.ne_of_lt (Heap.lt_size e)) (Heap.get?_push_of_some _ e)
    refine PySem.W.kla_codeExpr (wpAny_mono ((hbody s1 H1 (hr.deeper _)).run [] _ _ H1 Q JL ht) (fun v s' hq => ?_) fun e s' hq => hq)
    obtain ⟨w', H', J', rv, q⟩ := hq
    exact ⟨w', H', J'.os, J'.bare, J'.base, J'.hok, rv, q⟩
  have hx : Passes (L2.CX X.prog X.w) ((cxOf CXg X.prog X.w X.K X.mg X.base Ng qg sg g cdg X.A X.stack s H Eg).tr pn xe) E := passes_call tk hW
  refine wpAny_call (codeAny_mono rc fun r s' hq => ?_)
  cases r with
  | error e => exact hx pinsZ σZ H1 s1 e s' J1 hq
  | ok fl =>
    cases fl with
    | ret u => exact J1.after hq
    | next => exact hq.elim
    | brk => exact hq.elim
    | cont => exact hq.elim
end
end Dy
namespace Dy
open PySem PySem.Spec PyProof.Rows L2
open LamX (CodeO TabB LamS lamEnv lamCx)
def allF (env : Env) : Bool := env.all fun x => match x with
  | none => true
  | some (.fr _) => true
  | _ => false
theorem allF_at {env : Env} (h : allF env = true) {i : Nat} {o : O} (q : env[i]? = some (some o)) : ∃ d, o = .fr d := by
  have := List.all_eq_true.mp h _ (List.mem_of_getElem? q)
  cases o with
  | fr d => exact ⟨d, rfl⟩
  | ol _ => cases this
  | oo _ => cases this
  | od _ => cases this
theorem sim_allF {K : PySem.W.Frag} {π : Pn} {I H : Hp} {σ : St} {env : Env} {F : Nat → List Addr} (s : Sim K π I H σ env F) (h : allF env = true) (v : Nat → V) : Sim K ([], v, π.2.2) I H σ env (fun _ => []) := by
  refine ⟨s.len, fun i o q => ?_, fun _ _ => rfl, fun _ _ _ z => (nomatch z), fun _ _ z => (nomatch z), s.sub, fun _ z => (nomatch z), s.tab⟩
  obtain ⟨u, e1, r⟩ := s.rep i o q
  obtain ⟨d, rfl⟩ := allF_at h q
  exact ⟨u, e1, rfl, r.2⟩
section
variable {g : G} {X : Cx}
end
end Dy
namespace Dy
open PySem PySem.Spec PyProof.Rows L2
section
variable {X : Cx}
def rCountD (K : PySem.W.Frag) : V → List V → Hp → VK → Prop := fun x xs H Q => ∃ (a : Addr) (y : V) (d : PyData) (ds : List PyData), x = V.ref a ∧ xs = [y] ∧ Dp K H (V.ref a) (.list ds) ∧ Dp K H y d ∧
  SeqAt.shaped (.list ds) = true ∧ SeqAt.shaped d = true ∧ Q (.int (ds.countP fun z => PyData.eqv z d : Nat)) H
theorem mt_countD (hu : X.A.units + 65 < cLine) : MtR X "list.count" (rCountD X.K) := by
  intro pins s σ H x xs v us Q I rx rxs h
  obtain ⟨a, y, d, ds, rfl, rfl, hl, hy, sl, sd, q⟩ := h
  cases rx
  cases rxs with
  | cons ry rt =>
    rename_i uy ut
    cases rt
    obtain ⟨bs, r1⟩ := Dp.reads I d y uy hy ry
    have hxs : PyData.canLayAll0 ds = true := SeqAt.canLay_of_shaped sl
    have hroom : X.A.units + 1 + min (PyData.depthAll ds) d.depth < cLine := room_in_shaped sd hu
    cases hl with
    | lst hs ha =>
      obtain ⟨its, rv, ⟨⟨cls, dd, data, sls⟩, n, ho, hc, hdn, hdt⟩, hlen⟩ := I.list hs
      simp only at hc hdt
      subst hc hdt
      obtain ⟨as, h4⟩ := Dp.readsAll I ds _ its ha rv
      have hmap : its.map (SeqAt.readOf s.heap) = ds := SeqAt.readsAll_map ds its as hxs h4
      refine call_meets PySem.F.slot_list_count ⟨_, ho, rfl⟩ PySem.F.entry_list_count (PySem.F.args_list_count_2 _ _)
        (SeqAt.list_countAt a its.toArray n dd sls uy (fun u => PyData.eqv (SeqAt.readOf s.heap u) d)) ⟨ho, SeqAt.items_eqAt (vs := its.toArray) (show ReadsAll s.heap its.toArray.toList ds as from h4) r1 hxs (SeqAt.canLay_of_shaped sd) hroom, ?_⟩
      refine ⟨.int (ds.countP (fun z => PyData.eqv z d) : Nat), H, I.tok _, ⟨s.toks, ?_⟩, q⟩
      have e : its.toArray.toList.countP (fun u => PyData.eqv (SeqAt.readOf s.heap u) d) = ds.countP (fun z => PyData.eqv z d) := by
        rw [← hmap, List.countP_map]; rfl
      show Value.int ((its.toArray.toList.countP (fun u => PyData.eqv (SeqAt.readOf s.heap u) d) : Nat) : Int) s.toks = _
      rw [e]
end
def pCount (ds : List PyData) (d : PyData) : Option PyData := if SeqAt.shaped (.list ds) = true ∧ SeqAt.shaped d = true then some (.int (ds.countP fun z => PyData.eqv z d : Nat)) else none
def pIndex (ds : List PyData) (d : PyData) : Option PyData := if SeqAt.shaped (.list ds) = true ∧ SeqAt.shaped d = true then (ds.findIdx? fun z => PyData.eqv z d).map fun j => .int (j : Nat) else none
def fMt (f : List PyData → PyData → Option PyData) (i : Nat) (y : AF) : EF := fun env => match env[i]? with
  | some (some (.fr (.list ds))) => evA [y] env >>= fun q => match rsvs q.2 q.1 with
    | some [k] => match f ds k with
      | some d => .ok (.fr d, q.2)
      | _ => .no
    | _ => .no
  | _ => .no
section
variable {g : G} {X : Cx} {a b c e : Expr} {es : List Expr} {pos p1 p2 p3 px : Pos} {σ : St} {H I : Hp} {env : Env} {F : Nat → List Addr} {D : Ends} {st : Stmt} {sts : List Stmt}
theorem de_mt {r : V → List V → Hp → VK → Prop} {f : List PyData → PyData → Option PyData} {i : Nat} {x name : Str} {id : String} {px apos cpos : Pos} {y : AF} (slot : Slot "list" name id) (hty : typeOf (.builtin id) = pure (.type "method_descriptor")) (hm : MtR X id r)
    (ok : ∀ (K : PySem.W.Frag) (I H : Hp) (v u : V) (ds : List PyData) (k d : PyData) (Q : VK), K = X.K → Same I H → Rp K I v (.list ds) → RpS K I H u k → f ds k = some d → (∀ w, Rp K I w d → Q w H) → r v [u] H Q)
    (hx : PE X (.Name x px) (tVar i)) (he : DX g X e y) 
    (hbase : attributeBase (.Name x px) name X.env (eval (.Name x px) X.env) = eval (.Name x px) X.env := by rfl)
    (hfew : ((backTo cpos (starEach [e] X.env)).all (fun x => !x.1) && (backToKw cpos (keywordEach [] X.env)).all (fun x => x.1.isSome)
      && decide (([e] : List Expr).length + ([] : List Keyword).length + (if ([] : List Keyword).isEmpty then 0 else 1) < 30)) = true := by rfl)
    (hline : (apos.endLine == cpos.line) = true := by rfl) (hs : starEach [e] X.env = (false, eval e X.env) :: starEach [] X.env := by rfl) (hplain : (backTo cpos (starEach [] X.env)).any (·.1) = false := by rfl) (hK : X.K = g.K := by rfl) :
    DE g X (.Call (.Attribute (.Name x px) name apos) [e] [] cpos) (fMt f i y) := PE.imp (pe_bm PySem.F.plainAttrs_list slot hty hm hx (da_cons he da_nil hs) hbase hfew hline hs hplain) fun σ H Q q => by
  obtain ⟨I, env, F, s, p⟩ := q
  unfold fMt at p
  split at p
  · rename_i ds q0
    obtain ⟨w, hw, rw0⟩ := s.rep i _ q0
    have rw0 : F i = [] ∧ Rp g.K I w (.list ds) := rw0
    refine ⟨w, hw, ?_, ?_⟩
    · obtain ⟨a, vs, rfl, h1, h2⟩ := RpS.lst (H := H) s.sub (.inl rw0.2)
      rw [hK]
      exact .inl ⟨rfl, vs, h1.sq⟩
    · refine ⟨I, env, F, s, post_mono (post_bind.mp p) (fun r3 q3 vs3 H3 I3 F3 s3 st3 av3 => ?_) fun x zz => zz⟩
      split at q3
      · rename_i k q5
        have rr3 := rsvs_rep s3 av3 q5
        match vs3, rr3 with
        | [u], .cons r5 .nil =>
          split at q3
          · rename_i d hd
            refine ok g.K I3 H3 w u ds k d Q hK.symm s3.sub (rw0.2.mono st3.i1) r5 hd fun v rv => ?_
            exact q3 v H3 (AftD.aft ⟨_, _, rv, s3, st3⟩)
          · exact q3.elim
      · exact q3.elim
  · exact p.elim
theorem de_count {i : Nat} {x : Str} {px apos cpos : Pos} {y : AF} (hu : X.A.units + 65 < cLine) (hx : PE X (.Name x px) (tVar i)) (he : DX g X e y)
    (hbase : attributeBase (.Name x px) "count" X.env (eval (.Name x px) X.env) = eval (.Name x px) X.env := by rfl)
    (hfew : ((backTo cpos (starEach [e] X.env)).all (fun x => !x.1) && (backToKw cpos (keywordEach [] X.env)).all (fun x => x.1.isSome)
      && decide (([e] : List Expr).length + ([] : List Keyword).length + (if ([] : List Keyword).isEmpty then 0 else 1) < 30)) = true := by rfl)
    (hline : (apos.endLine == cpos.line) = true := by rfl) (hs : starEach [e] X.env = (false, eval e X.env) :: starEach [] X.env := by rfl) (hplain : (backTo cpos (starEach [] X.env)).any (·.1) = false := by rfl) (hK : X.K = g.K := by rfl) :
    DE g X (.Call (.Attribute (.Name x px) "count" apos) [e] [] cpos) (fMt pCount i y) :=
  de_mt PySem.F.slot_list_count PySem.F.type_list_count (mt_countD hu) (fun K I H v u ds k d Q e s r1 r2 q kk => by
    subst e
    unfold pCount at q
    split at q
    · rename_i hc
      cases q
      have d1 := r1.dp s (SeqAt.canLay_of_shaped hc.1)
      obtain ⟨a, vs, rfl, _, _⟩ := RpS.lst s (.inl r1)
      exact ⟨a, u, k, ds, rfl, rfl, d1, r2.dp s (SeqAt.canLay_of_shaped hc.2), hc.1, hc.2, kk _ (.int _)⟩
    · cases q) hx he hbase hfew hline hs hplain hK
theorem de_index {i : Nat} {x : Str} {px apos cpos : Pos} {y : AF} (hu : X.A.units + 65 < cLine) (hx : PE X (.Name x px) (tVar i)) (he : DX g X e y)
    (hbase : attributeBase (.Name x px) "index" X.env (eval (.Name x px) X.env) = eval (.Name x px) X.env := by rfl)
    (hfew : ((backTo cpos (starEach [e] X.env)).all (fun x => !x.1) && (backToKw cpos (keywordEach [] X.env)).all (fun x => x.1.isSome)
      && decide (([e] : List Expr).length + ([] : List Keyword).length + (if ([] : List Keyword).isEmpty then 0 else 1) < 30)) = true := by rfl)
    (hline : (apos.endLine == cpos.line) = true := by rfl) (hs : starEach [e] X.env = (false, eval e X.env) :: starEach [] X.env := by rfl) (hplain : (backTo cpos (starEach [] X.env)).any (·.1) = false := by rfl) (hK : X.K = g.K := by rfl) :
    DE g X (.Call (.Attribute (.Name x px) "index" apos) [e] [] cpos) (fMt pIndex i y) :=
  de_mt PySem.F.slot_list_index PySem.F.type_list_index (mt_indexD hu) (fun K I H v u ds k d Q e s r1 r2 q kk => by
    subst e
    unfold pIndex at q
    split at q
    · rename_i hc
      have d1 := r1.dp s (SeqAt.canLay_of_shaped hc.1)
      obtain ⟨a, vs, rfl, _, _⟩ := RpS.lst s (.inl r1)
      cases hf : ds.findIdx? (fun z => PyData.eqv z k) with
      | none => rw [hf] at q; cases q
      | some j =>
        rw [hf] at q; cases q
        obtain ⟨h1, h2, h3⟩ := List.findIdx?_eq_some_iff_getElem.mp hf
        exact ⟨a, u, k, ds, j, ds[j], rfl, rfl, d1, r2.dp s (SeqAt.canLay_of_shaped hc.2), hc.1, hc.2, List.getElem?_eq_getElem h1, h2, fun m z' hm hz => by
          obtain ⟨hm2, e2⟩ := List.getElem?_eq_some_iff.mp hz
          have := h3 m hm
          rw [e2] at this
          simpa using this, kk _ (.int _)⟩
    · cases q) hx he hbase hfew hline hs hplain hK
theorem call_isP {X : Cx} {a D : Addr} {oe : Obj} (hp : (a, oe) ∈ X.pn) (C : ExcC X.K D) (hz : Zc (.ref D) none oe) (hf : ∃ vs, oe.data = .fields vs) : CallR X (.builtin "isinstance") (rIsE X.K D a) := by
  intro pins s σ H xs us Q I r h
  obtain ⟨c, cv, b, rfl, hcv, e, q⟩ := h
  cases r with
  | cons rx rr =>
    cases rr with
    | cons rt rr =>
      cases rr
      cases rx
      have ec := hcv _ rt
      subst ec
      obtain ⟨hget, _⟩ := I.pin (a, oe) (List.mem_append.mpr (.inl hp))
      obtain ⟨vs, hv⟩ := hf
      have J : PySem.W.InstAt s.heap a oe D none := by
        obtain ⟨oc, od, oda, osl⟩ := oe
        obtain ⟨h1, h2⟩ := hz
        dsimp only at h1 h2 hv
        subst h1 h2 hv
        exact ⟨hget, rfl, rfl, trivial⟩
      exact PySem.W.kia_one (PySem.W.handS_kitx_exc C.hg C.hk C.hs C.hd C.ha C.hn C.ht C.hm) I.kIn J e (fun z => nomatch z) fun tk => ⟨.bl b, H, I.kept (t' := tk) fun _ _ z => z, rfl, q⟩
theorem de_isP {a C : Addr} {oe : Obj} {i : Nat} {n y : Str} {v : Bool} {cv : V} {cu : Value} (hpn : (a, oe) ∈ X.pn) (EC : ExcC X.K C) (hz : Zc (.ref C) none oe) (hv : ∃ vs, oe.data = .fields vs) (hp : g.pn = ([i], (fun _ => V.ref a), g.pn.2.2)) (hg : Gl X "isinstance") (hm : X.mg "isinstance" = none)
    (hx : PE X (.Name n p1) (tVar i)) (hT : PE X (.Name y p2) (tC cv)) (hcu : ∀ u, RelV cv u → u = cu) (kit : PySem.W.kitOne X.K (.ref C) cu = some v)
    (he : starEach [.Name n p1, .Name y p2] X.env = (false, eval (.Name n p1) X.env) :: starEach [.Name y p2] X.env := by rfl) (hpl : (backTo pos (starEach [.Name y p2] X.env)).any (·.1) = false := by rfl) :
    DE g X (.Call (.Name "isinstance" p3) [.Name n p1, .Name y p2] [] pos) (fC (.bool v)) := by
  refine PE.imp (pe_callB (call_isP hpn EC hz hv) hg hm bt_isinstance (pa_cons hx (pa_cons hT pa_nil)) (by decide) (by decide) he hpl) fun σ H Q q => ?_
  obtain ⟨I, env, F, s, p⟩ := q
  have e1 := s.pin i (by rw [hp]; simp)
  rw [hp] at e1
  exact ⟨.ref a, e1, cv, cu, v, rfl, hcu, kit, p (.bl v) H (aftC s (.bl v))⟩
theorem run_ofH {CX : CXT} {P : Program} {w : World} {K : PySem.W.Frag} {mg : Str → Option Value} {base : Heap} {k : Nat} {f : Addr} {name qual : Str} {params : Arguments} {body : List Stmt} {scope : Scope} {dV kV doc pm cdv ct oc : Value} {an od : Option Addr}
    {osl : Array (Option Value)} {N ps : List Str} (lk : K.lookup f = some ⟨oc, od, .func (PySem.W.fnOf name qual params body scope dV kV doc pm an cdv ct), osl⟩) (hcd : PySem.W.codeIn K cdv qual = true) (S : FnScope N ps scope)
    {A : Around} {outer : List PySem.Env} {s : Shared} {H : Hp} {args : Args} {us : List Value} {vs : List V} {Q : VK} {E : XK} {p : Addr × Obj} (hr : L2H.RoomH (k + 1) A) (hpin : L2H.PinOk outer H s p) (e0 : Env0 P w K mg base A outer s H) (hb : BindsTo s (PySem.W.fnOf name qual params body scope dV kV doc pm an cdv ct) args (ps.zip us)) (r : Vals vs us) (hl : vs.length = ps.length)
    (hbody : L2H.RoomH k (A.deeper (envOfC qual scope s.heap.objs.size f cdv)) → ∃ t, PSs (L2H.cxH CX P w K mg base N qual scope f cdv A outer s H E p) body t ∧ t { nx := fun _ H' => Q .non H', rt := Q } (L2.start N vs) H) :
    codeAny (model P w) A (.call (.ref f) args) (CR CX outer P w H s Q E) s := by
  have KX : K.In s.heap := e0.mod.kin.keeps fun b o e => (e0.bs b o e).1
  have lim : s.heap.NoLimit := e0.mod.nolimit.keeps fun b o e => (e0.bs b o e).1
  have hkind : ∀ y ∈ ps.zip us, scope.names.lookup y.1 = some .local ∨ (scope.names.lookup y.1 = some .cell ∧ ((cellsFrom (s.heap.objs.size + 1) scope.names []).lookup y.1).isSome = true) := fun ⟨n, v⟩ hy => by
    rcases S.par n (List.of_mem_zip hy).1 with q | q
    · exact .inl q
    · exact .inr ⟨q, PySem.W.cellsFrom_some _ _ _ (.inl q)⟩
  refine codeAny_call_function hr.depth (KX _ _ lk) rfl S.co S.gen rfl (PySem.W.codeRec_of KX hcd) (hb _ _ _ _ ?_)
  refine wpAny_newFunctionEnv_cells S.kind hkind fun env he s1 x => ?_
  subst he
  refine ⟨lim.keeps x.toInCall.keep, codeAny_func ?_⟩
  obtain ⟨t, ht, hq⟩ := hbody (hr.deeper _)
  have I : Inv (L2H.cxH CX P w K mg base N qual scope f cdv A outer s H E p) [] (L2.start N vs) H s1 := L2H.inv_startH S hpin e0 hl r x
  refine wpAny_mono (ht.run [] s1 (L2.start N vs) H _ I hq) (fun fl s' hs => ?_) fun e s' hs => hs
  have fin : ∀ {σ' : L2.St} {H' : Hp} {v : V} {u : Value}, Inv (L2H.cxH CX P w K mg base N qual scope f cdv A outer s H E p) [] σ' H' s' → L2.RelV v u → Q v H' → CE outer P w H s Q u s' :=
    fun {σ' H' v u} J rv q => ⟨v, H', J.os, J.bare, J.base, J.hok, rv, q⟩
  cases fl with
  | ret u =>
    obtain ⟨v, σ', H', J, rv, q⟩ := hs
    exact fin J rv q
  | next =>
    obtain ⟨σ', H', J, q⟩ := hs
    exact fin (v := V.non) (u := Value.none) J rfl q
  | brk =>
    obtain ⟨_, _, _, q⟩ := hs
    exact False.elim q
  | cont =>
    obtain ⟨_, _, _, q⟩ := hs
    exact False.elim q
def fKind (n : Nat) (f : SF) : EF := fun env => match f (List.replicate n none) with
  | .ok (.rt o, _) => .ok (.fr o.data, env)
  | _ => .no
theorem sim_pin0 {K : PySem.W.Frag} {T : List (Addr × Str)} {a : Addr} {I H : Hp} {N : List Str} (sub : Same I H) (tb : TabI T I H) (hl : 0 < N.length) : Sim K ([0], (fun _ => .ref a), T) I H (L2.start N [.ref a]) (List.replicate N.length none) (fun _ => []) := by
  refine ⟨?_, fun j o q => ?_, fun _ _ => rfl, fun _ _ _ h => (nomatch h), fun _ _ h => (nomatch h), sub, fun j hj => ?_, tb⟩
  · unfold L2.start; simp; omega
  · rw [List.getElem?_replicate] at q
    split at q <;> cases q
  · simp at hj; subst hj; unfold L2.start; rfl
theorem de_kind {X : Cx} {a : Addr} {oe : Obj} {xs aN n : Str} {gK : Addr} {fd : FuncData} {st : Stmt} {Ng : List Str} {k i : Nat} {fb : SF} {p pos : Pos}
    (hpn : (a, oe) ∈ X.pn) (hp : g.pn = ([i], (fun _ => V.ref a), g.pn.2.2)) (hg : Gl X xs) (hm : X.mg xs = some (.ref gK)) (hk : PySem.W.keepIn X.K (.ref gK) = true) (F : Fun X.K xs xs st gK fd) (hb : Binds X.K fd [aN] []) (S : FnScope Ng [aN] (defScope st)) (hgd : X.A.guards = some []) (hr : L2H.RoomH (k + 1) X.A)
    (hx : PE X (.Name n p1) (tVar i)) (hN : 0 < Ng.length)
    (hbody : ∀ (cdv : Value) (A : Around) (outer : List PySem.Env) (s : Shared) (H : Hp), (A.deeper (envOfC xs (defScope st) s.heap.objs.size gK cdv)).guards = some [] → L2H.RoomH k (A.deeper (envOfC xs (defScope st) s.heap.objs.size gK cdv)) →
      DSs ⟨g.K, g.mg, ([0], (fun _ => .ref a), g.pn.2.2), fun _ _ _ => False⟩ (L2H.cxH (L2.CX X.prog X.w) X.prog X.w X.K X.mg X.base Ng xs (defScope st) gK cdv A outer s H (fun _ _ _ => False) (a, oe)) (defBody st) fb)
    (hdb : (xs == ("__debug__" : Str)) = false := by decide)
    (he : starEach [.Name n p1] X.env = (false, eval (.Name n p1) X.env) :: starEach [] X.env := by rfl) (hpl : (backTo pos (starEach [] X.env)).any (·.1) = false := by rfl) :
    DE g X (.Call (.Name xs p) [.Name n p1] [] pos) (fKind Ng.length fb) := by
  refine ⟨fun pins s σ H Q J hh => ?_⟩
  obtain ⟨I, env, F0, sim, pp⟩ := hh
  have e1 := sim.pin i (by rw [hp]; simp)
  rw [hp] at e1
  refine wpAny_Call_Name_kw (ld_glob J hg hm ?_ hdb)
  refine PySem.W.callWith_K (h₀ := X.base) J.ok.mod.kin hk (thn ((pa_cons hx pa_nil).run pos pins s σ H (fun vs H1 => vs = [.ref a] ∧ H1 = H) J ⟨.ref a, e1, rfl, rfl⟩) fun us s1 hu => ?_) he hpl
  obtain ⟨vs, H1, J1, rr, rfl, eH⟩ := hu
  subst eH
  refine ⟨J1.kIn, ?_⟩
  have P1 := J1.pin (a, oe) (List.mem_append_left _ hpn)
  have hpin : L2H.PinOk X.stack H1 s1 (a, oe) := ⟨P1.1, P1.2.1, fun hm => (List.mem_cons.mp (J1.stkSub a hm)).elim P1.2.2.1 P1.2.2.2.1, P1.2.2.2.2⟩
  have hl : us.length = 1 := by rw [← rr.length]; rfl
  have rc : codeAny (model X.prog X.w) X.A (.call (.ref gK) ⟨us, []⟩) (CR (L2.CX X.prog X.w) X.stack X.prog X.w H1 s1 Q (fun _ _ _ => False)) s1 := by
    obtain ⟨oc, od, kV, doc, pm', an, cdv, ct, osl, rfl, lk, hcd⟩ := F.ex
    have b := hb s1 us J1.kIn (by rw [List.append_nil]; exact hl)
    rw [List.append_nil] at b
    refine run_ofH (N := Ng) (ps := [aN]) (us := us) (vs := [.ref a]) lk hcd S hr hpin J1.env0 b rr rfl fun hr' => ?_
    refine ⟨_, hbody cdv X.A X.stack s1 H1 hgd hr', ?_⟩
    refine ⟨I, List.replicate Ng.length none, fun _ => [], sim_pin0 sim.sub sim.tab hN, ?_⟩
    unfold fKind at pp
    cases qh : fb (List.replicate Ng.length none) with
    | no => rw [qh] at pp; exact pp.elim
    | er z => rw [qh] at pp; exact pp.elim
    | ok r =>
      rw [qh] at pp
      obtain ⟨fl, e⟩ := r
      cases fl with
      | nx => exact pp.elim
      | bk => exact pp.elim
      | ct => exact pp.elim
      | rt o =>
        intro v σ2 H2 af
        obtain ⟨I6, F6, rp6, s6, st6⟩ := af.frz
        obtain ⟨s5, st5⟩ := sim_over sim st6 s6.sub s6.tab
        exact pp v H2 (AftD.aft ⟨_, _, rp6, s5, st5⟩)
  refine wpAny_call (codeAny_mono rc fun r s2 hq => ?_)
  cases r with
  | error e =>
    obtain ⟨_, _, _, _, _, _, _, _, _, _, _, _, z⟩ := hq
    exact z.elim
  | ok fl =>
    cases fl with
    | ret u => exact J1.after hq
    | next => exact hq.elim
    | brk => exact hq.elim
    | cont => exact hq.elim
/-- what the walk does not reach -/
def fNoE : EF := fun _ => .no
theorem de_no : DE g X e fNoE := ⟨fun pins s σ H Q J hh => by
  obtain ⟨I, env, F0, sim, pp⟩ := hh
  exact pp.elim⟩
end
end Dy
namespace Dy
open PySem PySem.Spec PyProof.Rows L2
open LamX (TabB)
/-- the law is called where nothing is tracked but the script and the tables -/
theorem lawT {P : Program} {w : World} {K : PySem.W.Frag} {mg mb : Str → Option Value} {k : Nat} {fa a : Addr} {cs : List (Addr × Addr)} {fd : FuncData} {x : Str} {sp : Sp} {s1 : Shared} {vs : List Value} {ns : List Int}
    (KX : K.In s1.heap) (hns : s1.heap.Ns mainGlobals mg) (hb : s1.heap.Ns builtinsNs mb) (hbb : ∀ x : Str, x ≠ "__name__" → mb x = bootBuiltins x) (hlim : s1.heap.NoLimit) (hgs : s1.gens = #[])
    (hT : ∀ p ∈ cs, s1.heap.get? p.2 = some { cls := .none, data := .fields #[] }) (nT : ∀ p ∈ cs, K.lookup p.2 = none) (C : ∀ p ∈ cs, PySem.W.CodeHd s1.heap p.1 p.2)
    (hbm : ∃ (bm : Addr) (ob : Obj), mg "__builtins__" = some (.ref bm) ∧ bm ≠ builtinsNs ∧ s1.heap.get? bm = some ob ∧ ob.cls = .type "module" ∧ ob.dict = some builtinsNs ∧ ob.data = .plain)
    (ha : s1.heap.get? a = some { cls := .type "list", data := .seq vs.toArray }) (hi : IntsAre vs ns) (hl : ns.length ≤ sizeLine) (hr : Room k callerA)
    (F : ∀ base : Heap, K.In base → base.Ns mainGlobals mg → (∀ p ∈ cs, TabB base mg p.1 p.2) → FnG P w K mg base k fa fd [x] sp) (bind : ∀ (s : Shared) (u : Value), BindsTo s fd ⟨[u], []⟩ [(x, u)])
    (hsp : ∀ H : Hp, (∀ p ∈ cs, H p.2 = some (.tbl #[])) → LsL K H a (ns.map V.int) → sp [.ref a] H (fun v _ => v = .bl true) fun _ _ _ => False) :
    codeAny (model P w) callerA (.call (.ref fa) ⟨[.ref a], []⟩) (fun r s' => r = .ok (.ret (.bool true)) ∧ OldK s1.heap s'.heap ∧ s'.os = s1.os ∧ AllBare s'.gens) s1 := by
  have rv := vals_ints hi
  have hlen := hi.length
  let B : Addr → Prop := fun b => b ∈ cs.map (·.2)
  have dB : ∀ b, B b ∨ ¬ B b := fun b => Classical.em _
  have inB : ∀ p ∈ cs, B p.2 := fun p hp => List.mem_map.mpr ⟨p, hp, rfl⟩
  have isT : ∀ b, B b → s1.heap.get? b = some { cls := .none, data := .fields #[] } := fun b hb => by
    obtain ⟨p, hp, e⟩ := List.mem_map.mp hb
    rw [← e]; exact hT p hp
  have aT : ¬ B a := fun z => by
    have q := isT a z
    rw [ha] at q
    cases q
  suffices core : ∀ H : Hp, (∀ b, B b → H b = some (.tbl #[])) → (∀ b, ¬ B b → H b = none ∨ (b = a ∧ ∃ o xs, H b = some (.frz o (.lst xs)))) → LsL K H a (ns.map V.int) → HOk P w H s1.heap → (H a ≠ none → K.lookup a = none) →
      codeAny (model P w) callerA (.call (.ref fa) ⟨[.ref a], []⟩) (fun r s' => r = .ok (.ret (.bool true)) ∧ OldK s1.heap s'.heap ∧ s'.os = s1.os ∧ AllBare s'.gens) s1 by
    open Classical in
    cases hk : K.lookup a with
    | some o =>
      have e := KX a o hk
      rw [ha] at e
      cases e
      refine core (fun b => if B b then some (.tbl #[]) else none) (fun b hb => if_pos hb) (fun b hb => .inl (if_neg hb)) (Or.inr ⟨vs, _, hk, by rw [hlen]; exact hl, rv⟩) (fun b u z => ?_) (fun z => (z (if_neg aT)).elim)
      by_cases hb : B b
      · have z' := (if_pos hb).symm.trans z
        cases z'
        exact isT b hb
      · have z' := (if_neg hb).symm.trans z
        cases z'
    | none =>
      let o1 : Obj := { cls := .type "list", data := .seq vs.toArray }
      refine core (fun b => if B b then some (.tbl #[]) else if b = a then some (.frz o1 (.lst (ns.map V.int))) else none) (fun b hb => if_pos hb) (fun b hb => ?_) (Or.inl (Or.inr ⟨o1, (if_neg aT).trans (if_pos rfl)⟩)) (fun b u z => ?_) (fun _ => hk)
      · by_cases h : b = a
        · exact Or.inr ⟨h, o1, _, (if_neg hb).trans (if_pos h)⟩
        · exact Or.inl ((if_neg hb).trans (if_neg h))
      · by_cases hb : B b
        · have z' := (if_pos hb).symm.trans z
          cases z'
          exact isT b hb
        · have z1 := (if_neg hb).symm.trans z
          by_cases h : b = a
          · have z' := (if_pos h).symm.trans z1
            cases z'
            rw [h]
            exact ⟨ha, by rw [List.length_map]; exact hl, vs, _, rv, ha⟩
          · have z' := (if_neg h).symm.trans z1
            cases z'
  intro H hB hO hS hok hK
  have up : ∀ {b : Addr} {o : Obj}, s1.heap.get? b = some o → H b = none → (hidT s1.heap H).get? b = some o := fun e n => hidT_get e n
  have free : ∀ {b : Addr} {o : Obj}, s1.heap.get? b = some o → (∀ vs n, o.data ≠ .seq vs n) → o.data ≠ .fields #[] → H b = none := by
    intro b o e d1 d2
    rcases dB b with hb | hb
    · rw [isT b hb] at e
      cases e
      exact (d2 rfl).elim
    · rcases hO b hb with z | ⟨z, _⟩
      · exact z
      · rw [z, ha] at e
        cases e
        exact (d1 _ _ rfl).elim
  have freeD : ∀ {b : Addr} {o : Obj} {es : Array DictEntry} {ep : Nat}, s1.heap.get? b = some o → o.data = .dict es ep → H b = none := by
    intro b o es ep e d
    refine free e (fun vs n z => ?_) fun z => ?_
    · rw [d] at z; cases z
    · rw [d] at z; cases z
  have ns' : ∀ {b : Addr} {m : Str → Option Value}, s1.heap.Ns b m → (hidT s1.heap H).Ns b m := by
    rintro b m ⟨o, es, ep, e, d, r⟩
    exact ⟨o, es, ep, up e (freeD e d), d, r⟩
  have kin : K.In (hidT s1.heap H) := by
    intro b o e
    refine up (KX b o e) ?_
    rcases dB b with hb | hb
    · obtain ⟨p, hp, ep⟩ := List.mem_map.mp hb
      rw [← ep, nT p hp] at e
      cases e
    · rcases hO b hb with z | ⟨z, o2, xs, q⟩
      · exact z
      · subst z
        rw [hK (by rw [q]; exact fun h => by cases h)] at e
        cases e
  have hM : Mod K mg (hidT s1.heap H) := by
    refine ⟨kin, ns' hns, ⟨mb, ns' hb, hbb⟩, ?_⟩
    obtain ⟨mc, h1, h2⟩ := hlim
    exact ⟨mc, ns' h1, h2⟩
  have TB : ∀ p ∈ cs, TabB (hidT s1.heap H) mg p.1 p.2 := fun p hp => by
    refine ⟨?_, ?_, fun z => ?_⟩
    · obtain ⟨o, us, file, tf, flags, tg, inF, text, tt, e1, r1, r2, r3, r4, r5, r6, r7, r8, hne⟩ := C p hp
      refine ⟨o, us, file, tf, flags, tg, inF, text, tt, up e1 (free e1 (fun vs n z => ?_) fun z => ?_), r1, r2, r3, r4, r5, r6, r7, r8, hne⟩
      · rw [r2] at z; cases z
      · rw [r2] at z; cases z
        simp at r3
    · obtain ⟨bm, ob, b1, b2, b3, b4, b5, b6⟩ := hbm
      have nG : bm ≠ mainGlobals := fun q => by
        obtain ⟨o, es, ep, e, hd, _⟩ := hns
        rw [q, e] at b3; cases b3
        rw [hd] at b6; cases b6
      have nP : bm ≠ p.2 := fun q => by
        rw [q, hT p hp] at b3; cases b3
        cases b6
      refine ⟨bm, ob, b1, b2, nG, nP, up b3 (free b3 (fun vs n z => ?_) fun z => ?_), b4, b5, b6⟩
      · rw [b6] at z; cases z
      · rw [b6] at z; cases z
    · obtain ⟨o, es, ep, e, hd, _⟩ := hns
      rw [z, hT p hp] at e; cases e
      cases hd
  have e0 : L2.Env0 P w K mg (hidT s1.heap H) callerA [] s1 H :=
    { frames := rfl, mod := hM, bs := fun b o e => of_hidT e, bsz := Nat.le_of_eq (hidT_size _ _), funs := trivial, frf := fun b z => (nomatch (show b ∈ ([] : List Addr) from z)), hok := hok, bare := .of_eq hgs }
  refine codeAny_mono ((F _ kin (ns' hns) TB).run callerA [] s1 H ⟨[.ref a], []⟩ [.ref a] [.ref a] _ _ rfl hr e0 (bind s1 (.ref a)) (.cons rfl .nil) (hsp H (fun p hp => hB _ (inB p hp)) hS)) ?_
  intro r s' h
  cases r with
  | error e =>
    obtain ⟨_, _, _, _, _, _, _, _, _, _, _, _, z⟩ := h
    exact z.elim
  | ok fl =>
    cases fl with
    | next => exact h.elim
    | brk => exact h.elim
    | cont => exact h.elim
    | ret u =>
      obtain ⟨v, H', os, bare, un, hok', r', q⟩ := h
      have q : v = .bl true := q
      subst q
      cases (show u = Value.bool true from r')
      have key : ∀ b o, ¬ B b → s1.heap.get? b = some o → s'.heap.get? b = some o := fun b o nb e => by
        rcases hO b nb with z | ⟨_, ob, xs, z⟩
        · exact un.keep b o e z (fun h => by cases (show b ∈ ([] : List Addr) from h)) (by simp)
        · obtain ⟨e1, _⟩ := hok b _ z
          obtain ⟨e2, _⟩ := hok' b _ (un.frzs b ob _ z)
          rw [e] at e1; cases e1
          exact e2
      have grown : ∀ p ∈ cs, ∃ more : Array Value, s'.heap.get? p.2 = some { cls := .none, data := .fields more } := fun p hp => by
        obtain ⟨more, z⟩ := un.tbls p.2 #[] (hB _ (inB p hp))
        exact ⟨_, hok' p.2 _ z⟩
      refine ⟨rfl, ⟨fun b o e => ?_, fun b o e => ?_⟩, os, bare⟩
      · rcases dB b with hb | hb
        · obtain ⟨p, hp, ep⟩ := List.mem_map.mp hb
          obtain ⟨more, hm⟩ := grown p hp
          rw [← ep] at e ⊢
          rw [hT p hp] at e
          cases e
          exact .inr (.inl ⟨((C p hp).tab (hT p hp)).isCodeTable, rfl, #[], more, rfl, by rw [Array.empty_append]; exact hm⟩)
        · exact .inl (key b o hb e)
      · rcases dB b with hb | hb
        · obtain ⟨p, hp, ep⟩ := List.mem_map.mp hb
          obtain ⟨more, hm⟩ := grown p hp
          rw [← ep]
          exact ⟨_, hm⟩
        · exact ⟨o, key b o hb e⟩
/-- what is known of the law at the head's heap h -/
def LawAtT (l : PySem.W.OpenLaw) (w : World) (K : PySem.W.Frag) (k n : Nat) (x : Str) (mg : Str → Option Value) (fa : Addr) (h : Heap) : Prop :=
  ∃ (fd : FuncData) (cs : List (Addr × Addr)) (sp : Sp), (∀ p ∈ cs, h.get? p.2 = some { cls := .none, data := .fields #[] }) ∧ (∀ p ∈ cs, K.lookup p.2 = none) ∧ (∀ p ∈ cs, PySem.W.CodeHd h p.1 p.2) ∧ (∀ (s : Shared) (u : Value), BindsTo s fd ⟨[u], []⟩ [(x, u)]) ∧
    (∀ (H : Hp) (a : Addr) (ns : List Int), ns.length ≤ n → (∀ p ∈ cs, H p.2 = some (.tbl #[])) → LsL K H a (ns.map V.int) → sp [.ref a] H (fun v _ => v = .bl true) fun _ _ _ => False) ∧
    ∀ base : Heap, K.In base → base.Ns mainGlobals mg → (∀ p ∈ cs, TabB base mg p.1 p.2) → FnG l.prog w K mg base k fa fd [x] sp
theorem walkT {l : PySem.W.OpenLaw} {n k : Nat} {q : Program} {loose : List Str} {XP : (Str → Option Value) → Heap → Prop} {YP : World → Heap → Prop} {d : DefRec} {x : Str}
    (hn : l.most = some n) (hn2 : n ≤ sizeLine) (hdf : d.params.defaults = []) (hr : Room k callerA)
    (F : ∀ (w : World) (mg : Str → Option Value) (fa : Addr) (h : Heap), YP w h → h.Ns mainGlobals mg → mg d.name = some (.ref fa) → ∃ K : PySem.W.Frag, K.In h ∧ LawAtT l w K k n x mg fa h) :
    PySem.W.WalkO q loose XP YP l.row.toRowW d [] (fun f vs => PySem.call f vs) := by
  refine Att.attach_callB hn hdf ?_
  intro w s0 s1 mg mb fa o pm cd doc a vs ns G Y ho hd hcd hmg hobj hints hlen hbits hgs
  obtain ⟨K, KX, fd, cs, sp, hT, nT, C, hb, hsp, hF⟩ := F w mg fa _ Y G.T.g hmg
  exact lawT KX G.T.g G.T.b G.T.builtins G.T.nolimit hgs hT nT C G.T.bmain hobj hints (Nat.le_trans hlen hn2) hr hF hb fun H hH hS => hsp H a ns hlen hH hS
/-- H without the tables -/
def noTab (H : Hp) : Hp := fun b => match H b with
  | some (.tbl _) => none
  | o => o
theorem noTab_of {H : Hp} {b : Addr} {o : HO} (h : H b = some o) (n : NT o) : noTab H b = some o := by
  unfold noTab
  rw [h]
  cases o with
  | tbl ps => exact (n ps rfl).elim
  | _ => rfl
theorem noTab_same {H : Hp} : Same (noTab H) H := fun b o h => by
  unfold noTab at h
  split at h
  · cases h
  · exact h
theorem law_okT {K : PySem.W.Frag} {mg : Str → Option Value} {T : List (Addr × Str)} {H : Hp} {a : Addr} {ns : List Int} {m : Fn} {os' : List O} (h : m [.fr (.list (ns.map PyData.int))] = .ok (.fr (.bool true), os')) (hT : ∀ p ∈ T, H p.1 = some (.tbl #[])) (hF : ∀ p ∈ T, isFld p.2 = false) (hS : LsL K H a (ns.map V.int)) :
    spD K mg T m [.ref a] H (fun v _ => v = .bl true) fun _ _ _ => False := by
  have hS2 : LsL K (noTab H) a (ns.map V.int) := by
    rcases hS with (z | ⟨o, z⟩) | z
    · exact .inl (.inl (noTab_of z fun _ e => by cases e))
    · exact .inl (.inr ⟨o, noTab_of z fun _ e => by cases e⟩)
    · exact .inr z
  refine ⟨noTab H, [.fr (.list (ns.map PyData.int))], fun _ => [], ⟨rfl, fun i o q => ?_, fun _ _ => rfl, fun i j a h => (nomatch h), fun i a h => (nomatch h), noTab_same, (fun i hi => (nomatch hi)), fun p hp => ?_⟩, ?_⟩
  · cases i with
    | zero =>
      cases q
      exact ⟨_, rfl, rfl, .lst hS2 (rp_ints ns)⟩
    | succ i => simp at q
  · rw [if_neg (by rw [hF p hp]; decide)]
    refine ⟨#[], hT p hp, ?_, ?_, fun pos cv hc => ?_⟩
    · unfold noTab; rw [hT p hp]
    · first | exact trivial | exact .nil | simp [TriplesOk]
    · simp [codeAmong] at hc
  · rw [h]
    intro v H' ⟨I', F', R, r, _⟩
    cases r.2
    rfl
end Dy
namespace Dy
open PySem PySem.Spec PyProof.Rows L2
open LamX (TabB)
theorem fun_of {K : PySem.W.Frag} {x qual : Str} {st : Stmt} {f : Addr} {fd : FuncData} (F : FunD K x qual (defArgs st) (defBody st) (defScope st) [] [] f fd) : Fun K x qual st f fd := by
  obtain ⟨oc, od, dV, kV, doc, pm, an, cdv, ct, osl, e, lk, hc, hd, _⟩ := F.ex
  rcases hd with ⟨_, rfl⟩ | ⟨z, _⟩
  · exact ⟨⟨oc, od, kV, doc, pm, an, cdv, ct, osl, e, lk, hc⟩, F.kp⟩
  · exact (z rfl).elim
/-- the code object that the head has found -/
theorem code_of {K : PySem.W.Frag} {x qual : Str} {st : Stmt} {fd : FuncData} (F : Fun K x qual st (He.fAd K (x, none)) fd) : fd.code = .ref (He.cT K (x, none)).1 := by
  obtain ⟨oc, od, kV, doc, pm, an, cdv, ct, osl, rfl, lk, hcd⟩ := F.ex
  obtain ⟨c, rfl⟩ := He.codeIn_ref hcd
  have e := He.codeOf_eq (c := c) lk rfl
  show Value.ref c = .ref (He.codeOf K (x, none))
  rw [e]
def CallB (P : Program) (w : World) (K : PySem.W.Frag) (mg : Str → Option Value) (base : Heap) (T : List (Addr × Str)) (k : Nat) (x : Str) (ps : List Str) (m : Fn) : Prop :=
  ∃ f fd, mg x = some (.ref f) ∧ PySem.W.keepIn K (.ref f) = true ∧ Binds K fd ps [] ∧ FnG P w K mg base k f fd ps (spD K mg T m)
theorem CallB.mono {P : Program} {w : World} {K : PySem.W.Frag} {mg : Str → Option Value} {base : Heap} {T : List (Addr × Str)} {j k : Nat} {x : Str} {ps : List Str} {m : Fn} (h : CallB P w K mg base T j x ps m) (l : j ≤ k) : CallB P w K mg base T k x ps m := by
  obtain ⟨f, fd, h1, h2, h3, h4⟩ := h
  exact ⟨f, fd, h1, h2, h3, h4.mono l⟩
theorem callB_of {T : List (Addr × Str)} {P : Program} {w : World} {K : PySem.W.Frag} {mg : Str → Option Value} {base : Heap} {k : Nat} {x qual : Str} {st : Stmt} {f : Addr} {fd : FuncData} {ps : List Str} {m : Fn} (F : Fun K x qual st f fd) (hm : mg x = some (.ref f)) (hb : Binds K fd ps []) (h : FnG P w K mg base k f fd ps (spD K mg T m)) : CallB P w K mg base T k x ps m :=
  ⟨f, fd, hm, F.kp, hb, h⟩
section
variable {T : List (Addr × Str)} {g : G} {X : Cx} {k : Nat} {ps : List Str} {m : Fn} {x : Str} {p pos : Pos} {e : Expr} {es : List Expr} {as : List AF}
theorem dcallB (c : CallB X.prog X.w X.K X.mg X.base T k x ps m) (hgd : X.A.guards = some []) (hr : Room k X.A) (hg : Gl X x) (hx : Passes (L2.CX X.prog X.w) X g.E)
    (ha : DA g X (e :: es) as) (hK : g.K = X.K := by rfl) (hM : g.mg = X.mg := by rfl) (hT : g.pn.2.2 = T := by rfl) (hdb : (x == ("__debug__" : Str)) = false := by decide) (he : starEach (e :: es) X.env = (false, eval e X.env) :: starEach es X.env := by rfl) (hpl : (backTo pos (starEach es X.env)).any (·.1) = false := by rfl) :
    DE g X (.Call (.Name x p) (e :: es) [] pos) (fCall m as) := by
  obtain ⟨f, fd, h1, h2, h3, h4⟩ := c
  exact de_call (X := X) (by rw [hK, hM, hT]; exact h4) hgd hr hg h1 h2 h3 hx ha hdb he hpl
end
theorem ruH64 {k : Nat} {A : Around} (h : L2H.RoomH k A) : A.units + 64 < cLine := by have := h.un; omega
theorem ruH65 {k : Nat} {A : Around} (h : L2H.RoomH k A) : A.units + 65 < cLine := by have := h.un; omega
/-- L: the classes whose instances are raised and caught; A: the classes that are asked for; pe: the one that is caught -/
structure ExcSet (K : PySem.W.Frag) (mg : Str → Option Value) (L A : List Str) (pe : Str) (PE : Addr) : Prop where
  pe : mg pe = some (.ref PE)
  ok : ∀ x ∈ L, ∃ C, ExcOk K mg x C ∧ ExcC K C ∧ TryX K mg PE x C ∧ PySem.W.kitOne K (.ref C) (.type "ValueError") = some true
  kit : ∀ x ∈ L, ∀ y ∈ A, ∃ C D, mg x = some (.ref C) ∧ mg y = some (.ref D) ∧ PySem.W.kitOne K (.ref C) (.ref D) = some (decide (x = y))
def excB (K : PySem.W.Frag) (C : Addr) : Bool :=
  He.eqO (PySem.W.findIn K (.ref C) "__getattribute__") (some (some (.builtin "BaseException.__getattribute__"))) &&
  (He.eqO (PySem.W.findIn K (.ref C) "__getattr__") (some none) &&
  (decide (PySem.W.subIn K (.ref C) (.type "BaseException") = some true) &&
  (PySem.W.hasDictIn K C &&
  (He.eqO (PySem.W.findIn K (.ref C) "__class__") (some (some (.builtin "object.__class__"))) &&
  (He.eqO (PySem.W.specialIn K (.builtin "object.__class__") "__get__") (some (some (.builtin "getset_descriptor.__get__"))) &&
  (decide (PySem.W.takesIn K (.builtin "object.__class__") = some true) &&
  decide (PySem.W.mroIn K C (.type "object") = some true)))))))
theorem excB_ok {K : PySem.W.Frag} {C : Addr} (h : excB K C = true) : ExcC K C := by
  obtain ⟨h1, h⟩ := He.ba h
  obtain ⟨h2, h⟩ := He.ba h
  obtain ⟨h3, h⟩ := He.ba h
  obtain ⟨h4, h⟩ := He.ba h
  obtain ⟨h5, h⟩ := He.ba h
  obtain ⟨h6, h⟩ := He.ba h
  obtain ⟨h7, h8⟩ := He.ba h
  exact ⟨He.eqO_ok h1, He.eqO_ok h2, of_decide_eq_true h3, h4, He.eqO_ok h5, He.eqO_ok h6, of_decide_eq_true h7, of_decide_eq_true h8⟩
def oneB (K : PySem.W.Frag) (A : List Str) (pe x : Str) : Bool :=
  (He.Fa.glo x).ok K && ((He.Fa.exc x).ok K && (excB K (He.ga K x) && ((He.Fa.exm x pe true).ok K && (decide (PySem.W.kitOne K (.ref (He.ga K x)) (.type "ValueError") = some true) &&
    A.all fun y => (He.Fa.glo y).ok K && decide (PySem.W.kitOne K (.ref (He.ga K x)) (.ref (He.ga K y)) = some (decide (x = y)))))))
def setB (L A : List Str) (pe : Str) (K : PySem.W.Frag) : Bool := (He.Fa.glo pe).ok K && L.all fun x => oneB K A pe x
theorem setB_ok {K : PySem.W.Frag} {h : Heap} {mg : Str → Option Value} {L A : List Str} {pe : Str} (X : K.In h) (G : h.Ns mainGlobals mg) (b : setB L A pe K = true) : ExcSet K mg L A pe (He.ga K pe) := by
  obtain ⟨b1, b2⟩ := He.ba b
  refine ⟨He.glo_ok X G b1, fun x hx => ?_, fun x hx y hy => ?_⟩
  · obtain ⟨c1, c⟩ := He.ba (List.all_eq_true.mp b2 x hx)
    obtain ⟨c2, c⟩ := He.ba c
    obtain ⟨c3, c⟩ := He.ba c
    obtain ⟨c4, c⟩ := He.ba c
    obtain ⟨c5, c6⟩ := He.ba c
    obtain ⟨e1, e2, e3, e4⟩ := He.exc_ok c2
    have g := He.glo_ok X G c1
    exact ⟨He.ga K x, ⟨g, e1, e2, e3, e4⟩, excB_ok c3, ⟨g, He.exm_ok c4⟩, of_decide_eq_true c5⟩
  · obtain ⟨c1, c⟩ := He.ba (List.all_eq_true.mp b2 x hx)
    obtain ⟨c2, c⟩ := He.ba c
    obtain ⟨c3, c⟩ := He.ba c
    obtain ⟨c4, c⟩ := He.ba c
    obtain ⟨c5, c6⟩ := He.ba c
    obtain ⟨d1, d2⟩ := He.ba (List.all_eq_true.mp c6 y hy)
    exact ⟨He.ga K x, He.ga K y, He.glo_ok X G c1, He.glo_ok X G d1, of_decide_eq_true d2⟩
section
variable {g : G} {X : Cx} {a b c e : Expr} {es : List Expr} {pos p1 p2 p3 px : Pos} {L A : List Str} {pe : Str} {PEa : Addr}
theorem ds_raiseS {x m : Str} {j : Nat} (S : ExcSet X.K X.mg L A pe PEa) (hL : x ∈ L) (hc : X.calm = true) (tk : Takes X (fun cls d _ H => g.E cls d H)) (hg : Gl X x) (hM : g.mg = X.mg := by rfl) (hdb : (x == ("__debug__" : Str)) = false := by decide) :
    DS g X (.Raise (some (.Call (.Name x p1) [.Constant (.str m) j p2] [] p3)) none pos) (fRaise x) := by
  obtain ⟨C, h, _⟩ := S.ok x hL
  exact ds_raise hc tk h hg hM hdb
theorem de_isK {a C : Addr} {oe : Obj} {i : Nat} {n x y : Str} (S : ExcSet X.K X.mg L A pe PEa) (hx0 : x ∈ L) (hC : X.mg x = some (.ref C)) (hy : y ∈ A) (hpn : (a, oe) ∈ X.pn) (hz : Zc (.ref C) none oe) (hv : ∃ vs, oe.data = .fields vs) (hp : g.pn = ([i], (fun _ => V.ref a), g.pn.2.2)) (hg : Gl X "isinstance") (hm : X.mg "isinstance" = none)
    (hx : PE X (.Name n p1) (tVar i)) (hgy : Gl X y) (hdy : (y == ("__debug__" : Str)) = false := by decide)
    (he : starEach [.Name n p1, .Name y p2] X.env = (false, eval (.Name n p1) X.env) :: starEach [.Name y p2] X.env := by rfl) (hpl : (backTo pos (starEach [.Name y p2] X.env)).any (·.1) = false := by rfl) :
    DE g X (.Call (.Name "isinstance" p3) [.Name n p1, .Name y p2] [] pos) (fC (.bool (decide (x = y)))) := by
  obtain ⟨C1, h1, h2, _⟩ := S.ok x hx0
  obtain ⟨C2, D, h3, h4, h5⟩ := S.kit x hx0 y hy
  have e1 := h1.g; rw [hC] at e1; cases e1
  rw [hC] at h3; cases h3
  exact de_isP hpn h2 hz hv hp hg hm hx (pe_glob (u := .ref D) (v := .ref D) hgy h4 rfl hdy) (fun u r => r) h5 he hpl
theorem de_isVE {a C : Addr} {oe : Obj} {i : Nat} {n x : Str} (S : ExcSet X.K X.mg L A pe PEa) (hx0 : x ∈ L) (hC : X.mg x = some (.ref C)) (hpn : (a, oe) ∈ X.pn) (hz : Zc (.ref C) none oe) (hv : ∃ vs, oe.data = .fields vs) (hp : g.pn = ([i], (fun _ => V.ref a), g.pn.2.2)) (hg : Gl X "isinstance") (hm : X.mg "isinstance" = none)
    (hx : PE X (.Name n p1) (tVar i)) (hT : PE X (.Name "ValueError" p2) (tC (.ty "ValueError")))
    (he : starEach [.Name n p1, .Name "ValueError" p2] X.env = (false, eval (.Name n p1) X.env) :: starEach [.Name "ValueError" p2] X.env := by rfl) (hpl : (backTo pos (starEach [.Name "ValueError" p2] X.env)).any (·.1) = false := by rfl) :
    DE g X (.Call (.Name "isinstance" p3) [.Name n p1, .Name "ValueError" p2] [] pos) (fC (.bool true)) := by
  obtain ⟨C1, h1, h2, _, h5⟩ := S.ok x hx0
  have e1 := h1.g; rw [hC] at e1; cases e1
  exact de_isP hpn h2 hz hv hp hg hm hx hT (fun u r => r) h5 he hpl
end
theorem memS {x : Str} {A : List Str} (h : A.contains x = true) : x ∈ A := List.contains_iff_mem.mp h
theorem bt_ValueError : bootBuiltins "ValueError" = some (.type "ValueError") := by decide +kernel
abbrev lamN (x : Str) : Str := (envOfC x ⟨.function, [], false, false, []⟩ 0 0 .none).qual ++ "<lambda>"
def TT (K : PySem.W.Frag) (TF : List He.Defn) : List (Addr × Str) := TF.map fun p => ((He.cT K p).2, lamN p.1)
theorem hm_of {K : PySem.W.Frag} {TF : List He.Defn} {x : He.Defn} (h : x ∈ TF) : ((He.cT K x).2, lamN x.1) ∈ TT K TF := List.mem_map.mpr ⟨x, h, rfl⟩
def ndB (TF : List He.Defn) (K : PySem.W.Frag) : Bool := TF.all fun p => TF.all fun q => decide ((He.cT K p).2 = (He.cT K q).2 → p = q)
theorem hu_of {K : PySem.W.Frag} {TF : List He.Defn} (h : ndB TF K = true) {x : He.Defn} (hx : x ∈ TF) : ∀ p ∈ TT K TF, p.1 = (He.cT K x).2 → p.2 = lamN x.1 := fun p hp e => by
  obtain ⟨q, hq, rfl⟩ := List.mem_map.mp hp
  have h2 := List.all_eq_true.mp (List.all_eq_true.mp h q hq) x hx
  have e2 := of_decide_eq_true h2 e
  rw [e2]
/-- what the head tells, and the law's promise -/
theorem lawAt_of {l : PySem.W.OpenLaw} {w : World} {K : PySem.W.Frag} {k n : Nat} {x : Str} {mg : Str → Option Value} {fa : Addr} {h : Heap} {FA : List He.Fa} {FN : List He.DefD} {TF : List He.Defn} {EX : PySem.W.Frag → Bool} {fd : FuncData} {m : Fn} (X : K.In h) (S : He.SaysX FA FN [] TF EX w h K)
    (hb : ∀ (s : Shared) (u : Value), BindsTo s fd ⟨[u], []⟩ [(x, u)]) (lt : ∀ ns : List Int, ns.length ≤ n → ∃ os, m [.fr (.list (ns.map PyData.int))] = .ok (.fr (.bool true), os))
    (F : ∀ base : Heap, (∀ p ∈ TF, TabB base mg (He.cT K p).1 (He.cT K p).2) → FnG l.prog w K mg base k fa fd [x] (spD K mg (TT K TF) m)) : LawAtT l w K k n x mg fa h := by
  refine ⟨fd, TF.map (He.cT K), spD K mg (TT K TF) m, fun p hp => ?_, fun p hp => ?_, fun p hp => ?_, hb, fun H a ns hl hT hS => ?_, fun base _ _ tb => F base fun p hp => tb _ (List.mem_map.mpr ⟨p, hp, rfl⟩)⟩
  · obtain ⟨q, hq, rfl⟩ := List.mem_map.mp hp
    exact S.empty q hq
  · obtain ⟨q, hq, rfl⟩ := List.mem_map.mp hp
    exact S.out q hq
  · obtain ⟨q, hq, rfl⟩ := List.mem_map.mp hp
    exact PySem.W.codeHd_of_K X (S.hd q hq)
  · obtain ⟨os, e⟩ := lt ns hl
    refine law_okT e (fun p hp => ?_) (fun p hp => by obtain ⟨q, hq, rfl⟩ := List.mem_map.mp hp; exact lam_nf _) hS
    obtain ⟨q, hq, rfl⟩ := List.mem_map.mp hp
    exact hT _ (List.mem_map.mpr ⟨q, hq, rfl⟩)
/-- the statements of the suite of def said -/
def suiteOf (st : Stmt) : List Stmt := match defBody st with
  | [.Try _ [.ExceptHandler _ _ b _] _ _ _] => b
  | _ => []
end Dy
namespace Dy
open PySem PySem.Spec PyProof.Rows L2
section
variable {X : Cx} {K : PySem.W.Frag}
end
end Dy
namespace Dy
open PySem PySem.Spec PyProof.Rows L2
section
variable {g : G} {X : Cx} {a b c e : Expr} {es : List Expr} {pos p tpos : Pos} {σ : St} {H : Hp} {tg : Expr}
end
end Dy
namespace Dy
open PySem PySem.Spec PyProof.Rows L2
section
variable {g : G} {X : Cx} {a b c e : Expr} {es : List Expr} {pos p1 p2 px : Pos} {σ : St} {H I I' H1 : Hp} {env e' : Env} {F F' : Nat → List Addr} {D : Ends}
theorem Step.more {S S1 S2 : Addr → Prop} (a : Step I H S I' H1 S1) (h : ∀ x, S x → S2 x) : Step I H S2 I' H1 S1 :=
  ⟨a.i1, fun x o q n => a.fr x o q fun z => n (h x z), fun x o q n => a.th x o q fun z => n (h x z), fun x q => (a.s' x q).imp (h x) id, fun x o q => (a.i' x o q).imp id (Or.imp (h x) id)⟩
theorem Sim.hide {K : PySem.W.Frag} {π : Pn} (s : Sim K π I H σ env F) (i : Nat) : Sim K π I H σ (env.set i none) (clF F [i]) := s.forget [i]
theorem hid_not {K : PySem.W.Frag} {π : Pn} (s : Sim K π I H σ env F) {i : Nat} {x : Addr} (h : x ∈ F i) : ¬ Ow (clF F [i]) x := fun ⟨j, hj⟩ => by
  unfold clF at hj
  split at hj
  · cases hj
  · rename_i n
    exact n (by rw [s.dis j i x hj h]; simp)
theorem hid_keeps {K : PySem.W.Frag} {π : Pn} (s : Sim K π I H σ env F) {i : Nat} (st : Step I H (Ow (clF F [i])) I' H1 (Ow F')) : ∀ x ∈ F i, H1 x = H x :=
  st.keeps (fun x hx => s.domN hx) fun x hx => hid_not s hx
theorem unhide {K : PySem.W.Frag} {π : Pn} (s : Sim K π I H σ env F) {i : Nat} {o : O} (q : env[i]? = some (some o)) (s' : Sim K π I' H1 σ e' F') (st : Step I H (Ow (clF F [i])) I' H1 (Ow F')) :
    Sim K π I' H1 σ (e'.set i (some o)) (upF F' i (F i)) ∧ Step I H (Ow F) I' H1 (Ow (upF F' i (F i))) := by
  obtain ⟨v, e1, r⟩ := s.rep i o q
  have kp := hid_keeps s st
  have nI : ∀ x ∈ F i, I' x = none := fun x hx => by
    cases z : I' x with
    | none => rfl
    | some u =>
      rcases st.i' x u z with y | y | y
      · rw [s.djI i x hx] at y; cases y
      · exact absurd y (hid_not s hx)
      · obtain ⟨w, hw⟩ := s.dom hx; rw [hw] at y; cases y
  have nF : ∀ x ∈ F i, ¬ Ow F' x := fun x hx z => by
    rcases st.s' x z with y | y
    · exact hid_not s hx y
    · obtain ⟨w, hw⟩ := s.dom hx; rw [hw] at y; cases y
  have hi : i < e'.length := by
    rw [s'.len, ← s.len]
    cases Nat.lt_or_ge i env.length with
    | inl h => exact h
    | inr h => rw [List.getElem?_eq_none h] at q; cases q
  have pt := s'.put (i := i) (x := some o) (sv := some v) (R := F i) hi (Same.refl _) s'.sub (fun _ _ _ _ => rfl) (fun j _ a ha => s'.djI j a ha) nI (fun j hj a ha h => nF a h ⟨j, ha⟩) (fun o' e => by cases e; exact ⟨v, rfl, r.mono st.i1 kp⟩) (fun e => by cases e) (fun hp => by
    have := s'.pin i hp; rw [e1] at this; exact Option.some.inj this)
  rw [set_same e1] at pt
  refine ⟨pt, ((st.aside (fun x => x ∈ F i) (fun x hx => s.dom hx) fun x hx => hid_not s hx).more fun x h => ?_).less fun x h => ?_⟩
  · rcases h with h | h
    · exact clF_ow h
    · exact ⟨i, h⟩
  · rcases ow_up h with z | z
    · exact .inl z
    · exact .inr z
/-- x[k].append(e), x a list of lists of its own -/
def fAppI (i : Nat) (y : Env → Option Int) (f : EF) : SF := fun env => match env[i]?, y env with
  | some (some (.oo rs)), some k => match ixN rs.length k with
    | some j => match rs[j]? with
      | some w => if w.length < 1000000 then nE (f (env.set i none)) >>= fun r => .ok (.nx, r.2.set i (some (.oo (rs.set j (w ++ [r.1.data]))))) else .no
      | none => .no
    | none => .no
  | _, _ => .no
theorem ds_appI {i : Nat} {x : Str} {y : Env → Option Int} {ty : TE} {apos cpos spos : Pos} {f : EF} (hx : PE X (.Name x px) (tVar i)) (hy : PE X b ty) (py : PI1 g ty y) (hb : PlainIx b) (he : DE g X e f)
    (h2 : attributeBase (.Subscript (.Name x px) b p1) "append" X.env (eval (.Subscript (.Name x px) b p1) X.env) = eval (.Subscript (.Name x px) b p1) X.env := by rfl)
    (h3 : ((backTo cpos (starEach [e] X.env)).all (fun x => !x.1) && (backToKw cpos (keywordEach [] X.env)).all (fun x => x.1.isSome)
      && decide ([e].length + ([] : List Keyword).length + (if ([] : List Keyword).isEmpty then 0 else 1) < 30)) = true := by rfl)
    (h4 : (apos.endLine == cpos.line) = true := by rfl) (h5 : starEach [e] X.env = (false, eval e X.env) :: starEach [] X.env := by rfl)
    (hs : swapsWith (.Call (.Attribute (.Subscript (.Name x px) b p1) "append" apos) [e] [] cpos) none spos.line X.env = pure false := by rfl) :
    DS g X (.Expr (.Call (.Attribute (.Subscript (.Name x px) b p1) "append" apos) [e] [] cpos) spos) (fAppI i y f) :=
  PS.imp (ps_expr (pe_bm PySem.F.plainAttrs_list PySem.F.slot_list_append PySem.F.type_list_append mt_append (pe_ix ix_list hx hy hb) (pa_cons he pa_nil h5) h2 h3 h4 h5 rfl) hs) fun D σ H q => by
  obtain ⟨I, env, F, s, p⟩ := q
  unfold fAppI at p
  split at p
  · rename_i rs k q0 q1
    cases q4 : ixN rs.length k with
    | none => simp only [q4] at p; exact p.elim
    | some j =>
      simp only [q4] at p
      cases q5 : rs[j]? with
      | none => simp only [q5] at p; exact p.elim
      | some w =>
        simp only [q5] at p
        by_cases hz : w.length < 1000000
        · rw [if_pos hz] at p
          obtain ⟨pa, as, e1, hF, nd, h1, h2, _⟩ := s.ownO q0
          obtain ⟨xa, us, e2, e3, e4⟩ := h2.at q5
          have e7 : atI (as.map V.ref) k = some (.ref xa) := by
            unfold atI
            rw [List.length_map, h2.len, q4]
            show (as.map V.ref)[j]? = _
            rw [List.getElem?_map, e2]; rfl
          have hxF : xa ∈ F i := by rw [hF]; exact List.mem_cons_of_mem _ (List.mem_of_getElem? e2)
          refine ⟨_, e1, py I H σ env F k _ s q1 ?_⟩
          refine ⟨pa, _, k, _, rfl, rfl, SqL.of h1, e7, ?_⟩
          refine ⟨.inl ⟨rfl, us, SqL.of e3⟩, ?_⟩
          refine ⟨I, env.set i none, clF F [i], s.hide i, nE_post (post_mono (post_bind.mp p) (fun r q v H1 af => ?_) fun _ z => z)⟩
          obtain ⟨I', F', rp, s', st⟩ := af.frz
          obtain ⟨s2, st2⟩ := unhide s q0 s' st
          have q0' : (r.2.set i (some (.oo rs)))[i]? = some (some (.oo rs)) := by
            refine List.getElem?_set_self ?_
            rw [s'.len, ← s.len]
            exact s.lt q0
          obtain ⟨pa', as', e1', hF', nd', h1', h2', up⟩ := s2.ownO q0'
          rw [e1] at e1'; cases e1'
          have hk := hid_keeps s st
          have h1k : H1 pa = some (.lst (as.map V.ref)) := by rw [hk pa (by rw [hF]; simp)]; exact h1
          have ea : as' = as := by
            rw [h1k] at h1'
            have e9 := HO.lst.inj (Option.some.inj h1')
            exact (List.map_inj_right (fun x y h => V.ref.inj h)).mp e9.symm
          subst ea
          have hxH : H1 xa = some (.lst us) := by rw [hk xa hxF]; exact e3
          have af2 := AftS.trans st2 (up j xa _ _ e2 ((e4.mono st.i1).app (.cons rp .nil)))
          rw [List.set_set] at af2
          exact ⟨xa, us, v, rfl, rfl, hxH, by rw [e4.length]; exact Nat.lt_of_lt_of_le hz (by decide), q _ _ af2⟩
        · rw [if_neg hz] at p; exact p.elim
  · exact p.elim
end
end Dy
namespace Dy
open PySem PySem.Spec PyProof.Rows L2
open PySem.W (alike alike_all_cons toks_eqv eqAt_alike oneLt_alike dataLt EachIs AllAlike Sortable SortsAt keyToks sortLe sortVals sorted_vals sortVals_each dataLe dataType looks_reads dataType_alike dataType_tuple each_katTups kat_lt kat_cons kat_yes kat_no kat_nil kat_kind KeyedOut sorted_data alike_unique sort_unique sortLe_total sameRank)
open Classical in
section
variable {h : Heap} {ds : List PyData}
end
section
variable {prog : Program} {w : World} {A : Around} {s : Shared}
end
section
variable {X : Cx} {K : PySem.W.Frag}
end
end Dy
namespace Dy
open PySem PySem.Spec PyProof.Rows L2
def pOo0 : List PyData → Option O
  | [] => some (.oo [])
  | _ => none
theorem Grow.oo0 {K : PySem.W.Frag} {I H : Hp} {p : Addr} (s : Same I H) (n : H p = none) : Grow K I H I (upd H p (.lst [])) (.oo []) (.ref p) [p] :=
  ⟨⟨p, [], rfl, rfl, by simp, upd_same, .nil⟩, Same.refl _, same_new n, s.trans (same_new n), fun a h => by simp at h; subst h; exact n, fun a h => by simp at h; subst h; exact none_of_same s n, fun _ _ h => .inl h⟩
theorem ov_oo0 {K : PySem.W.Frag} : OpV K (fun xs H1 Q => xs.length ≤ sizeLine ∧ ∀ p, H1 p = none → Q (.ref p) (upd H1 p (.lst xs))) pOo0 := fun vs ds I H Q o s r e k => by
  cases ds with
  | cons _ _ => cases e
  | nil =>
    cases e
    cases r
    exact ⟨Nat.zero_le _, fun p np => k _ _ _ _ (Grow.oo0 s np)⟩
section
variable {g : G} {X : Cx} {a b c e : Expr} {es : List Expr} {pos p1 p2 p3 px py : Pos} {σ : St} {H I I' H1 : Hp} {env e' : Env} {F F' : Nat → List Addr} {D : Ends}
theorem de_lstO {as : List AF} (h : DA g X es as) : DE g X (.List es pos) (fOv pOo0 as) := PE.imp (pe_lst h) fun σ H Q q => ov_key ov_oo0 q
def fAppO (i : Nat) (f : EF) : SF := fun env => match env[i]? with
  | some (some (.oo _)) => f env >>= fun r => match r.1, r.2[i]? with
    | .ol w, some (some (.oo rs)) => if rs.length < 1000000 then .ok (.nx, r.2.set i (some (.oo (rs ++ [w])))) else .no
    | _, _ => .no
  | _ => .no
theorem ds_appO {i : Nat} {x : Str} {px apos cpos spos : Pos} {f : EF} (hx : PE X (.Name x px) (tVar i)) (he : DE g X e f)
    (h2 : attributeBase (.Name x px) "append" X.env (eval (.Name x px) X.env) = eval (.Name x px) X.env := by rfl)
    (h3 : ((backTo cpos (starEach [e] X.env)).all (fun x => !x.1) && (backToKw cpos (keywordEach [] X.env)).all (fun x => x.1.isSome)
      && decide ([e].length + ([] : List Keyword).length + (if ([] : List Keyword).isEmpty then 0 else 1) < 30)) = true := by rfl)
    (h4 : (apos.endLine == cpos.line) = true := by rfl) (h5 : starEach [e] X.env = (false, eval e X.env) :: starEach [] X.env := by rfl)
    (hs : swapsWith (.Call (.Attribute (.Name x px) "append" apos) [e] [] cpos) none spos.line X.env = pure false := by rfl) :
    DS g X (.Expr (.Call (.Attribute (.Name x px) "append" apos) [e] [] cpos) spos) (fAppO i f) := PS.imp (ps_expr (pe_bm PySem.F.plainAttrs_list PySem.F.slot_list_append PySem.F.type_list_append mt_append hx (pa_cons he pa_nil h5) h2 h3 h4 h5 rfl) hs) fun D σ H q => by
  obtain ⟨I, env, F, s, p⟩ := q
  unfold fAppO at p
  split at p
  · rename_i rs0 q0
    obtain ⟨pa, as, e1, hF, nd, h1, h2, _⟩ := s.ownO q0
    refine ⟨.ref pa, e1, .inl ⟨rfl, _, SqL.of h1⟩, ?_⟩
    refine tD_seq s p fun r v H1 af q => ?_
    obtain ⟨I', F', R, rp, s', nR, dR, st⟩ := af
    split at q
    · rename_i w rs er q1
      by_cases hz : rs.length < 1000000
      · rw [if_pos hz] at q
        rw [er] at rp
        obtain ⟨ra, us, rfl, rfl, hr, rr⟩ := rp
        obtain ⟨pa', as', e1', hF', nd', h1', h2', _⟩ := s'.ownO q1
        rw [e1] at e1'; cases e1'
        have nra : ∀ j, ra ∉ F' j := fun j hj => dR ra ⟨j, hj⟩ (by simp)
        have hra : ra ∉ pa :: as' := by rw [← hF']; exact nra i
        have paF : pa ∈ F' i := by rw [hF']; simp
        have hpr : pa ≠ ra := fun z => hra (by rw [z]; simp)
        have nIp := s'.djI i pa paF
        have hi := s'.lt q1
        have npa : ∀ j, j ≠ i → ∀ b ∈ F' j, b ≠ pa := fun j hj b hb z => by subst z; exact hj (s'.dis j i b hb paF)
        have l2 := h2'.len
        refine ⟨pa, as'.map V.ref, .ref ra, rfl, rfl, h1', by rw [List.length_map, l2]; exact Nat.lt_of_lt_of_le hz (by decide), q _ _ ?_⟩
        refine ⟨I', upF F' i (pa :: (as' ++ [ra])), ?_, st.trans (Step.of4 (Same.refl _) (fun b o h n => ?_) (fun b h => ?_) (fun _ _ h => .inl h))⟩
        · have := s'.put (i := i) (x := some (.oo (rs ++ [w]))) (sv := some (.ref pa)) (R := pa :: (as' ++ [ra])) (H' := upd H1 pa (.lst (as'.map V.ref ++ [.ref ra]))) hi (Same.refl _) (fun b o h => ?_) (fun j hj b hb => ?_) (fun j _ b hb => s'.djI j b hb) (fun b hb => ?_) (fun j hj b hb h => ?_) (fun o e => ?_) (fun e => by cases e) (fun hp => ?_) (s'.ktO paF)
          · rw [set_same e1] at this; exact this
          · rw [upd_ne (fun e => by subst e; rw [nIp] at h; cases h)]; exact s'.sub b o h
          · rw [upd_ne (npa j hj b hb)]
          · rcases List.mem_cons.mp hb with rfl | hb
            · exact nIp
            · rcases List.mem_append.mp hb with hb | hb
              · exact s'.djI i b (by rw [hF']; exact List.mem_cons_of_mem _ hb)
              · simp at hb; subst hb; exact nR b (by simp)
          · rcases List.mem_cons.mp h with rfl | h
            · exact npa j hj b hb rfl
            · rcases List.mem_append.mp h with h | h
              · exact hj (s'.dis j i b hb (by rw [hF']; exact List.mem_cons_of_mem _ h))
              · simp at h; subst h; exact nra j hb
          · cases e
            refine ⟨_, rfl, pa, as' ++ [ra], rfl, rfl, ?_, by rw [upd_same, List.map_append]; rfl, ?_⟩
            · rw [List.nodup_cons] at nd' ⊢
              refine ⟨fun z => ?_, ?_⟩
              · rcases List.mem_append.mp z with z | z
                · exact nd'.1 z
                · simp at z; exact hpr z
              · rw [List.nodup_append]
                refine ⟨nd'.2, by simp, fun x hx y hy => ?_⟩
                simp at hy; subst hy
                exact fun z => hra (by rw [← z]; exact List.mem_cons_of_mem _ hx)
            · refine (h2'.mono (Same.refl _) fun x hx => upd_ne fun z => ?_).app (.cons ?_ rr .nil)
              · subst z; exact (List.nodup_cons.mp nd').1 hx
              · rw [upd_ne (Ne.symm hpr)]; exact hr
          · have := s'.pin i hp; rw [e1] at this; exact Option.some.inj this
        · rw [upd_ne (fun e => by subst e; exact n (.inl ⟨i, paF⟩))]; exact h
        · rcases ow_up h with z | z
          · exact .inl (.inl z)
          · rcases List.mem_cons.mp z with rfl | z
            · exact .inl (.inl ⟨i, paF⟩)
            · rcases List.mem_append.mp z with z | z
              · exact .inl (.inl ⟨i, by rw [hF']; exact List.mem_cons_of_mem _ z⟩)
              · exact .inl (.inr z)
      · rw [if_neg hz] at q; exact q.elim
    · exact q.elim
  · exact p.elim
end
section
variable {X : Cx} {K : PySem.W.Frag}
end
end Dy
namespace Dy
open PySem PySem.Spec PyProof.Rows L2
def rE0 (f : Bool → Bool) : R2 := fun x y H Q => ∃ (a b : Addr) (xs : List V), x = .ref a ∧ y = .ref b ∧ H a = some (.lst xs) ∧ H b = some (.lst []) ∧ Q (.bl (f xs.isEmpty)) H
section
variable {X : Cx}
theorem isl_of {pins : List (Addr × Obj)} {σ : St} {H : Hp} {s : Shared} {a : Addr} {xs : List V} (I : Inv X pins σ H s) (h : H a = some (.lst xs)) : ∃ its : List Value, its.length = xs.length ∧ s.heap.IsList a its.toArray := by
  obtain ⟨_, its, n, r, e⟩ := (show ObjOk X.prog X.w H s.heap a (.lst xs) from I.hok a _ h)
  exact ⟨its, r.length.symm, ⟨_, e, rfl, n, rfl⟩⟩
theorem op_eq0 (hu : X.A.units < cLine) : OpR X (compareOp .Eq) (rE0 id) := by
  intro pins s σ H x y v u Q I rx ry h
  obtain ⟨a, b, xs, rfl, rfl, ha, hb, q⟩ := h
  cases rx; cases ry
  obtain ⟨ia, la, ea⟩ := isl_of I ha
  obtain ⟨ib, lb, eb⟩ := isl_of I hb
  have ib0 : ib = [] := List.length_eq_zero_iff.mp lb
  subst ib0
  cases xs with
  | nil =>
    have ia0 : ia = [] := List.length_eq_zero_iff.mp la
    subst ia0
    exact SeqAt.RcAt.lists (e := fun _ => true) ea eb rfl hu (fun j h1 _ => absurd h1 (Nat.not_lt_zero j)) X.prog X.w _ _ ⟨.bl true, H, I, rfl, q⟩
  | cons z zs =>
    exact SeqAt.RcAt.lists_lengths ea eb (by simp at la ⊢; intro z; rw [z] at la; simp at la) hu X.prog X.w _ _ ⟨.bl false, H, I, rfl, q⟩
theorem op_ne0 (hu : X.A.units < cLine) : OpR X (compareOp .NotEq) (rE0 not) := by
  intro pins s σ H x y v u Q I rx ry h
  obtain ⟨a, b, xs, rfl, rfl, ha, hb, q⟩ := h
  cases rx; cases ry
  obtain ⟨ia, la, ea⟩ := isl_of I ha
  obtain ⟨ib, lb, eb⟩ := isl_of I hb
  have ib0 : ib = [] := List.length_eq_zero_iff.mp lb
  subst ib0
  cases xs with
  | nil =>
    have ia0 : ia = [] := List.length_eq_zero_iff.mp la
    subst ia0
    exact SeqAt.RcNeAt.lists (e := fun _ => true) ea eb rfl hu (fun j h1 _ => absurd h1 (Nat.not_lt_zero j)) X.prog X.w _ _ ⟨.bl false, H, I, rfl, q⟩
  | cons z zs =>
    exact SeqAt.RcNeAt.lists_lengths ea eb (by simp at la ⊢; intro z; rw [z] at la; simp at la) hu X.prog X.w _ _ ⟨.bl true, H, I, rfl, q⟩
end
section
variable {g : G} {X : Cx} {a b c e : Expr} {es : List Expr} {pos p1 p2 p3 px py : Pos} {σ : St} {H I I' H1 : Hp} {env e' : Env} {F F' : Nat → List Addr} {D : Ends}
/-- x == [], x != [], x a list of lists -/
def fE0 (f : Bool → Bool) (i : Nat) : EF := fun env => match env[i]? with
  | some (some (.oo rs)) => .ok (.fr (.bool (f rs.isEmpty)), env)
  | _ => .no
/-- len(x[k]) -/
def fLenR (i : Nat) (y : Env → Option Int) : EF := fun env => match env[i]?, y env with
  | some (some (.oo rs)), some k => match ixN rs.length k with
    | some j => match rs[j]? with
      | some w => .ok (.fr (.int w.length), env)
      | none => .no
    | none => .no
  | _, _ => .no
theorem de_lenR {i : Nat} {x : Str} {y : Env → Option Int} {ty : TE} {p : Pos} (hg : Gl X "len") (hm : X.mg "len" = none) (hx : PE X (.Name x px) (tVar i)) (hy : PE X b ty) (hpy : PI1 g ty y) (hpb : PlainIx b)
    (he : starEach [.Subscript (.Name x px) b p1] X.env = (false, eval (.Subscript (.Name x px) b p1) X.env) :: starEach [] X.env := by rfl) (hpl : (backTo pos (starEach [] X.env)).any (·.1) = false := by rfl) (hK : X.K = g.K := by rfl) :
    DE g X (.Call (.Name "len" p) [.Subscript (.Name x px) b p1] [] pos) (fLenR i y) := PE.imp (pe_callB call_lenA hg hm bt_len (pa_cons (pe_ix ix_list hx hy hpb) pa_nil he) (by decide) (by decide) he hpl) fun σ H Q q => by
  obtain ⟨I, env, F, s, pp⟩ := q
  unfold fLenR at pp
  split at pp
  · rename_i rs k q0 qk
    cases q4 : ixN rs.length k with
    | none => simp only [q4] at pp; exact pp.elim
    | some j =>
      simp only [q4] at pp
      cases q5 : rs[j]? with
      | none => simp only [q5] at pp; exact pp.elim
      | some w =>
        simp only [q5] at pp
        obtain ⟨pa, as, e1, hF, nd, h1, h2, _⟩ := s.ownO q0
        obtain ⟨xa, us, e2, e3, e4⟩ := h2.at q5
        have e7 : atI (as.map V.ref) k = some (.ref xa) := by
          unfold atI
          rw [List.length_map, h2.len, q4]
          show (as.map V.ref)[j]? = _
          rw [List.getElem?_map, e2]; rfl
        refine ⟨_, e1, hpy I H σ env F k _ s qk ?_⟩
        refine ⟨pa, _, k, _, rfl, rfl, SqL.of h1, e7, ?_⟩
        rw [hK]
        exact os_len [.ref xa] [.list w] I H Q _ s.sub (.cons (.inr (.inl ⟨xa, us, w, rfl, rfl, e3, e4⟩)) .nil) rfl fun v H' I' R gr => pp v H' (gr.aft s)
  · exact pp.elim
/-- x.pop(), x a list of lists: the row is handed on -/
def fPopO (i : Nat) : EF := fun env => match env[i]? with
  | some (some (.oo rs)) => match rs[rs.length - 1]? with
    | some w => .ok (.ol w, env.set i (some (.oo rs.dropLast)))
    | none => .no
  | _ => .no
theorem Rows.takes {K : PySem.W.Frag} {as : List Addr} {rs : List (List PyData)} (h : Rows K I H as rs) : ∀ n, Rows K I H (as.take n) (rs.take n) := by
  induction h with
  | nil => intro n; simp; exact .nil
  | cons h1 h2 _ ih =>
    intro n
    cases n with
    | zero => exact .nil
    | succ n => exact .cons h1 h2 (ih n)
theorem de_popO {i : Nat} {x : Str} {apos cpos : Pos} (hx : PE X (.Name x px) (tVar i))
    (h2 : attributeBase (.Name x px) "pop" X.env (eval (.Name x px) X.env) = eval (.Name x px) X.env := by rfl) (h4 : (apos.endLine == cpos.line) = true := by rfl) :
    DE g X (.Call (.Attribute (.Name x px) "pop" apos) [] [] cpos) (fPopO i) := PE.imp (pe_bm0 PySem.F.plainAttrs_list PySem.F.slot_list_pop PySem.F.type_list_pop mt_pop hx h2 h4) fun σ H Q q => by
  obtain ⟨I, env, F, s, p⟩ := q
  unfold fPopO at p
  split at p
  · rename_i rs q0
    cases q1 : rs[rs.length - 1]? with
    | none => simp only [q1] at p; exact p.elim
    | some w =>
      simp only [q1] at p
      obtain ⟨pa, as, e1, hF, nd, h1, hr, _⟩ := s.ownO q0
      obtain ⟨xa, us, e2, e3, e4⟩ := hr.at q1
      have la := hr.len
      have hxF : xa ∈ F i := by rw [hF]; exact List.mem_cons_of_mem _ (List.mem_of_getElem? e2)
      have paF : pa ∈ F i := by rw [hF]; simp
      have hpx : pa ≠ xa := fun z => (List.nodup_cons.mp nd).1 (by rw [z]; exact List.mem_of_getElem? e2)
      have nIp := s.djI i pa paF
      have hi := s.lt q0
      have npa : ∀ j, j ≠ i → ∀ b ∈ F j, b ≠ pa := fun j hj b hb z => by subst z; exact hj (s.dis j i b hb paF)
      have sub : ∀ {z}, z ∈ as.dropLast → z ∈ as := fun h => (List.dropLast_sublist _).subset h
      have xn : xa ∉ as.dropLast := fun z => by
        have nd2 := (List.nodup_cons.mp nd).2
        obtain ⟨m, hm⟩ := List.getElem?_of_mem z
        have hl := (List.getElem?_eq_some_iff.mp hm).1
        rw [List.length_dropLast] at hl
        rw [List.dropLast_eq_take, List.getElem?_take_of_lt hl] at hm
        rw [← la] at e2
        have := (List.getElem?_inj (by omega) nd2).mp (hm.trans e2.symm)
        omega
      have ev : (as.map V.ref)[(as.map V.ref).length - 1]? = some (.ref xa) := by
        rw [List.length_map, List.getElem?_map, la, e2]; rfl
      have hrd : Rows g.K I H as.dropLast rs.dropLast := by
        rw [List.dropLast_eq_take, List.dropLast_eq_take, la]; exact hr.takes _
      refine ⟨.ref pa, e1, .inl ⟨rfl, _, SqL.of h1⟩, pa, _, .ref xa, rfl, rfl, h1, ev, p _ _ ?_⟩
      refine ⟨I, upF F i (pa :: as.dropLast), [xa], ⟨xa, us, rfl, rfl, by rw [upd_ne (Ne.symm hpx)]; exact e3, e4⟩, ?_, fun z hz => ?_, fun z hz hz2 => ?_, Step.of4 (Same.refl _) (fun b o h n => ?_) (fun b h => ?_) (fun _ _ h => .inl h)⟩
      · have := s.put (i := i) (x := some (.oo rs.dropLast)) (sv := some (.ref pa)) (R := pa :: as.dropLast) (H' := upd H pa (.lst (as.map V.ref).dropLast)) hi (Same.refl _) (fun b o h => ?_) (fun j hj b hb => ?_) (fun j _ b hb => s.djI j b hb) (fun b hb => ?_) (fun j hj b hb h => ?_) (fun o e => ?_) (fun e => by cases e) (fun hp => ?_) (s.ktO paF)
        · rw [set_same e1] at this; exact this
        · rw [upd_ne (fun e => by subst e; rw [nIp] at h; cases h)]; exact s.sub b o h
        · rw [upd_ne (npa j hj b hb)]
        · refine s.djI i b ?_
          rw [hF]
          rcases List.mem_cons.mp hb with rfl | hb
          · simp
          · exact List.mem_cons_of_mem _ (sub hb)
        · rcases List.mem_cons.mp h with rfl | h
          · exact npa j hj b hb rfl
          · exact hj (s.dis j i b hb (by rw [hF]; exact List.mem_cons_of_mem _ (sub h)))
        · cases e
          refine ⟨_, rfl, pa, as.dropLast, rfl, rfl, ?_, by rw [upd_same, List.map_dropLast], hrd.mono (Same.refl _) fun z hz => upd_ne fun y => ?_⟩
          · rw [List.nodup_cons] at nd ⊢
            exact ⟨fun z => nd.1 (sub z), nd.2.sublist (List.dropLast_sublist _)⟩
          · subst y; exact (List.nodup_cons.mp nd).1 (sub hz)
        · have := s.pin i hp; rw [e1] at this; exact Option.some.inj this
      · simp at hz; subst hz; exact s.djI i z hxF
      · simp at hz2; subst hz2
        obtain ⟨l, hl⟩ := hz
        by_cases hli : l = i
        · subst hli
          rw [upF_same] at hl
          rcases List.mem_cons.mp hl with z2 | z2
          · exact hpx z2.symm
          · exact xn z2
        · rw [upF_ne hli] at hl
          exact hli (s.dis l i z hl hxF)
      · rw [upd_ne (fun e => by subst e; exact n ⟨i, paF⟩)]; exact h
      · rcases h with h | h
        · rcases ow_up h with z | z
          · exact .inl z
          · refine .inl ⟨i, ?_⟩
            rw [hF]
            rcases List.mem_cons.mp z with rfl | z
            · simp
            · exact List.mem_cons_of_mem _ (sub z)
        · simp at h; subst h; exact .inl ⟨i, hxF⟩
  · exact p.elim
end
end Dy
namespace Dy
open PySem PySem.Spec PyProof.Rows L2
section
variable {g : G} {X : Cx} {a b c e : Expr} {es : List Expr} {pos p1 p2 p3 : Pos} {x : AF}
end
section
variable {g : G} {X : Cx} {pos p1 px : Pos} {σ : St} {H : Hp}
theorem e0_rd {f : Bool → Bool} {i : Nat} {Q : VK} (q : tD g (fE0 f i) σ H Q) : ∃ v, σ[i]? = some (some v) ∧ ([] : List V).length ≤ sizeLine ∧ ∀ t, H t = none → rE0 f v (.ref t) (upd H t (.lst [])) Q := by
  obtain ⟨I, env, F, s, p⟩ := q
  unfold fE0 at p
  split at p
  · rename_i rs q0
    obtain ⟨pa, as, e1, hF, nd, h1, h2, _⟩ := s.ownO q0
    refine ⟨_, e1, Nat.zero_le _, fun t nt => ⟨pa, t, as.map V.ref, rfl, rfl, ?_, upd_same, ?_⟩⟩
    · rw [upd_ne (fun z => by subst z; rw [h1] at nt; cases nt)]; exact h1
    · have em : (as.map V.ref).isEmpty = rs.isEmpty := by
        have := h2.len
        cases as <;> cases rs <;> simp at this ⊢
      rw [em]
      obtain ⟨I', F', rp, s', st⟩ := ((Grow.lst (K := g.K) s.sub nt .nil).aft s).frz
      exact p _ _ (AftD.aft ⟨I', F', .bl _, s', st⟩)
  · exact p.elim
theorem dt_eq0 {i : Nat} {x : Str} (hu : X.A.units < cLine) (hx : PE X (.Name x px) (tVar i)) (hm : behindInMarks .Eq (.List [] p1) = false := by rfl) : DT g X (.Compare (.Name x px) [.Eq] [.List [] p1] pos) (fB (fE0 id i)) :=
  PT.imp (pt_cmpR (op_eq0 hu) hx (pe_lst pa_nil) hm) fun σ H Q q => e0_rd (tB_key q)
theorem dt_ne0 {i : Nat} {x : Str} (hu : X.A.units < cLine) (hx : PE X (.Name x px) (tVar i)) (hm : behindInMarks .NotEq (.List [] p1) = false := by rfl) : DT g X (.Compare (.Name x px) [.NotEq] [.List [] p1] pos) (fB (fE0 not i)) :=
  PT.imp (pt_cmpR (op_ne0 hu) hx (pe_lst pa_nil) hm) fun σ H Q q => e0_rd (tB_key q)
end
end Dy
namespace Dy
open PySem PySem.Spec PyProof.Rows L2
/-- the frame of an __init__ that says super(): its class C, its first name xs -/
structure SupX (X : Cx) (C : Addr) (xs : Str) : Prop where
  ks : X.env.kindOf "super" = some .globalImplicit
  kc : X.env.kindOf "__class__" = some .free
  kx : X.env.kindOf xs = some .local
  cell : ∃ (cc : Addr) (cl : Value) (cld : Option Addr) (csl : Array (Option Value)), X.env.cells.lookup ("__class__" : Str) = some cc ∧ X.K.lookup cc = some ⟨cl, cld, .cell (some (.ref C)), csl⟩
  func : ∃ (f : Addr) (oc : Value) (od : Option Addr) (fd : FuncData) (osl : Array (Option Value)) (ar : Arg), X.env.func = some f ∧ X.K.lookup f = some ⟨oc, od, .func fd, osl⟩ ∧ (fd.params.posonlyargs ++ fd.params.args).head? = some ar ∧ ar.arg = xs
  code : ∃ (cda : Addr) (oc : Value) (od : Option Addr) (vs : Array Value) (csl : Array (Option Value)) (file : Str) (tf : Tok), X.env.code = .ref cda ∧ X.K.lookup cda = some ⟨oc, od, .fields vs, csl⟩ ∧ vs[2]? = some (.str file tf) ∧ ((X.prog.main.file : Str) == file) = true
  top : (X.prog.main.scope.names.lookup ("super" : Str)).isSome = false
  mg : X.mg "super" = none
  cls : ∃ cd, PySem.W.clsIn X.K C = some cd
  sub : PySem.W.mroIn X.K C (.ref C) = some true
  ex : OexC X.K C
  any : PySem.W.nsIn X.K cStatics "thirdparty.any" = some none
  sup : PySem.W.ks_superIn X.K C C "__init__" = some (some (.builtin "ValueError.__init__"))
  subV : PySem.W.subIn X.K (.ref C) (.type "ValueError") = some true
theorem boot_super : bootBuiltins "super" = some (.type "super") := by decide +kernel
section
variable {X : Cx} {pins : List (Addr × Obj)} {σ : St} {H : Hp} {s : Shared} {a C : Addr} {xs : Str} {i : Nat} {E : Value → Shared → Prop}
theorem sup_base {body : List Stmt} {p0 p1 : Pos} {attr : Str} {whole : Sem Value} {Q : Value → Shared → Prop} (S : SupX X C xs) (I : Inv X pins σ H s) (hx : X.N[i]? = some xs) (hσ : σ[i]? = some (some (.ref a))) (e : H a = some (exo a C none)) (hat : (attr == ("__class__" : Str)) = false)
    (hq : ∀ so s', Inv X pins σ H s' → s'.heap.get? so = some (PySem.W.ks_superObj C a C) → Q (.ref so) s') :
    _root_.PySem.wpAt (model X.prog X.w) X.A (.func body X.env) (attributeBase (.Call (.Name "super" p0) [] [] p1) attr X.env whole) Q E s := by
  obtain ⟨cc, cl, cld, csl, hc1, hc2⟩ := S.cell
  obtain ⟨f, oc, od, fd, osl, ar, hf1, hf2, hf3, hf4⟩ := S.func
  obtain ⟨cda, oc2, od2, vs, csl2, file, tf, hd1, hd2, hd3, hd4⟩ := S.code
  obtain ⟨cd, hcd⟩ := S.cls
  have K := I.kIn
  obtain ⟨m, hn, hlk⟩ := I.loc
  have kx : X.env.scope.names.lookup xs = some .local := S.kx
  obtain ⟨u, ru, lk⟩ := hlk i xs _ hx hσ (.inl kx)
  cases (show u = Value.ref a from ru)
  have hm : m xs = some (.ref a) := by
    rcases lk with ⟨_, z⟩ | ⟨z, _⟩
    · exact z
    · rw [S.kx] at z
      rcases z with z | z <;> cases z
  obtain ⟨t1, ho⟩ := exo_at I.hok e
  obtain ⟨oD, hD1, hD2⟩ : ∃ oD, s.heap.get? C = some oD ∧ oD.data = .cls cd := by
    unfold PySem.W.clsIn at hcd
    split at hcd
    · rename_i c d cd' sl hh
      cases hcd
      exact ⟨_, K _ _ hh, rfl⟩
    · cases hcd
  obtain ⟨mb, b1, b2⟩ := I.mod.blt
  subst hf4
  obtain ⟨hp, g, d, t, os⟩ := s
  refine PySem.ks_wpAt_super_base S.ks S.kc hat hf1 (K _ _ hf2) rfl hf3 hd1 (K _ _ hd2) rfl hd3 hd4 S.top ?_
  refine PySem.W.ks_loadName_global I.ok.kind S.ks (Calls.loadGlobal_builtin (by rw [I.ok.glob]; exact I.mod.glob.keeps I.bk) S.mg (by rw [I.ok.blt]; exact b1.keeps I.bk) ((b2 _ (by decide)).trans boot_super) ⟨rfl, ?_⟩)
  refine wpAny_loadName_free I.ok.kind S.kc hc1 ⟨_, K _ _ hc2, rfl⟩ ?_
  refine wpAny_loadName_local I.ok.kind S.kx hn hm ?_
  refine PySem.ks_wpAny_isType_cls hD1 hD2 ⟨rfl, ?_⟩
  refine PySem.ks_wpAny_call_super hD1 hD2 ho rfl (fun c z => (by cases z)) (PySem.W.looks_mroIn K S.sub) (fun h' e' k => ?_)
  exact hq _ _ (I.kept (t' := t) k) e'
/-- super().__init__ read: the built-in's wrapper, pinned -/
theorem sup_meth {so : Addr} {pl : Sem Bool} {Q : Value × List Value → Shared → Prop} {A : Around} (S : SupX X C xs) (I : Inv X pins σ H s) (e : H a = some (exo a C none)) (hso : s.heap.get? so = some (PySem.W.ks_superObj C a C))
    (hq : ∀ u s', Inv X ((u, PySem.W.kxs_mw "ValueError.__init__" a) :: pins) σ H s' → Q (.ref u, []) s') :
    wpAny (model X.prog X.w) A (getMethod (.ref so) "__init__" pl) Q E s := by
  have K := I.kIn
  obtain ⟨t1, ho⟩ := exo_at I.hok e
  obtain ⟨cd, hcd⟩ := S.cls
  have hI : PySem.W.InstAt s.heap a { cls := .ref C, dict := none, data := .fields #[.ref t1, .none, .none, .none, .bool false, .none] } C none := ⟨ho, rfl, rfl, trivial⟩
  have sup := S.sup
  unfold PySem.W.ks_superIn at sup
  rw [hcd] at sup
  obtain ⟨hp, g, d, t, os⟩ := s
  refine PySem.W.kxs_getMethod PySem.W.kxs_ValueError hso (PySem.W.looks_opaque K S.any) (l₀ := cd.mro) (fun A Q E s k q => wpAny_bind ((PySem.W.looks_clsIn K hcd) A _ E s k (wpAny_pure q))) rfl K sup (hI.type.andThen (PySem.W.looks_subIn K S.subV)) (PySem.W.ks_ne K hI hcd) rfl ?_
  exact hq _ _ (ClX.pin_new (t' := t + 1) I (fun b o z => Heap.get?_push_of_some _ z) (Nat.le_refl _) (Heap.get?_push_at rfl rfl) (fun v z => by cases z))
/-- the wrapper called: the exception's own texts, of which nothing is told -/
theorem mw_call {u : Addr} {us : List Value} {Q : Value → Shared → Prop} {A : Around} (S : SupX X C xs) (I : Inv X ((u, PySem.W.kxs_mw "ValueError.__init__" a) :: pins) σ H s) (e : H a = some (exo a C none)) (hl : us.length ≤ sizeLine) (h : ∀ s', Inv X pins σ H s' → Q .none s') :
    wpAny (model X.prog X.w) A (call (.ref u) us) Q E s := by
  have hu := ClX.pin_at I
  have I0 := ClX.unpin I
  obtain ⟨nm, q, N, bs, bm, sn, sub, ab, col, dd, k0, k1, k2, k3, k5, hC, hbm⟩ := S.ex.cls
  obtain ⟨t1, ho⟩ := exo_at I.hok e
  have K := I.kIn
  obtain ⟨hp, g, d, t, os⟩ := s
  refine wpAny_call (codeAny_of_tree ?_)
  show wpAny _ A.in1 (callAny (.ref u) ⟨us, []⟩) _ _ _
  simp only [callAny]
  refine wpAny_bind (wpAny_load hu ?_)
  simp only [PySem.W.kxs_mw, show (Value.type "method-wrapper" == Value.type "method" || Value.type "method-wrapper" == Value.type "builtin_function_or_method" || Value.type "method-wrapper" == Value.type "method-wrapper") = true by decide, if_true]
  refine PySem.W.KFB.if_so (by decide) ?_
  refine wpAny_bind (PySem.W.check_bound_init PySem.F.excBase_ValueError.toExcCallFacts (K _ _ hC) ho rfl ?_)
  refine wpAny_bind (wpAny_pure (wpAny_pure ?_))
  refine ⟨plainId_quiet PySem.F.excBase_ValueError.init.plain _, codeAny_builtin PySem.F.excBase_ValueError.initEntry ?_⟩
  refine PySem.W.exc_init_tree (cls := .ref C) (t0 := t1) (dv := none) (c2 := .none) (c3 := .none) (b4 := .bool false) ho hl fun h' k hx ht => ?_
  have J := I0.write (t' := t) (x := a) (e := a) (o := exo a C none) (by rw [e]; exact True.intro) (.inl rfl) k ⟨_, hx⟩ (exo_ok hx)
  have eu : upd H a (exo a C none) = H := by
    funext b
    by_cases hb : b = a
    · rw [hb, upd_same, e]
    · rw [upd_ne hb]
  rw [eu] at J
  exact h _ J
/-- super().__init__(e) -/
theorem sup_stmt {body : List Stmt} {e : Expr} {ta : TA} {p0 p1 apos pos epos : Pos} {pl : Sem Bool} {Q : Flow → Shared → Prop} (S : SupX X C xs) (I : Inv X pins σ H s) (hx : X.N[i]? = some xs) (hσ : σ[i]? = some (some (.ref a))) (ex : H a = some (exo a C none)) (ha : PA X [e] ta)
    (hta : ta σ H fun vs H1 => vs.length ≤ 1000 ∧ H1 a = some (exo a C none) ∧ ∀ s', Inv X pins σ H1 s' → Q .next s')
    (he : starEach [e] X.env = (false, eval e X.env) :: starEach [] X.env) (hpl : (backTo pos (starEach [] X.env)).any (·.1) = false)
    (hc : eval (.Call (.Attribute (.Call (.Name "super" p0) [] [] p1) "__init__" apos) [e] [] pos) X.env = (do
      let ov ← attributeBase (.Call (.Name "super" p0) [] [] p1) "__init__" X.env (eval (.Call (.Name "super" p0) [] [] p1) X.env)
      standAt apos.atName
      let (f, first) ← holding [ov] (getMethod ov "__init__" pl)
      callWith pos f first (backTo pos (starEach [e] X.env)) []))
    (hi : interactive X.env = false) (hs : swapsWith (.Call (.Attribute (.Call (.Name "super" p0) [] [] p1) "__init__" apos) [e] [] pos) none epos.line X.env = pure false) :
    _root_.PySem.wpAt (model X.prog X.w) X.A (.func body X.env) (exec (.Expr (.Call (.Attribute (.Call (.Name "super" p0) [] [] p1) "__init__" apos) [e] [] pos) epos) X.env) Q X.xe s := by
  refine PySem.ks_wpAt_Expr_any (PySem.ks_wpAt_MethodCall (pl := pl) (sup_base S I hx hσ ex rfl fun so s1 I1 hso => sup_meth S I1 ex hso fun u s2 I2 => ?_) hc) hi hs
  have h := ha.run pos _ s2 σ H _ I2 hta
  show wpAny _ _ (callWith pos (.ref u) [] (backTo pos (starEach [e] X.env)) []) _ _ _
  rw [he] at h ⊢
  refine PySem.W.kxs_callWith (i := "ValueError.__init__") (x := a) (by show (false || (backTo pos (starEach [] X.env)).any (·.1)) = false; rw [hpl]; rfl) ?_
  refine Calls.evalArgs_plain (thn h fun us s3 hh => ?_)
  obtain ⟨vs, H1, I3, rv, hz, ex1, q⟩ := hh
  refine ⟨ClX.pin_at I3, ?_⟩
  exact mw_call S I3 ex1 (by show us.length ≤ sizeLine; rw [← rv.length, sizeLine_eq]; omega) q
end
end Dy
namespace Dy
open PySem PySem.Spec PyProof.Rows L2
def cxS (CX : CXT) (P : Program) (w : World) (K : PySem.W.Frag) (mg : Str → Option Value) (base : Heap) (N : List Str) (qual : Str) (scope : Scope) (f : Addr) (cd : Value) (cc : Addr) (A : Around) (outer : List PySem.Env) (s : Shared) (H : Hp) (E : XK) : Cx where
  prog := P
  w := w
  K := K
  mg := mg
  base := base
  A := A.deeper (PySem.W.ksEnv qual scope s.heap.objs.size f cd cc)
  N := N
  s_0 := s
  H_0 := H
  env := PySem.W.ksEnv qual scope s.heap.objs.size f cd cc
  outer := outer
  stack := PySem.W.ksEnv qual scope s.heap.objs.size f cd cc :: outer
  ex := []
  calm := true
  fn := fun _ => false
  pn := []
  xe := fun e s' => wpAny (model P w) (A.deeper (PySem.W.ksEnv qual scope s.heap.objs.size f cd cc)) (leaving (PySem.W.ksEnv qual scope s.heap.objs.size f cd cc) e) (fun _ s'' => CX outer H s E e s'') (fun e' s'' => CX outer H s E e' s'') s'
structure SScope (N : List Str) (sc : Scope) : Prop where
  kind : sc.kind = .function
  co : sc.isCoroutine = false
  gen : sc.isGenerator = false
  nd : N.Nodup
  par : ∀ x ∈ N, sc.names.lookup x = some .local
  nocell : ∀ x ∈ sc.names, x.2 ≠ .cell
  free : ∀ x, sc.names.lookup x = some .free → x = "__class__"
theorem lookup_mem {β : Type} {x : Str} {u : β} : ∀ {l : List (Str × β)}, (l.map (·.1)).Nodup → (x, u) ∈ l → l.lookup x = some u
  | [], _, h => (nomatch h)
  | (y, v) :: l, nd, h => by
    rw [List.map_cons, List.nodup_cons] at nd
    rcases List.mem_cons.mp h with e | e
    · cases e; simp [List.lookup]
    · have ne : x ≠ y := fun z => nd.1 (by rw [← z]; exact List.mem_map.mpr ⟨(x, u), e, rfl⟩)
      have : (x == y) = false := by simpa using ne
      simp only [List.lookup, this]
      exact lookup_mem nd.2 e
theorem cls_cell {x : Str} {cc c : Addr} (h : ([(("__class__" : Str), cc)] : List (Str × Addr)).lookup x = some c) : x = "__class__" ∧ c = cc := by
  unfold List.lookup at h
  split at h
  · rename_i e
    exact ⟨by simpa using e, (Option.some.inj h).symm⟩
  · cases h
section
variable {CX : CXT} {P : Program} {w : World} {K : PySem.W.Frag} {mg : Str → Option Value} {base : Heap} {N : List Str} {qual : Str} {scope : Scope} {f cc C : Addr} {cd cl : Value} {cld : Option Addr} {csl : Array (Option Value)} {A : Around} {outer : List PySem.Env} {s : Shared} {H : Hp} {E : XK} {us : List Value} {vs : List V} {h₀ : Heap} {tk : Nat}
theorem inv_startS (S : SScope N scope) (hd : A.handled = none) (e0 : Env0 P w K mg base A outer s H) (hc : K.lookup cc = some ⟨cl, cld, .cell (some (.ref C)), csl⟩) (hl : vs.length = N.length) (r : Vals vs us)
    (hns : h₀.Ns s.heap.objs.size fun x => (N.zip us).reverse.lookup x) (hk : ∀ b o, s.heap.get? b = some o → h₀.get? b = some o) :
    Inv (cxS CX P w K mg base N qual scope f cd cc A outer s H E) [] (L2.start N vs) H { s with heap := h₀, toks := tk } := by
  have hb := e0.mod.kin _ _ hc
  obtain ⟨hs, hH⟩ := e0.bs _ _ hb
  have noA : ∀ b : Addr, b ∉ (cxS CX P w K mg base N qual scope f cd cc A outer s H E).ex := fun b z => absurd (show b ∈ ([] : List Addr) from z) (by simp)
  have hst : L2.start N vs = vs.map some := by
    unfold L2.start
    rw [show N.length - vs.length = 0 by omega]
    simp
  refine ⟨⟨e0.mod, S.kind, rfl, rfl, Nat.le_refl _, fun x y c h1 h2 => ?_, fun y hy => ?_, fun y c z h => absurd (show false = true from z) (by decide), fun _ => hd, Around.frames_deeper e0.frames, .inr ⟨rfl, rfl⟩, fun b z => absurd z (noA b), e0.bs, e0.bsz, fun b _ _ => noA b, fun b z => absurd z (noA b), e0.funs, e0.frf⟩,
    rfl, e0.bare, Un.kept hk, ⟨_, hns, fun i y v h1 h2 h3 => ?_⟩, fun y c h => ?_, e0.hok.fresh (Nat.le_refl _), fun y c h => ?_, fun p hp => absurd (show p ∈ ([] : List (Addr × Obj)) from hp) (by simp), e0.hok.kept hk, ?_⟩
  · rw [(cls_cell h1).1, (cls_cell h2).1]
  · have hy : scope.names.lookup y = some .cell ∨ scope.names.lookup y = some .free := hy
    rcases hy with hy | hy
    · exact absurd rfl (S.nocell _ (PySem.mem_of_lookup hy))
    · rw [S.free y hy]; exact ⟨cc, rfl⟩
  · rw [hst, List.getElem?_map] at h2
    cases q : vs[i]? with
    | none => rw [q] at h2; cases h2
    | some v' =>
      rw [q] at h2; cases h2
      obtain ⟨u, hu, rv⟩ := r.get q
      have h1 : N[i]? = some y := h1
      refine ⟨u, rv, .inl ⟨S.par y (List.mem_of_getElem? h1), ?_⟩⟩
      have lz : us.length = N.length := by rw [← r.length]; exact hl
      refine lookup_mem ?_ (List.mem_reverse.mpr (List.mem_of_getElem? (i := i) ?_))
      · rw [List.map_reverse, List.map_fst_zip (by omega)]
        exact (List.reverse_perm _).nodup_iff.mpr S.nd
      · rw [List.getElem?_zip_eq_some]
        exact ⟨h1, hu⟩
  · rw [(cls_cell h).2]
    exact ⟨_, _, hk _ _ hs, rfl⟩
  · rw [(cls_cell h).2]; exact hH
  · rw [hst]
    show (vs.map some).length = N.length
    rw [List.length_map, hl]
/-- the run of a def whose frame has the cell __class__ -/
theorem run_S {name : Str} {params : Arguments} {body : List Stmt} {dV kV doc pm cdv ct oc : Value} {an od : Option Addr} {osl : Array (Option Value)} {args : Args} {Q : VK}
    (lk : K.lookup f = some ⟨oc, od, .func (PySem.W.ksFn name qual params body scope dV kV doc pm an cdv ct cc), osl⟩) (hcd : PySem.W.codeIn K cdv qual = true) (S : SScope N scope) (hc : K.lookup cc = some ⟨cl, cld, .cell (some (.ref C)), csl⟩)
    (hd : A.handled = none) (hdp : A.depth < recursionLimit) (e0 : Env0 P w K mg base A outer s H) (hb : BindsTo s (PySem.W.ksFn name qual params body scope dV kV doc pm an cdv ct cc) args (N.zip us)) (r : Vals vs us) (hl : vs.length = N.length)
    (hbody : ∀ s1, Inv (cxS CX P w K mg base N qual scope f cdv cc A outer s H E) [] (L2.start N vs) H s1 →
      _root_.PySem.wpAt (model P w) (A.deeper (PySem.W.ksEnv qual scope s.heap.objs.size f cdv cc)) (.func body (PySem.W.ksEnv qual scope s.heap.objs.size f cdv cc)) (execs body (PySem.W.ksEnv qual scope s.heap.objs.size f cdv cc))
        (fun fl s' => fl = .next ∧ ∃ σ' H', Inv (cxS CX P w K mg base N qual scope f cdv cc A outer s H E) [] σ' H' s' ∧ Q .non H') (cxS CX P w K mg base N qual scope f cdv cc A outer s H E).xe s1) :
    codeAny (model P w) A (.call (.ref f) args) (CR CX outer P w H s Q E) s := by
  have KX : K.In s.heap := e0.mod.kin.keeps fun b o e => (e0.bs b o e).1
  have lim : s.heap.NoLimit := e0.mod.nolimit.keeps fun b o e => (e0.bs b o e).1
  refine PySem.ks_codeAny_call_defAt (fd := PySem.W.ksFn name qual params body scope dV kV doc pm an cdv ct cc) (body := body) (binds := N.zip us) hdp (KX _ _ lk) rfl lim (PySem.W.codeRec_of KX hcd) rfl hb S.nocell (fun y hy => S.par y.1 (List.of_mem_zip hy).1) (fun h₀ hns hk => ?_) S.co S.gen S.kind
  have I := inv_startS (CX := CX) (qual := qual) (f := f) (cd := cdv) (E := E) (tk := s.toks + (N.zip us).length) S hd e0 hc hl r hns hk
  refine PySem.ks_wpAt_mono (hbody _ I) (fun fl s' hs => ?_) (fun e s' hs => hs)
  obtain ⟨rfl, σ', H', J, q⟩ := hs
  exact (show CE outer P w H s Q .none s' from ⟨V.non, H', J.os, J.bare, J.base, J.hok, rfl, q⟩)
end
end Dy
namespace Dy
open PySem PySem.Spec PyProof.Rows L2
section
variable {X : Cx} {H : Hp} {s : Shared} {a C : Addr} {p q : Int} {q0 q1 q2 q3 q4 q5 q6 q7 q8 q9 q10 r1 r2 r3 r4 t1 t2 t3 t4 : Pos} {j : Nat} {mid : Str}
def tmBody (q0 q1 q2 q3 q4 q5 q6 q7 q8 q9 q10 r1 r2 r3 r4 t1 t2 t3 t4 : Pos) (j : Nat) (mid : Str) : List Stmt :=
  [.Expr (.Call (.Attribute (.Call (.Name "super" q0) [] [] q1) "__init__" q2) [.JoinedStr [.FormattedValue (.Name "amount" q3) (-1) none q4, .Constant (.str mid) j q5, .FormattedValue (.Name "limit" q6) (-1) none q7] q8] [] q9) q10,
   .Assign [.Attribute (.Name "self" r1) "amount" r2] (.Name "amount" r3) r4, .Assign [.Attribute (.Name "self" t1) "limit" t2] (.Name "limit" t3) t4]
abbrev tmTxt (q3 q4 q5 q6 q7 q8 : Pos) (j : Nat) (mid : Str) : Expr := .JoinedStr [.FormattedValue (.Name "amount" q3) (-1) none q4, .Constant (.str mid) j q5, .FormattedValue (.Name "limit" q6) (-1) none q7] q8
theorem body_tm {body : List Stmt} {pl : Sem Bool} (S : SupX X C "self") (hN : X.N = [("self" : Str), ("amount" : Str), ("limit" : Str)]) (l1 : X.env.kindOf "amount" = some .local) (l2 : X.env.kindOf "limit" = some .local) (hi : interactive X.env = false)
    (hc : eval (.Call (.Attribute (.Call (.Name "super" q0) [] [] q1) "__init__" q2) [tmTxt q3 q4 q5 q6 q7 q8 j mid] [] q9) X.env = (do
      let ov ← attributeBase (.Call (.Name "super" q0) [] [] q1) "__init__" X.env (eval (.Call (.Name "super" q0) [] [] q1) X.env)
      standAt q2.atName
      let (f, first) ← holding [ov] (getMethod ov "__init__" pl)
      callWith q9 f first (backTo q9 (starEach [tmTxt q3 q4 q5 q6 q7 q8 j mid] X.env)) []))
    (I : Inv X [] [some (.ref a), some (.int p), some (.int q)] H s) (ex : H a = some (exo a C none)) (no1 : PySem.W.findIn X.K (.ref C) "amount" = some none) (no2 : PySem.W.findIn X.K (.ref C) "limit" = some none)
    (g1 : p.natAbs.log2 < 1920) (g2 : q.natAbs.log2 < 1920) (z1 : (Str.empty ++ (toString p : Str)).length ≤ sizeLine) (z2 : (Str.empty ++ (toString p : Str) ++ mid).length ≤ sizeLine) (z3 : (Str.empty ++ (toString p : Str) ++ mid ++ (toString q : Str)).length ≤ sizeLine) :
    _root_.PySem.wpAt (model X.prog X.w) X.A (.func body X.env) (execs (tmBody q0 q1 q2 q3 q4 q5 q6 q7 q8 q9 q10 r1 r2 r3 r4 t1 t2 t3 t4 j mid) X.env)
      (fun fl s' => fl = .next ∧ ∃ σ' H', Inv X [] σ' H' s' ∧ ∃ dx, H dx = none ∧ dx ≠ a ∧ H' = upd (upd (upd H dx (exd dx [("amount", .int p)])) a (exo a C (some dx))) dx (exd dx [("limit", .int q), ("amount", .int p)])) X.xe s := by
  have v0 : PE X (.Name "self" r1) (tVar 0) := pe_var (by rw [hN]; rfl) (.inl S.kx)
  have v0' : PE X (.Name "self" t1) (tVar 0) := pe_var (by rw [hN]; rfl) (.inl S.kx)
  have v1 : ∀ y, PE X (.Name "amount" y) (tVar 1) := fun y => pe_var (by rw [hN]; rfl) (.inl l1)
  have v2 : ∀ y, PE X (.Name "limit" y) (tVar 2) := fun y => pe_var (by rw [hN]; rfl) (.inl l2)
  have ej := pe_joined (pos := q8) (.cons (pe_fmt (pos := q4) (v1 q3)) (.cons (pe_str (X := X) (x := mid) (j := j) (pos := q5)) (.cons (pe_fmt (pos := q7) (v2 q6)) .nil)))
  unfold tmBody
  refine PySem.ks_wpAt_execs_cons (PySem.ks_wpAt_mono (sup_stmt (Q := fun fl s' => fl = .next ∧ Inv X [] [some (.ref a), some (.int p), some (.int q)] H s') S I (i := 0) (by rw [hN]; rfl) rfl ex (pa_cons ej pa_nil) ?_ (by rfl) (by rfl) hc hi (by rfl)) (fun fl s1 hs => ?_) fun _ _ z => z)
  · refine ⟨.int p, rfl, .inr ⟨p, rfl, g1, _, rfl, z1, ?_⟩⟩
    exact ⟨_, rfl, z2, .int q, rfl, .inr ⟨q, rfl, g2, _, rfl, z3, by simp, ex, fun s' J => ⟨rfl, J⟩⟩⟩
  · obtain ⟨rfl, I1⟩ := hs
    have ps := pss_cons (ps_ost (f := "amount") (p' := r2) (pos := r4) v0 (v1 r3)) (pss_one (ps_ost (f := "limit") (p' := t2) (pos := t4) v0' (v2 t3)))
    refine PyProof.Rows.wpAt_of_any (wpAny_mono (ps.run [] s1 _ H { nx := fun σ' H' => ∃ dx, H dx = none ∧ dx ≠ a ∧ H' = upd (upd (upd H dx (exd dx [("amount", .int p)])) a (exo a C (some dx))) dx (exd dx [("limit", .int q), ("amount", .int p)]) , rt := fun _ _ => False } I1 ?_) (fun fl s' hs => ?_) fun _ _ z => z)
    · refine ⟨.int p, rfl, .ref a, rfl, a, C, rfl, S.ex, no1, .inl ⟨ex, fun dx hdx ne => ?_⟩⟩
      refine ⟨.int q, rfl, .ref a, rfl, a, C, rfl, S.ex, no2, .inr ⟨dx, [("amount", .int p)], ?_, ?_, by simp, dx, hdx, ne, rfl⟩⟩
      · rw [upd_same]
      · rw [upd_ne ne, upd_same]
    · cases fl with
      | next => obtain ⟨σ', H', J, z⟩ := hs; exact ⟨rfl, σ', H', J, z⟩
      | ret u => obtain ⟨_, _, _, _, _, z⟩ := hs; exact z.elim
      | brk => obtain ⟨_, _, _, z⟩ := hs; exact False.elim z
      | cont => obtain ⟨_, _, _, z⟩ := hs; exact False.elim z
/-- what the call of __init__ is asked and does -/
def spTM (C : Addr) (mid : Str) : Sp := fun vs H Q _ => ∃ (a : Addr) (p q : Int), vs = [.ref a, .int p, .int q] ∧ H a = some (exo a C none) ∧ p.natAbs.log2 < 1920 ∧ q.natAbs.log2 < 1920 ∧
  (Str.empty ++ (toString p : Str)).length ≤ sizeLine ∧ (Str.empty ++ (toString p : Str) ++ mid).length ≤ sizeLine ∧ (Str.empty ++ (toString p : Str) ++ mid ++ (toString q : Str)).length ≤ sizeLine ∧
  ∀ dx, H dx = none → dx ≠ a → Q .non (upd (upd (upd H dx (exd dx [("amount", .int p)])) a (exo a C (some dx))) dx (exd dx [("limit", .int q), ("amount", .int p)]))
abbrev tmN : List Str := [("self" : Str), ("amount" : Str), ("limit" : Str)]
theorem fn_tm {P : Program} {w : World} {K : PySem.W.Frag} {mg : Str → Option Value} {base : Heap} {CX : CXT} {k : Nat} {name qual : Str} {params : Arguments} {scope : Scope} {fI cc cda : Addr} {dV kV doc pm ct oc cl oc2 : Value} {an od cld od2 : Option Addr} {osl csl csl2 : Array (Option Value)} {fvs : Array Value} {file : Str} {tf : Tok} {ar : Arg} {pl : Sem Bool}
    (lk : K.lookup fI = some ⟨oc, od, .func (PySem.W.ksFn name qual params (tmBody q0 q1 q2 q3 q4 q5 q6 q7 q8 q9 q10 r1 r2 r3 r4 t1 t2 t3 t4 j mid) scope dV kV doc pm an (.ref cda) ct cc), osl⟩) (hcd : PySem.W.codeIn K (.ref cda) qual = true) (S : SScope tmN scope)
    (hc : K.lookup cc = some ⟨cl, cld, .cell (some (.ref C)), csl⟩) (hco : K.lookup cda = some ⟨oc2, od2, .fields fvs, csl2⟩) (hfv : fvs[2]? = some (.str file tf)) (hfile : ((P.main.file : Str) == file) = true)
    (har : (params.posonlyargs ++ params.args).head? = some ar) (hself : ar.arg = "self") (hks : scope.names.lookup ("super" : Str) = some .globalImplicit) (hkc : scope.names.lookup ("__class__" : Str) = some .free)
    (top : (P.main.scope.names.lookup ("super" : Str)).isSome = false) (hmg : mg "super" = none) (hcls : ∃ cd, PySem.W.clsIn K C = some cd) (hsub : PySem.W.mroIn K C (.ref C) = some true) (hex : OexC K C) (hany : PySem.W.nsIn K cStatics "thirdparty.any" = some none)
    (hsup : PySem.W.ks_superIn K C C "__init__" = some (some (.builtin "ValueError.__init__"))) (hsubV : PySem.W.subIn K (.ref C) (.type "ValueError") = some true) (no1 : PySem.W.findIn K (.ref C) "amount" = some none) (no2 : PySem.W.findIn K (.ref C) "limit" = some none)
    (hi : ∀ L, interactive (PySem.W.ksEnv qual scope L fI (.ref cda) cc) = false)
    (hev : ∀ L, eval (.Call (.Attribute (.Call (.Name "super" q0) [] [] q1) "__init__" q2) [tmTxt q3 q4 q5 q6 q7 q8 j mid] [] q9) (PySem.W.ksEnv qual scope L fI (.ref cda) cc) = (do
      let ov ← attributeBase (.Call (.Name "super" q0) [] [] q1) "__init__" (PySem.W.ksEnv qual scope L fI (.ref cda) cc) (eval (.Call (.Name "super" q0) [] [] q1) (PySem.W.ksEnv qual scope L fI (.ref cda) cc))
      standAt q2.atName
      let (f, first) ← holding [ov] (getMethod ov "__init__" pl)
      callWith q9 f first (backTo q9 (starEach [tmTxt q3 q4 q5 q6 q7 q8 j mid] (PySem.W.ksEnv qual scope L fI (.ref cda) cc))) [])) :
    FnOk P w K mg base CX k fI (PySem.W.ksFn name qual params (tmBody q0 q1 q2 q3 q4 q5 q6 q7 q8 q9 q10 r1 r2 r3 r4 t1 t2 t3 t4 j mid) scope dV kV doc pm an (.ref cda) ct cc) tmN (spTM C mid) := by
  refine ⟨fun vs H Q E h => ?_, fun A outer s H args us vs Q E hr e0 hb r h => ?_⟩
  · obtain ⟨a, p, q, rfl, _⟩ := h; rfl
  · obtain ⟨a, p, q, rfl, ex, g1, g2, z1, z2, z3, hQ⟩ := h
    refine run_S (C := C) lk hcd S hc hr.hd (by have := hr.dp; omega) e0 hb r rfl fun s1 I => ?_
    have SX : SupX (cxS CX P w K mg base tmN qual scope fI (.ref cda) cc A outer s H E) C "self" :=
      ⟨hks, hkc, S.par _ (by decide), ⟨cc, cl, cld, csl, rfl, hc⟩, ⟨fI, oc, od, _, osl, ar, rfl, lk, har, hself⟩, ⟨cda, oc2, od2, fvs, csl2, file, tf, rfl, hco, hfv, hfile⟩, top, hmg, hcls, hsub, hex, hany, hsup, hsubV⟩
    refine PySem.ks_wpAt_mono (body_tm (pl := pl) SX rfl (S.par _ (by decide)) (S.par _ (by decide)) (hi _) (hev _) I ex no1 no2 g1 g2 z1 z2 z3) (fun fl s' hs => ?_) fun _ _ z => z
    obtain ⟨e, σ', H', J, dx, n1, n2, eH⟩ := hs
    exact ⟨e, σ', H', J, by rw [eH]; exact hQ dx n1 n2⟩
end
end Dy
namespace Dy
open PySem PySem.Spec PyProof.Rows L2
/-- the message's room -/
def tmOk (mid : Str) (p q : Int) : Prop := p.natAbs.log2 < 1920 ∧ q.natAbs.log2 < 1920 ∧
  (Str.empty ++ (toString p : Str)).length ≤ sizeLine ∧ (Str.empty ++ (toString p : Str) ++ mid).length ≤ sizeLine ∧ (Str.empty ++ (toString p : Str) ++ mid ++ (toString q : Str)).length ≤ sizeLine
def tmSmall (p q : Int) : Bool := decide (0 ≤ p ∧ p ≤ 1000000000 ∧ 0 ≤ q ∧ q ≤ 1000000000)
def fRaiseT (x : Str) (as : List AF) : SF := fun env => evA as env >>= fun r => match dvs r.1 with
  | some [.int p, .int q] => if tmSmall p q = true then .er ⟨x, [.int p, .int q]⟩ else .no
  | _ => .no
section
variable {g : G} {X : Cx} {e1 e2 : Expr} {p1 p3 pos : Pos} {mid : Str}
theorem ds_raiseT {x : Str} {C fI : Addr} {k : Nat} {fd : FuncData} {as : List AF} {CX : CXT} (hok : ∀ p q, tmSmall p q = true → tmOk mid p q) (hc : X.calm = true) (tk : Takes X (fun cls d _ H => g.E cls d H)) (T : OexC X.K C)
    (iC : PySem.W.findIn X.K (.ref C) "__init__" = some (some (.ref fI))) (tI : PySem.W.typeIn X.K (.ref fI) = some (.type "function")) (F1 : FnOk X.prog X.w X.K X.mg X.base CX k fI fd tmN (spTM C mid)) (hr : Room (k + 1) X.A) (hb : Binds X.K fd tmN []) (hx : Passes CX X (fun _ _ _ => False))
    (hg : Gl X x) (hm : X.mg x = some (.ref C)) (hM : g.mg = X.mg) (ha : DA g X [e1, e2] as) (hdb : (x == ("__debug__" : Str)) = false := by decide)
    (he : starEach [e1, e2] X.env = (false, eval e1 X.env) :: starEach [e2] X.env := by rfl) (hpl : (backTo p3 (starEach [e2] X.env)).any (·.1) = false := by rfl) :
    DS g X (.Raise (some (.Call (.Name x p1) [e1, e2] [] p3)) none pos) (fRaiseT x as) :=
  PS.imp (ps_raise hc tk (pmk_oex (dvs := []) T iC tI F1 hr hb .nil hx hg hm ha hdb he hpl)) fun D σ H h => by
  obtain ⟨I, env, F, s, pp⟩ := h
  unfold fRaiseT at pp
  refine ⟨I, env, F, s, post_mono (post_bind.mp pp) (fun r qq vs H1 I1 F1 s1 st av => ?_) fun _ z => z⟩
  split at qq
  · rename_i p q ed
    by_cases hz : tmSmall p q = true
    · rw [if_pos hz] at qq
      have rr := dvs_rep av ed
      match vs, rr with
      | _, .cons v1 (.cons v2 .nil) =>
        cases v1; cases v2
        obtain ⟨g1, g2, z1, z2, z3⟩ := hok p q hz
        refine ⟨by simp, fun a na => ⟨a, p, q, rfl, upd_same, g1, g2, z1, z2, z3, fun dx ndx ne => ⟨rfl, dx, [("limit", .int q), ("amount", .int p)], ?_, upd_same, ?_, ?_⟩⟩⟩
        · rw [upd_ne (Ne.symm ne), upd_same]
        · rw [upd_ne ne] at ndx; exact ndx
        · have nd : H1 dx = none := by rw [upd_ne ne] at ndx; exact ndx
          have eH : upd (del (upd (upd (upd (upd H1 a (exo a C none)) dx (exd dx [("amount", .int p)])) a (exo a C (some dx))) dx (exd dx [("limit", .int q), ("amount", .int p)])) a) dx (.xd [("limit", .int q), ("amount", .int p)]) = upd H1 dx (.xd [("limit", .int q), ("amount", .int p)]) := by
            funext b
            by_cases hbd : b = dx
            · subst hbd; rw [upd_same, upd_same]
            · rw [upd_ne hbd, upd_ne hbd]
              by_cases hba : b = a
              · subst hba; rw [del_same, na]
              · rw [del_ne hba, upd_ne hbd, upd_ne hba, upd_ne hbd, upd_ne hba]
          rw [eH]
          have nI : I1 dx = none := none_of_same s1.sub nd
          refine qq _ (.ref C) (some dx) (Err.trans st ⟨upd I1 dx (.xd [("limit", .int q), ("amount", .int p)]), fun b o h => ?_, s1.tab.mono (same_new nI) (kt_new nd) (fun b ps h h2 => ?_), fun dx' fs' e h => ?_, same_new nI, fun b o h _ _ => same_new nd b o h, fun b o h _ => ⟨o, same_new nd b o h⟩, fun b h => h.elim, fun b o h => ?_⟩) ⟨C, by rw [hM]; exact hm, rfl, fun e => (by cases e), fun p' q' e => ?_⟩
          · by_cases hb : b = dx
            · subst hb; rw [upd_same] at h ⊢; exact h
            · rw [upd_ne hb] at h ⊢; exact s1.sub b o h
          · rw [upd_ne (fun z => by subst z; rw [nd] at h; cases h)]; exact h2
          · cases e; rw [upd_same] at h ⊢; exact h
          · by_cases hb : b = dx
            · subst hb; exact .inr (.inr nd)
            · rw [upd_ne hb] at h; exact .inl h
          · cases e
            exact ⟨dx, _, rfl, upd_same, rfl, rfl⟩
    · rw [if_neg hz] at qq; exact qq.elim
  · exact qq.elim
end
end Dy
namespace Dy
open PySem PySem.Spec PyProof.Rows L2
theorem str_app_len (a b : Str) : (a ++ b).length = a.length + b.length := by
  show (a.cps ++ b.cps).size = _
  rw [Array.size_append]; rfl
theorem log_small {n : Nat} (h : n ≤ 1000000000) : n.log2 < 1920 := by
  by_cases z : n = 0
  · subst z; decide
  · rw [Nat.log2_lt z]
    exact Nat.lt_of_le_of_lt h (Nat.lt_of_lt_of_le (show 1000000000 < 2 ^ 30 by decide) (Nat.pow_le_pow_right (by decide) (by decide)))
theorem tm_ok {mid : Str} (hm : mid.length ≤ 1000) (p q : Int) (h : tmSmall p q = true) : tmOk mid p q := by
  unfold tmSmall at h
  have h := of_decide_eq_true h
  have a1 := PySem.W.KT.len_num (n := p) h.1 (by omega)
  have a2 := PySem.W.KT.len_num (n := q) h.2.2.1 (by omega)
  have e0 : Str.empty.length = 0 := rfl
  refine ⟨log_small (by omega), log_small (by omega), ?_, ?_, ?_⟩ <;> simp only [str_app_len, e0, sizeLine_eq] <;> omega
section
variable {g : G} {X : Cx} {a C dx : Addr} {oe : Obj} {pn : List (Addr × Obj)} {i : Nat} {n : Str} {p1 pos : Pos} {p q : Int}
theorem fld_key {f : Str} {v : Int} (hp : g.pn = ([i], (fun _ => V.ref a), g.pn.2.2)) (hT : (dx, fldS p q) ∈ g.pn.2.2) (hv : ∀ fs : List (Str × V), fs.lookup ("amount" : Str) = some (.int p) → fs.lookup ("limit" : Str) = some (.int q) → fs.lookup f = some (.int v)) {σ : St} {H : Hp} {Q : VK}
    (h : tD g (fC (.int v)) σ H Q) : tXf a (.ref C) (some dx) C f (tVar i) σ H Q := by
  obtain ⟨I, env, F, s, pp⟩ := h
  have e1 := s.pin i (by rw [hp]; simp)
  rw [hp] at e1
  obtain ⟨fs, f1, f2⟩ := s.tab.fld hT (isFld_S p q)
  obtain ⟨l1, l2⟩ := f2 p q rfl
  exact ⟨.ref a, e1, rfl, rfl, dx, fs, .int v, rfl, s.sub _ _ f1, hv fs l1 l2, pp (.int v) H (aftC s (.int v))⟩
theorem de_amount (T : XfC X.K C) (hno : PySem.W.findIn X.K (.ref C) "amount" = some none) (hz : Zc (.ref C) (some dx) oe) (hf : ∃ vs, oe.data = .fields vs) (hp : g.pn = ([i], (fun _ => V.ref a), g.pn.2.2)) (hT : (dx, fldS p q) ∈ g.pn.2.2)
    (he : PE (X.suite a ((a, oe) :: pn)) (.Name n p1) (tVar i)) (hb : attributeBase (.Name n p1) "amount" X.env (eval (.Name n p1) X.env) = eval (.Name n p1) X.env := by rfl) :
    DE g (X.suite a ((a, oe) :: pn)) (.Attribute (.Name n p1) "amount" pos) (fC (.int p)) := PE.imp (pe_xf T hno hz hf he hb) fun σ H Q h => fld_key hp hT (fun _ l _ => l) h
theorem de_limit (T : XfC X.K C) (hno : PySem.W.findIn X.K (.ref C) "limit" = some none) (hz : Zc (.ref C) (some dx) oe) (hf : ∃ vs, oe.data = .fields vs) (hp : g.pn = ([i], (fun _ => V.ref a), g.pn.2.2)) (hT : (dx, fldS p q) ∈ g.pn.2.2)
    (he : PE (X.suite a ((a, oe) :: pn)) (.Name n p1) (tVar i)) (hb : attributeBase (.Name n p1) "limit" X.env (eval (.Name n p1) X.env) = eval (.Name n p1) X.env := by rfl) :
    DE g (X.suite a ((a, oe) :: pn)) (.Attribute (.Name n p1) "limit" pos) (fC (.int q)) := PE.imp (pe_xf T hno hz hf he hb) fun σ H Q h => fld_key hp hT (fun _ _ l => l) h
end
end Dy
namespace Dy
open PySem PySem.Spec PyProof.Rows L2
open LamX (CodeO TabB LamS lamEnv lamCx)
def rIsD (K : PySem.W.Frag) (D a dx : Addr) : List V → Hp → VK → Prop := fun xs H Q => ∃ (c : V) (cv : Value) (b : Bool) (fs : List (Str × V)), xs = [.ref a, c] ∧ (∀ u, RelV c u → u = cv) ∧ PySem.W.kitOne K (.ref D) cv = some b ∧ H dx = some (.xd fs) ∧ Q (.bl b) H
theorem call_isD {X : Cx} {a D dx : Addr} {oe : Obj} (hp : (a, oe) ∈ X.pn) (C : ExcC X.K D) (hz : Zc (.ref D) (some dx) oe) (hf : ∃ vs, oe.data = .fields vs) : CallR X (.builtin "isinstance") (rIsD X.K D a dx) := by
  intro pins s σ H xs us Q I r h
  obtain ⟨c, cv, b, fs, rfl, hcv, e, ea, q⟩ := h
  cases r with
  | cons rx rr =>
    cases rr with
    | cons rt rr =>
      cases rr
      cases rx
      have ec := hcv _ rt
      subst ec
      obtain ⟨hget, _⟩ := I.pin (a, oe) (List.mem_append.mpr (.inl hp))
      obtain ⟨vs, hv⟩ := hf
      have hx : ObjOk X.prog X.w H s.heap dx (.xd fs) := I.hok dx _ ea
      obtain ⟨mA, hns, hr⟩ := hx
      obtain ⟨od, ho, hl⟩ := lookIn_ns hns
      have J : PySem.W.InstAt s.heap a oe D (some od) := ⟨hget, hz.1, by unfold PySem.W.notCls; rw [hv] <;> rfl, by rw [hz.2]; exact ho⟩
      have hcl : (PySem.W.clsIn X.K D).isSome = true := by
        obtain ⟨cd, hc, _⟩ := PySem.W.any_some C.hd
        rw [hc] <;> rfl
      exact PySem.W.kia_one (PySem.W.kitx_exc hcl C.hg C.hk C.hs C.ha C.hn C.ht C.hm) I.kIn J e (fun z => nomatch z) fun tk => ⟨.bl b, H, I.kept (t' := tk) fun _ _ z => z, rfl, q⟩
section
variable {g : G} {X : Cx} {a b c e : Expr} {es : List Expr} {pos p1 p2 p3 px : Pos} {σ : St} {H I : Hp} {env : Env} {F : Nat → List Addr} {D : Ends} {st : Stmt} {sts : List Stmt}
theorem de_isD {a C dx : Addr} {oe : Obj} {i : Nat} {n y : Str} {v : Bool} {cv : V} {cu : Value} {p q : Int} (hpn : (a, oe) ∈ X.pn) (EC : ExcC X.K C) (hz : Zc (.ref C) (some dx) oe) (hv : ∃ vs, oe.data = .fields vs) (hp : g.pn = ([i], (fun _ => V.ref a), g.pn.2.2)) (hT : (dx, fldS p q) ∈ g.pn.2.2) (hg : Gl X "isinstance") (hm : X.mg "isinstance" = none)
    (hx : PE X (.Name n p1) (tVar i)) (hTy : PE X (.Name y p2) (tC cv)) (hcu : ∀ u, RelV cv u → u = cu) (kit : PySem.W.kitOne X.K (.ref C) cu = some v)
    (he : starEach [.Name n p1, .Name y p2] X.env = (false, eval (.Name n p1) X.env) :: starEach [.Name y p2] X.env := by rfl) (hpl : (backTo pos (starEach [.Name y p2] X.env)).any (·.1) = false := by rfl) :
    DE g X (.Call (.Name "isinstance" p3) [.Name n p1, .Name y p2] [] pos) (fC (.bool v)) := by
  refine PE.imp (pe_callB (call_isD hpn EC hz hv) hg hm bt_isinstance (pa_cons hx (pa_cons hTy pa_nil)) (by decide) (by decide) he hpl) fun σ H Q qq => ?_
  obtain ⟨I, env, F, s, pp⟩ := qq
  have e1 := s.pin i (by rw [hp]; simp)
  rw [hp] at e1
  obtain ⟨fs, f1, f2⟩ := s.tab.fld hT (isFld_S p q)
  exact ⟨.ref a, e1, cv, cu, v, fs, rfl, hcu, kit, s.sub _ _ f1, pp (.bl v) H (aftC s (.bl v))⟩
end
structure TmOk (P : Program) (w : World) (K : PySem.W.Frag) (mg : Str → Option Value) (A : List Str) (x : Str) (PE : Addr) (mid : Str) (C fI : Addr) (fd : FuncData) : Prop where
  g : mg x = some (.ref C)
  ec : ExcC K C
  m : PySem.W.exmOne K (.ref C) (.ref PE) = some true
  ve : PySem.W.kitOne K (.ref C) (.type "ValueError") = some true
  kit : ∀ y ∈ A, ∃ D, mg y = some (.ref D) ∧ PySem.W.kitOne K (.ref C) (.ref D) = some (decide (x = y))
  ox : OexC K C
  iC : PySem.W.findIn K (.ref C) "__init__" = some (some (.ref fI))
  tI : PySem.W.typeIn K (.ref fI) = some (.type "function")
  xf : XfC K C
  na : PySem.W.findIn K (.ref C) "amount" = some none
  nl : PySem.W.findIn K (.ref C) "limit" = some none
  bd : Binds K fd tmN []
  fn : ∀ (base : Heap) (CX : CXT) (k : Nat), FnOk P w K mg base CX k fI fd tmN (spTM C mid)
  ml : mid.length ≤ 1000
def TmSet (P : Program) (w : World) (K : PySem.W.Frag) (mg : Str → Option Value) (A : List Str) (x : Str) (PE : Addr) (mid : Str) : Prop := ∃ C fI fd, TmOk P w K mg A x PE mid C fI fd
section
variable {g : G} {X : Cx} {a b c e e1 e2 : Expr} {es : List Expr} {pos p1 p2 p3 px : Pos} {A : List Str} {PEa : Addr} {mid : Str}
theorem ds_raiseTS {x : Str} {as : List AF} {k : Nat} (S : TmSet X.prog X.w X.K X.mg A x PEa mid) (hr : Room (k + 1) X.A) (hc : X.calm = true) (tk : Takes X (fun cls d _ H => g.E cls d H)) (hg : Gl X x) (ha : DA g X [e1, e2] as) (hM : g.mg = X.mg := by rfl) (hdb : (x == ("__debug__" : Str)) = false := by decide)
    (he : starEach [e1, e2] X.env = (false, eval e1 X.env) :: starEach [e2] X.env := by rfl) (hpl : (backTo p3 (starEach [e2] X.env)).any (·.1) = false := by rfl) :
    DS g X (.Raise (some (.Call (.Name x p1) [e1, e2] [] p3)) none pos) (fRaiseT x as) := by
  obtain ⟨C, fI, fd, T⟩ := S
  exact ds_raiseT (CX := L2.CX X.prog X.w) (fun p q h => tm_ok T.ml p q h) hc tk T.ox T.iC T.tI (T.fn X.base (L2.CX X.prog X.w) k) hr T.bd (passes_call tk fun _ _ _ _ (h : False) => h.elim) hg T.g hM ha hdb he hpl
theorem de_isTK {a C dx : Addr} {oe : Obj} {i : Nat} {n x y : Str} {p q : Int} (S : TmSet X.prog X.w X.K X.mg A x PEa mid) (hC : X.mg x = some (.ref C)) (hy : y ∈ A) (hpn : (a, oe) ∈ X.pn) (hz : Zc (.ref C) (some dx) oe) (hv : ∃ vs, oe.data = .fields vs) (hp : g.pn = ([i], (fun _ => V.ref a), g.pn.2.2)) (hT : (dx, fldS p q) ∈ g.pn.2.2) (hg : Gl X "isinstance") (hm : X.mg "isinstance" = none)
    (hx : PE X (.Name n p1) (tVar i)) (hgy : Gl X y) (hdy : (y == ("__debug__" : Str)) = false := by decide)
    (he : starEach [.Name n p1, .Name y p2] X.env = (false, eval (.Name n p1) X.env) :: starEach [.Name y p2] X.env := by rfl) (hpl : (backTo pos (starEach [.Name y p2] X.env)).any (·.1) = false := by rfl) :
    DE g X (.Call (.Name "isinstance" p3) [.Name n p1, .Name y p2] [] pos) (fC (.bool (decide (x = y)))) := by
  obtain ⟨C1, fI, fd, T⟩ := S
  have e1 := T.g; rw [hC] at e1; cases e1
  obtain ⟨D, h4, h5⟩ := T.kit y hy
  exact de_isD hpn T.ec hz hv hp hT hg hm hx (pe_glob (u := .ref D) (v := .ref D) hgy h4 rfl hdy) (fun u r => r) h5 he hpl
theorem de_isTVE {a C dx : Addr} {oe : Obj} {i : Nat} {n x : Str} {p q : Int} (S : TmSet X.prog X.w X.K X.mg A x PEa mid) (hC : X.mg x = some (.ref C)) (hpn : (a, oe) ∈ X.pn) (hz : Zc (.ref C) (some dx) oe) (hv : ∃ vs, oe.data = .fields vs) (hp : g.pn = ([i], (fun _ => V.ref a), g.pn.2.2)) (hT : (dx, fldS p q) ∈ g.pn.2.2) (hg : Gl X "isinstance") (hm : X.mg "isinstance" = none)
    (hx : PE X (.Name n p1) (tVar i)) (hTy : PE X (.Name "ValueError" p2) (tC (.ty "ValueError")))
    (he : starEach [.Name n p1, .Name "ValueError" p2] X.env = (false, eval (.Name n p1) X.env) :: starEach [.Name "ValueError" p2] X.env := by rfl) (hpl : (backTo pos (starEach [.Name "ValueError" p2] X.env)).any (·.1) = false := by rfl) :
    DE g X (.Call (.Name "isinstance" p3) [.Name n p1, .Name "ValueError" p2] [] pos) (fC (.bool true)) := by
  obtain ⟨C1, fI, fd, T⟩ := S
  have e1 := T.g; rw [hC] at e1; cases e1
  exact de_isD hpn T.ec hz hv hp hT hg hm hx hTy (fun u r => r) T.ve he hpl
theorem de_amountT {X : Cx} {A : List Str} {a C dx : Addr} {oe : Obj} {pn : List (Addr × Obj)} {i : Nat} {n x : Str} {p q : Int} (S : TmSet X.prog X.w X.K X.mg A x PEa mid) (hC : X.mg x = some (.ref C)) (hz : Zc (.ref C) (some dx) oe) (hf : ∃ vs, oe.data = .fields vs) (hp : g.pn = ([i], (fun _ => V.ref a), g.pn.2.2)) (hT : (dx, fldS p q) ∈ g.pn.2.2)
    (he : PE (X.suite a ((a, oe) :: pn)) (.Name n p1) (tVar i)) (hb : attributeBase (.Name n p1) "amount" X.env (eval (.Name n p1) X.env) = eval (.Name n p1) X.env := by rfl) :
    DE g (X.suite a ((a, oe) :: pn)) (.Attribute (.Name n p1) "amount" pos) (fC (.int p)) := by
  obtain ⟨C1, fI, fd, T⟩ := S
  have e1 := T.g; rw [hC] at e1; cases e1
  exact de_amount T.xf T.na hz hf hp hT he hb
theorem de_limitT {X : Cx} {A : List Str} {a C dx : Addr} {oe : Obj} {pn : List (Addr × Obj)} {i : Nat} {n x : Str} {p q : Int} (S : TmSet X.prog X.w X.K X.mg A x PEa mid) (hC : X.mg x = some (.ref C)) (hz : Zc (.ref C) (some dx) oe) (hf : ∃ vs, oe.data = .fields vs) (hp : g.pn = ([i], (fun _ => V.ref a), g.pn.2.2)) (hT : (dx, fldS p q) ∈ g.pn.2.2)
    (he : PE (X.suite a ((a, oe) :: pn)) (.Name n p1) (tVar i)) (hb : attributeBase (.Name n p1) "limit" X.env (eval (.Name n p1) X.env) = eval (.Name n p1) X.env := by rfl) :
    DE g (X.suite a ((a, oe) :: pn)) (.Attribute (.Name n p1) "limit" pos) (fC (.int q)) := by
  obtain ⟨C1, fI, fd, T⟩ := S
  have e1 := T.g; rw [hC] at e1; cases e1
  exact de_limit T.xf T.nl hz hf hp hT he hb
end
end Dy
namespace Dy
open PySem PySem.Spec PyProof.Rows L2
open LamX (CodeO TabB LamS lamEnv lamCx)
def is2 : List PyData → Bool
  | [.int _, .int _] => true
  | _ => false
theorem is2_ok {xs : List PyData} (h : is2 xs = true) : ∃ p q, xs = [.int p, .int q] := by
  unfold is2 at h
  split at h
  · exact ⟨_, _, rfl⟩
  · cases h
/-- n: how many names the def has; L: what may be raised without fields, LT: with two numbers as fields; caps: what is captured; ws: all other names of the caller -/
def fSaidT (n : Nat) (L LT : List Str) (caps ws : List Nat) (f : EF) (h : Exn → SF) : EF := fun env =>
  if allF (wipeE (frzE env caps) ws) = true then (match f (wipeE (frzE env caps) ws) with
    | .ok r => (match pReprD r.1.data with
      | some (.fr (.str x)) => .ok (.fr (.str x), frzE env caps)
      | _ => .no)
    | .er y => if (y.cls ∈ L ∧ y.args = []) ∨ (y.cls ∈ LT ∧ is2 y.args = true) then (match h y (List.replicate n none) with
      | .ok (.rt o, _) => .ok (.fr o.data, frzE env caps)
      | _ => .no) else .no
    | .no => .no) else .no
section
variable {g : G} {X : Cx}
theorem de_saidT {xs aN n ex : Str} {gS c P PE : Addr} {fd : FuncData} {st : Stmt} {Ng : List Str} {k i : Nat} {L LT : List Str} {caps ws : List Nat} {fb : EF} {h : Exn → SF} {params : Arguments} {body : Expr} {scope : Scope} {suite : List Stmt} {b₀ : Stmt} {p pos lpos p1 p2 p3 p4 p5 p6 p7 p8 : Pos}
    (hg : Gl X xs) (hm : X.mg xs = some (.ref gS)) (hk : PySem.W.keepIn X.K (.ref gS) = true) (F : Fun X.K xs xs st gS fd) (hb : Binds X.K fd [aN] []) (S : FnScope Ng [aN] (defScope st))
    (hbg : defBody st = [.Try [.Return (some (.Call (.Name "repr" p1) [.Call (.Name aN p2) [] [] p3] [] p4)) p5] [.ExceptHandler (some (.Name ex p6)) (some n) (b₀ :: suite) p7] [] [] p8])
    (hN0 : Ng[0]? = some aN) (hva : Vis (defScope st) aN) (hNi : Ng[i]? = some n) (hln : (defScope st).names.lookup n = some .local) (hgr : (defScope st).names.lookup ("repr" : Str) = some .globalImplicit) (hge : (defScope st).names.lookup ex = some .globalImplicit) (hmr : X.mg "repr" = none) (hmE : X.mg ex = some (.ref PE))
    (TB : TabB X.base X.mg c P) (hcode : X.env.code = .ref c) (hmT : (P, lamQ X) ∈ g.pn.2.2) (hu : ∀ p ∈ g.pn.2.2, p.1 = P → p.2 = lamQ X) (hgd : X.A.guards = some []) (hr : Room (k + 2) X.A) (LS : LamS X.env.scope scope) (hdef : defaultsOf params X.env = ([], []))
    (hbind : ∀ (q : Str) (cl : List (Str × Addr)) (pm cv ctv : Value), bindArgs (PySem.W.kla_fn "<lambda>" q params body scope cl pm cv ctv) ⟨[], []⟩ = pure [])
    (hL : ∀ y ∈ L, ∃ C, TryX X.K X.mg PE y C) (hLT : ∀ y ∈ LT, ∃ C, TryX X.K X.mg PE y C)
    (hbody : ∀ (A : Around) (outer : List PySem.Env) (s : Shared) (H : Hp) (E : XK) (f c' : Addr), (A.deeper (lamEnv X scope s.heap.objs.size f c')).guards = some [] → Room k (A.deeper (lamEnv X scope s.heap.objs.size f c')) → DE ⟨g.K, g.mg, ([], (fun _ => .non), g.pn.2.2), E⟩ (lamCx X A outer s H E scope f c') body fb)
    (hsu : ∀ (cdv : Value) (A : Around) (outer : List PySem.Env) (s : Shared) (H : Hp), (A.deeper (envOfC xs (defScope st) s.heap.objs.size gS cdv)).guards = some [] → Room (k + 1) (A.deeper (envOfC xs (defScope st) s.heap.objs.size gS cdv)) → ∀ (a : Addr) (oe : Obj) (pn : List (Addr × Obj)) (y : Exn) (C : Addr), y.cls ∈ L → y.args = [] → X.mg y.cls = some (.ref C) → Zc (.ref C) none oe → (∃ vs, oe.data = .fields vs) →
      DSs ⟨g.K, g.mg, ([i], (fun _ => .ref a), g.pn.2.2), fun _ _ _ => False⟩ ((cxOf (L2.CX X.prog X.w) X.prog X.w X.K X.mg X.base Ng xs (defScope st) gS cdv A outer s H (fun _ _ _ => False)).suite a ((a, oe) :: pn)) (b₀ :: suite) (h y))
    (hsT : ∀ (cdv : Value) (A : Around) (outer : List PySem.Env) (s : Shared) (H : Hp), (A.deeper (envOfC xs (defScope st) s.heap.objs.size gS cdv)).guards = some [] → Room (k + 1) (A.deeper (envOfC xs (defScope st) s.heap.objs.size gS cdv)) → ∀ (a : Addr) (oe : Obj) (pn : List (Addr × Obj)) (y : Exn) (C dx : Addr) (p q : Int), y.cls ∈ LT → y.args = [.int p, .int q] → X.mg y.cls = some (.ref C) → Zc (.ref C) (some dx) oe → (∃ vs, oe.data = .fields vs) →
      DSs ⟨g.K, g.mg, ([i], (fun _ => .ref a), (dx, fldS p q) :: g.pn.2.2), fun _ _ _ => False⟩ ((cxOf (L2.CX X.prog X.w) X.prog X.w X.K X.mg X.base Ng xs (defScope st) gS cdv A outer s H (fun _ _ _ => False)).suite a ((a, oe) :: pn)) (b₀ :: suite) (h y))
    (hK : X.K = g.K := by rfl) (hM : g.mg = X.mg := by rfl) (hdb : (xs == ("__debug__" : Str)) = false := by decide) (hdb2 : (ex == ("__debug__" : Str)) = false := by decide) (hda : (aN == ("__debug__" : Str)) = false := by decide) (hdc : (aN == ("__classdict__" : Str)) = false := by decide) :
    DE g X (.Call (.Name xs p) [.Lambda params body scope lpos] [] pos) (fSaidT Ng.length L LT caps ws fb h) := by
  refine ⟨fun pins s σ H Q J hh => ?_⟩
  obtain ⟨I, env, F0, sim, pp⟩ := hh
  obtain ⟨ps, hP, _, ht, hcodes⟩ := sim.tab.cod hmT (lam_nf _)
  refine wpAny_Call_Name_kw (ld_glob J hg hm ?_ hdb)
  refine PySem.W.callWith_K (h₀ := X.base) J.ok.mod.kin hk ?_ (by rfl) (by rfl)
  show wpAny _ _ (spliced ((false, eval (.Lambda params body scope lpos) X.env) :: backTo pos (starEach [] X.env))) _ _ s
  refine Calls.spliced_cons (lam_mk J TB hcode hP ht (fun pos cv hc => let ⟨c, e1, e2⟩ := hcodes pos cv hc; ⟨c, e1, sim.sub _ _ e2⟩) hdef (LS.has J.ok) fun f c' pm ctv H1 s' J1 made hf hfn hfr => ?_)
  obtain ⟨I1, sim1, st1, hco⟩ := sim_made sim hmT hu hP made
  refine Calls.spliced_nil ⟨J1.kIn, ?_⟩
  obtain ⟨I2, F2, sim2, st2⟩ := AftS.freeze (g := g) ⟨I1, F0, sim1, Step.refl⟩ caps
  have hco2 : H1 c' = some (CodeO c' (lamQ X)) := sim1.sub _ _ hco
  have hin : i < Ng.length := by
    cases Nat.lt_or_ge i Ng.length with
    | inl z => exact z
    | inr z => rw [List.getElem?_eq_none z] at hNi; cases hNi
  unfold fSaidT at pp
  by_cases hall : allF (wipeE (frzE env caps) ws) = true
  · rw [if_pos hall] at pp
    have simL := sim_allF (sim2.forget ws) hall (fun _ => .non)
    -- what is asked behind: the frame as it was, the names frozen
    have fin : ∀ {I' H' : Hp} {S' : Addr → Prop} {d : PyData} {v : V}, Step I2 H1 (Ow fun _ => []) I' H' S' → Same I' H' → TabI g.pn.2.2 I' H' → Rp g.K I' v d → Aft g.K g.pn I H F0 σ (frzE env caps) (.fr d) v H' := fun st sub tb r => by
      obtain ⟨s5, st5⟩ := sim_over sim2 st sub tb
      exact AftD.aft ⟨_, _, r, s5, (st1.trans st2).trans st5⟩
    have rc : codeAny (model X.prog X.w) X.A (.call (.ref gS) ⟨[.ref f], []⟩) (CR (L2.CX X.prog X.w) X.stack X.prog X.w H1 s' Q (fun _ _ _ => False)) s' := by
      obtain ⟨oc, od, kV, doc, pm', an, cdv, ct, osl, rfl, lk, hcd⟩ := F.ex
      refine LamX.run_ofS (N := Ng) (ps := [aN]) (us := [.ref f]) (vs := [.ref f]) lk hcd S hr J1.env0 (hb s' [.ref f] J1.kIn rfl) (.cons rfl .nil) rfl fun hr' => ?_
      rw [hbg]
      have g1 : (X.A.deeper (envOfC xs (defScope st) s'.heap.objs.size gS cdv)).guards = some [] := hgd
      refine ⟨_, pss_one (ps_try_as (X := cxOf (L2.CX X.prog X.w) X.prog X.w X.K X.mg X.base Ng xs (defScope st) gS cdv X.A X.stack s' H1 (fun _ _ _ => False)) (c := .ref PE) (i := i) (Wout := fun _ _ _ _ => False)
        (tb := fun W D σZ HZ => σZ[0]? = some (some (.ref f)) ∧ HZ c' = some (CodeO c' (lamQ X)) ∧ tD ⟨g.K, g.mg, ([], (fun _ => .non), g.pn.2.2), wTry Ng.length W⟩ fb σ HZ fun v H' => rReprD X.K [v] H' D.rt)
        (ts := fun a cls d D σZ HZ => ∃ (y : Exn) (C : Addr), X.mg y.cls = some (.ref C) ∧ cls = .ref C ∧ ((y.cls ∈ L ∧ y.args = [] ∧ d = none ∧ tS ⟨g.K, g.mg, ([i], (fun _ => .ref a), g.pn.2.2), fun _ _ _ => False⟩ (h y) D σZ HZ) ∨
          ∃ (dx : Addr) (p q : Int), y.cls ∈ LT ∧ y.args = [.int p, .int q] ∧ d = some dx ∧ tS ⟨g.K, g.mg, ([i], (fun _ => .ref a), (dx, fldS p q) :: g.pn.2.2), fun _ _ _ => False⟩ (h y) D σZ HZ))
        rfl rfl S.nd hNi hln ⟨hge, hdb2, .inl hmE⟩ takes0 (fun W pn xe tk po => ?_) (fun a oe cls d pn hz hv => ⟨fun pins2 s2 σ2 H2 D2 J2 q2 => ?_⟩)), ?_⟩
      · have act := pe_actG (tb := tD ⟨g.K, g.mg, ([], (fun _ => .non), g.pn.2.2), wTry Ng.length W⟩ fb) (E := wTry Ng.length W) (p1 := p2) (p2 := p3) J1 LS hf hfn hfr (hbind _ _ _ _ _) (takes_len tk) (fun cls d σ' H' h hl => h σ' hl) hr' (fun s1 HZ hr2 => hbody _ _ s1 HZ (wTry Ng.length W) f c' hgd hr2) hN0 hva hda hdc
        refine PSs.imp (pss_one (ps_ret (pe_callB (cr_reprD (X := (cxOf (L2.CX X.prog X.w) X.prog X.w X.K X.mg X.base Ng xs (defScope st) gS cdv X.A X.stack s' H1 (fun _ _ _ => False)).tr pn xe) g1 hr') hgr hmr bt_repr (pa_cons act pa_nil)))) fun D σZ HZ q => ?_
        obtain ⟨q1, q2, q3⟩ := q
        exact ⟨q1, q2, q3⟩
      · obtain ⟨y, C, h2, rfl, q2⟩ := q2
        rcases q2 with ⟨h1, h0, rfl, q2⟩ | ⟨dx, pp1, qq1, h1, ha, rfl, q2⟩
        · exact (hsu cdv X.A X.stack s' H1 g1 hr' a oe pn y C h1 h0 h2 hz hv).run pins2 s2 σ2 H2 D2 J2 q2
        · exact (hsT cdv X.A X.stack s' H1 g1 hr' a oe pn y C dx pp1 qq1 h1 ha h2 hz hv).run pins2 s2 σ2 H2 D2 J2 q2
      · refine ⟨?_, hco2, I2, wipeE (frzE env caps) ws, fun _ => [], simL, ?_⟩
        · unfold L2.start; rfl
        · cases qf : fb (wipeE (frzE env caps) ws) with
          | no => rw [qf] at pp; exact pp
          | ok r =>
            rw [qf] at pp
            intro v H' af
            obtain ⟨I3, F3, rp, s3, st3⟩ := af.frz
            simp only at pp
            split at pp
            · rename_i x hx
              rw [hK]
              refine os_reprD [v] [r.1.data] I3 H' Q _ s3.sub (.cons (.inl rp) .nil) hx fun v2 H2 I4 R gr => ?_
              obtain ⟨I5, F5, rp5, s5, st5⟩ := (gr.aft s3).frz
              exact pp v2 H2 (fin (st3.trans st5) s5.sub s5.tab rp5)
            · exact pp.elim
          | er y =>
            rw [qf] at pp
            simp only at pp
            intro H' cls d er xr σ' hl
            obtain ⟨C, e1, rfl, e3, e4⟩ := xr
            split at pp
            · rename_i hy
              rcases hy with hy | hy
              · obtain ⟨C', T⟩ := hL y.cls hy.1
                rw [hM] at e1
                have e2 := T.g
                rw [e1] at e2; cases e2
                refine ⟨true, T.m, fun _ a na => ?_, fun z => by cases z⟩
                obtain ⟨I', s2, tb, _, stp⟩ := er
                refine ⟨y, C, e1, rfl, .inl ⟨hy.1, hy.2, e3 hy.2, I', List.replicate Ng.length none, fun _ => [], sim_err s2 tb hl hin, ?_⟩⟩
                cases qh : h y (List.replicate Ng.length none) with
                | no => rw [qh] at pp; exact pp.elim
                | er z => rw [qh] at pp; exact pp.elim
                | ok r =>
                  rw [qh] at pp
                  obtain ⟨fl, e⟩ := r
                  cases fl with
                  | nx => exact pp.elim
                  | bk => exact pp.elim
                  | ct => exact pp.elim
                  | rt o =>
                    intro v σ2 H2 af
                    obtain ⟨I6, F6, rp6, s6, st6⟩ := af.frz
                    have stB := Step.trans (S1 := Ow fun _ => []) (stp.less fun a ha => by obtain ⟨j, hj⟩ := ha; cases hj) st6
                    exact pp v H2 (fin stB s6.sub s6.tab rp6)
              · obtain ⟨C', T⟩ := hLT y.cls hy.1
                obtain ⟨p1, q1, ha⟩ := is2_ok hy.2
                rw [hM] at e1
                have e2 := T.g
                rw [e1] at e2; cases e2
                obtain ⟨dx, fs, rfl, hx, l1, l2⟩ := e4 p1 q1 ha
                refine ⟨true, T.m, fun _ a na => ?_, fun z => by cases z⟩
                obtain ⟨I', s2, tb, fz, stp⟩ := er
                have tb2 : TabI ((dx, fldS p1 q1) :: g.pn.2.2) I' H' := fun pp hpp => by
                  rcases List.mem_cons.mp hpp with rfl | hpp
                  · rw [if_pos (isFld_S p1 q1)]
                    refine ⟨fs, fz dx fs rfl hx, fun a l e => ?_⟩
                    obtain ⟨rfl, rfl⟩ := fldS_inj e
                    exact ⟨l1, l2⟩
                  · exact tb pp hpp
                refine ⟨y, C, e1, rfl, .inr ⟨dx, p1, q1, hy.1, ha, rfl, I', List.replicate Ng.length none, fun _ => [], sim_err s2 tb2 hl hin, ?_⟩⟩
                cases qh : h y (List.replicate Ng.length none) with
                | no => rw [qh] at pp; exact pp.elim
                | er z => rw [qh] at pp; exact pp.elim
                | ok r =>
                  rw [qh] at pp
                  obtain ⟨fl, e⟩ := r
                  cases fl with
                  | nx => exact pp.elim
                  | bk => exact pp.elim
                  | ct => exact pp.elim
                  | rt o =>
                    intro v σ2 H2 af
                    obtain ⟨I6, F6, rp6, s6, st6⟩ := af.frz
                    have stB := Step.trans (S1 := Ow fun _ => []) (stp.less fun a ha => by obtain ⟨j, hj⟩ := ha; cases hj) st6
                    exact pp v H2 (fin stB s6.sub s6.tab.tail rp6)
            · exact pp.elim
    refine wpAny_call (codeAny_mono rc fun r s2 hq => ?_)
    cases r with
    | error e =>
      obtain ⟨_, _, _, _, _, _, _, _, _, _, _, _, z⟩ := hq
      exact z.elim
    | ok fl =>
      cases fl with
      | ret u => exact J1.after hq
      | next => exact hq.elim
      | brk => exact hq.elim
      | cont => exact hq.elim
  · rw [if_neg hall] at pp; exact pp.elim
end
end Dy
namespace Dy
open PySem PySem.Spec PyProof.Rows L2
abbrev FnT : Type := Option (Str × Str × Arguments × FuncBody × Scope × Addr × List Str × Addr)
def fnT (K : PySem.W.Frag) (p : Str × Option Str) : FnT := match K.lookup (He.fAd K p) with
  | some ⟨_, _, .func fd, _⟩ => some (fd.name, fd.qualname, fd.params, fd.body, fd.scope, fd.globals, fd.closure.map (·.1), fd.builtins)
  | _ => none
def oexB (K : PySem.W.Frag) (C : Addr) : Bool := match K.lookup C with
  | some ⟨.type c, _, .cls cd, sl⟩ => (match cd.mro, sl.toList with
    | .ref C' :: bm, [_, _, _, _, some (.builtin n), _] => decide (c = "type") && (decide (C' = C) && (decide (n = "ValueError.__new__") && (!cd.hasDel && (cd.hasDict && PySem.HandSPX.refsVE bm))))
    | _, _ => false)
  | _ => false
theorem oexB_ok {K : PySem.W.Frag} {C : Addr} (h : oexB K C = true) : ∃ nm q N bs bm sn sub ab col dd k0 k1 k2 k3 k5, K.lookup C = some (excClassObj nm q C N bs bm true sn sub ab col dd k0 k1 k2 k3 k5 "ValueError.__new__") ∧ PySem.HandSPX.refsVE bm = true := by
  unfold oexB at h
  split at h
  · rename_i c dd cd sl ho
    split at h
    · rename_i C' bm k0 k1 k2 k3 n k5 hm hs
      obtain ⟨h1, h⟩ := He.ba h
      obtain ⟨h2, h⟩ := He.ba h
      obtain ⟨h3, h⟩ := He.ba h
      obtain ⟨h4, h⟩ := He.ba h
      obtain ⟨h5, h6⟩ := He.ba h
      have e1 := of_decide_eq_true h1
      have e2 := of_decide_eq_true h2
      have e3 := of_decide_eq_true h3
      have e4 : cd.hasDel = false := by simpa using h4
      subst e1 e2 e3
      have es : sl = #[k0, k1, k2, k3, some (.builtin "ValueError.__new__"), k5] := Array.toList_inj.mp hs
      subst es
      obtain ⟨nm, bs, mro, N, q, hd, sn, sub, ab, col, del⟩ := cd
      dsimp only at hm e4 h5
      subst hm e4 h5
      exact ⟨nm, q, N, bs, bm, sn, sub, ab, col, dd, k0, k1, k2, k3, k5, ho, h6⟩
    · cases h
  · cases h
def clB (K : PySem.W.Frag) (fI C : Addr) (file qual : Str) : Bool := match K.lookup fI with
  | some ⟨_, _, .func fd, _⟩ => (match fd.closure, fd.code, fd.defaults with
    | [(_, cc)], .ref cda, .none => PySem.W.codeIn K (.ref cda) qual && ((match K.lookup cc with
      | some ⟨_, _, .cell (some (.ref D)), _⟩ => decide (D = C)
      | _ => false) && (match K.lookup cda with
      | some ⟨_, _, .fields vs, _⟩ => (match (vs[2]? : Option Value) with
        | some (Value.str f _) => decide (f = file)
        | _ => false)
      | _ => false))
    | _, _, _ => false)
  | _ => false
theorem clB_ok {K : PySem.W.Frag} {fI C : Addr} {file qual name : Str} {params : Arguments} {body : List Stmt} {scope : Scope} {x : Str} (hf : He.fAd K (x, some "__init__") = fI) (e : fnT K (x, some "__init__") = some (name, qual, params, FuncBody.stmts body, scope, mainGlobals, [("__class__" : Str)], builtinsNs)) (h : clB K fI C file qual = true) :
    ∃ oc od kV doc pm an cda ct cc osl, K.lookup fI = some ⟨oc, od, .func (PySem.W.ksFn name qual params body scope .none kV doc pm an (.ref cda) ct cc), osl⟩ ∧ PySem.W.codeIn K (.ref cda) qual = true ∧ (∃ cl cld csl, K.lookup cc = some ⟨cl, cld, .cell (some (.ref C)), csl⟩) ∧ ∃ oc2 od2 fvs csl2 tf, K.lookup cda = some ⟨oc2, od2, .fields fvs, csl2⟩ ∧ fvs[2]? = some (.str file tf) := by
  subst hf
  unfold fnT at e
  unfold clB at h
  cases q : K.lookup (He.fAd K (x, some "__init__")) with
  | none => rw [q] at h; cases h
  | some o =>
    obtain ⟨oc, od, dt, osl⟩ := o
    rw [q] at h e
    cases dt with
    | func fd =>
      obtain ⟨n1, n2, n3, n4, n5, n6, n7, n8, n9, n10, n11, n12, n13, n14, n15⟩ := fd
      have e2 : (some (n1, n2, n3, n4, n5, n6, n7.map (·.1), n15) : FnT) = some (name, qual, params, FuncBody.stmts body, scope, mainGlobals, [("__class__" : Str)], builtinsNs) := e
      simp only [Option.some.injEq, Prod.mk.injEq] at e2
      obtain ⟨h1, h2, h3, h4, h5, h6, h7, h8⟩ := e2
      subst h1 h2 h3 h4 h5 h6 h8
      dsimp only at h
      split at h
      · rename_i nm cc cda
        simp only [List.map_cons, List.map_nil, List.cons.injEq, and_true] at h7
        subst h7
        obtain ⟨k1, h⟩ := He.ba h
        obtain ⟨k2, k3⟩ := He.ba h
        refine ⟨oc, od, n9, n10, n11, n12, cda, n14, cc, osl, rfl, k1, ?_, ?_⟩
        · split at k2
          · rename_i cl cld D csl hc
            have := of_decide_eq_true k2
            subst this
            exact ⟨cl, cld, csl, hc⟩
          · cases k2
        · split at k3
          · rename_i oc2 od2 vs csl2 hc
            split at k3
            · rename_i f tf hv
              have := of_decide_eq_true k3
              subst this
              exact ⟨oc2, od2, vs, csl2, tf, hc, hv⟩
            · cases k3
          · cases k3
      · cases h
    | _ => cases h
def tmB (file qual : Str) (A : List Str) (x pe : Str) (K : PySem.W.Frag) : Bool :=
  (He.Fa.glo x).ok K && (excB K (He.ga K x) && ((He.Fa.exm x pe true).ok K && (decide (PySem.W.kitOne K (.ref (He.ga K x)) (.type "ValueError") = some true) && ((A.all fun y => (He.Fa.glo y).ok K && decide (PySem.W.kitOne K (.ref (He.ga K x)) (.ref (He.ga K y)) = some (decide (x = y)))) &&
  (oexB K (He.ga K x) && (He.eqO (PySem.W.findIn K (.ref (He.ga K x)) "__setattr__") (some (some (.builtin "object.__setattr__"))) && (decide (PySem.W.subIn K (.ref (He.ga K x)) (.type "BaseException") = some true) && (decide (PySem.W.typeIn K (.ref (He.ga K x)) = some (.type "type")) && (PySem.W.keepIn K (.ref (He.ga K x)) &&
  (He.eqO (PySem.W.findIn K (.ref (He.ga K x)) "__init__") (some (some (.ref (He.ma K (He.ga K x) "__init__")))) && (decide (PySem.W.typeIn K (.ref (He.ma K (He.ga K x) "__init__")) = some (.type "function")) && (xfB K (He.ga K x) && (He.eqO (PySem.W.findIn K (.ref (He.ga K x)) "amount") (some none) && (He.eqO (PySem.W.findIn K (.ref (He.ga K x)) "limit") (some none) &&
  (clB K (He.ma K (He.ga K x) "__init__") (He.ga K x) file qual && ((He.Fa.free "super").ok K && ((PySem.W.clsIn K (He.ga K x)).isSome && (decide (PySem.W.mroIn K (He.ga K x) (.ref (He.ga K x)) = some true) && (He.eqO (PySem.W.nsIn K cStatics "thirdparty.any") (some none) &&
  (He.eqO (PySem.W.ks_superIn K (He.ga K x) (He.ga K x) "__init__") (some (some (.builtin "ValueError.__init__"))) && decide (PySem.W.subIn K (.ref (He.ga K x)) (.type "ValueError") = some true)))))))))))))))))))))
section
variable {q0 q1 q2 q3 q4 q5 q6 q7 q8 q9 q10 r1 r2 r3 r4 t1 t2 t3 t4 : Pos} {j : Nat} {mid : Str}
theorem tm_of {P : Program} {w : World} {K : PySem.W.Frag} {h : Heap} {mg : Str → Option Value} {A : List Str} {x pe file name qual : Str} {params : Arguments} {scope : Scope} {ar : Arg} {pl : Sem Bool} (X : K.In h) (G : h.Ns mainGlobals mg)
    (e : fnT K (x, some "__init__") = some (name, qual, params, FuncBody.stmts (tmBody q0 q1 q2 q3 q4 q5 q6 q7 q8 q9 q10 r1 r2 r3 r4 t1 t2 t3 t4 j mid), scope, mainGlobals, [("__class__" : Str)], builtinsNs)) (b : tmB file qual A x pe K = true) (S : SScope tmN scope)
    (hbd : ∀ (kV doc pm : Value) (an : Option Addr) (cdv ct : Value) (cc : Addr) (us : List Value), us.length = 3 → bindArgs (PySem.W.ksFn name qual params (tmBody q0 q1 q2 q3 q4 q5 q6 q7 q8 q9 q10 r1 r2 r3 r4 t1 t2 t3 t4 j mid) scope .none kV doc pm an cdv ct cc) ⟨us, []⟩ = pure (tmN.zip us))
    (hfile : ((P.main.file : Str) == file) = true) (har : (params.posonlyargs ++ params.args).head? = some ar) (hself : ar.arg = "self") (hks : scope.names.lookup ("super" : Str) = some .globalImplicit) (hkc : scope.names.lookup ("__class__" : Str) = some .free)
    (top : (P.main.scope.names.lookup ("super" : Str)).isSome = false) (ml : mid.length ≤ 1000)
    (hi : ∀ L fI cda cc, interactive (PySem.W.ksEnv qual scope L fI (.ref cda) cc) = false)
    (hev : ∀ L fI cda cc, eval (.Call (.Attribute (.Call (.Name "super" q0) [] [] q1) "__init__" q2) [tmTxt q3 q4 q5 q6 q7 q8 j mid] [] q9) (PySem.W.ksEnv qual scope L fI (.ref cda) cc) = (do
      let ov ← attributeBase (.Call (.Name "super" q0) [] [] q1) "__init__" (PySem.W.ksEnv qual scope L fI (.ref cda) cc) (eval (.Call (.Name "super" q0) [] [] q1) (PySem.W.ksEnv qual scope L fI (.ref cda) cc))
      standAt q2.atName
      let (f, first) ← holding [ov] (getMethod ov "__init__" pl)
      callWith q9 f first (backTo q9 (starEach [tmTxt q3 q4 q5 q6 q7 q8 j mid] (PySem.W.ksEnv qual scope L fI (.ref cda) cc))) [])) : TmSet P w K mg A x (He.ga K pe) mid := by
  unfold tmB at b
  obtain ⟨b1, b⟩ := He.ba b
  obtain ⟨b2, b⟩ := He.ba b
  obtain ⟨b3, b⟩ := He.ba b
  obtain ⟨b4, b⟩ := He.ba b
  obtain ⟨b5, b⟩ := He.ba b
  obtain ⟨b6, b⟩ := He.ba b
  obtain ⟨b7, b⟩ := He.ba b
  obtain ⟨b8, b⟩ := He.ba b
  obtain ⟨b9, b⟩ := He.ba b
  obtain ⟨b10, b⟩ := He.ba b
  obtain ⟨b11, b⟩ := He.ba b
  obtain ⟨b12, b⟩ := He.ba b
  obtain ⟨b13, b⟩ := He.ba b
  obtain ⟨b14, b⟩ := He.ba b
  obtain ⟨b15, b⟩ := He.ba b
  obtain ⟨b16, b⟩ := He.ba b
  obtain ⟨b17, b⟩ := He.ba b
  obtain ⟨b18, b⟩ := He.ba b
  obtain ⟨b19, b⟩ := He.ba b
  obtain ⟨b20, b⟩ := He.ba b
  obtain ⟨b21, b22⟩ := He.ba b
  obtain ⟨oc, od, kV, doc, pm, an, cda, ct, cc, osl, lk, hcd, ⟨cl, cld, csl, hc⟩, oc2, od2, fvs, csl2, tf, hco, hfv⟩ := clB_ok (x := x) rfl e b16
  have ox : OexC K (He.ga K x) := ⟨oexB_ok b6, He.eqO_ok b7, of_decide_eq_true b8, of_decide_eq_true b9, b10⟩
  refine ⟨He.ga K x, He.ma K (He.ga K x) "__init__", _, ⟨He.glo_ok X G b1, excB_ok b2, He.exm_ok b3, of_decide_eq_true b4, fun y hy => ?_, ox, He.eqO_ok b11, of_decide_eq_true b12, xfB_ok b13, He.eqO_ok b14, He.eqO_ok b15, Binds.all fun us hl => hbd kV doc pm an (.ref cda) ct cc us hl, fun base CX k => ?_, ml⟩⟩
  · obtain ⟨d1, d2⟩ := He.ba (List.all_eq_true.mp b5 y hy)
    exact ⟨He.ga K y, He.glo_ok X G d1, of_decide_eq_true d2⟩
  · exact fn_tm lk hcd S hc hco hfv hfile har hself hks hkc top (He.free_ok X G b17) (Option.isSome_iff_exists.mp b18) (of_decide_eq_true b19) ox (He.eqO_ok b20) (He.eqO_ok b21) (of_decide_eq_true b22) (He.eqO_ok b14) (He.eqO_ok b15) (fun L => hi L _ _ _) (fun L => hev L _ _ _)
end
def frY (g : Addr → Option Obj) (n : Nat) : PySem.W.Frag := He.frT g (cStatics :: He.asD g n)
abbrev AlY : Type := He.AlX × FnT
def obsY (n : Nat) (fa : List He.Fa) (fn : List He.DefD) (ts : List He.Tab) (tf : List He.Defn) (ex : PySem.W.Frag → Bool) (x : Str) (g : Addr → Option Obj) : AlY :=
  ((He.obsT fa fn ts (frY g n), ex (frY g n) && He.tabsB g tf (frY g n)), fnT (frY g n) (x, some "__init__"))
theorem saysX_as {as : List Addr} {fa : List He.Fa} {fn : List He.DefD} {ts : List He.Tab} {tf : List He.Defn} {ex : PySem.W.Frag → Bool} {w : World} {h : Heap} (e1 : He.obsT fa fn ts (He.frT h.get? as) = He.valT fn ts w) (e2 : (ex (He.frT h.get? as) && He.tabsB h.get? tf (He.frT h.get? as)) = true) : He.SaysX fa fn ts tf ex w h (He.frT h.get? as) := by
  obtain ⟨h1, h2⟩ := He.ba e2
  have key : ∀ p ∈ tf, PySem.W.codeHdIn (He.frT h.get? as) (He.cT (He.frT h.get? as) p).1 (He.cT (He.frT h.get? as) p).2 = true ∧ ∃ o, h.get? (He.cT (He.frT h.get? as) p).2 = some o ∧ He.emptyTab o = true := fun p hp => by
    obtain ⟨z1, z2⟩ := He.ba (List.all_eq_true.mp h2 p hp)
    refine ⟨z1, ?_⟩
    cases q : h.get? (He.cT (He.frT h.get? as) p).2 with
    | none => rw [q] at z2; cases z2
    | some o => rw [q] at z2; exact ⟨o, rfl, z2⟩
  refine ⟨e1, h1, fun p hp => (key p hp).1, fun p hp => ?_, fun p hp => ?_⟩
  · obtain ⟨_, o, q, z⟩ := key p hp
    exact He.frT_none q z
  · obtain ⟨_, o, q, z⟩ := key p hp
    rw [q, He.emptyTab_eq z]
def hookY (n : Nat) (fa : List He.Fa) (fn : List He.DefD) (ts : List He.Tab) (tf : List He.Defn) (ex : PySem.W.Frag → Bool) (x : Str) (tv : FnT) : PySem.W.Hook where
  α := AlY
  obs := fun s => obsY n fa fn ts tf ex x s.heap.get?
  val := fun w => (He.valX fn ts w, tv)
  says := fun w h => ∃ K : PySem.W.Frag, K.In h ∧ He.SaysX fa fn ts tf ex w h K ∧ fnT K (x, some "__init__") = tv
  of := fun w s e => by
    have e1 := congrArg (fun z : AlY => z.1.1) e
    have e2 := congrArg (fun z : AlY => z.1.2) e
    have e3 := congrArg (fun z : AlY => z.2) e
    exact ⟨frY s.heap.get? n, He.frT_in, saysX_as e1 e2, e3⟩
  keeps := fun _ _ _ ⟨K, hK, c, e⟩ k => ⟨K, PySem.W.Frag.In.keeps hK k, ⟨c.t, c.more, c.hd, c.out, fun p hp => k _ _ (c.empty p hp)⟩, e⟩
theorem obsY_eq {n : Nat} {fa : List He.Fa} {fn : List He.DefD} {ts : List He.Tab} {tf : List He.Defn} {ex : PySem.W.Frag → Bool} {x : Str} {tv : FnT} {g : Addr → Option Obj} {s : Shared} (h : ∀ a, g a = s.heap.get? a) : obsY n fa fn ts tf ex x g = (hookY n fa fn ts tf ex x tv).obs s := by
  have e : g = s.heap.get? := funext h
  rw [e] <;> rfl
end Dy
namespace Dy
open PySem PySem.Spec PyProof.Rows L2
/-- what reads the fields, if there are any -/
def fTm (y : Exn) (f : Int → Int → EF) : EF := match y.args with
  | [.int p, .int q] => f p q
  | _ => fNoE
section
variable {g : G} {X : Cx} {e : Expr} {y : Exn} {f : Int → Int → EF} {p q : Int}
theorem de_tm0 (h : y.args = []) : DE g X e (fTm y f) := by unfold fTm; rw [h]; exact de_no
theorem de_tm1 {c : Str} (d : DE g X e (f p q)) : DE g X e (fTm ⟨c, [.int p, .int q]⟩ f) := d
end
theorem tm_try {P : Program} {w : World} {K : PySem.W.Frag} {mg : Str → Option Value} {A : List Str} {x : Str} {PE : Addr} {mid : Str} (S : TmSet P w K mg A x PE mid) {y : Str} (h : y ∈ [x]) : ∃ C, TryX K mg PE y C := by
  obtain ⟨C, fI, fd, T⟩ := S
  simp at h
  subst h
  exact ⟨C, T.g, T.m⟩
def inCls (st : Stmt) (j : Nat) : Stmt := match st with
  | .ClassDef _ _ _ b _ _ _ _ _ _ _ => b.getD j (.Pass ⟨0, 0, 0, 0⟩)
  | s => s
theorem room1 {k : Nat} {A : Around} (h : Room k A) (l : 1 ≤ k) : Room (0 + 1) A := by
  obtain ⟨k, rfl⟩ : ∃ j, k = j + 1 := ⟨k - 1, by omega⟩
  exact h.mono (by omega)
theorem lookup_in {β : Type} {x : Str} {u : β} : ∀ {l : List (Str × β)}, l.lookup x = some u → (x, u) ∈ l
  | [], h => by cases h
  | (y, v) :: l, h => by
    rw [List.lookup_cons] at h
    split at h
    · rename_i e
      cases h
      rw [beq_iff_eq.mp e]; exact List.mem_cons_self
    · exact List.mem_cons_of_mem _ (lookup_in h)
theorem tm_free {l : List (Str × NameKind)} (h : (l.all fun z => decide (z.2 ≠ .free ∨ z.1 = ("__class__" : Str))) = true) {x : Str} (q : l.lookup x = some .free) : x = "__class__" := by
  have hm := lookup_in q
  have := of_decide_eq_true (List.all_eq_true.mp h _ hm)
  rcases this with z | z
  · exact absurd rfl z
  · exact z
section
variable {X : Cx}
theorem cr_reprH {k : Nat} (hg : X.A.guards = some []) (hr : L2H.RoomH k X.A) : CallR X (.builtin "repr") (rRepr X.K) := by
  intro pins s σ H xs us Q J r h
  obtain ⟨x, d, rfl, hd, h1, h2, h3, h4, q⟩ := h
  obtain ⟨u, rfl, ru⟩ := vals1 r
  obtain ⟨as, rd⟩ := Dp.reads J d x u hd ru
  have hu := hr.un
  cases rd with
  | none => exact PySem.P.repr_of_none ⟨.str _, H, J.tok _, ⟨_, rfl⟩, q⟩
  | bool b => cases b <;> exact PySem.P.repr_of_bool ⟨.str _, H, J.tok _, ⟨_, rfl⟩, q⟩
  | int i t => exact PySem.P.repr_of_int (by simpa [PyData.showable] using h1) ⟨.str _, H, J.tok _, ⟨_, rfl⟩, q⟩
  | str y t => exact PySem.P.repr_of_str ⟨.str _, H, J.tok _, ⟨_, rfl⟩, q⟩ h4
  | list e1 e2 e3 e4 =>
    exact repr_of_reads' (.list e1 e2 e3 e4) h1 (PyData.noDict_hsm h2) hg (by omega) (fun _ _ z => z) (fun h' u tk k => ⟨.str _, H, J.kept (t' := tk) fun b ob q => k b ob q, ⟨_, rfl⟩, q⟩) h4
  | tuple e1 e2 e3 e4 =>
    exact repr_of_reads' (.tuple e1 e2 e3 e4) h1 (PyData.noDict_hsm h2) hg (by omega) (fun _ _ z => z) (fun h' u tk k => ⟨.str _, H, J.kept (t' := tk) fun b ob q => k b ob q, ⟨_, rfl⟩, q⟩) h4
  | dict e1 e2 e3 e4 e5 => simp [PyData.hasDict] at h2
end
end Dy
namespace Q
open PySem Dy
open L2 (atI ixN)
abbrev fr (d : PyData) : Option O := some (.fr d)
abbrev ol (ds : List PyData) : Option O := some (.ol ds)
abbrev dN (n : Nat) : PyData := .int (n : Int)
section
variable (env : Dy.Env) (i j n m : Nat) (f k : EF) (s : SF) (vs : List Nat) (as : List AF)
theorem a_wp : fWp vs s env = s env >>= fun r => .ok (r.1, wipeE r.2 vs) := rfl
theorem a_fz : fFz vs s env = s env >>= fun r => .ok (r.1, frzE r.2 vs) := rfl
theorem a_fz0 : frzE env [] = env := rfl
theorem a_fz1 : frzE env (i :: vs) = match (frzE env vs)[i]? with | some (some o) => (frzE env vs).set i (some (.fr o.data)) | _ => frzE env vs := rfl
theorem a_ext : fExt i f env = match env[i]? with
  | some (some (.ol _)) => f env >>= fun r => match r.1 with
    | .ol ys => match r.2[i]? with
      | some (some (.ol xs)) => if xs.length + ys.length ≤ 1000000 then .ok (.nx, r.2.set i (some (.ol (xs ++ ys)))) else .no
      | _ => .no
    | _ => .no
  | _ => .no := rfl
theorem a_ins : fIns i as env = match env[i]? with
  | some (some (.ol _)) => evA as env >>= fun r => match r.2[i]? with
    | some (some (.ol xs)) => match insA xs (dvs r.1) with
      | some ys => .ok (.nx, r.2.set i (some (.ol ys)))
      | none => .no
    | _ => .no
  | _ => .no := rfl
theorem a_insA (xs : List PyData) (k : Int) (d : PyData) : insA xs (some [.int k, d]) = if xs.length < 1000000 ∧ 0 ≤ k ∧ k < 1000000 then some (xs.take k.toNat ++ [d] ++ xs.drop k.toNat) else none := rfl
theorem a_pop : fPop i env = match env[i]? with
  | some (some (.ol xs)) => match xs[xs.length - 1]? with
    | some d => .ok (.fr d, env.set i (some (.ol xs.dropLast)))
    | none => .no
  | _ => .no := rfl
theorem a_parN (is : List Nat) (fs : List EF) : fParN is fs env = evO fs env >>= fun r => match setO is r.1 r.2 with | some e => .ok (.nx, e) | none => .no := rfl
theorem a_evO0 : evO [] env = .ok ([], env) := rfl
theorem a_evO1 (fs : List EF) : evO (f :: fs) env = f env >>= fun r => evO fs r.2 >>= fun q => .ok (r.1 :: q.1, q.2) := rfl
theorem a_setO0 : setO [] [] env = some env := rfl
theorem a_setO1 (is : List Nat) (o : O) (os : List O) : setO (i :: is) (o :: os) env = if i < env.length then setO is os (env.set i (some o)) else none := rfl
theorem a_ix2 (y z : Dy.Env → Option Int) : fIx2 i y z env = match env[i]?, y env, z env with
  | some (some (.oo rs)), some k, some l => match ixN rs.length k with
    | some j => match rs[j]? with
      | some r => match atI r l with
        | some d => .ok (.fr d, env)
        | none => .no
      | none => .no
    | none => .no
  | _, _, _ => .no := rfl
theorem a_setII (y z : Dy.Env → Option Int) : fSetII i y z f env = f env >>= fun r => match r.2[i]?, y r.2, z r.2 with
  | some (some (.oo rs)), some k, some l => match ixN rs.length k with
    | some j => match rs[j]? with
      | some w => match ixN w.length l with
        | some m => .ok (.nx, r.2.set i (some (.oo (rs.set j (w.set m r.1.data)))))
        | none => .no
      | none => .no
    | none => .no
  | _, _, _ => .no := rfl
theorem a_zN : zN j env = match env[j]? with | some (some (.fr (.int n))) => some n | _ => none := rfl
theorem a_zC (n : Int) : zC n env = some n := rfl
theorem a_lcO (g : IF) (w : Tg) : fLcO g vs w f env = g env >>= fun r => lcO vs w f r.1 (wipeE r.2 vs) [] >>= fun q => .ok (.oo q.1, unw r.2 q.2 vs) := rfl
theorem q_starI (i : Int) (xs : List PyData) : pStar (.int i) (.list xs) = if xs.length < 100000 then some (.fr (.tuple (.int i :: xs))) else none := rfl
theorem q_starIT (i : Int) (xs : List PyData) : pStar (.int i) (.tuple xs) = if xs.length < 100000 then some (.fr (.tuple (.int i :: xs))) else none := rfl
theorem d_oo (rs : List (List PyData)) : (O.oo rs).data = .list (rs.map PyData.list) := rfl
end
structure Rk (n w : Nat) (d : PyData) : Prop where
  lay : d.canLay0 = true
  sho : d.showable = true
  dep : d.depth ≤ n
  wt : rw8 d ≤ w
theorem Rk.mono {n w n' w' : Nat} {d : PyData} (h : Rk n w d) (a : n ≤ n') (b : w ≤ w') : Rk n' w' d := ⟨h.lay, h.sho, Nat.le_trans h.dep a, Nat.le_trans h.wt b⟩
theorem Rk.bool (b : Bool) : Rk 0 5 (.bool b) := ⟨rfl, rfl, Nat.zero_le _, Nat.le_refl _⟩
theorem Rk.int {i : Int} (h : i.natAbs < 10 ^ 100) : Rk 0 1100 (.int i) := by
  have : i.natAbs.log2 < 1050 := Nat.lt_of_lt_of_le (PySem.Flt.log2_lt_of (k := 400) (by decide) (Nat.lt_trans h (by decide +kernel))) (by decide)
  refine ⟨rfl, decide_eq_true (by omega), Nat.zero_le _, ?_⟩
  show i.natAbs.log2 + 2 ≤ 1100; omega
theorem Rk.nat {i : Nat} (h : i < 10 ^ 100) : Rk 0 1100 (.int (i : Int)) := Rk.int (by simpa using h)
theorem Rk.all {n w : Nat} : ∀ {ds : List PyData}, (∀ d ∈ ds, Rk n w d) → PyData.canLayAll0 ds = true ∧ PyData.showableAll ds = true ∧ PyData.depthAll ds ≤ n ∧ rw8s ds ≤ ds.length * (w + 2)
  | [], _ => ⟨rfl, rfl, Nat.zero_le _, Nat.zero_le _⟩
  | d :: ds, h => by
    obtain ⟨a, b, c, e⟩ := Rk.all (ds := ds) fun x hx => h x (by simp [hx])
    have hd := h d (by simp)
    refine ⟨?_, ?_, ?_, ?_⟩
    · show (d.canLay0 && PyData.canLayAll0 ds) = true; rw [hd.lay, a]; rfl
    · show (d.showable && PyData.showableAll ds) = true; rw [hd.sho, b]; rfl
    · show max d.depth (PyData.depthAll ds) ≤ n; have := hd.dep; omega
    · show rw8 d + 2 + rw8s ds ≤ _; rw [List.length_cons, Nat.succ_mul]; have := hd.wt; omega
theorem Rk.tup {n w : Nat} {ds : List PyData} (h : ∀ d ∈ ds, Rk n w d) : Rk (n + 1) (ds.length * (w + 2) + 2) (.tuple ds) := by
  obtain ⟨a, b, c, e⟩ := Rk.all h
  exact ⟨by simpa [PyData.canLay0] using a, by simpa [PyData.showable] using b, by simp [PyData.depth]; omega, Nat.add_le_add_right e 2⟩
theorem Rk.lst {n w : Nat} {ds : List PyData} (h : ∀ d ∈ ds, Rk n w d) : Rk (n + 1) (ds.length * (w + 2) + 2) (.list ds) := by
  obtain ⟨a, b, c, e⟩ := Rk.all h
  exact ⟨by simpa [PyData.canLay0] using a, by simpa [PyData.showable] using b, by simp [PyData.depth]; omega, Nat.add_le_add_right e 2⟩
theorem Rk.shp {n w : Nat} {d : PyData} (h : Rk n w d) (hn : n ≤ 64) : shp d = true := by
  unfold Dy.shp SeqAt.shaped
  rw [h.lay, decide_eq_true (Nat.le_trans h.dep hn)]; rfl
theorem Rk.rOk {n w : Nat} {d : PyData} (h : Rk n w d) (hn : n ≤ 64) (hw : w ≤ 16777216) : rOk d = true := by
  unfold Dy.rOk
  rw [h.lay, h.sho, decide_eq_true ⟨Nat.le_trans h.dep hn, Nat.le_trans h.wt hw⟩]; rfl
theorem Rk.repr {n w : Nat} {d : PyData} (h : Rk n w d) (hn : n ≤ 64) (hw : w ≤ 16777216) : pRepr d = some (.fr (.str d.shown)) := by unfold pRepr; rw [if_pos (h.rOk hn hw)]
theorem pEq_int (i j : Int) : pEq (.int i) (.int j) = some (.fr (.bool (decide (i = j)))) := by
  have h : ∀ k : Int, shp (.int k) = true := fun k => by unfold shp SeqAt.shaped; simp [PyData.canLay0, PyData.depth]
  show (if shp (.int i) = true ∧ shp (.int j) = true then some (O.fr (PyData.bool (PyData.eqv (.int i) (.int j)))) else none) = _
  rw [if_pos ⟨h i, h j⟩]
  show some (O.fr (PyData.bool (PyData.eqv (.int i) (.int j)))) = _
  congr 3
theorem pNe_int (i j : Int) : pNe (.int i) (.int j) = some (.fr (.bool (!decide (i = j)))) := by
  have h : ∀ k : Int, shp (.int k) = true := fun k => by unfold shp SeqAt.shaped; simp [PyData.canLay0, PyData.depth]
  show (if shp (.int i) = true ∧ shp (.int j) = true then some (O.fr (PyData.bool (!PyData.eqv (.int i) (.int j)))) else none) = _
  rw [if_pos ⟨h i, h j⟩]
  show some (O.fr (PyData.bool (!PyData.eqv (.int i) (.int j)))) = _
  congr 3
theorem pEq_str (x y : Str) : pEq (.str x) (.str y) = some (.fr (.bool (decide (x = y)))) := rfl
theorem pNe_str (x y : Str) : pNe (.str x) (.str y) = some (.fr (.bool (!decide (x = y)))) := rfl
theorem pEq_T (xs ys : List PyData) (h : shp (.tuple xs) = true) (h' : shp (.tuple ys) = true) : pEq (.tuple xs) (.tuple ys) = some (.fr (.bool (PyData.eqvAll xs ys))) := by
  show (if _ then _ else _) = _
  rw [if_pos ⟨h, h'⟩]; simp [PyData.eqv]
theorem pEq_L (xs ys : List PyData) (h : shp (.list xs) = true) (h' : shp (.list ys) = true) : pEq (.list xs) (.list ys) = some (.fr (.bool (PyData.eqvAll xs ys))) := by
  show (if _ then _ else _) = _
  rw [if_pos ⟨h, h'⟩]; simp [PyData.eqv]
theorem pNe_T (xs ys : List PyData) (h : shp (.tuple xs) = true) (h' : shp (.tuple ys) = true) : pNe (.tuple xs) (.tuple ys) = some (.fr (.bool (!PyData.eqvAll xs ys))) := by
  show (if _ then _ else _) = _
  rw [if_pos ⟨h, h'⟩]; simp [PyData.eqv]
theorem pNe_L (xs ys : List PyData) (h : shp (.list xs) = true) (h' : shp (.list ys) = true) : pNe (.list xs) (.list ys) = some (.fr (.bool (!PyData.eqvAll xs ys))) := by
  show (if _ then _ else _) = _
  rw [if_pos ⟨h, h'⟩]; simp [PyData.eqv]
theorem eqvAll_nil (xs : List PyData) : PyData.eqvAll xs [] = xs.isEmpty := by cases xs <;> simp [PyData.eqvAll]
theorem shpT0 : shp (.tuple []) = true := (Rk.tup (n := 0) (w := 0) (ds := []) (by simp)).shp (by decide)
theorem shpL0 : shp (.list []) = true := (Rk.lst (n := 0) (w := 0) (ds := []) (by simp)).shp (by decide)
theorem pEq_T0 {xs : List PyData} (h : shp (.tuple xs) = true) : pEq (.tuple xs) (.tuple []) = some (.fr (.bool xs.isEmpty)) := by rw [pEq_T _ _ h shpT0, eqvAll_nil]
theorem pEq_L0 {xs : List PyData} (h : shp (.list xs) = true) : pEq (.list xs) (.list []) = some (.fr (.bool xs.isEmpty)) := by rw [pEq_L _ _ h shpL0, eqvAll_nil]
theorem pNe_L0 {xs : List PyData} (h : shp (.list xs) = true) : pNe (.list xs) (.list []) = some (.fr (.bool (!xs.isEmpty))) := by rw [pNe_L _ _ h shpL0, eqvAll_nil]
theorem pNe_nil : pNe (.list []) (.list []) = some (.fr (.bool false)) := by rw [pNe_L0 shpL0]; rfl
theorem atI_nat {α : Type} (xs : List α) (k : Nat) : atI xs (k : Int) = xs[k]? := by
  unfold atI ixN
  rw [if_pos (by omega)]
  by_cases h : k < xs.length
  · rw [if_pos (by omega)]; rfl
  · rw [if_neg (by omega), List.getElem?_eq_none (by omega)]; rfl
theorem atI_0 {α : Type} (xs : List α) : atI xs 0 = xs[0]? := atI_nat xs 0
theorem atI_1 {α : Type} (xs : List α) : atI xs 1 = xs[1]? := atI_nat xs 1
theorem atI_2 {α : Type} (xs : List α) : atI xs 2 = xs[2]? := atI_nat xs 2
theorem atI_3 {α : Type} (xs : List α) : atI xs 3 = xs[3]? := atI_nat xs 3
theorem atI_m1 {α : Type} (xs : List α) : atI xs (-1) = xs.getLast? := by
  cases h : xs.getLast? with
  | none =>
    have : xs = [] := by simpa using h
    subst this; rfl
  | some x =>
    obtain ⟨ys, rfl⟩ := List.getLast?_eq_some_iff.mp h
    exact L2.atI_last ys x
theorem pIxL (xs : List PyData) (i : Int) : pIx (.list xs) (.int i) = (atI xs i).map .fr := rfl
theorem pIxT (xs : List PyData) (i : Int) : pIx (.tuple xs) (.int i) = (atI xs i).map .fr := rfl
theorem cutHi {α : Type} (xs : List α) (k : Nat) : cutD xs none (some (k : Int)) = xs.take k := by
  unfold cutD
  rw [HT.sIx_none, HT.sIx_nat, List.drop_zero, Nat.sub_zero]
  by_cases h : k ≤ xs.length
  · rw [Nat.min_eq_left h]
  · rw [Nat.min_eq_right (by omega), List.take_length, List.take_of_length_le (by omega)]
theorem cutLo {α : Type} (xs : List α) (k : Nat) : cutD xs (some (k : Int)) none = xs.drop k := by
  unfold cutD
  rw [HT.sIx_none, HT.sIx_nat]
  by_cases h : k ≤ xs.length
  · rw [Nat.min_eq_left h, List.take_of_length_le (by simp)]
  · rw [Nat.min_eq_right (by omega), List.drop_of_length_le (Nat.le_refl _), List.drop_of_length_le (by omega), List.take_nil]
theorem cutLo1 {α : Type} (xs : List α) : cutD xs (some 1) none = xs.drop 1 := cutLo xs 1
theorem cutHi1 {α : Type} (xs : List α) : cutD xs none (some 1) = xs.take 1 := cutHi xs 1
theorem pSum_I (xs : List Int) : pSum (.list (xs.map PyData.int)) = some (.fr (.int xs.sum)) := by
  show (intsOf _).map _ = _
  rw [intsOf_map]; rfl
theorem pAll_B (xs : List Bool) : pAll (.list (xs.map PyData.bool)) = some (.fr (.bool (xs.all id))) := by
  show (boolsOf _).map _ = _
  rw [boolsOf_map]; rfl
theorem pAll_true {α : Type} (xs : List α) : pAll (.list (xs.map fun _ => .bool true)) = some (.fr (.bool true)) := by
  have e : xs.map (fun _ => PyData.bool true) = (xs.map fun _ => true).map PyData.bool := by simp
  rw [e, pAll_B]
  simp
theorem for_l {α σ : Type} {t : Tg} {body : SF} (enc : α → PyData) (S : σ → Dy.Env) (P : List α → σ → Prop) (xs : List α) {s : σ} (h0 : P [] s)
    (step : ∀ pre x post s, xs = pre ++ x :: post → P pre s → ∃ s', P (pre ++ [x]) s' ∧ (asT t (enc x) (S s) >>= body) = .ok (.nx, S s')) :
    ∃ s', P xs s' ∧ fFor t body (xs.map enc) (S s) = .ok (.nx, S s') := by
  suffices h : ∀ (post pre : List α) (s : σ), xs = pre ++ post → P pre s → ∃ s', P xs s' ∧ fFor t body (post.map enc) (S s) = .ok (.nx, S s') from h xs [] s rfl h0
  intro post
  induction post with
  | nil => intro pre s e hp; rw [List.append_nil] at e; subst e; exact ⟨s, hp, rfl⟩
  | cons x post ih =>
    intro pre s e hp
    obtain ⟨s1, p1, e1⟩ := step pre x post s e hp
    obtain ⟨s2, p2, e2⟩ := ih (pre ++ [x]) s1 (by rw [e]; simp) p1
    refine ⟨s2, p2, ?_⟩
    show (asT t (enc x) (S s) >>= fun e => body e >>= fun r => match r.1 with | .nx => fFor t body (post.map enc) r.2 | .ct => fFor t body (post.map enc) r.2 | .bk => .ok (.nx, r.2) | .rt o => .ok (.rt o, r.2)) = _
    cases q : asT t (enc x) (S s) with
    | no => rw [q] at e1; cases e1
    | er x => rw [q] at e1; cases e1
    | ok e =>
      rw [q, bind_ok] at e1
      rw [bind_ok, e1, bind_ok]
      exact e2
theorem for_st {α σ : Type} {t : Tg} {body : SF} {ds : List PyData} {env : Dy.Env} (enc : α → PyData) (S : σ → Dy.Env) (f : σ → α → σ) (xs : List α) (s : σ) (hd : ds = xs.map enc) (he : env = S s)
    (step : ∀ pre x post, xs = pre ++ x :: post → (asT t (enc x) (S (pre.foldl f s)) >>= body) = .ok (.nx, S (f (pre.foldl f s) x))) :
    fFor t body ds env = .ok (.nx, S (xs.foldl f s)) := by
  subst hd; subst he
  obtain ⟨s', p, e⟩ := for_l enc S (fun pre s' => s' = pre.foldl f s) xs (s := s) rfl (fun pre x post s' e hp => ⟨f s' x, by rw [hp, List.foldl_append]; rfl, by rw [hp]; exact step pre x post e⟩)
  rw [e, p]
theorem rng_eq (n : Nat) : rng 0 n = (List.range n).map dN := by unfold rng; simp
theorem for_r {σ : Type} {t : Tg} {body : SF} (S : σ → Dy.Env) (P : Nat → σ → Prop) (n : Nat) {s : σ} (h0 : P 0 s)
    (step : ∀ k s, k < n → P k s → ∃ s', P (k + 1) s' ∧ (asT t (.int (k : Int)) (S s) >>= body) = .ok (.nx, S s')) :
    ∃ s', P n s' ∧ fFor t body (rng 0 n) (S s) = .ok (.nx, S s') := by
  have e : rng 0 n = (List.range n).map fun k : Nat => PyData.int (k : Int) := by unfold rng; simp
  rw [e]
  obtain ⟨s', p, q⟩ := for_l (fun k : Nat => PyData.int (k : Int)) S (fun pre s => pre.length ≤ n ∧ P pre.length s) (List.range n) (s := s) ⟨Nat.zero_le _, h0⟩ (fun pre x post s e hp => by
    have hx : x = pre.length := by
      have h1 : (List.range n)[pre.length]? = some x := by rw [e]; simp
      obtain ⟨h2, h3⟩ := List.getElem?_eq_some_iff.mp h1
      rw [List.getElem_range] at h3; exact h3.symm
    have hn : pre.length < n := by
      have := congrArg List.length e
      simp at this; omega
    subst hx
    obtain ⟨s', p', q'⟩ := step pre.length s hn hp.2
    exact ⟨s', by simp; exact ⟨hn, p'⟩, q'⟩)
  simp only [List.length_range] at p
  exact ⟨s', p.2, q⟩
theorem lc_fl {α : Type} {vs : List Nat} {t : Tg} {test : TF} {elt : EF} {ds : List PyData} {e : Dy.Env} (enc : α → PyData) (g : α → Option PyData) (xs : List α) (hd : ds = xs.map enc)
    (hs : ∀ x ∈ xs, (asT t (enc x) e >>= fun e1 => test e1 >>= fun b => if b.1 = true then elt b.2 >>= fun r => Res.ok (some r.1.data, wipeE r.2 vs) else Res.ok (none, wipeE b.2 vs)) = .ok (g x, e)) (hl : xs.length ≤ 100000) :
    lcL vs t test elt ds e [] = .ok (xs.filterMap g, e) := by
  subst hd
  suffices h : ∀ (ys : List α) (acc : List PyData), (∀ x ∈ ys, x ∈ xs) → acc.length + ys.length ≤ 100000 → lcL vs t test elt (ys.map enc) e acc = .ok (acc ++ ys.filterMap g, e) by
    have := h xs [] (fun _ z => z) (by simpa using hl)
    simpa using this
  intro ys
  induction ys with
  | nil => intro acc _ _; simp [lcL]
  | cons y ys ih =>
    intro acc hm hl
    have hy := hs y (hm y (by simp))
    have ihy := fun acc => ih acc fun x hx => hm x (by simp [hx])
    rw [List.length_cons] at hl
    show (asT t (enc y) e >>= fun e1 => nE (test e1) >>= fun b => if b.1 = true then nE (elt b.2) >>= fun r => if acc.length < 100000 then lcL vs t test elt (ys.map enc) (wipeE r.2 vs) (acc ++ [r.1.data]) else .no else lcL vs t test elt (ys.map enc) (wipeE b.2 vs) acc) = _
    cases q : asT t (enc y) e with
    | no => rw [q] at hy; cases hy
    | er x => rw [q] at hy; cases hy
    | ok e1 =>
      rw [q, bind_ok] at hy
      rw [bind_ok]
      cases q2 : test e1 with
      | no => rw [q2] at hy; cases hy
      | er x => rw [q2] at hy; cases hy
      | ok b =>
        rw [q2, bind_ok] at hy
        show (if b.1 = true then _ else _) = _
        by_cases hb : b.1 = true
        · rw [if_pos hb] at hy ⊢
          cases q3 : elt b.2 with
          | no => rw [q3] at hy; cases hy
          | er x => rw [q3] at hy; cases hy
          | ok r =>
            rw [q3, bind_ok] at hy
            injection hy with hy
            have h1 := congrArg Prod.fst hy
            have h2 := congrArg Prod.snd hy
            show (if acc.length < 100000 then lcL vs t test elt (ys.map enc) (wipeE r.2 vs) (acc ++ [r.1.data]) else .no) = _
            dsimp only at h1 h2
            rw [if_pos (by omega), h2, ihy _ (by simp; omega), List.filterMap_cons, ← h1]
            simp
        · rw [if_neg hb] at hy ⊢
          injection hy with hy
          have h1 := congrArg Prod.fst hy
          have h2 := congrArg Prod.snd hy
          dsimp only at h1 h2
          rw [h2, ihy _ (by omega), List.filterMap_cons, ← h1]
theorem lc_tm {α : Type} {vs : List Nat} {t : Tg} {elt : EF} {ds : List PyData} {e : Dy.Env} (enc : α → PyData) (g : α → PyData) (xs : List α) (hd : ds = xs.map enc)
    (hs : ∀ x ∈ xs, (asT t (enc x) e >>= fun e1 => elt e1 >>= fun r => Res.ok (r.1.data, wipeE r.2 vs)) = .ok (g x, e)) (hl : xs.length ≤ 100000) :
    lcL vs t fYes elt ds e [] = .ok (xs.map g, e) := by
  rw [lc_fl (g := fun x => some (g x)) (enc := enc) (xs := xs) hd (fun x hx => ?_) hl]
  · simp
  · have h := hs x hx
    cases q : asT t (enc x) e with
    | no => rw [q] at h; cases h
    | er x => rw [q] at h; cases h
    | ok e1 =>
      rw [q, bind_ok] at h
      rw [bind_ok]
      show (if true = true then elt e1 >>= fun r => Res.ok (some r.1.data, wipeE r.2 vs) else Res.ok (none, wipeE e1 vs)) = _
      rw [if_pos rfl]
      cases q3 : elt e1 with
      | no => rw [q3] at h; cases h
      | er x => rw [q3] at h; cases h
      | ok r =>
        rw [q3, bind_ok] at h
        rw [bind_ok]
        injection h with h
        have h1 := congrArg Prod.fst h
        have h2 := congrArg Prod.snd h
        dsimp only at h1 h2
        rw [h1, h2]
/-- a comprehension over a range whose elements change a state -/
theorem lc_r {α σ : Type} {vs : List Nat} {t : Tg} {elt : EF} (enc : α → PyData) (S : σ → Dy.Env) (P : Nat → σ → Prop) (R : α → Prop) (n : Nat) {s : σ} (h0 : P 0 s) (hn : n ≤ 100000)
    (step : ∀ k s, k < n → P k s → ∃ x s', P (k + 1) s' ∧ R x ∧ (asT t (.int (k : Int)) (S s) >>= fun e1 => elt e1 >>= fun r => Res.ok (r.1.data, wipeE r.2 vs)) = .ok (enc x, S s')) :
    ∃ (xs : List α) (s' : σ), P n s' ∧ xs.length = n ∧ (∀ x ∈ xs, R x) ∧ lcL vs t fYes elt (rng 0 n) (S s) [] = .ok (xs.map enc, S s') := by
  obtain ⟨e, acc, h, xs, s', p, r, l, ea, ee⟩ := lc_inv (vs := vs) (t := t) (test := fYes) (elt := elt) (fun k e acc => ∃ (xs : List α) (s' : σ), P k s' ∧ (∀ x ∈ xs, R x) ∧ xs.length = k ∧ acc = xs.map enc ∧ e = S s') (rng 0 n) (env := S s) (acc := []) ⟨[], s, h0, by simp, rfl, rfl, rfl⟩ (fun k d e acc hd hP => by
    obtain ⟨xs, s1, p1, r1, l1, rfl, rfl⟩ := hP
    obtain ⟨hk, rfl⟩ := rng_at hd
    rw [Int.zero_add]
    obtain ⟨x, s2, p2, r2, e2⟩ := step k s1 hk p1
    cases q : asT t (.int (k : Int)) (S s1) with
    | no => rw [q] at e2; cases e2
    | er x => rw [q] at e2; cases e2
    | ok e1 =>
      rw [q, bind_ok] at e2
      refine ⟨e1, true, e1, rfl, rfl, fun z => (by cases z), fun _ => ?_⟩
      cases q3 : elt e1 with
      | no => rw [q3] at e2; cases e2
      | er x => rw [q3] at e2; cases e2
      | ok r =>
        rw [q3, bind_ok] at e2
        injection e2 with e2
        have h1 := congrArg Prod.fst e2
        have h2 := congrArg Prod.snd e2
        dsimp only at h1 h2
        refine ⟨r.1, r.2, rfl, by rw [List.length_map, l1]; omega, xs ++ [x], s2, p2, ?_, by simp [l1], by rw [h1]; simp, h2⟩
        intro y hy
        rcases List.mem_append.mp hy with z | z
        · exact r1 y z
        · simp at z; subst z; exact r2)
  rw [rng_len] at l p
  exact ⟨xs, s', p, l, r, by rw [h, ea, ee]⟩
theorem enumD_map {α : Type} (enc : α → PyData) (xs : List α) : ∀ k : Nat, enumD k (xs.map enc) = (List.zip (List.range' k xs.length) xs).map fun p => PyData.tuple [.int (p.1 : Int), enc p.2] := by
  induction xs with
  | nil => intro k; rfl
  | cons x xs ih => intro k; rw [List.length_cons, List.range'_succ, List.zip_cons_cons, List.map_cons, List.map_cons, ← ih (k + 1)]; rfl
/-- the items with their places -/
def ens {α : Type} (xs : List α) : List (Nat × α) := List.zip (List.range' 0 xs.length) xs
theorem ens_mem {α : Type} {xs : List α} {p : Nat × α} (h : p ∈ ens xs) : xs[p.1]? = some p.2 := by
  obtain ⟨k, hk⟩ := List.getElem?_of_mem h
  unfold ens at hk
  rw [List.getElem?_zip_eq_some] at hk
  obtain ⟨h1, h2⟩ := hk
  obtain ⟨h3, h4⟩ := List.getElem?_eq_some_iff.mp h1
  rw [List.getElem_range'] at h4
  have : k = p.1 := by omega
  rw [← this]; exact h2
theorem mem_ens {α : Type} {xs : List α} {k : Nat} {x : α} (h : xs[k]? = some x) : (k, x) ∈ ens xs := by
  have hk : k < xs.length := (List.getElem?_eq_some_iff.mp h).1
  refine List.mem_of_getElem? (i := k) ?_
  unfold ens
  rw [List.getElem?_zip_eq_some]
  refine ⟨?_, h⟩
  rw [List.getElem?_eq_some_iff]
  refine ⟨by simpa using hk, ?_⟩
  rw [List.getElem_range']; omega
theorem ens_len {α : Type} (xs : List α) : (ens xs).length = xs.length := by simp [ens]
theorem enumD_ens {α : Type} (enc : α → PyData) (xs : List α) : enumD 0 (xs.map enc) = (ens xs).map fun p => PyData.tuple [.int (p.1 : Int), enc p.2] := enumD_map enc xs 0
theorem lt_of_get {α : Type} {xs : List α} {k : Nat} {x : α} (h : xs[k]? = some x) : k < xs.length := (List.getElem?_eq_some_iff.mp h).1
theorem get_of_lt {α : Type} {xs : List α} {k : Nat} (h : k < xs.length) : ∃ x, xs[k]? = some x ∧ x ∈ xs := ⟨xs[k], List.getElem?_eq_getElem h, List.getElem_mem h⟩
theorem get_split {α : Type} {xs pre post : List α} {x : α} (h : xs = pre ++ x :: post) : xs[pre.length]? = some x := by rw [h]; simp
end Q
namespace Q
open PySem Dy
def b_is_between : SF := fRet (fAnd (fOp (on1 fun d => some (.fr (.bool (isA .int d)))) [.s 0]) (fAnd (fNotV (fOp (on1 fun d => some (.fr (.bool (isA .bool d)))) [.s 0])) (fChI (fun i j => decide (i ≤ j)) (fun i j => decide (i ≤ j)) (.s 1) (.s 0) (.s 2))))
def M_is_between : Fn := fnM 3 3 [] b_is_between
def E1_is_arities : EF := fCall M_is_between [.v (fV 1), .v (fC (.int 0)), .v (fC (.int 2))]
def b_is_arities : SF := fSeq (fIfS (fOrT (fNot (fB (fOp (on1 fun d => some (.fr (.bool (isA .tuple d)))) [.s 0]))) (fNot (fB (fChI (fun i j => decide (i ≤ j)) (fun i j => decide (i ≤ j)) (.v (fC (.int 1))) (.v (fOp (on1 pLen) [.s 0])) (.v (fC (.int 6))))))) (fRet (fC (.bool false))) (fSkip))
  (fRet (fOp (on1 pAll) [.v (fLc (fSq (.v (fV 0))) [1] (.nm 1) (fYes) (E1_is_arities))]))
def M_is_arities : Fn := fnM 1 2 [] b_is_arities
def E1_is_node : EF := fCall M_is_between [.v (fV 3), .v (fC (.int 0)), .v (fOp (on2 pSub) [.s 2, .v (fC (.int 1))])]
def b_is_node : SF := fSeq (fIfS (fOrT (fNot (fB (fOp (on1 fun d => some (.fr (.bool (isA .tuple d)))) [.s 1]))) (fOrT (fB (fOp (on2 pEq) [.s 1, .v (fOv pTup [])])) (fNot (fB (fCall M_is_between [.v (fOp (on2 pIx) [.s 1, .v (fC (.int 0))]), .v (fC (.int 0)), .v (fOp (on2 pSub) [.v (fOp (on1 pLen) [.s 0]), .v (fC (.int 1))])]))))) (fRet (fC (.bool false))) (fSkip))
  (fSeq (fIfS (fB (fOp (on2 pNe) [.v (fOp (on1 pLen) [.s 1]), .v (fOp (on2 pAdd) [.v (fC (.int 1)), .v (fOp (on2 pIx) [.s 0, .v (fOp (on2 pIx) [.s 1, .v (fC (.int 0))])])])])) (fRet (fC (.bool false))) (fSkip))
  (fRet (fOp (on1 pAll) [.v (fLc (fSq (.v (fOp (on2 pSl2l) [.s 1, .v (fC (.int 1))]))) [3] (.nm 3) (fYes) (E1_is_node))])))
def M_is_node : Fn := fnM 3 4 [] b_is_node
def E1_is_written : EF := fCall M_is_node [.v (fV 0), .v (fV 3), .v (fV 2)]
def b_is_written : SF := fSeq (fIfS (fOrT (fNot (fB (fOp (on1 fun d => some (.fr (.bool (isA .tuple d)))) [.s 1]))) (fB (fOp (on2 pEq) [.s 1, .v (fOv pTup [])]))) (fRet (fC (.bool false))) (fSkip))
  (fRet (fOp (on1 pAll) [.v (fLc (fEn (.v (fV 1))) [2, 3] (.tu [2, 3]) (fYes) (E1_is_written))]))
def M_is_written : Fn := fnM 2 4 [] b_is_written
def b__law_pen_2 : SF := fRet (fOv pLst [.v (fOp (pMax) [.v (fC (.int 0)), .v (fOp (on2 pSub) [.s 0, .v (fOp (on2 pPow) [.v (fC (.int 10)), .v (fC (.int 18))])])]), .v (fOp (on2 pAdd) [.v (fOp (on2 pMod) [.s 0, .v (fC (.int 2147483629))]), .v (fC (.int 1))]), .v (fC (.int 0))])
def M__law_pen_2 : Fn := fnM 1 1 [] b__law_pen_2
def b__law_cell : SF := fSeq (fIfS (fB (fOp (on2 (cmI (fun i j => decide (i < j)))) [.s 1, .v (fOp (on1 pLen) [.s 0])])) (fRet (fOp (on2 pIx) [.s 0, .s 1])) (fSkip))
  (fRet (fC (.int 0)))
def M__law_cell : Fn := fnM 2 2 [] b__law_cell
def b__law_draw_2 : SF := fSeq (fIfS (fB (fOp (on2 (cmI (fun i j => decide (j < i)))) [.v (fOp (on2 pIx) [.s 0, .v (fC (.int 0))]), .v (fC (.int 0))])) (fSeq (fSet 3 (fOp (on2 pMod) [.v (fOp (on2 pIx) [.s 0, .v (fC (.int 0))]), .s 1]))
  (fSeq (fSetI 0 (.v (fC (.int 0))) (fOp (on2 pDivW) [.v (fOp (on2 pIx) [.s 0, .v (fC (.int 0))]), .s 1]))
  (fRet (fM 3)))) (fSkip))
  (fSeq (fSetI 0 (.v (fC (.int 2))) (fOp (on2 pAdd) [.v (fOp (on2 pIx) [.s 0, .v (fC (.int 2))]), .v (fC (.int 1))]))
  (fSeq (fSetI 0 (.v (fC (.int 1))) (fOp (on2 pMod) [.v (fOp (on2 pAdd) [.v (fOp (on2 pAdd) [.v (fOp (on2 pMulA) [.v (fOp (on2 pIx) [.s 0, .v (fC (.int 1))]), .v (fC (.int 48271))]), .v (fOp (on2 pMulA) [.v (fC (.int 1009)), .v (fOp (on2 pIx) [.s 0, .v (fC (.int 2))])])]), .v (fC (.int 7))]), .v (fC (.int 2147483647))]))
  (fSeq (fSet 2 (fOp (on2 pMod) [.v (fOp (on2 pAdd) [.v (fOp (on2 pAdd) [.v (fOp (on2 pMulA) [.v (fOp (on2 pIx) [.s 0, .v (fC (.int 1))]), .v (fOp (on2 pIx) [.s 0, .v (fC (.int 1))])]), .v (fOp (on2 pMulA) [.v (fC (.int 69621)), .v (fOp (on2 pIx) [.s 0, .v (fC (.int 1))])])]), .v (fC (.int 11))]), .v (fC (.int 2147483629))]))
  (fSeq (fSet 2 (fOp (on2 pMod) [.v (fOp (on2 pAdd) [.v (fOp (on2 pMulA) [.s 2, .s 2]), .v (fOp (on2 pMulA) [.v (fC (.int 40014)), .s 2])]), .v (fC (.int 2147483587))]))
  (fRet (fOp (on2 pMod) [.v (fOp (on2 pDivW) [.s 2, .v (fC (.int 16))]), .s 1]))))))
def M__law_draw_2 : Fn := fnM 2 4 [0] b__law_draw_2
def b__law_pick_2 : SF := fRet (fOp (on2 pIx) [.s 1, .v (fCall M__law_draw_2 [.s 0, .v (fOp (on1 pLen) [.s 1])])])
def M__law_pick_2 : Fn := fnM 2 2 [0] b__law_pick_2
def E1__law_arities_2 : EF := fCall M__law_pick_2 [.s 0, .v (fOv pLst [.v (fC (.int 0)), .v (fC (.int 1)), .v (fC (.int 2)), .v (fC (.int 2))])]
def b__law_arities_2 : SF := fSeq (fFz [1] (fSet 1 (fLc (fR1 (.v (fCall M__law_draw_2 [.s 0, .v (fC (.int 4))]))) [2] (.nm 2) (fYes) (E1__law_arities_2))))
  (fSeq (fFz [1] (fSet 1 (fOp (on2 pAdd) [.s 1, .v (fOp (on2 pMulA) [.v (fOv pLst [.v (fC (.int 0))]), .v (fOp (on2 pAdd) [.v (fC (.int 1)), .v (fCall M__law_draw_2 [.s 0, .v (fC (.int 2))])])])])))
  (fRet (fOp (on1 pTuple) [.v (fIf (fB (fOp (on2 pEq) [.v (fCall M__law_draw_2 [.s 0, .v (fC (.int 2))]), .v (fC (.int 0))])) (fOp (on1 pRev) [.s 1]) (fV 1))])))
def M__law_arities_2 : Fn := fnM 1 3 [0] b__law_arities_2
abbrev V__law_arities_2 (pen_here : Option O := none) (found : Option O := none) (turn : Option O := none) : Dy.Env := [pen_here, found, turn]
end Q
namespace Q
open PySem Dy
open L2 (atI ixN)
/-- arities -/
structure ArOk (as : List Nat) : Prop where
  le2 : ∀ a ∈ as, a ≤ 2
  len : as.length ≤ 6
  pos : 0 < as.length
abbrev encA (as : List Nat) : PyData := .tuple (as.map dN)
theorem rkNs {as : List Nat} (h : ∀ a ∈ as, a < 1000000) : ∀ d ∈ as.map dN, Rk 0 1100 d := fun d hd => by
  obtain ⟨a, ha, rfl⟩ := List.mem_map.mp hd
  exact Rk.nat (Nat.lt_trans (h a ha) (by decide))
theorem between_ok {a lo hi : Int} : M_is_between [.fr (.int a), .fr (.int lo), .fr (.int hi)] = .ok (.fr (.bool (decide (lo ≤ a) && decide (a ≤ hi))), [.fr (.int a), .fr (.int lo), .fr (.int hi)]) := by
  by_cases h : lo ≤ a
  · simp [M_is_between, b_is_between, q_mulAI, q_mulAL, a_wb, q_divW, Function.comp_def, q_starI, q_starIT, a_wp, a_fz, a_fz0, a_fz1, a_ext, a_ins, a_insA, a_pop, a_parN, a_evO0, a_evO1, a_setO0, a_setO1, a_ix2, a_setII, a_zN, a_zC, a_lcO, d_oo, pEq_int, pNe_int, pIxL, pIxT, atI_nat, atI_0, atI_1, atI_2, atI_3, atI_m1, cutLo, cutHi, cutLo1, cutHi1, a_seq, a_ifS, a_B, a_op, a_ov, a_ev0, a_evv, a_evs, a_C, a_V, a_M, a_set, a_setI, a_app, a_ret, a_ex, a_skip, a_no, a_not, a_andT, a_orT, a_and, a_or, a_notV, a_if, a_par, a_call, a_forS, a_sq, a_r1, a_r2, a_en, a_zp, a_asT, a_chI, a_yes, a_lc, a_fn, okA, f_fr, bkA, rsvs, rsv, dvs, on1, on2, d_fr, d_ol, rsO, ndS, sl, putB, asT, setAll, ofO, Dy.ints1, Dy.ints2, nE, wipeE, unw, frO, q_addI, q_addL, q_addT, q_addS, q_sub, q_div, q_mod, q_pow, q_neg, q_cm, pIs, pIsn, q_isN, q_isI, q_isS, q_isT, q_isL, q_isB, q_lenL, q_lenT, pTup, pLst, q_tupL, q_tupT, q_lstL, q_lstT, q_revL, q_slL, q_slT, q_shL, q_shT, q_sqL, q_sqT, q_intI, q_max2, q_min2, q_aII, q_aBI, q_aTI, q_aTT, q_aLL, q_aTL, q_aIT, h]
  · simp [M_is_between, b_is_between, q_mulAI, q_mulAL, a_wb, q_divW, Function.comp_def, q_starI, q_starIT, a_wp, a_fz, a_fz0, a_fz1, a_ext, a_ins, a_insA, a_pop, a_parN, a_evO0, a_evO1, a_setO0, a_setO1, a_ix2, a_setII, a_zN, a_zC, a_lcO, d_oo, pEq_int, pNe_int, pIxL, pIxT, atI_nat, atI_0, atI_1, atI_2, atI_3, atI_m1, cutLo, cutHi, cutLo1, cutHi1, a_seq, a_ifS, a_B, a_op, a_ov, a_ev0, a_evv, a_evs, a_C, a_V, a_M, a_set, a_setI, a_app, a_ret, a_ex, a_skip, a_no, a_not, a_andT, a_orT, a_and, a_or, a_notV, a_if, a_par, a_call, a_forS, a_sq, a_r1, a_r2, a_en, a_zp, a_asT, a_chI, a_yes, a_lc, a_fn, okA, f_fr, bkA, rsvs, rsv, dvs, on1, on2, d_fr, d_ol, rsO, ndS, sl, putB, asT, setAll, ofO, Dy.ints1, Dy.ints2, nE, wipeE, unw, frO, q_addI, q_addL, q_addT, q_addS, q_sub, q_div, q_mod, q_pow, q_neg, q_cm, pIs, pIsn, q_isN, q_isI, q_isS, q_isT, q_isL, q_isB, q_lenL, q_lenT, pTup, pLst, q_tupL, q_tupT, q_lstL, q_lstT, q_revL, q_slL, q_slT, q_shL, q_shT, q_sqL, q_sqT, q_intI, q_max2, q_min2, q_aII, q_aBI, q_aTI, q_aTT, q_aLL, q_aTL, q_aIT, h]
theorem arities_ok {as : List Nat} (h : ArOk as) : M_is_arities [.fr (encA as)] = .ok (.fr (.bool true), [.fr (encA as)]) := by
  have h1 : (1 : Int) ≤ as.length := by have := h.pos; omega
  have h2 : (as.length : Int) ≤ 6 := by have := h.len; omega
  simp [M_is_arities, b_is_arities, q_mulAI, q_mulAL, a_wb, q_divW, Function.comp_def, q_starI, q_starIT, a_wp, a_fz, a_fz0, a_fz1, a_ext, a_ins, a_insA, a_pop, a_parN, a_evO0, a_evO1, a_setO0, a_setO1, a_ix2, a_setII, a_zN, a_zC, a_lcO, d_oo, pEq_int, pNe_int, pIxL, pIxT, atI_nat, atI_0, atI_1, atI_2, atI_3, atI_m1, cutLo, cutHi, cutLo1, cutHi1, a_seq, a_ifS, a_B, a_op, a_ov, a_ev0, a_evv, a_evs, a_C, a_V, a_M, a_set, a_setI, a_app, a_ret, a_ex, a_skip, a_no, a_not, a_andT, a_orT, a_and, a_or, a_notV, a_if, a_par, a_call, a_forS, a_sq, a_r1, a_r2, a_en, a_zp, a_asT, a_chI, a_yes, a_lc, a_fn, okA, f_fr, bkA, rsvs, rsv, dvs, on1, on2, d_fr, d_ol, rsO, ndS, sl, putB, asT, setAll, ofO, Dy.ints1, Dy.ints2, nE, wipeE, unw, frO, q_addI, q_addL, q_addT, q_addS, q_sub, q_div, q_mod, q_pow, q_neg, q_cm, pIs, pIsn, q_isN, q_isI, q_isS, q_isT, q_isL, q_isB, q_lenL, q_lenT, pTup, pLst, q_tupL, q_tupT, q_lstL, q_lstT, q_revL, q_slL, q_slT, q_shL, q_shT, q_sqL, q_sqT, q_intI, q_max2, q_min2, q_aII, q_aBI, q_aTI, q_aTT, q_aLL, q_aTL, q_aIT, h1, h2]
  rw [lc_tm dN (fun _ => .bool true) as rfl (fun a ha => ?_) (by have := h.len; omega)]
  · simp [q_mulAI, q_mulAL, a_wb, q_divW, Function.comp_def, q_starI, q_starIT, a_wp, a_fz, a_fz0, a_fz1, a_ext, a_ins, a_insA, a_pop, a_parN, a_evO0, a_evO1, a_setO0, a_setO1, a_ix2, a_setII, a_zN, a_zC, a_lcO, d_oo, pEq_int, pNe_int, pIxL, pIxT, atI_nat, atI_0, atI_1, atI_2, atI_3, atI_m1, cutLo, cutHi, cutLo1, cutHi1, a_seq, a_ifS, a_B, a_op, a_ov, a_ev0, a_evv, a_evs, a_C, a_V, a_M, a_set, a_setI, a_app, a_ret, a_ex, a_skip, a_no, a_not, a_andT, a_orT, a_and, a_or, a_notV, a_if, a_par, a_call, a_forS, a_sq, a_r1, a_r2, a_en, a_zp, a_asT, a_chI, a_yes, a_lc, a_fn, okA, f_fr, bkA, rsvs, rsv, dvs, on1, on2, d_fr, d_ol, rsO, ndS, sl, putB, asT, setAll, ofO, Dy.ints1, Dy.ints2, nE, wipeE, unw, frO, q_addI, q_addL, q_addT, q_addS, q_sub, q_div, q_mod, q_pow, q_neg, q_cm, pIs, pIsn, q_isN, q_isI, q_isS, q_isT, q_isL, q_isB, q_lenL, q_lenT, pTup, pLst, q_tupL, q_tupT, q_lstL, q_lstT, q_revL, q_slL, q_slT, q_shL, q_shT, q_sqL, q_sqT, q_intI, q_max2, q_min2, q_aII, q_aBI, q_aTI, q_aTT, q_aLL, q_aTL, q_aIT, pAll_true]
  · have := h.le2 a ha
    simp [E1_is_arities, q_mulAI, q_mulAL, a_wb, q_divW, Function.comp_def, q_starI, q_starIT, a_wp, a_fz, a_fz0, a_fz1, a_ext, a_ins, a_insA, a_pop, a_parN, a_evO0, a_evO1, a_setO0, a_setO1, a_ix2, a_setII, a_zN, a_zC, a_lcO, d_oo, pEq_int, pNe_int, pIxL, pIxT, atI_nat, atI_0, atI_1, atI_2, atI_3, atI_m1, cutLo, cutHi, cutLo1, cutHi1, a_seq, a_ifS, a_B, a_op, a_ov, a_ev0, a_evv, a_evs, a_C, a_V, a_M, a_set, a_setI, a_app, a_ret, a_ex, a_skip, a_no, a_not, a_andT, a_orT, a_and, a_or, a_notV, a_if, a_par, a_call, a_forS, a_sq, a_r1, a_r2, a_en, a_zp, a_asT, a_chI, a_yes, a_lc, a_fn, okA, f_fr, bkA, rsvs, rsv, dvs, on1, on2, d_fr, d_ol, rsO, ndS, sl, putB, asT, setAll, ofO, Dy.ints1, Dy.ints2, nE, wipeE, unw, frO, q_addI, q_addL, q_addT, q_addS, q_sub, q_div, q_mod, q_pow, q_neg, q_cm, pIs, pIsn, q_isN, q_isI, q_isS, q_isT, q_isL, q_isB, q_lenL, q_lenT, pTup, pLst, q_tupL, q_tupT, q_lstL, q_lstT, q_revL, q_slL, q_slT, q_shL, q_shT, q_sqL, q_sqT, q_intI, q_max2, q_min2, q_aII, q_aBI, q_aTI, q_aTT, q_aLL, q_aTL, q_aIT, between_ok]; omega
abbrev Nd := Nat × List Nat
abbrev encN (n : Nd) : PyData := .tuple (dN n.1 :: n.2.map dN)
abbrev encT (t : List Nd) : PyData := .tuple (t.map encN)
def NdOk (as : List Nat) (k : Nat) (n : Nd) : Prop := as[n.1]? = some n.2.length ∧ ∀ p ∈ n.2, p < k
def WF (as : List Nat) (t : List Nd) : Prop := ∀ k n, t[k]? = some n → NdOk as k n
structure TrOk (as : List Nat) (t : List Nd) : Prop where
  wf : WF as t
  ne : t ≠ []
  len : t.length ≤ 1000
theorem NdOk.mono {as : List Nat} {k l : Nat} {n : Nd} (h : NdOk as k n) (hl : k ≤ l) : NdOk as l n := ⟨h.1, fun p hp => Nat.lt_of_lt_of_le (h.2 p hp) hl⟩
theorem NdOk.le2 {as : List Nat} {k : Nat} {n : Nd} (ha : ArOk as) (h : NdOk as k n) : n.2.length ≤ 2 := ha.le2 _ (List.mem_of_getElem? h.1)
theorem NdOk.lt6 {as : List Nat} {k : Nat} {n : Nd} (ha : ArOk as) (h : NdOk as k n) : n.1 < as.length := lt_of_get h.1
theorem WF.nil {as : List Nat} : WF as [] := fun k n h => by simp at h
theorem WF.snoc {as : List Nat} {t : List Nd} {n : Nd} (h : WF as t) (hn : NdOk as t.length n) : WF as (t ++ [n]) := by
  intro k m hk
  by_cases h1 : k < t.length
  · rw [List.getElem?_append_left h1] at hk; exact h k m hk
  · have h2 := lt_of_get hk
    have : k = t.length := by simp at h2; omega
    subst this
    simp at hk; subst hk; exact hn
theorem WF.pre {as : List Nat} {t u : List Nd} (h : WF as (t ++ u)) : WF as t := fun k n hk => h k n (by rw [List.getElem?_append_left (lt_of_get hk)]; exact hk)
theorem WF.mem {as : List Nat} {t : List Nd} {n : Nd} (h : WF as t) (hn : n ∈ t) : NdOk as t.length n := by
  obtain ⟨k, hk⟩ := List.getElem?_of_mem hn
  exact (h k n hk).mono (Nat.le_of_lt (lt_of_get hk))
theorem rkN {as : List Nat} {k : Nat} {n : Nd} (ha : ArOk as) (h : NdOk as k n) (hk : k ≤ 100000) : Rk 1 4000 (encN n) := by
  refine (Rk.tup (n := 0) (w := 1100) (fun d hd => ?_)).mono (Nat.le_refl _) ?_
  · rcases List.mem_cons.mp hd with rfl | hd
    · have := h.lt6 ha; have := ha.len; exact Rk.nat (Nat.lt_trans (show n.1 < 1000000 by omega) (by decide))
    · exact rkNs (fun a hp => by have := h.2 a hp; omega) d hd
  · have := h.le2 ha; simp; omega
theorem rkT {as : List Nat} {t : List Nd} (ha : ArOk as) (h : WF as t) (hl : t.length ≤ 1000) : Rk 2 4100000 (encT t) := by
  refine (Rk.tup (n := 1) (w := 4000) (fun d hd => ?_)).mono (Nat.le_refl _) ?_
  · obtain ⟨n, hn, rfl⟩ := List.mem_map.mp hd
    exact rkN ha (h.mem hn) (by omega)
  · simp; omega
theorem node_ok {as : List Nat} {n : Nd} {k : Nat} (ha : ArOk as) (h : NdOk as k n) (hk : k ≤ 100000) : M_is_node [.fr (encA as), .fr (encN n), .fr (dN k)] = .ok (.fr (.bool true), [.fr (encA as), .fr (encN n), .fr (dN k)]) := by
  have s := pEq_T0 ((rkN ha h hk).shp (by decide))
  have h1 := h.lt6 ha
  have c1 : (n.1 : Int) ≤ as.length - 1 := by omega
  have c2 : ((n.2.length : Int) + 1 = 1 + n.2.length) = True := eq_true (by omega)
  simp [M_is_node, b_is_node, q_mulAI, q_mulAL, a_wb, q_divW, Function.comp_def, q_starI, q_starIT, a_wp, a_fz, a_fz0, a_fz1, a_ext, a_ins, a_insA, a_pop, a_parN, a_evO0, a_evO1, a_setO0, a_setO1, a_ix2, a_setII, a_zN, a_zC, a_lcO, d_oo, pEq_int, pNe_int, pIxL, pIxT, atI_nat, atI_0, atI_1, atI_2, atI_3, atI_m1, cutLo, cutHi, cutLo1, cutHi1, a_seq, a_ifS, a_B, a_op, a_ov, a_ev0, a_evv, a_evs, a_C, a_V, a_M, a_set, a_setI, a_app, a_ret, a_ex, a_skip, a_no, a_not, a_andT, a_orT, a_and, a_or, a_notV, a_if, a_par, a_call, a_forS, a_sq, a_r1, a_r2, a_en, a_zp, a_asT, a_chI, a_yes, a_lc, a_fn, okA, f_fr, bkA, rsvs, rsv, dvs, on1, on2, d_fr, d_ol, rsO, ndS, sl, putB, asT, setAll, ofO, Dy.ints1, Dy.ints2, nE, wipeE, unw, frO, q_addI, q_addL, q_addT, q_addS, q_sub, q_div, q_mod, q_pow, q_neg, q_cm, pIs, pIsn, q_isN, q_isI, q_isS, q_isT, q_isL, q_isB, q_lenL, q_lenT, pTup, pLst, q_tupL, q_tupT, q_lstL, q_lstT, q_revL, q_slL, q_slT, q_shL, q_shT, q_sqL, q_sqT, q_intI, q_max2, q_min2, q_aII, q_aBI, q_aTI, q_aTT, q_aLL, q_aTL, q_aIT, s, between_ok, c1, h.1, c2]
  rw [lc_tm dN (fun _ => .bool true) n.2 rfl (fun p hp => ?_) (by have := h.le2 ha; omega)]
  · simp [q_mulAI, q_mulAL, a_wb, q_divW, Function.comp_def, q_starI, q_starIT, a_wp, a_fz, a_fz0, a_fz1, a_ext, a_ins, a_insA, a_pop, a_parN, a_evO0, a_evO1, a_setO0, a_setO1, a_ix2, a_setII, a_zN, a_zC, a_lcO, d_oo, pEq_int, pNe_int, pIxL, pIxT, atI_nat, atI_0, atI_1, atI_2, atI_3, atI_m1, cutLo, cutHi, cutLo1, cutHi1, a_seq, a_ifS, a_B, a_op, a_ov, a_ev0, a_evv, a_evs, a_C, a_V, a_M, a_set, a_setI, a_app, a_ret, a_ex, a_skip, a_no, a_not, a_andT, a_orT, a_and, a_or, a_notV, a_if, a_par, a_call, a_forS, a_sq, a_r1, a_r2, a_en, a_zp, a_asT, a_chI, a_yes, a_lc, a_fn, okA, f_fr, bkA, rsvs, rsv, dvs, on1, on2, d_fr, d_ol, rsO, ndS, sl, putB, asT, setAll, ofO, Dy.ints1, Dy.ints2, nE, wipeE, unw, frO, q_addI, q_addL, q_addT, q_addS, q_sub, q_div, q_mod, q_pow, q_neg, q_cm, pIs, pIsn, q_isN, q_isI, q_isS, q_isT, q_isL, q_isB, q_lenL, q_lenT, pTup, pLst, q_tupL, q_tupT, q_lstL, q_lstT, q_revL, q_slL, q_slT, q_shL, q_shT, q_sqL, q_sqT, q_intI, q_max2, q_min2, q_aII, q_aBI, q_aTI, q_aTT, q_aLL, q_aTL, q_aIT, pAll_true]
  · have := h.2 p hp
    simp [E1_is_node, q_mulAI, q_mulAL, a_wb, q_divW, Function.comp_def, q_starI, q_starIT, a_wp, a_fz, a_fz0, a_fz1, a_ext, a_ins, a_insA, a_pop, a_parN, a_evO0, a_evO1, a_setO0, a_setO1, a_ix2, a_setII, a_zN, a_zC, a_lcO, d_oo, pEq_int, pNe_int, pIxL, pIxT, atI_nat, atI_0, atI_1, atI_2, atI_3, atI_m1, cutLo, cutHi, cutLo1, cutHi1, a_seq, a_ifS, a_B, a_op, a_ov, a_ev0, a_evv, a_evs, a_C, a_V, a_M, a_set, a_setI, a_app, a_ret, a_ex, a_skip, a_no, a_not, a_andT, a_orT, a_and, a_or, a_notV, a_if, a_par, a_call, a_forS, a_sq, a_r1, a_r2, a_en, a_zp, a_asT, a_chI, a_yes, a_lc, a_fn, okA, f_fr, bkA, rsvs, rsv, dvs, on1, on2, d_fr, d_ol, rsO, ndS, sl, putB, asT, setAll, ofO, Dy.ints1, Dy.ints2, nE, wipeE, unw, frO, q_addI, q_addL, q_addT, q_addS, q_sub, q_div, q_mod, q_pow, q_neg, q_cm, pIs, pIsn, q_isN, q_isI, q_isS, q_isT, q_isL, q_isB, q_lenL, q_lenT, pTup, pLst, q_tupL, q_tupT, q_lstL, q_lstT, q_revL, q_slL, q_slT, q_shL, q_shT, q_sqL, q_sqT, q_intI, q_max2, q_min2, q_aII, q_aBI, q_aTI, q_aTT, q_aLL, q_aTL, q_aIT, between_ok]; omega
theorem written_ok {as : List Nat} {t : List Nd} (ha : ArOk as) (h : TrOk as t) : M_is_written [.fr (encA as), .fr (encT t)] = .ok (.fr (.bool true), [.fr (encA as), .fr (encT t)]) := by
  have s := pEq_T0 ((rkT ha h.wf h.len).shp (by decide))
  have h0 := h.ne
  simp [M_is_written, b_is_written, q_mulAI, q_mulAL, a_wb, q_divW, Function.comp_def, q_starI, q_starIT, a_wp, a_fz, a_fz0, a_fz1, a_ext, a_ins, a_insA, a_pop, a_parN, a_evO0, a_evO1, a_setO0, a_setO1, a_ix2, a_setII, a_zN, a_zC, a_lcO, d_oo, pEq_int, pNe_int, pIxL, pIxT, atI_nat, atI_0, atI_1, atI_2, atI_3, atI_m1, cutLo, cutHi, cutLo1, cutHi1, a_seq, a_ifS, a_B, a_op, a_ov, a_ev0, a_evv, a_evs, a_C, a_V, a_M, a_set, a_setI, a_app, a_ret, a_ex, a_skip, a_no, a_not, a_andT, a_orT, a_and, a_or, a_notV, a_if, a_par, a_call, a_forS, a_sq, a_r1, a_r2, a_en, a_zp, a_asT, a_chI, a_yes, a_lc, a_fn, okA, f_fr, bkA, rsvs, rsv, dvs, on1, on2, d_fr, d_ol, rsO, ndS, sl, putB, asT, setAll, ofO, Dy.ints1, Dy.ints2, nE, wipeE, unw, frO, q_addI, q_addL, q_addT, q_addS, q_sub, q_div, q_mod, q_pow, q_neg, q_cm, pIs, pIsn, q_isN, q_isI, q_isS, q_isT, q_isL, q_isB, q_lenL, q_lenT, pTup, pLst, q_tupL, q_tupT, q_lstL, q_lstT, q_revL, q_slL, q_slT, q_shL, q_shT, q_sqL, q_sqT, q_intI, q_max2, q_min2, q_aII, q_aBI, q_aTI, q_aTT, q_aLL, q_aTL, q_aIT, s, h0, enumD_ens]
  rw [lc_tm (fun p : Nat × Nd => .tuple [.int (p.1 : Int), encN p.2]) (fun _ => .bool true) (ens t) rfl (fun p hp => ?_) (by rw [ens_len]; have := h.len; omega)]
  · simp [q_mulAI, q_mulAL, a_wb, q_divW, Function.comp_def, q_starI, q_starIT, a_wp, a_fz, a_fz0, a_fz1, a_ext, a_ins, a_insA, a_pop, a_parN, a_evO0, a_evO1, a_setO0, a_setO1, a_ix2, a_setII, a_zN, a_zC, a_lcO, d_oo, pEq_int, pNe_int, pIxL, pIxT, atI_nat, atI_0, atI_1, atI_2, atI_3, atI_m1, cutLo, cutHi, cutLo1, cutHi1, a_seq, a_ifS, a_B, a_op, a_ov, a_ev0, a_evv, a_evs, a_C, a_V, a_M, a_set, a_setI, a_app, a_ret, a_ex, a_skip, a_no, a_not, a_andT, a_orT, a_and, a_or, a_notV, a_if, a_par, a_call, a_forS, a_sq, a_r1, a_r2, a_en, a_zp, a_asT, a_chI, a_yes, a_lc, a_fn, okA, f_fr, bkA, rsvs, rsv, dvs, on1, on2, d_fr, d_ol, rsO, ndS, sl, putB, asT, setAll, ofO, Dy.ints1, Dy.ints2, nE, wipeE, unw, frO, q_addI, q_addL, q_addT, q_addS, q_sub, q_div, q_mod, q_pow, q_neg, q_cm, pIs, pIsn, q_isN, q_isI, q_isS, q_isT, q_isL, q_isB, q_lenL, q_lenT, pTup, pLst, q_tupL, q_tupT, q_lstL, q_lstT, q_revL, q_slL, q_slT, q_shL, q_shT, q_sqL, q_sqT, q_intI, q_max2, q_min2, q_aII, q_aBI, q_aTI, q_aTT, q_aLL, q_aTL, q_aIT, pAll_true]
  · have hp := ens_mem hp
    have := lt_of_get hp
    have e := node_ok ha (h.wf p.1 p.2 hp) (by have := h.len; omega)
    simp [E1_is_written, q_mulAI, q_mulAL, a_wb, q_divW, Function.comp_def, q_starI, q_starIT, a_wp, a_fz, a_fz0, a_fz1, a_ext, a_ins, a_insA, a_pop, a_parN, a_evO0, a_evO1, a_setO0, a_setO1, a_ix2, a_setII, a_zN, a_zC, a_lcO, d_oo, pEq_int, pNe_int, pIxL, pIxT, atI_nat, atI_0, atI_1, atI_2, atI_3, atI_m1, cutLo, cutHi, cutLo1, cutHi1, a_seq, a_ifS, a_B, a_op, a_ov, a_ev0, a_evv, a_evs, a_C, a_V, a_M, a_set, a_setI, a_app, a_ret, a_ex, a_skip, a_no, a_not, a_andT, a_orT, a_and, a_or, a_notV, a_if, a_par, a_call, a_forS, a_sq, a_r1, a_r2, a_en, a_zp, a_asT, a_chI, a_yes, a_lc, a_fn, okA, f_fr, bkA, rsvs, rsv, dvs, on1, on2, d_fr, d_ol, rsO, ndS, sl, putB, asT, setAll, ofO, Dy.ints1, Dy.ints2, nE, wipeE, unw, frO, q_addI, q_addL, q_addT, q_addS, q_sub, q_div, q_mod, q_pow, q_neg, q_cm, pIs, pIsn, q_isN, q_isI, q_isS, q_isT, q_isL, q_isB, q_lenL, q_lenT, pTup, pLst, q_tupL, q_tupT, q_lstL, q_lstT, q_revL, q_slL, q_slT, q_shL, q_shT, q_sqL, q_sqT, q_intI, q_max2, q_min2, q_aII, q_aBI, q_aTI, q_aTT, q_aLL, q_aTL, q_aIT, e]
def shift (k : Nat) (t : List Nd) : List Nd := t.map fun n => (n.1, n.2.map (k + ·))
def jn1 (s : List Nd × List Nat) (p : List Nd) : List Nd × List Nat := (s.1 ++ shift s.1.length p, s.2 ++ [s.1.length + p.length - 1])
def joinT (op : Nat) (parts : List (List Nd)) : List Nd := (parts.foldl jn1 ([], [])).1 ++ [(op, (parts.foldl jn1 ([], [])).2)]
theorem shift_len (k : Nat) (t : List Nd) : (shift k t).length = t.length := by simp [shift]
end Q
namespace Q
open PySem Dy
open L2 (atI ixN)
section
variable {β : Type} (f : Nat → List β → β) (d : β)
def alg1 (acc : List β) (n : Nd) : List β := acc ++ [f n.1 (n.2.map (acc.getD · d))]
def alg (t : List Nd) : List β := t.foldl (alg1 f d) []
def lastA (t : List Nd) : β := (alg f d t).getLast?.getD d
theorem alg_snoc (t : List Nd) (n : Nd) : alg f d (t ++ [n]) = alg f d t ++ [f n.1 (n.2.map ((alg f d t).getD · d))] := by
  unfold alg; rw [List.foldl_append]; rfl
theorem rev_ind {α : Type} {P : List α → Prop} (h0 : P []) (h1 : ∀ l x, P l → P (l ++ [x])) : ∀ l, P l := by
  intro l
  have : ∀ r : List α, P r.reverse := by
    intro r
    induction r with
    | nil => exact h0
    | cons x r ih => rw [List.reverse_cons]; exact h1 _ _ ih
  have h := this l.reverse
  rwa [List.reverse_reverse] at h
theorem alg_len (t : List Nd) : (alg f d t).length = t.length := by
  induction t using rev_ind with
  | h0 => rfl
  | h1 l x ih => rw [alg_snoc]; simp [ih]
theorem alg_app (t u : List Nd) : alg f d (t ++ u) = u.foldl (alg1 f d) (alg f d t) := by unfold alg; rw [List.foldl_append]
theorem alg_run (acc : List β) (t : List Nd) : (shift acc.length t).foldl (alg1 f d) acc = acc ++ alg f d t := by
  induction t using rev_ind with
  | h0 => simp [shift, alg]
  | h1 l n ih =>
    have e : shift acc.length (l ++ [n]) = shift acc.length l ++ [(n.1, n.2.map (acc.length + ·))] := by simp [shift]
    rw [e, List.foldl_append, ih, alg_snoc]
    show alg1 f d (acc ++ alg f d l) _ = _
    unfold alg1
    rw [List.append_assoc, List.map_map]
    congr 4
    refine List.map_congr_left fun p _ => ?_
    show (acc ++ alg f d l).getD (acc.length + p) d = _
    simp [List.getD_eq_getElem?_getD, List.getElem?_append_right]
theorem alg_shift (t u : List Nd) : alg f d (t ++ shift t.length u) = alg f d t ++ alg f d u := by
  rw [alg_app, show t.length = (alg f d t).length from (alg_len f d t).symm, alg_run]
theorem alg_prefix {t u : List Nd} : ∃ r, alg f d (t ++ u) = alg f d t ++ r := by
  induction u using rev_ind with
  | h0 => exact ⟨[], by simp⟩
  | h1 l n ih =>
    obtain ⟨r, e⟩ := ih
    rw [← List.append_assoc, alg_snoc, e, List.append_assoc]
    exact ⟨_, rfl⟩
theorem getD_app {a b : List β} {k : Nat} (h : k < a.length) : (a ++ b).getD k d = a.getD k d := by
  simp [List.getD_eq_getElem?_getD, List.getElem?_append_left h]
theorem lastA_eq {t : List Nd} (h : t ≠ []) : lastA f d t = (alg f d t).getD (t.length - 1) d := by
  unfold lastA
  rw [List.getLast?_eq_getElem?, alg_len, List.getD_eq_getElem?_getD]
theorem joinT_inv (parts : List (List Nd)) (h : ∀ p ∈ parts, p ≠ []) :
    alg f d (parts.foldl jn1 ([], [])).1 = (parts.map (alg f d)).flatten ∧ (∀ e ∈ (parts.foldl jn1 ([], [])).2, e < (parts.foldl jn1 ([], [])).1.length) ∧ (parts.foldl jn1 ([], [])).2.map ((alg f d (parts.foldl jn1 ([], [])).1).getD · d) = parts.map (lastA f d) := by
  induction parts using rev_ind with
  | h0 => exact ⟨rfl, by simp, rfl⟩
  | h1 l p ih =>
    obtain ⟨h1, h2, h3⟩ := ih fun q hq => h q (by simp [hq])
    have hp : p ≠ [] := h p (by simp)
    have hp0 : 0 < p.length := List.length_pos_iff.mpr hp
    rw [List.foldl_append]
    generalize l.foldl jn1 ([], []) = s at *
    show alg f d (jn1 s p).1 = _ ∧ (∀ e ∈ (jn1 s p).2, e < (jn1 s p).1.length) ∧ (jn1 s p).2.map ((alg f d (jn1 s p).1).getD · d) = _
    simp only [jn1]
    have e1 : alg f d (s.1 ++ shift s.1.length p) = alg f d s.1 ++ alg f d p := alg_shift f d _ _
    refine ⟨by rw [e1, h1]; simp, fun e he => ?_, ?_⟩
    · rw [List.length_append, shift_len]
      rcases List.mem_append.mp he with z | z
      · have := h2 e z; omega
      · simp at z; omega
    · rw [List.map_append, e1, List.map_append, ← h3]
      congr 1
      · refine List.map_congr_left fun e he => getD_app d ?_
        rw [alg_len]; exact h2 e he
      · show [(alg f d s.1 ++ alg f d p).getD (s.1.length + p.length - 1) d] = [lastA f d p]
        rw [lastA_eq f d hp, show s.1.length + p.length - 1 = (alg f d s.1).length + (p.length - 1) by rw [alg_len]; omega]
        simp [List.getD_eq_getElem?_getD, List.getElem?_append_right]
theorem alg_join (op : Nat) (parts : List (List Nd)) (h : ∀ p ∈ parts, p ≠ []) : alg f d (joinT op parts) = (parts.map (alg f d)).flatten ++ [f op (parts.map (lastA f d))] := by
  obtain ⟨h1, h2, h3⟩ := joinT_inv f d parts h
  unfold joinT
  rw [alg_snoc, h3, h1]
theorem lastA_join (op : Nat) (parts : List (List Nd)) (h : ∀ p ∈ parts, p ≠ []) : lastA f d (joinT op parts) = f op (parts.map (lastA f d)) := by
  unfold lastA
  rw [alg_join f d op parts h, List.getLast?_concat]; rfl
end
theorem WF.shift {as : List Nat} {t u : List Nd} (h : WF as t) (k : WF as u) : WF as (t ++ shift t.length u) := by
  intro i n hi
  by_cases h1 : i < t.length
  · rw [List.getElem?_append_left h1] at hi; exact h i n hi
  · rw [List.getElem?_append_right (by omega)] at hi
    unfold Q.shift at hi
    rw [List.getElem?_map] at hi
    cases q : u[i - t.length]? with
    | none => rw [q] at hi; cases hi
    | some m =>
      rw [q] at hi
      cases hi
      obtain ⟨k1, k2⟩ := k _ m q
      refine ⟨by simpa using k1, fun p hp => ?_⟩
      obtain ⟨p', hp', rfl⟩ := List.mem_map.mp hp
      have := k2 p' hp'
      omega
end Q
namespace Q
open PySem Dy
open L2 (atI ixN)
abbrev Pr := Option Nat
def dP : Pr → PyData
  | none => .none
  | some n => .int (n : Int)
theorem canLayP : ∀ xs : List Pr, PyData.canLayAll0 (xs.map dP) = true
  | [] => rfl
  | x :: xs => by
    show (PyData.canLay0 (dP x) && PyData.canLayAll0 (xs.map dP)) = true
    rw [canLayP xs]; cases x <;> rfl
theorem depP : ∀ xs : List Pr, PyData.depthAll (xs.map dP) = 0
  | [] => rfl
  | x :: xs => by
    show max (PyData.depth (dP x)) (PyData.depthAll (xs.map dP)) = 0
    rw [depP xs]; cases x <;> rfl
theorem shpLP (xs : List Pr) : shp (.list (xs.map dP)) = true := by
  unfold Dy.shp SeqAt.shaped
  have h1 : (PyData.list (xs.map dP)).canLay0 = true := by simpa [PyData.canLay0] using canLayP xs
  have h2 : (PyData.list (xs.map dP)).depth ≤ 64 := by simp [PyData.depth, depP]
  rw [h1, decide_eq_true h2]; rfl
structure Ins where
  form : Nat
  op : Nat
  args : List Nat
  pr : Nat
structure Con where
  a : Nat
  b : Nat
  pr : Nat
structure Mach where
  ar : List Nat
  fs : Nat
  ins : List Ins
  con : List Con
abbrev Mat := List (List Pr)
def getM (w : Mat) (i j : Nat) : Pr := (w.getD i []).getD j none
def setM (w : Mat) (i j : Nat) (v : Pr) : Mat := w.set i ((w.getD i []).set j v)
def Sq (n : Nat) (w : Mat) : Prop := w.length = n ∧ ∀ r ∈ w, r.length = n
theorem getD_mem {α : Type} {xs : List α} {k : Nat} {d : α} (h : k < xs.length) : xs[k]? = some (xs.getD k d) := by
  rw [List.getD_eq_getElem?_getD, List.getElem?_eq_getElem h]; rfl
theorem Sq.row {n : Nat} {w : Mat} (h : Sq n w) {i : Nat} (hi : i < n) : w[i]? = some (w.getD i []) ∧ (w.getD i []).length = n := by
  have e := getD_mem (xs := w) (d := []) (show i < w.length by rw [h.1]; exact hi)
  exact ⟨e, h.2 _ (List.mem_of_getElem? e)⟩
theorem Sq.at {n : Nat} {w : Mat} (h : Sq n w) {i j : Nat} (hi : i < n) (hj : j < n) : (w.getD i [])[j]? = some (getM w i j) :=
  getD_mem (by rw [(h.row hi).2]; exact hj)
theorem Sq.set {n : Nat} {w : Mat} (h : Sq n w) {i j : Nat} {v : Pr} (hi : i < n) : Sq n (setM w i j v) := by
  refine ⟨by simp [setM, h.1], fun r hr => ?_⟩
  unfold setM at hr
  rcases List.mem_or_eq_of_mem_set hr with z | z
  · exact h.2 r z
  · subst z; rw [List.length_set]; exact (h.row hi).2
theorem Sq.rw {n : Nat} {w : Mat} (h : Sq n w) {i : Nat} (hi : i < n) : ∃ r : List Pr, w[i]? = some r ∧ r.length = n ∧ (∀ j, j < n → r[j]? = some (getM w i j)) ∧ ∀ j v, setM w i j v = w.set i (r.set j v) :=
  ⟨w.getD i [], (h.row hi).1, (h.row hi).2, fun j hj => h.at hi hj, fun j v => rfl⟩
end Q
namespace Q
open PySem Dy
open L2 (atI ixN)
def gP (r : List Pr) (i : Nat) : Pr := r.getD i none
theorem gP_at {r : List Pr} {i : Nat} (h : i < r.length) : r[i]? = some (gP r i) := getD_mem h
def minN : List Nat → Nat
  | [] => 0
  | [x] => x
  | x :: y :: r => min x (minN (y :: r))
theorem minN_mem : ∀ {ns : List Nat}, ns ≠ [] → minN ns ∈ ns
  | [x], _ => by simp [minN]
  | x :: z :: r, _ => by
    have ih := minN_mem (ns := z :: r) (by simp)
    unfold minN
    by_cases h : x ≤ minN (z :: r)
    · rw [Nat.min_eq_left h]; simp
    · rw [Nat.min_eq_right (by omega)]; exact List.mem_cons_of_mem _ ih
def baseP (row : List Pr) : Pr := if row.filterMap id = [] then none else some (minN (row.filterMap id))
end Q
namespace Q
open PySem Dy
open L2 (atI ixN)
theorem mulA (i j : Int) (h : -18446744073709551616 < i ∧ i < 18446744073709551616) : pMul (.int i) (.int j) = some (.fr (.int (i * j))) := by
  have : smI i = true := by unfold smI; exact decide_eq_true ⟨by omega, by omega⟩
  simp [pMul, muOk, this]
theorem mulA' (i j : Int) (h : -18446744073709551616 < j ∧ j < 18446744073709551616) : pMul (.int i) (.int j) = some (.fr (.int (i * j))) := by
  have : smI j = true := by unfold smI; exact decide_eq_true ⟨by omega, by omega⟩
  simp [pMul, muOk, this]
def PenA (o : O) : Prop := ∃ a b c : Int, o = .ol [.int a, .int b, .int c]
theorem penA_ok (z : Int) : ∃ o, PenA o ∧ M__law_pen_2 [.fr (.int z)] = .ok (o, [.fr (.int z)]) := by
  refine ⟨_, ⟨max 0 (z - 10 ^ 18), z % 2147483629 + 1, 0, rfl⟩, ?_⟩
  simp [M__law_pen_2, b__law_pen_2, q_mulAI, q_mulAL, a_wb, q_divW, Function.comp_def, q_starI, q_starIT, a_wp, a_fz, a_fz0, a_fz1, a_ext, a_ins, a_insA, a_pop, a_parN, a_evO0, a_evO1, a_setO0, a_setO1, a_ix2, a_setII, a_zN, a_zC, a_lcO, d_oo, pEq_int, pNe_int, pIxL, pIxT, atI_nat, atI_0, atI_1, atI_2, atI_3, atI_m1, cutLo, cutHi, cutLo1, cutHi1, a_seq, a_ifS, a_B, a_op, a_ov, a_ev0, a_evv, a_evs, a_C, a_V, a_M, a_set, a_setI, a_app, a_ret, a_ex, a_skip, a_no, a_not, a_andT, a_orT, a_and, a_or, a_notV, a_if, a_par, a_call, a_forS, a_sq, a_r1, a_r2, a_en, a_zp, a_asT, a_chI, a_yes, a_lc, a_fn, okA, f_fr, bkA, rsvs, rsv, dvs, on1, on2, d_fr, d_ol, rsO, ndS, sl, putB, asT, setAll, ofO, Dy.ints1, Dy.ints2, nE, wipeE, unw, frO, q_addI, q_addL, q_addT, q_addS, q_sub, q_div, q_mod, q_pow, q_neg, q_cm, pIs, pIsn, q_isN, q_isI, q_isS, q_isT, q_isL, q_isB, q_lenL, q_lenT, pTup, pLst, q_tupL, q_tupT, q_lstL, q_lstT, q_revL, q_slL, q_slT, q_shL, q_shT, q_sqL, q_sqT, q_intI, q_max2, q_min2, q_aII, q_aBI, q_aTI, q_aTT, q_aLL, q_aTL, q_aIT]
theorem cellA_ok {ns : List Int} {k : Nat} : ∃ z : Int, M__law_cell [.fr (.list (ns.map PyData.int)), .fr (dN k)] = .ok (.fr (.int z), [.fr (.list (ns.map PyData.int)), .fr (dN k)]) := by
  by_cases hk : k < ns.length
  · exact ⟨ns[k], by simp [M__law_cell, b__law_cell, q_mulAI, q_mulAL, a_wb, q_divW, Function.comp_def, q_starI, q_starIT, a_wp, a_fz, a_fz0, a_fz1, a_ext, a_ins, a_insA, a_pop, a_parN, a_evO0, a_evO1, a_setO0, a_setO1, a_ix2, a_setII, a_zN, a_zC, a_lcO, d_oo, pEq_int, pNe_int, pIxL, pIxT, atI_nat, atI_0, atI_1, atI_2, atI_3, atI_m1, cutLo, cutHi, cutLo1, cutHi1, a_seq, a_ifS, a_B, a_op, a_ov, a_ev0, a_evv, a_evs, a_C, a_V, a_M, a_set, a_setI, a_app, a_ret, a_ex, a_skip, a_no, a_not, a_andT, a_orT, a_and, a_or, a_notV, a_if, a_par, a_call, a_forS, a_sq, a_r1, a_r2, a_en, a_zp, a_asT, a_chI, a_yes, a_lc, a_fn, okA, f_fr, bkA, rsvs, rsv, dvs, on1, on2, d_fr, d_ol, rsO, ndS, sl, putB, asT, setAll, ofO, Dy.ints1, Dy.ints2, nE, wipeE, unw, frO, q_addI, q_addL, q_addT, q_addS, q_sub, q_div, q_mod, q_pow, q_neg, q_cm, pIs, pIsn, q_isN, q_isI, q_isS, q_isT, q_isL, q_isB, q_lenL, q_lenT, pTup, pLst, q_tupL, q_tupT, q_lstL, q_lstT, q_revL, q_slL, q_slT, q_shL, q_shT, q_sqL, q_sqT, q_intI, q_max2, q_min2, q_aII, q_aBI, q_aTI, q_aTT, q_aLL, q_aTL, q_aIT, hk]⟩
  · exact ⟨0, by simp [M__law_cell, b__law_cell, q_mulAI, q_mulAL, a_wb, q_divW, Function.comp_def, q_starI, q_starIT, a_wp, a_fz, a_fz0, a_fz1, a_ext, a_ins, a_insA, a_pop, a_parN, a_evO0, a_evO1, a_setO0, a_setO1, a_ix2, a_setII, a_zN, a_zC, a_lcO, d_oo, pEq_int, pNe_int, pIxL, pIxT, atI_nat, atI_0, atI_1, atI_2, atI_3, atI_m1, cutLo, cutHi, cutLo1, cutHi1, a_seq, a_ifS, a_B, a_op, a_ov, a_ev0, a_evv, a_evs, a_C, a_V, a_M, a_set, a_setI, a_app, a_ret, a_ex, a_skip, a_no, a_not, a_andT, a_orT, a_and, a_or, a_notV, a_if, a_par, a_call, a_forS, a_sq, a_r1, a_r2, a_en, a_zp, a_asT, a_chI, a_yes, a_lc, a_fn, okA, f_fr, bkA, rsvs, rsv, dvs, on1, on2, d_fr, d_ol, rsO, ndS, sl, putB, asT, setAll, ofO, Dy.ints1, Dy.ints2, nE, wipeE, unw, frO, q_addI, q_addL, q_addT, q_addS, q_sub, q_div, q_mod, q_pow, q_neg, q_cm, pIs, pIsn, q_isN, q_isI, q_isS, q_isT, q_isL, q_isB, q_lenL, q_lenT, pTup, pLst, q_tupL, q_tupT, q_lstL, q_lstT, q_revL, q_slL, q_slT, q_shL, q_shT, q_sqL, q_sqT, q_intI, q_max2, q_min2, q_aII, q_aBI, q_aTI, q_aTT, q_aLL, q_aTL, q_aIT, hk]⟩
theorem drawA {o : O} {m : Int} (h : PenA o) (h1 : 0 < m) (h3 : m < 1000000000000000000000000000000) : ∃ (r : Nat) (o' : O), (r : Int) < m ∧ PenA o' ∧ M__law_draw_2 [o, .fr (.int m)] = .ok (.fr (dN r), [o', .fr (.int m)]) := by
  obtain ⟨a, b, c, rfl⟩ := h
  by_cases ha : 0 < a
  · have q0 := Int.emod_nonneg a (show m ≠ 0 by omega)
    have q1 := Int.emod_lt_of_pos a h1
    have e0 : ((a % m).toNat : Int) = a % m := by omega
    refine ⟨(a % m).toNat, _, by omega, ⟨a / m, b, c, rfl⟩, ?_⟩
    show _ = Res.ok (O.fr (.int ((a % m).toNat : Int)), _)
    rw [e0]
    simp [M__law_draw_2, b__law_draw_2, q_mulAI, q_mulAL, a_wb, q_divW, Function.comp_def, q_starI, q_starIT, a_wp, a_fz, a_fz0, a_fz1, a_ext, a_ins, a_insA, a_pop, a_parN, a_evO0, a_evO1, a_setO0, a_setO1, a_ix2, a_setII, a_zN, a_zC, a_lcO, d_oo, pEq_int, pNe_int, pIxL, pIxT, atI_nat, atI_0, atI_1, atI_2, atI_3, atI_m1, cutLo, cutHi, cutLo1, cutHi1, a_seq, a_ifS, a_B, a_op, a_ov, a_ev0, a_evv, a_evs, a_C, a_V, a_M, a_set, a_setI, a_app, a_ret, a_ex, a_skip, a_no, a_not, a_andT, a_orT, a_and, a_or, a_notV, a_if, a_par, a_call, a_forS, a_sq, a_r1, a_r2, a_en, a_zp, a_asT, a_chI, a_yes, a_lc, a_fn, okA, f_fr, bkA, rsvs, rsv, dvs, on1, on2, d_fr, d_ol, rsO, ndS, sl, putB, asT, setAll, ofO, Dy.ints1, Dy.ints2, nE, wipeE, unw, frO, q_addI, q_addL, q_addT, q_addS, q_sub, q_div, q_mod, q_pow, q_neg, q_cm, pIs, pIsn, q_isN, q_isI, q_isS, q_isT, q_isL, q_isB, q_lenL, q_lenT, pTup, pLst, q_tupL, q_tupT, q_lstL, q_lstT, q_revL, q_slL, q_slT, q_shL, q_shT, q_sqL, q_sqT, q_intI, q_max2, q_min2, q_aII, q_aBI, q_aTI, q_aTT, q_aLL, q_aTL, q_aIT, ixN, ha, h1, h3]
  · have m1 : ∀ i, pMul (.int i) (.int 48271) = some (.fr (.int (i * 48271))) := fun i => mulA' _ _ (by decide)
    have m2 : ∀ i, pMul (.int 1009) (.int i) = some (.fr (.int (1009 * i))) := fun i => mulA _ _ (by decide)
    have m3 : ∀ i, pMul (.int 69621) (.int i) = some (.fr (.int (69621 * i))) := fun i => mulA _ _ (by decide)
    have m4 : ∀ i, pMul (.int 40014) (.int i) = some (.fr (.int (40014 * i))) := fun i => mulA _ _ (by decide)
    generalize hx : (b * 48271 + 1009 * (c + 1) + 7) % 2147483647 = x
    have x0 : 0 ≤ x ∧ x < 2147483647 := by rw [← hx]; exact ⟨Int.emod_nonneg _ (by decide), Int.emod_lt_of_pos _ (by decide)⟩
    have m5 : pMul (.int x) (.int x) = some (.fr (.int (x * x))) := mulA _ _ (by omega)
    generalize hy : (x * x + 69621 * x + 11) % 2147483629 = y
    have y0 : 0 ≤ y ∧ y < 2147483647 := by rw [← hy]; exact ⟨Int.emod_nonneg _ (by decide), Int.lt_trans (Int.emod_lt_of_pos _ (by decide)) (by decide)⟩
    have m6 : pMul (.int y) (.int y) = some (.fr (.int (y * y))) := mulA _ _ (by omega)
    generalize hz : (y * y + 40014 * y) % 2147483587 / 16 = z
    have q0 := Int.emod_nonneg z (show m ≠ 0 by omega)
    have q1 := Int.emod_lt_of_pos z h1
    have e0 : ((z % m).toNat : Int) = z % m := by omega
    refine ⟨(z % m).toNat, _, by omega, ⟨a, x, c + 1, rfl⟩, ?_⟩
    show _ = Res.ok (O.fr (.int ((z % m).toNat : Int)), _)
    rw [e0]
    simp [M__law_draw_2, b__law_draw_2, q_mulAI, q_mulAL, a_wb, q_divW, Function.comp_def, q_starI, q_starIT, a_wp, a_fz, a_fz0, a_fz1, a_ext, a_ins, a_insA, a_pop, a_parN, a_evO0, a_evO1, a_setO0, a_setO1, a_ix2, a_setII, a_zN, a_zC, a_lcO, d_oo, pEq_int, pNe_int, pIxL, pIxT, atI_nat, atI_0, atI_1, atI_2, atI_3, atI_m1, cutLo, cutHi, cutLo1, cutHi1, a_seq, a_ifS, a_B, a_op, a_ov, a_ev0, a_evv, a_evs, a_C, a_V, a_M, a_set, a_setI, a_app, a_ret, a_ex, a_skip, a_no, a_not, a_andT, a_orT, a_and, a_or, a_notV, a_if, a_par, a_call, a_forS, a_sq, a_r1, a_r2, a_en, a_zp, a_asT, a_chI, a_yes, a_lc, a_fn, okA, f_fr, bkA, rsvs, rsv, dvs, on1, on2, d_fr, d_ol, rsO, ndS, sl, putB, asT, setAll, ofO, Dy.ints1, Dy.ints2, nE, wipeE, unw, frO, q_addI, q_addL, q_addT, q_addS, q_sub, q_div, q_mod, q_pow, q_neg, q_cm, pIs, pIsn, q_isN, q_isI, q_isS, q_isT, q_isL, q_isB, q_lenL, q_lenT, pTup, pLst, q_tupL, q_tupT, q_lstL, q_lstT, q_revL, q_slL, q_slT, q_shL, q_shT, q_sqL, q_sqT, q_intI, q_max2, q_min2, q_aII, q_aBI, q_aTI, q_aTT, q_aLL, q_aTL, q_aIT, ixN, ha, h1, m1, m2, m3, m4, hx, m5, hy, m6, hz]
theorem drawA_upto {o : O} (h : PenA o) (k : Nat) (h1 : 0 < k) (h2 : k < 1000000) : ∃ (r : Nat) (o' : O), r < k ∧ PenA o' ∧ M__law_draw_2 [o, .fr (.int (k : Int))] = .ok (.fr (dN r), [o', .fr (.int (k : Int))]) := by
  obtain ⟨r, o', q1, q2, q3⟩ := drawA (m := (k : Int)) h (by omega) (by omega)
  exact ⟨r, o', by omega, q2, q3⟩
theorem drawA_lit {o : O} {mi : Int} (k : Nat) (h : PenA o) (h1 : 0 < k) (h2 : k < 1000000) (hm : mi = k) : ∃ (r : Nat) (o' : O), r < k ∧ PenA o' ∧ M__law_draw_2 [o, .fr (.int mi)] = .ok (.fr (dN r), [o', .fr (.int mi)]) := by
  subst hm; exact drawA_upto h k h1 h2
theorem pickA {o : O} {xs : List PyData} (h : PenA o) (hx : xs ≠ []) (hl : xs.length < 1000000) : ∃ (d : PyData) (o' : O), d ∈ xs ∧ PenA o' ∧ M__law_pick_2 [o, .fr (.list xs)] = .ok (.fr d, [o', .fr (.list xs)]) := by
  have h0 : 0 < xs.length := List.length_pos_iff.mpr hx
  obtain ⟨r, o', q1, q2, q3⟩ := drawA_upto h xs.length h0 hl
  obtain ⟨d, hd, hm⟩ := get_of_lt q1
  exact ⟨d, o', hm, q2, by simp [M__law_pick_2, b__law_pick_2, q_mulAI, q_mulAL, a_wb, q_divW, Function.comp_def, q_starI, q_starIT, a_wp, a_fz, a_fz0, a_fz1, a_ext, a_ins, a_insA, a_pop, a_parN, a_evO0, a_evO1, a_setO0, a_setO1, a_ix2, a_setII, a_zN, a_zC, a_lcO, d_oo, pEq_int, pNe_int, pIxL, pIxT, atI_nat, atI_0, atI_1, atI_2, atI_3, atI_m1, cutLo, cutHi, cutLo1, cutHi1, a_seq, a_ifS, a_B, a_op, a_ov, a_ev0, a_evv, a_evs, a_C, a_V, a_M, a_set, a_setI, a_app, a_ret, a_ex, a_skip, a_no, a_not, a_andT, a_orT, a_and, a_or, a_notV, a_if, a_par, a_call, a_forS, a_sq, a_r1, a_r2, a_en, a_zp, a_asT, a_chI, a_yes, a_lc, a_fn, okA, f_fr, bkA, rsvs, rsv, dvs, on1, on2, d_fr, d_ol, rsO, ndS, sl, putB, asT, setAll, ofO, Dy.ints1, Dy.ints2, nE, wipeE, unw, frO, q_addI, q_addL, q_addT, q_addS, q_sub, q_div, q_mod, q_pow, q_neg, q_cm, pIs, pIsn, q_isN, q_isI, q_isS, q_isT, q_isL, q_isB, q_lenL, q_lenT, pTup, pLst, q_tupL, q_tupT, q_lstL, q_lstT, q_revL, q_slL, q_slT, q_shL, q_shT, q_sqL, q_sqT, q_intI, q_max2, q_min2, q_aII, q_aBI, q_aTI, q_aTT, q_aLL, q_aTL, q_aIT, q3, hd]⟩
theorem aritiesA {o : O} (h : PenA o) : ∃ (as : List Nat) (o' : O), ArOk as ∧ 0 ∈ as ∧ as.length ≤ 5 ∧ PenA o' ∧ M__law_arities_2 [o] = .ok (.fr (encA as), [o']) := by
  obtain ⟨r, o1, r1, p1, e1⟩ := drawA_lit (mi := 4) 4 h (by decide) (by decide) rfl
  obtain ⟨xs, o2, p2, l2, q2, e2⟩ := lc_r (vs := [2]) (t := .nm 2) (elt := E1__law_arities_2) dN (fun o => V__law_arities_2 (pen_here := some o)) (fun _ o => PenA o) (fun x => x ≤ 2) r p1 (by omega) (fun k o hk hp => by
    obtain ⟨d, o', hm, hp', e⟩ := pickA (xs := [.int 0, .int 1, .int 2, .int 2]) hp (by simp) (by decide)
    have hd : ∃ x : Nat, d = dN x ∧ x ≤ 2 := by
      simp at hm
      rcases hm with rfl | rfl | rfl
      · exact ⟨0, rfl, by decide⟩
      · exact ⟨1, rfl, by decide⟩
      · exact ⟨2, rfl, by decide⟩
    obtain ⟨x, rfl, hx⟩ := hd
    exact ⟨x, o', hp', hx, by simp [E1__law_arities_2, q_mulAI, q_mulAL, a_wb, q_divW, Function.comp_def, q_starI, q_starIT, a_wp, a_fz, a_fz0, a_fz1, a_ext, a_ins, a_insA, a_pop, a_parN, a_evO0, a_evO1, a_setO0, a_setO1, a_ix2, a_setII, a_zN, a_zC, a_lcO, d_oo, pEq_int, pNe_int, pIxL, pIxT, atI_nat, atI_0, atI_1, atI_2, atI_3, atI_m1, cutLo, cutHi, cutLo1, cutHi1, a_seq, a_ifS, a_B, a_op, a_ov, a_ev0, a_evv, a_evs, a_C, a_V, a_M, a_set, a_setI, a_app, a_ret, a_ex, a_skip, a_no, a_not, a_andT, a_orT, a_and, a_or, a_notV, a_if, a_par, a_call, a_forS, a_sq, a_r1, a_r2, a_en, a_zp, a_asT, a_chI, a_yes, a_lc, a_fn, okA, f_fr, bkA, rsvs, rsv, dvs, on1, on2, d_fr, d_ol, rsO, ndS, sl, putB, asT, setAll, ofO, Dy.ints1, Dy.ints2, nE, wipeE, unw, frO, q_addI, q_addL, q_addT, q_addS, q_sub, q_div, q_mod, q_pow, q_neg, q_cm, pIs, pIsn, q_isN, q_isI, q_isS, q_isT, q_isL, q_isB, q_lenL, q_lenT, pTup, pLst, q_tupL, q_tupT, q_lstL, q_lstT, q_revL, q_slL, q_slT, q_shL, q_shT, q_sqL, q_sqT, q_intI, q_max2, q_min2, q_aII, q_aBI, q_aTI, q_aTT, q_aLL, q_aTL, q_aIT, e]⟩)
  obtain ⟨r2, o3, s2, p3, e3⟩ := drawA_lit (mi := 2) 2 p2 (by decide) (by decide) rfl
  obtain ⟨r3, o4, s3, p4, e4⟩ := drawA_lit (mi := 2) 2 p3 (by decide) (by decide) rfl
  have c1 : (r : Int) ≤ 1000000000 ∧ (-1000000000 : Int) ≤ r := by omega
  have hmul : pMul (.list [.int 0]) (.int (1 + (r2 : Int))) = some (.ol ((List.replicate (1 + r2) 0).map dN)) := by
    rcases (by omega : r2 = 0 ∨ r2 = 1) with rfl | rfl <;> rfl
  have c2 : xs.length + (1 + r2) ≤ 1000000 := by omega
  let ys := xs ++ List.replicate (1 + r2) 0
  have hys : ∀ a ∈ ys, a ≤ 2 := fun a ha => by
    rcases List.mem_append.mp ha with z | z
    · exact q2 a z
    · rw [(List.mem_replicate.mp z).2]; omega
  have hy0 : 0 ∈ ys := List.mem_append_right _ (List.mem_replicate.mpr ⟨by omega, rfl⟩)
  have hyl : ys.length = xs.length + (1 + r2) := by simp [ys]
  by_cases z : r3 = 0
  · subst z
    refine ⟨ys.reverse, o4, ⟨fun a ha => hys a (List.mem_reverse.mp ha), by rw [List.length_reverse]; omega, by rw [List.length_reverse]; omega⟩, List.mem_reverse.mpr hy0, by rw [List.length_reverse]; omega, p4, ?_⟩
    simp [M__law_arities_2, b__law_arities_2, q_mulAI, q_mulAL, a_wb, q_divW, Function.comp_def, q_starI, q_starIT, a_wp, a_fz, a_fz0, a_fz1, a_ext, a_ins, a_insA, a_pop, a_parN, a_evO0, a_evO1, a_setO0, a_setO1, a_ix2, a_setII, a_zN, a_zC, a_lcO, d_oo, pEq_int, pNe_int, pIxL, pIxT, atI_nat, atI_0, atI_1, atI_2, atI_3, atI_m1, cutLo, cutHi, cutLo1, cutHi1, a_seq, a_ifS, a_B, a_op, a_ov, a_ev0, a_evv, a_evs, a_C, a_V, a_M, a_set, a_setI, a_app, a_ret, a_ex, a_skip, a_no, a_not, a_andT, a_orT, a_and, a_or, a_notV, a_if, a_par, a_call, a_forS, a_sq, a_r1, a_r2, a_en, a_zp, a_asT, a_chI, a_yes, a_lc, a_fn, okA, f_fr, bkA, rsvs, rsv, dvs, on1, on2, d_fr, d_ol, rsO, ndS, sl, putB, asT, setAll, ofO, Dy.ints1, Dy.ints2, nE, wipeE, unw, frO, q_addI, q_addL, q_addT, q_addS, q_sub, q_div, q_mod, q_pow, q_neg, q_cm, pIs, pIsn, q_isN, q_isI, q_isS, q_isT, q_isL, q_isB, q_lenL, q_lenT, pTup, pLst, q_tupL, q_tupT, q_lstL, q_lstT, q_revL, q_slL, q_slT, q_shL, q_shT, q_sqL, q_sqT, q_intI, q_max2, q_min2, q_aII, q_aBI, q_aTI, q_aTT, q_aLL, q_aTL, q_aIT, e1, c1, e2, e3, hmul, c2, e4, ys]
  · refine ⟨ys, o4, ⟨hys, by omega, by omega⟩, hy0, by omega, p4, ?_⟩
    simp [M__law_arities_2, b__law_arities_2, q_mulAI, q_mulAL, a_wb, q_divW, Function.comp_def, q_starI, q_starIT, a_wp, a_fz, a_fz0, a_fz1, a_ext, a_ins, a_insA, a_pop, a_parN, a_evO0, a_evO1, a_setO0, a_setO1, a_ix2, a_setII, a_zN, a_zC, a_lcO, d_oo, pEq_int, pNe_int, pIxL, pIxT, atI_nat, atI_0, atI_1, atI_2, atI_3, atI_m1, cutLo, cutHi, cutLo1, cutHi1, a_seq, a_ifS, a_B, a_op, a_ov, a_ev0, a_evv, a_evs, a_C, a_V, a_M, a_set, a_setI, a_app, a_ret, a_ex, a_skip, a_no, a_not, a_andT, a_orT, a_and, a_or, a_notV, a_if, a_par, a_call, a_forS, a_sq, a_r1, a_r2, a_en, a_zp, a_asT, a_chI, a_yes, a_lc, a_fn, okA, f_fr, bkA, rsvs, rsv, dvs, on1, on2, d_fr, d_ol, rsO, ndS, sl, putB, asT, setAll, ofO, Dy.ints1, Dy.ints2, nE, wipeE, unw, frO, q_addI, q_addL, q_addT, q_addS, q_sub, q_div, q_mod, q_pow, q_neg, q_cm, pIs, pIsn, q_isN, q_isI, q_isS, q_isT, q_isL, q_isB, q_lenL, q_lenT, pTup, pLst, q_tupL, q_tupT, q_lstL, q_lstT, q_revL, q_slL, q_slT, q_shL, q_shT, q_sqL, q_sqT, q_intI, q_max2, q_min2, q_aII, q_aBI, q_aTI, q_aTT, q_aLL, q_aTL, q_aIT, e1, c1, e2, e3, hmul, c2, e4, z, ys]
end Q
namespace Q
open PySem Dy
open L2 (atI ixN)
def PenB (n : Nat) (o : O) : Prop := ∃ a b c : Int, o = .ol [.int a, .int b, .int c] ∧ 0 ≤ b ∧ b < 1000000007 ∧ 0 ≤ c ∧ c ≤ n
theorem PenB.mono {n m : Nat} {o : O} (h : PenB n o) (l : n ≤ m) : PenB m o := by
  obtain ⟨a, b, c, e, h1, h2, h3, h4⟩ := h
  exact ⟨a, b, c, e, h1, h2, h3, by omega⟩
def lvs (p : Nat → Bool) (as : List Nat) : List Nat := (ens as).filterMap fun q => if p q.2 = true then some q.1 else none
theorem lvs_enc (p : Nat → Bool) (as : List Nat) : ((ens as).filterMap fun q => if p q.2 = true then some (dN q.1) else none) = (lvs p as).map dN := by
  unfold lvs
  rw [List.map_filterMap]
  congr 1; funext q; split <;> rfl
theorem lvs_mem {p : Nat → Bool} {as : List Nat} {x : Nat} : x ∈ lvs p as ↔ ∃ a, as[x]? = some a ∧ p a = true := by
  unfold lvs
  rw [List.mem_filterMap]
  constructor
  · rintro ⟨⟨i, a⟩, h1, h2⟩
    have := ens_mem h1
    dsimp only at h2
    split at h2
    · rename_i hp; cases h2; exact ⟨a, this, hp⟩
    · cases h2
  · rintro ⟨a, h1, h2⟩
    exact ⟨(x, a), mem_ens h1, by simp [h2]⟩
theorem lvs_len (p : Nat → Bool) (as : List Nat) : (lvs p as).length ≤ as.length := by
  unfold lvs
  exact Nat.le_trans (List.length_filterMap_le _ _) (by rw [ens_len]; exact Nat.le_refl _)
end Q
namespace Q
open PySem Dy
end Q
namespace Q
open PySem Dy
open L2 (atI ixN)
section
variable (env : Dy.Env) (i : Nat) (f : EF) (y : AF) (as : List AF) (es : List (PyData × PyData)) (k d : PyData)
end
section
variable {κ β : Type} [DecidableEq κ]
def lk (ks : List (κ × β)) (k : κ) : Option β := (ks.find? fun e => decide (e.1 = k)).map (·.2)
variable {f : κ → PyData} {g : β → PyData}
end
def tNs (p : List Nat) : PyData := .tuple (p.map dN)
theorem eqv_tNs (p q : List Nat) : PyData.eqv (tNs p) (tNs q) = decide (p = q) := by
  unfold tNs
  simp only [PyData.eqv]
  induction p generalizing q with
  | nil => cases q <;> simp [PyData.eqvAll]
  | cons a p ih =>
    cases q with
    | nil => simp [PyData.eqvAll]
    | cons b q =>
      simp only [List.map_cons, PyData.eqvAll, PyData.eqv, ih]
      by_cases c : a = b
      · by_cases c2 : p = q <;> simp [c, c2]
      · have : ¬ ((a : Int) = b) := by omega
        simp [c, this]
abbrev Kn := List (List Nat × Nat)
end Q
namespace Q
open PySem Dy
def E1__law_written : EF := fV 6
def T1__law_written : TF := fB (fOp (on2 pEq) [.s 9, .v (fC (.int 0))])
def E2__law_written : EF := fOp (on2 pIx) [.v (fOv pLst [.v (fV 7), .v (fOp (on2 pSub) [.v (fOp (on1 pLen) [.s 4]), .v (fC (.int 1))]), .v (fCall M__law_draw_2 [.s 0, .v (fOp (on1 pLen) [.s 4])])]), .v (fCall M__law_draw_2 [.s 0, .v (fC (.int 3))])]
def L1__law_written : SF := fSeq (fSet 6 (fCall M__law_draw_2 [.s 0, .v (fOp (on1 pLen) [.s 1])]))
  (fSeq (fSet 7 (fOp (pMax) [.v (fC (.int 0)), .v (fOp (on2 pSub) [.v (fOp (on2 pSub) [.v (fOp (on1 pLen) [.s 4]), .v (fC (.int 1))]), .v (fCall M__law_draw_2 [.s 0, .v (fC (.int 3))])])]))
  (fSeq (fFz [8] (fSet 8 (fLc (fR1 (.v (fC (.int 2)))) [10] (.nm 10) (fYes) (E2__law_written))))
  (fWp [5, 6, 7, 8] (fApp 4 (fOp (on2 pAdd) [.v (fOv pTup [.v (fV 6)]), .v (fOp (on1 pTuple) [.v (fOp (on2 pSl2h) [.s 8, .v (fOp (on2 pIx) [.s 1, .s 6])])])])))))
def b__law_written : SF := fSeq (fFz [3] (fSet 3 (fLc (fEn (.v (fV 1))) [6, 9] (.tu [6, 9]) (T1__law_written) (E1__law_written))))
  (fSeq (fIfS (fB (fOp (on2 pEq) [.s 3, .v (fOv pLst [])])) (fRet (fC .none)) (fSkip))
  (fSeq (fWp [3] (fSet 4 (fOv pLst [.v (fOv pTup [.v (fCall M__law_pick_2 [.s 0, .v (fV 3)])])])))
  (fSeq (fWp [1, 2, 5, 6, 7, 8] (fForS (fR1 (.v (fCall M__law_draw_2 [.s 0, .v (fV 2)]))) (.nm 5) (L1__law_written)))
  (fRet (fOp (on1 pTuple) [.s 4])))))
def M__law_written : Fn := fnM 3 11 [0] b__law_written
abbrev V__law_written (pen_here : Option O := none) (arities_here : Option O := none) (upto : Option O := none) (leaves : Option O := none) (found : Option O := none) (turn : Option O := none) (one : Option O := none) (near : Option O := none) (parts : Option O := none) (arity : Option O := none) (lap : Option O := none) : Dy.Env := [pen_here, arities_here, upto, leaves, found, turn, one, near, parts, arity, lap]
end Q
namespace Q
open PySem Dy
end Q
namespace Q
open PySem Dy
def b__law_kind (c : Str) : SF := fSeq (fFz [1] (fSet 1 (fOv pLst [.v (fC (.bool (decide (c = "NoMachine")))), .v (fC (.bool (decide (c = "NoArities")))), .v (fC (.bool (decide (c = "NoTree"))))])))
  (fSeq (fFz [1] (fSet 1 (fOp (on2 pAdd) [.s 1, .v (fOv pLst [.v (fC (.bool (decide (c = "Unspelled")))), .v (fC (.bool (decide (c = "NoOperator")))), .v (fC (.bool (decide (c = "NoPrices"))))])])))
  (fSeq (fFz [1] (fSet 1 (fOp (on2 pAdd) [.s 1, .v (fOv pLst [.v (fC (.bool (decide (c = "NoStates")))), .v (fC (.bool (decide (c = "NoForm")))), .v (fC (.bool (decide (c = "NoCover"))))])])))
  (fSeq (fFz [1] (fSet 1 (fOp (on2 pAdd) [.s 1, .v (fOv pLst [.v (fC (.bool (decide (c = "NoNumber")))), .v (fC (.bool (decide (c = "NoNumbers")))), .v (fC (.bool (decide (c = "NoPrice"))))])])))
  (fSeq (fFz [1] (fSet 1 (fOp (on2 pAdd) [.s 1, .v (fOv pLst [.v (fC (.bool (decide (c = "ManyForms")))), .v (fC (.bool (decide (c = "Endless"))))])])))
  (fSeq (fFz [1] (fSet 1 (fOp (on2 pAdd) [.s 1, .v (fOv pLst [.v (fC (.bool (decide (c = "OtherArities")))), .v (fC (.bool (decide (c = "NoContext"))))])])))
  (fSeq (fFz [1] (fSet 1 (fOp (on2 pAdd) [.s 1, .v (fOv pLst [.v (fC (.bool (decide (c = "NoNodes")))), .v (fC (.bool (decide (c = "NoArguments")))), .v (fC (.bool (decide (c = "NothingRead"))))])])))
  (fSeq (fFz [1] (fSet 1 (fOp (on2 pAdd) [.s 1, .v (fOv pLst [.v (fC (.bool (decide (c = "NothingDone")))), .v (fC (.bool (decide (c = "NoPlace")))), .v (fC (.bool (decide (c = "NoText"))))])])))
  (fSeq (fFz [1] (fSet 1 (fOp (on2 pAdd) [.s 1, .v (fOv pLst [.v (fC (.bool (decide (c = "BadLine")))), .v (fC (.bool (decide (c = "TooMany"))))])])))
  (fSeq (fFz [2] (fSet 2 (fOv pLst [.v (fC (.str "machine")), .v (fC (.str "arities")), .v (fC (.str "tree")), .v (fC (.str "unspelled")), .v (fC (.str "operator")), .v (fC (.str "prices")), .v (fC (.str "states")), .v (fC (.str "form")), .v (fC (.str "cover"))])))
  (fSeq (fFz [2] (fSet 2 (fOp (on2 pAdd) [.s 2, .v (fOv pLst [.v (fC (.str "number")), .v (fC (.str "numbers")), .v (fC (.str "price")), .v (fC (.str "forms")), .v (fC (.str "endless")), .v (fC (.str "others")), .v (fC (.str "context")), .v (fC (.str "nodes"))])])))
  (fSeq (fFz [2] (fSet 2 (fOp (on2 pAdd) [.s 2, .v (fOv pLst [.v (fC (.str "arguments")), .v (fC (.str "unread")), .v (fC (.str "undone")), .v (fC (.str "place")), .v (fC (.str "text")), .v (fC (.str "line")), .v (fC (.str "many"))])])))
  (fSeq (fIfS (fOrT (fB (fOp (on2 pNe) [.v (fMt pCount 1 (.v (fC (.bool true)))), .v (fC (.int 1))])) (fNot (fB (fC (.bool true))))) (fRet (fC (.str "other"))) (fSkip))
  (fRet (fOp (on2 pIx) [.s 2, .v (fMt pIndex 1 (.v (fC (.bool true))))]))))))))))))))
end Q
namespace Q
open PySem Dy
def b_need_arities_2 : SF := fIfS (fNot (fB (fCall M_is_arities [.v (fV 0)]))) (fRaise "NoArities") (fSkip)
def M_need_arities_2 : Fn := fnM 1 1 [] b_need_arities_2
def b_need_tree_2 : SF := fIfS (fNot (fB (fCall M_is_written [.v (fV 0), .v (fV 1)]))) (fRaise "NoTree") (fSkip)
def M_need_tree_2 : Fn := fnM 2 2 [] b_need_tree_2
end Q
namespace Q
open PySem Dy
end Q
namespace Q
open PySem Dy
end Q
namespace Q
open PySem Dy
end Q
namespace Q
open PySem Dy
def E2_law_20 : EF := fOv pTup [.v (fC (.int 1)), .v (fV 14), .v (fOp (on2 pAdd) [.s 14, .v (fC (.int 1))])]
abbrev V_law_20 (script : Option O := none) (full : Option O := none) (low : Option O := none) (tall : Option O := none) (k : Option O := none) (pen_here : Option O := none) (lap : Option O := none) (arities_here : Option O := none) (written_here : Option O := none) (again_here : Option O := none) (more : Option O := none) (some_ : Option O := none) (other_here : Option O := none) (one : Option O := none) (at_ : Option O := none) : Dy.Env := [script, full, low, tall, k, pen_here, lap, arities_here, written_here, again_here, more, some_, other_here, one, at_]
end Q
namespace Q
open PySem Dy
open L2 (atI ixN)
theorem wrA4 {o : O} {as : List Nat} {ui : Int} (up : Nat) (h : PenA o) (ha : ArOk as) (h0 : 0 ∈ as) (m0 : 0 < up) (m1 : up ≤ 100) (hm : ui = up) :
    ∃ (t : List Nd) (o' : O), TrOk as t ∧ t.length ≤ up ∧ PenA o' ∧ M__law_written [o, .fr (encA as), .fr (.int ui)] = .ok (.fr (encT t), [o', .fr (encA as), .fr (.int ui)]) := by
  subst hm
  have hl := ha.len
  have e0 : ∀ e : Dy.Env, e = V__law_written (pen_here := some o) (arities_here := fr (encA as)) (upto := fr (dN up)) → lcL [6, 9] (.tu [6, 9]) T1__law_written E1__law_written (enumD 0 (as.map dN)) e [] = .ok ((lvs (fun a => decide (a = 0)) as).map dN, e) := fun e he => by
    rw [lc_fl (fun q : Nat × Nat => .tuple [.int (q.1 : Int), dN q.2]) (fun q => if decide (q.2 = 0) = true then some (dN q.1) else none) (ens as) (enumD_ens _ _) (fun q hq => ?_) (by rw [ens_len]; omega), lvs_enc (fun a => decide (a = 0))]
    subst he
    by_cases z : q.2 = 0 <;> simp [T1__law_written, E1__law_written, q_mulAI, q_mulAL, a_wb, q_divW, Function.comp_def, q_starI, q_starIT, a_wp, a_fz, a_fz0, a_fz1, a_ext, a_ins, a_insA, a_pop, a_parN, a_evO0, a_evO1, a_setO0, a_setO1, a_ix2, a_setII, a_zN, a_zC, a_lcO, d_oo, pEq_int, pNe_int, pIxL, pIxT, atI_nat, atI_0, atI_1, atI_2, atI_3, atI_m1, cutLo, cutHi, cutLo1, cutHi1, a_seq, a_ifS, a_B, a_op, a_ov, a_ev0, a_evv, a_evs, a_C, a_V, a_M, a_set, a_setI, a_app, a_ret, a_ex, a_skip, a_no, a_not, a_andT, a_orT, a_and, a_or, a_notV, a_if, a_par, a_call, a_forS, a_sq, a_r1, a_r2, a_en, a_zp, a_asT, a_chI, a_yes, a_lc, a_fn, okA, f_fr, bkA, rsvs, rsv, dvs, on1, on2, d_fr, d_ol, rsO, ndS, sl, putB, asT, setAll, ofO, Dy.ints1, Dy.ints2, nE, wipeE, unw, frO, q_addI, q_addL, q_addT, q_addS, q_sub, q_div, q_mod, q_pow, q_neg, q_cm, pIs, pIsn, q_isN, q_isI, q_isS, q_isT, q_isL, q_isB, q_lenL, q_lenT, pTup, pLst, q_tupL, q_tupT, q_lstL, q_lstT, q_revL, q_slL, q_slT, q_shL, q_shT, q_sqL, q_sqT, q_intI, q_max2, q_min2, q_aII, q_aBI, q_aTI, q_aTT, q_aLL, q_aTL, q_aIT, z]
  have hv : ∃ x, x ∈ lvs (fun a => decide (a = 0)) as := by
    obtain ⟨i, hi⟩ := List.getElem?_of_mem h0
    exact ⟨i, lvs_mem.mpr ⟨0, hi, by simp⟩⟩
  have hne : lvs (fun a => decide (a = 0)) as ≠ [] := fun z => by obtain ⟨x, hx⟩ := hv; rw [z] at hx; cases hx
  have rk : shp (.list ((lvs (fun a => decide (a = 0)) as).map dN)) = true := (Rk.lst (rkNs fun a ha' => by obtain ⟨x, hx, _⟩ := lvs_mem.mp ha'; have := lt_of_get hx; omega)).shp (by decide)
  obtain ⟨d, o1, hd, p1, e1⟩ := pickA (xs := (lvs (fun a => decide (a = 0)) as).map dN) h (fun z => hne (List.map_eq_nil_iff.mp z)) (by have := lvs_len (fun a => decide (a = 0)) as; simp; omega)
  obtain ⟨leaf, hleaf, rfl⟩ := List.mem_map.mp hd
  obtain ⟨a0, ha0, hz⟩ := lvs_mem.mp hleaf
  have hz : a0 = 0 := by simpa using hz
  subst hz
  obtain ⟨r, o2, r2, p2, e2⟩ := drawA_upto p1 up m0 (by omega)
  obtain ⟨s, ⟨p3, w3, l3⟩, e3⟩ := for_r (t := .nm 5) (body := L1__law_written) (fun s : O × List Nd => V__law_written (pen_here := some s.1) (arities_here := fr (encA as)) (upto := fr (dN up)) (found := ol (s.2.map encN)))
    (fun k s => PenA s.1 ∧ WF as s.2 ∧ s.2.length = k + 1) r (s := (o2, [(leaf, [])])) ⟨p2, WF.nil.snoc (n := (leaf, [])) ⟨ha0, by simp⟩, rfl⟩ (fun k s hk hs => by
      obtain ⟨o3, t⟩ := s
      obtain ⟨q1, q2, q3⟩ := hs
      dsimp only at q1 q2 q3
      obtain ⟨op, o4, r4, p4, e4⟩ := drawA_upto q1 as.length ha.pos (by omega)
      obtain ⟨a, ga, ma⟩ := get_of_lt r4
      have a2 := ha.le2 a ma
      obtain ⟨c, o5, r5, p5, e5⟩ := drawA_lit (mi := 3) 3 p4 (by decide) (by decide) rfl
      have near : max (0 : Int) ((k : Int) - c) = ((k - c : Nat) : Int) := by omega
      obtain ⟨ps, o6, p6, l6, r6, e6⟩ := lc_r (vs := [10]) (t := .nm 10) (elt := E2__law_written) dN (fun o => V__law_written (pen_here := some o) (arities_here := fr (encA as)) (upto := fr (dN up)) (found := ol (t.map encN)) (turn := fr (dN k)) (one := fr (dN op)) (near := fr (dN (k - c))))
        (fun j o => PenA o) (fun x => x < t.length) 2 p5 (by omega) (fun j o hj hp => by
          obtain ⟨x, o7, r7, p7, e7⟩ := drawA_upto hp t.length (by omega) (by omega)
          obtain ⟨y, o8, r8, p8, e8⟩ := drawA_lit (mi := 3) 3 p7 (by decide) (by decide) rfl
          rw [q3] at e7
          simp only [Int.natCast_add, Int.natCast_one] at e7
          have c1 : ((k : Int) + 1 - 1) = k := by omega
          match y, r8 with
          | 0, _ => exact ⟨k - c, o8, p8, by omega, by simp [E2__law_written, q_mulAI, q_mulAL, a_wb, q_divW, Function.comp_def, q_starI, q_starIT, a_wp, a_fz, a_fz0, a_fz1, a_ext, a_ins, a_insA, a_pop, a_parN, a_evO0, a_evO1, a_setO0, a_setO1, a_ix2, a_setII, a_zN, a_zC, a_lcO, d_oo, pEq_int, pNe_int, pIxL, pIxT, atI_nat, atI_0, atI_1, atI_2, atI_3, atI_m1, cutLo, cutHi, cutLo1, cutHi1, a_seq, a_ifS, a_B, a_op, a_ov, a_ev0, a_evv, a_evs, a_C, a_V, a_M, a_set, a_setI, a_app, a_ret, a_ex, a_skip, a_no, a_not, a_andT, a_orT, a_and, a_or, a_notV, a_if, a_par, a_call, a_forS, a_sq, a_r1, a_r2, a_en, a_zp, a_asT, a_chI, a_yes, a_lc, a_fn, okA, f_fr, bkA, rsvs, rsv, dvs, on1, on2, d_fr, d_ol, rsO, ndS, sl, putB, asT, setAll, ofO, Dy.ints1, Dy.ints2, nE, wipeE, unw, frO, q_addI, q_addL, q_addT, q_addS, q_sub, q_div, q_mod, q_pow, q_neg, q_cm, pIs, pIsn, q_isN, q_isI, q_isS, q_isT, q_isL, q_isB, q_lenL, q_lenT, pTup, pLst, q_tupL, q_tupT, q_lstL, q_lstT, q_revL, q_slL, q_slT, q_shL, q_shT, q_sqL, q_sqT, q_intI, q_max2, q_min2, q_aII, q_aBI, q_aTI, q_aTT, q_aLL, q_aTL, q_aIT, q3, c1, e7, e8]⟩
          | 1, _ => exact ⟨k, o8, p8, by omega, by simp [E2__law_written, q_mulAI, q_mulAL, a_wb, q_divW, Function.comp_def, q_starI, q_starIT, a_wp, a_fz, a_fz0, a_fz1, a_ext, a_ins, a_insA, a_pop, a_parN, a_evO0, a_evO1, a_setO0, a_setO1, a_ix2, a_setII, a_zN, a_zC, a_lcO, d_oo, pEq_int, pNe_int, pIxL, pIxT, atI_nat, atI_0, atI_1, atI_2, atI_3, atI_m1, cutLo, cutHi, cutLo1, cutHi1, a_seq, a_ifS, a_B, a_op, a_ov, a_ev0, a_evv, a_evs, a_C, a_V, a_M, a_set, a_setI, a_app, a_ret, a_ex, a_skip, a_no, a_not, a_andT, a_orT, a_and, a_or, a_notV, a_if, a_par, a_call, a_forS, a_sq, a_r1, a_r2, a_en, a_zp, a_asT, a_chI, a_yes, a_lc, a_fn, okA, f_fr, bkA, rsvs, rsv, dvs, on1, on2, d_fr, d_ol, rsO, ndS, sl, putB, asT, setAll, ofO, Dy.ints1, Dy.ints2, nE, wipeE, unw, frO, q_addI, q_addL, q_addT, q_addS, q_sub, q_div, q_mod, q_pow, q_neg, q_cm, pIs, pIsn, q_isN, q_isI, q_isS, q_isT, q_isL, q_isB, q_lenL, q_lenT, pTup, pLst, q_tupL, q_tupT, q_lstL, q_lstT, q_revL, q_slL, q_slT, q_shL, q_shT, q_sqL, q_sqT, q_intI, q_max2, q_min2, q_aII, q_aBI, q_aTI, q_aTT, q_aLL, q_aTL, q_aIT, q3, c1, e7, e8]⟩
          | 2, _ => exact ⟨x, o8, p8, r7, by simp [E2__law_written, q_mulAI, q_mulAL, a_wb, q_divW, Function.comp_def, q_starI, q_starIT, a_wp, a_fz, a_fz0, a_fz1, a_ext, a_ins, a_insA, a_pop, a_parN, a_evO0, a_evO1, a_setO0, a_setO1, a_ix2, a_setII, a_zN, a_zC, a_lcO, d_oo, pEq_int, pNe_int, pIxL, pIxT, atI_nat, atI_0, atI_1, atI_2, atI_3, atI_m1, cutLo, cutHi, cutLo1, cutHi1, a_seq, a_ifS, a_B, a_op, a_ov, a_ev0, a_evv, a_evs, a_C, a_V, a_M, a_set, a_setI, a_app, a_ret, a_ex, a_skip, a_no, a_not, a_andT, a_orT, a_and, a_or, a_notV, a_if, a_par, a_call, a_forS, a_sq, a_r1, a_r2, a_en, a_zp, a_asT, a_chI, a_yes, a_lc, a_fn, okA, f_fr, bkA, rsvs, rsv, dvs, on1, on2, d_fr, d_ol, rsO, ndS, sl, putB, asT, setAll, ofO, Dy.ints1, Dy.ints2, nE, wipeE, unw, frO, q_addI, q_addL, q_addT, q_addS, q_sub, q_div, q_mod, q_pow, q_neg, q_cm, pIs, pIsn, q_isN, q_isI, q_isS, q_isT, q_isL, q_isB, q_lenL, q_lenT, pTup, pLst, q_tupL, q_tupT, q_lstL, q_lstT, q_revL, q_slL, q_slT, q_shL, q_shT, q_sqL, q_sqT, q_intI, q_max2, q_min2, q_aII, q_aBI, q_aTI, q_aTT, q_aLL, q_aTL, q_aIT, q3, c1, e7, e8]⟩)
      refine ⟨(o6, t ++ [(op, ps.take a)]), ⟨p6, q2.snoc ⟨by rw [ga]; simp [l6]; omega, fun p hp => r6 p (List.mem_of_mem_take hp)⟩, by simp [q3]⟩, ?_⟩
      have c1 : ((k : Int) + 1 - 1) = k := by omega
      have c3 : 1 + min a ps.length ≤ 1000000 := by omega
      have c4 : k + 1 < 1000000 := by omega
      simp [L1__law_written, q_mulAI, q_mulAL, a_wb, q_divW, Function.comp_def, q_starI, q_starIT, a_wp, a_fz, a_fz0, a_fz1, a_ext, a_ins, a_insA, a_pop, a_parN, a_evO0, a_evO1, a_setO0, a_setO1, a_ix2, a_setII, a_zN, a_zC, a_lcO, d_oo, pEq_int, pNe_int, pIxL, pIxT, atI_nat, atI_0, atI_1, atI_2, atI_3, atI_m1, cutLo, cutHi, cutLo1, cutHi1, a_seq, a_ifS, a_B, a_op, a_ov, a_ev0, a_evv, a_evs, a_C, a_V, a_M, a_set, a_setI, a_app, a_ret, a_ex, a_skip, a_no, a_not, a_andT, a_orT, a_and, a_or, a_notV, a_if, a_par, a_call, a_forS, a_sq, a_r1, a_r2, a_en, a_zp, a_asT, a_chI, a_yes, a_lc, a_fn, okA, f_fr, bkA, rsvs, rsv, dvs, on1, on2, d_fr, d_ol, rsO, ndS, sl, putB, asT, setAll, ofO, Dy.ints1, Dy.ints2, nE, wipeE, unw, frO, q_addI, q_addL, q_addT, q_addS, q_sub, q_div, q_mod, q_pow, q_neg, q_cm, pIs, pIsn, q_isN, q_isI, q_isS, q_isT, q_isL, q_isB, q_lenL, q_lenT, pTup, pLst, q_tupL, q_tupT, q_lstL, q_lstT, q_revL, q_slL, q_slT, q_shL, q_shT, q_sqL, q_sqT, q_intI, q_max2, q_min2, q_aII, q_aBI, q_aTI, q_aTT, q_aLL, q_aTL, q_aIT, e4, q3, c1, ga, e5, near, e6, c3, c4, encN, List.map_take])
  have c2 : (r : Int) ≤ 1000000000 ∧ (-1000000000 : Int) ≤ r := by omega
  refine ⟨s.2, s.1, ⟨w3, fun z => by rw [z] at l3; simp at l3, by omega⟩, by omega, p3, ?_⟩
  dsimp only [List.map, encN] at e3
  simp [M__law_written, b__law_written, q_mulAI, q_mulAL, a_wb, q_divW, Function.comp_def, q_starI, q_starIT, a_wp, a_fz, a_fz0, a_fz1, a_ext, a_ins, a_insA, a_pop, a_parN, a_evO0, a_evO1, a_setO0, a_setO1, a_ix2, a_setII, a_zN, a_zC, a_lcO, d_oo, pEq_int, pNe_int, pIxL, pIxT, atI_nat, atI_0, atI_1, atI_2, atI_3, atI_m1, cutLo, cutHi, cutLo1, cutHi1, a_seq, a_ifS, a_B, a_op, a_ov, a_ev0, a_evv, a_evs, a_C, a_V, a_M, a_set, a_setI, a_app, a_ret, a_ex, a_skip, a_no, a_not, a_andT, a_orT, a_and, a_or, a_notV, a_if, a_par, a_call, a_forS, a_sq, a_r1, a_r2, a_en, a_zp, a_asT, a_chI, a_yes, a_lc, a_fn, okA, f_fr, bkA, rsvs, rsv, dvs, on1, on2, d_fr, d_ol, rsO, ndS, sl, putB, asT, setAll, ofO, Dy.ints1, Dy.ints2, nE, wipeE, unw, frO, q_addI, q_addL, q_addT, q_addS, q_sub, q_div, q_mod, q_pow, q_neg, q_cm, pIs, pIsn, q_isN, q_isI, q_isS, q_isT, q_isL, q_isB, q_lenL, q_lenT, pTup, pLst, q_tupL, q_tupT, q_lstL, q_lstT, q_revL, q_slL, q_slT, q_shL, q_shT, q_sqL, q_sqT, q_intI, q_max2, q_min2, q_aII, q_aBI, q_aTI, q_aTT, q_aLL, q_aTL, q_aIT, e0, pEq_L0 rk, hne, e1, e2, c2, e3]
theorem a_appI_4 (i : Nat) (y : Dy.Env → Option Int) (f : EF) (env : Dy.Env) : fAppI i y f env = match env[i]?, y env with
  | some (some (.oo rs)), some k => match ixN rs.length k with
    | some j => match rs[j]? with
      | some w => if w.length < 1000000 then nE (f (env.set i none)) >>= fun r => .ok (.nx, r.2.set i (some (.oo (rs.set j (w ++ [r.1.data]))))) else .no
      | none => .no
    | none => .no
  | _, _ => .no := rfl
inductive Tr where
  | nd : Nat → List Tr → Tr
abbrev T0 : Tr := .nd 0 []
/-- the trees of a row of nodes -/
def un (t : List Nd) : List Tr := alg Tr.nd T0 t
def gT (φ : List Tr) (a : Nat) : Tr := φ.getD a T0
theorem gT_at {φ : List Tr} {a : Nat} (h : a < φ.length) : φ[a]? = some (gT φ a) := getD_mem h
structure Kg (ks : Kn) (φ : List Tr) : Prop where
  len : ks.length = φ.length
  nd : φ.Nodup
  ent : ∀ v, v < φ.length → ∃ op args, ks[v]? = some (op :: args, v) ∧ φ[v]? = some (.nd op (args.map (gT φ))) ∧ ∀ a ∈ args, a < φ.length
theorem gT_inj {φ : List Tr} (h : φ.Nodup) {a b : Nat} (ha : a < φ.length) (hb : b < φ.length) (e : gT φ a = gT φ b) : a = b := by
  have e1 := gT_at ha
  have e2 := gT_at hb
  rw [← e] at e2
  exact (List.getElem?_inj ha h).mp (e1.trans e2.symm)
theorem map_gT_inj {φ : List Tr} (h : φ.Nodup) : ∀ {xs ys : List Nat}, (∀ a ∈ xs, a < φ.length) → (∀ a ∈ ys, a < φ.length) → xs.map (gT φ) = ys.map (gT φ) → xs = ys
  | [], [], _, _, _ => rfl
  | [], _ :: _, _, _, e => by cases e
  | _ :: _, [], _, _, e => by cases e
  | x :: xs, y :: ys, hx, hy, e => by
    simp only [List.map_cons, List.cons.injEq] at e
    rw [gT_inj h (hx x (by simp)) (hy y (by simp)) e.1, map_gT_inj h (fun a ha => hx a (by simp [ha])) (fun a ha => hy a (by simp [ha])) e.2]
theorem lk_mem {κ β : Type} [DecidableEq κ] {ks : List (κ × β)} {p : κ} {v : β} (h : lk ks p = some v) : (p, v) ∈ ks := by
  unfold lk at h
  cases q : ks.find? (fun e => decide (e.1 = p)) with
  | none => rw [q] at h; cases h
  | some e =>
    rw [q] at h
    have h1 := List.find?_some q
    have h2 := List.mem_of_find?_eq_some q
    obtain ⟨a, b⟩ := e
    simp at h1 h
    subst h1; subst h
    exact h2
theorem lk_noneE {κ β : Type} [DecidableEq κ] {ks : List (κ × β)} {p : κ} (h : lk ks p = none) : ∀ v, (p, v) ∉ ks := fun v hm => by
  unfold lk at h
  rw [Option.map_eq_none_iff, List.find?_eq_none] at h
  have := h _ hm
  simp at this
theorem Kg.at {ks : Kn} {φ : List Tr} (h : Kg ks φ) {op : Nat} {args : List Nat} {v : Nat} (e : lk ks (op :: args) = some v) : v < φ.length ∧ gT φ v = .nd op (args.map (gT φ)) := by
  obtain ⟨i, hi⟩ := List.getElem?_of_mem (lk_mem e)
  have li : i < φ.length := by rw [← h.len]; exact lt_of_get hi
  obtain ⟨op', args', e1, e2, e3⟩ := h.ent i li
  rw [e1] at hi
  cases hi
  have := gT_at li
  rw [e2] at this
  exact ⟨li, (Option.some.inj this).symm⟩
theorem Kg.no {ks : Kn} {φ : List Tr} (h : Kg ks φ) {op : Nat} {args : List Nat} (ha : ∀ a ∈ args, a < φ.length) (e : lk ks (op :: args) = none) : Tr.nd op (args.map (gT φ)) ∉ φ := fun hm => by
  obtain ⟨i, hi⟩ := List.getElem?_of_mem hm
  obtain ⟨op', args', e1, e2, e3⟩ := h.ent i (lt_of_get hi)
  rw [e2] at hi
  simp only [Option.some.injEq, Tr.nd.injEq] at hi
  obtain ⟨rfl, hm'⟩ := hi
  have := map_gT_inj h.nd e3 ha hm'
  subst this
  exact lk_noneE e i (List.mem_of_getElem? e1)
theorem Kg.nil : Kg [] [] := ⟨rfl, by simp, fun v h => by simp at h⟩
end Q
namespace Q
open PySem Dy
open L2 (atI ixN)
def encp (p : List Nat) : PyData := .tuple [dN (p.headD 0), .tuple (p.tail.map dN)]
theorem eqv_encp {p q : List Nat} (hp : p ≠ []) (hq : q ≠ []) : PyData.eqv (encp p) (encp q) = decide (p = q) := by
  match p, q with
  | a :: xs, b :: ys =>
    have e := eqv_tNs xs ys
    unfold tNs at e
    unfold encp
    simp only [PyData.eqv] at e ⊢
    simp only [List.headD_cons, List.tail_cons, PyData.eqvAll, PyData.eqv, e]
    by_cases c : a = b
    · by_cases c2 : xs = ys <;> simp [c, c2]
    · have : ¬ ((a : Int) = b) := by omega
      simp [c, this]
/-- keys with their places -/
def Kq (ks : Kn) : Prop := ∀ (i : Nat) (q : List Nat × Nat), ks[i]? = some q → q.2 = i ∧ ∃ op args, q.1 = op :: args ∧ op < 100000 ∧ args.length ≤ 2 ∧ ∀ a ∈ args, a < 100000
theorem Kq.nil : Kq [] := fun i q h => by simp at h
theorem Kq.ne {ks : Kn} (h : Kq ks) {q : List Nat × Nat} (hq : q ∈ ks) : q.1 ≠ [] := by
  obtain ⟨i, hi⟩ := List.getElem?_of_mem hq
  obtain ⟨_, op, args, e, _⟩ := h i q hi
  rw [e]; simp
theorem Kq.idx {ks : Kn} (h : Kq ks) {p : List Nat} (hp : p ≠ []) : (ks.map fun q => encp q.1).findIdx? (fun z => PyData.eqv z (encp p)) = lk ks p := by
  rw [List.findIdx?_map]
  have e : ∀ q ∈ ks, ((fun z => PyData.eqv z (encp p)) ∘ fun q : List Nat × Nat => encp q.1) q = decide (q.1 = p) := fun q hq => eqv_encp (h.ne hq) hp
  have e2 : ks.findIdx? ((fun z => PyData.eqv z (encp p)) ∘ fun q : List Nat × Nat => encp q.1) = ks.findIdx? (fun q => decide (q.1 = p)) := by
    clear h
    induction ks with
    | nil => rfl
    | cons x ks ih => rw [List.findIdx?_cons, List.findIdx?_cons, e x (by simp), ih fun q hq => e q (by simp [hq])]
  rw [e2]
  unfold lk
  cases q : ks.findIdx? (fun q => decide (q.1 = p)) with
  | none =>
    rw [List.findIdx?_eq_none_iff] at q
    have : ks.find? (fun e => decide (e.1 = p)) = none := by
      rw [List.find?_eq_none]
      exact fun x hx => by rw [q x hx]; decide
    rw [this]; rfl
  | some i =>
    obtain ⟨h1, h2, h3⟩ := List.findIdx?_eq_some_iff_getElem.mp q
    have : ks.find? (fun e => decide (e.1 = p)) = some ks[i] := by
      rw [List.find?_eq_some_iff_getElem]
      exact ⟨h2, i, h1, rfl, fun j hj => by have := h3 j hj; simpa using this⟩
    rw [this]
    show some i = some ks[i].2
    rw [(h i _ (List.getElem?_eq_getElem h1)).1]
theorem Kq.any {ks : Kn} (h : Kq ks) {p : List Nat} (hp : p ≠ []) : ((ks.map fun q => encp q.1).any fun z => PyData.eqv z (encp p)) = (lk ks p).isSome := by
  rw [← h.idx hp, List.findIdx?_isSome]
theorem rk_encp {op : Nat} {args : List Nat} (h1 : op < 100000) (h2 : args.length ≤ 2) (h3 : ∀ a ∈ args, a < 100000) : Rk 2 6000 (encp (op :: args)) := by
  refine (Rk.tup (n := 1) (w := 2400) (fun d hd => ?_)).mono (Nat.le_refl _) (by simp)
  simp at hd
  rcases hd with rfl | rfl
  · exact (Rk.nat (Nat.lt_trans h1 (by decide))).mono (by decide) (by decide)
  · refine (Rk.tup (n := 0) (w := 1100) (rkNs fun a ha => by have := h3 a ha; omega)).mono (by decide) ?_
    simp; omega
theorem Kq.shp {ks : Kn} (h : Kq ks) : shp (.list (ks.map fun q => encp q.1)) = true := by
  refine (Rk.lst (n := 2) (w := 6000) fun d hd => ?_).shp (by decide)
  obtain ⟨q, hq, rfl⟩ := List.mem_map.mp hd
  obtain ⟨i, hi⟩ := List.getElem?_of_mem hq
  obtain ⟨_, op, args, e, h1, h2, h3⟩ := h i q hi
  rw [e]
  exact rk_encp h1 h2 h3
end Q
namespace Q
open PySem Dy
open L2 (atI ixN)
end Q
namespace Q
def Least (A : Nat → Prop) (v : Pr) : Prop := (∀ x, v = some x → A x) ∧ ∀ y, A y → ∃ x, v = some x ∧ x ≤ y
theorem Least.congr {A B : Nat → Prop} {v : Pr} (h : Least A v) (e : ∀ x, A x ↔ B x) : Least B v := ⟨fun x q => (e x).mp (h.1 x q), fun y q => h.2 y ((e y).mpr q)⟩
def leP (a b : Pr) : Prop := ∀ y, b = some y → ∃ x, a = some x ∧ x ≤ y
theorem leP.refl (a : Pr) : leP a a := fun y e => ⟨y, e, Nat.le_refl _⟩
theorem leP.trans {a b c : Pr} (h : leP a b) (k : leP b c) : leP a c := fun z e => by
  obtain ⟨y, e1, l1⟩ := k z e
  obtain ⟨x, e2, l2⟩ := h y e1
  exact ⟨x, e2, by omega⟩
theorem leP.none (a : Pr) : leP a none := fun y e => by cases e
inductive Wk (cs : List Con) : Nat → Nat → Nat → Prop
  | refl (i : Nat) : Wk cs i i 0
  | step {j c : Nat} (k : Con) : k ∈ cs → Wk cs k.b j c → Wk cs k.a j (k.pr + c)
theorem Wk.edge {cs : List Con} {k : Con} (h : k ∈ cs) : Wk cs k.a k.b k.pr := Wk.step k h (.refl _)
theorem Wk.trans {cs : List Con} {i j l c d : Nat} (h : Wk cs i j c) (g : Wk cs j l d) : Wk cs i l (c + d) := by
  induction h with
  | refl i => rw [Nat.zero_add]; exact g
  | step k hk _ ih => rw [Nat.add_assoc]; exact .step k hk (ih g)
inductive WU (cs : List Con) (u : Nat) : Nat → Nat → Nat → Prop
  | refl (i : Nat) : WU cs u i i 0
  | edge (k : Con) : k ∈ cs → WU cs u k.a k.b k.pr
  | cons {j c : Nat} (k : Con) : k ∈ cs → k.b < u → WU cs u k.b j c → WU cs u k.a j (k.pr + c)
theorem WU.split {cs : List Con} {u i j c : Nat} (h : WU cs (u + 1) i j c) : WU cs u i j c ∨ ∃ c1 c2, WU cs u i u c1 ∧ WU cs u u j c2 ∧ c1 + c2 ≤ c := by
  induction h with
  | refl i => exact .inl (.refl i)
  | edge k hk => exact .inl (.edge k hk)
  | @cons j c k hk hu _ ih =>
    by_cases e : k.b < u
    · rcases ih with z | ⟨c1, c2, z1, z2, z3⟩
      · exact .inl (.cons k hk e z)
      · exact .inr ⟨k.pr + c1, c2, .cons k hk e z1, z2, by omega⟩
    · have e : k.b = u := by omega
      have ed : WU cs u k.a u k.pr := by have := WU.edge (u := u) k hk; rw [e] at this; exact this
      rcases ih with z | ⟨c1, c2, z1, z2, z3⟩
      · rw [e] at z; exact .inr ⟨k.pr, c, ed, z, Nat.le_refl _⟩
      · exact .inr ⟨k.pr, c2, ed, z2, by omega⟩
theorem Wk.lt {cs : List Con} {n i j c : Nat} (hn : ∀ k ∈ cs, k.b < n) (h : Wk cs i j c) (hi : i < n) : j < n := by
  induction h with
  | refl i => exact hi
  | step k hk _ ih => exact ih (hn k hk)
section
variable {m : Mach}
def leM (n : Nat) (w w' : Mat) : Prop := ∀ i j, i < n → j < n → leP (getM w i j) (getM w' i j)
theorem leM.refl (n : Nat) (w : Mat) : leM n w w := fun _ _ _ _ => leP.refl _
theorem leM.trans {n : Nat} {a b c : Mat} (h : leM n a b) (k : leM n b c) : leM n a c := fun i j hi hj => (h i j hi hj).trans (k i j hi hj)
def leR (n : Nat) (f g : List Pr) : Prop := ∀ j, j < n → leP (gP f j) (gP g j)
theorem leR.refl (n : Nat) (f : List Pr) : leR n f f := fun _ _ => leP.refl _
theorem leR.trans {n : Nat} {a b c : List Pr} (h : leR n a b) (k : leR n b c) : leR n a c := fun j hj => (h j hj).trans (k j hj)
end
end Q
namespace Q
/-- a way with t steps whose places all lie in U -/
inductive AW (cs : List Con) (U : List Nat) : Nat → Nat → Nat → Nat → Prop
  | refl (i : Nat) : i ∈ U → AW cs U i i 0 0
  | step {j t c : Nat} (k : Con) : k ∈ cs → k.a ∈ U → AW cs U k.b j t c → AW cs U k.a j (t + 1) (k.pr + c)
theorem AW.mono {cs : List Con} {U V : List Nat} {i j t c : Nat} (s : ∀ x ∈ U, x ∈ V) (h : AW cs U i j t c) : AW cs V i j t c := by
  induction h with
  | refl i hi => exact .refl i (s i hi)
  | step k hk ha _ ih => exact .step k hk (s _ ha) ih
/-- a way with t steps, from its end -/
inductive WS (cs : List Con) : Nat → Nat → Nat → Nat → Prop
  | refl (i : Nat) : WS cs i i 0 0
  | snoc {i t c : Nat} (k : Con) : WS cs i k.a t c → k ∈ cs → WS cs i k.b (t + 1) (c + k.pr)
theorem WS.cons {cs : List Con} {j t c : Nat} {k : Con} (hk : k ∈ cs) {i : Nat} (h : WS cs i j t c) (e : i = k.b) : WS cs k.a j (t + 1) (k.pr + c) := by
  induction h with
  | refl => subst e; have := WS.snoc (t := 0) k (.refl k.a) hk; simpa using this
  | snoc l _ hl ih => rw [← Nat.add_assoc]; exact .snoc l ih hl
theorem AW.ws {cs : List Con} {U : List Nat} {i j t c : Nat} (h : AW cs U i j t c) : WS cs i j t c := by
  induction h with
  | refl i _ => exact .refl i
  | step k hk _ _ ih => exact WS.cons hk ih rfl
section
variable {m : Mach}
theorem gP_out {r : List Pr} {i : Nat} (h : r.length ≤ i) : gP r i = none := by unfold gP; rw [List.getD_eq_getElem?_getD, List.getElem?_eq_none h]; rfl
end
end Q
namespace Q
open PySem Dy
/-- rows whose numbers are less than a bound -/
def Bd (B : Nat) (row : List Pr) : Prop := ∀ x, some x ∈ row → x < B
theorem Bd.mono {B C : Nat} {row : List Pr} (h : Bd B row) (l : B ≤ C) : Bd C row := fun x hx => Nat.lt_of_lt_of_le (h x hx) l
theorem Bd.base {B : Nat} {row : List Pr} (h : Bd B row) {b : Nat} (e : baseP row = some b) : b < B := by
  unfold baseP at e
  split at e
  · cases e
  · rename_i hy
    cases e
    obtain ⟨p, hp, e⟩ := List.mem_filterMap.mp (minN_mem hy)
    have e : p = some (minN (row.filterMap id)) := e
    subst e
    exact h _ hp
theorem Bd.at {B : Nat} {row : List Pr} (h : Bd B row) {i x : Nat} (e : gP row i = some x) : x < B := by
  by_cases hi : i < row.length
  · have := gP_at hi; rw [e] at this; exact h x (List.mem_of_getElem? this)
  · rw [gP_out (by omega)] at e; cases e
end Q
namespace Q
end Q
namespace Q
open PySem Dy
open L2 (atI ixN)
end Q
namespace Q
open PySem Dy
open L2 (atI ixN)
end Q
namespace Q
open PySem Dy
open L2 (atI ixN)
end Q
namespace Q
open PySem Dy
open L2 (atI ixN)
end Q
namespace Q
open PySem Dy
open L2 (atI ixN)
end Q
namespace Q
open PySem Dy
theorem Wk.nil {i j c : Nat} (h : Wk [] i j c) : i = j ∧ c = 0 := by
  cases h with
  | refl => exact ⟨rfl, rfl⟩
  | step k hk _ => cases hk
theorem Wk.sub {cs cs' : List Con} (s : ∀ k ∈ cs', k ∈ cs) {i j c : Nat} (h : Wk cs' i j c) : Wk cs i j c := by
  induction h with
  | refl i => exact .refl i
  | step k hk _ ih => exact .step k (s k hk) ih
theorem TrOk.take {as : List Nat} {t : List Nd} (h : TrOk as t) (p : Nat) : TrOk as (t.take (p + 1)) := by
  have := List.length_pos_iff.mpr h.ne
  refine ⟨WF.pre (u := t.drop (p + 1)) (by rw [List.take_append_drop]; exact h.wf), fun z => ?_, ?_⟩
  · have := congrArg List.length z; rw [List.length_take, List.length_nil] at this; omega
  · have := h.len; rw [List.length_take]; omega
end Q
namespace Q
open PySem Dy
def T1_built : TF := fAndT (fB (fE0 not 3)) (fB (fOp (on2 pEq) [.v (fLenR 3 (zC (-1))), .v (fOp (on2 pAdd) [.v (fC (.int 1)), .v (fOp (on2 pIx) [.s 0, .v (fIx2 3 (zC (-1)) (zC 0))])])]))
def L1_built : SF := fSeq (fApp 2 (fOp (on1 pTuple) [.v (fPopO 3)]))
  (fIfS (fB (fE0 not 3)) (fAppI 3 (zC (-1)) (fOp (on2 pSub) [.v (fOp (on1 pLen) [.s 2]), .v (fC (.int 1))])) (fSkip))
def L2_built : SF := fSeq (fIfS (fAndT (fB (fOp (on2 (cmI (fun i j => decide (j < i)))) [.s 4, .v (fC (.int 0))])) (fB (fE0 id 3))) (fRet (fC .none)) (fSkip))
  (fSeq (fWp [4, 5] (fAppO 3 (fOv pLst [.v (fV 5)])))
  (fWhile (T1_built) (L1_built) 100000))
def b_built : SF := fSeq (fPar 2 3 (fOv pLst []) (fOv pOo0 []))
  (fSeq (fWp [0, 1, 4, 5] (fForS (fEn (.v (fV 1))) (.tu [4, 5]) (L2_built)))
  (fRet (fIf (fAndT (fB (fE0 id 3)) (fB (fOp (on2 pNe) [.s 2, .v (fOv pLst [])]))) (fOp (on1 pTuple) [.s 2]) (fC .none))))
def M_built : Fn := fnM 2 6 [] b_built
abbrev V_built (arities : Option O := none) (operators : Option O := none) (tree : Option O := none) (waiting : Option O := none) (at_ : Option O := none) (operator : Option O := none) : Dy.Env := [arities, operators, tree, waiting, at_, operator]
def T1_spelled_of : TF := fB (fOp (on2 pNe) [.s 2, .v (fOv pLst [])])
def L1_spelled_of : SF := fSeq (fSet 3 (fOp (on2 pIx) [.s 0, .v (fPop 2)]))
  (fSeq (fApp 1 (fOp (on2 pIx) [.s 3, .v (fC (.int 0))]))
  (fWp [3] (fExt 2 (fOp (on1 pRev) [.v (fOp (on1 pList) [.v (fOp (on2 pSl2l) [.s 3, .v (fC (.int 1))])])]))))
def b_spelled_of : SF := fSeq (fPar 1 2 (fOv pLst []) (fOv pLst [.v (fOp (on2 pSub) [.v (fOp (on1 pLen) [.s 0]), .v (fC (.int 1))])]))
  (fSeq (fWp [0, 2, 3] (fWhile (T1_spelled_of) (L1_spelled_of) 100000))
  (fRet (fOp (on1 pTuple) [.s 1])))
def M_spelled_of : Fn := fnM 1 4 [] b_spelled_of
abbrev V_spelled_of (tree : Option O := none) (found : Option O := none) (waiting : Option O := none) (node : Option O := none) : Dy.Env := [tree, found, waiting, node]
def E1_amounts : EF := fOp (on2 pIx) [.s 1, .s 3]
def L1_amounts : SF := fWp [2] (fApp 1 (fOp (on2 pAdd) [.v (fC (.int 1)), .v (fOp (on1 pSum) [.v (fLc (fSq (.v (fOp (on2 pSl2l) [.s 2, .v (fC (.int 1))]))) [3] (.nm 3) (fYes) (E1_amounts))])]))
def b_amounts : SF := fSeq (fSet 1 (fOv pLst []))
  (fSeq (fWp [0, 2] (fForS (fSq (.v (fV 0))) (.nm 2) (L1_amounts)))
  (fRet (fM 1)))
def M_amounts : Fn := fnM 1 4 [] b_amounts
abbrev V_amounts (tree : Option O := none) (found : Option O := none) (node : Option O := none) (part : Option O := none) : Dy.Env := [tree, found, node, part]
end Q
namespace Q
open PySem Dy
end Q
namespace Q
open PySem Dy
open L2 (atI ixN)
end Q
namespace Q
open PySem Dy
open L2 (atI ixN)
abbrev encW10 (F : List (List Nat)) : List (List PyData) := F.map fun l => l.map dN
end Q
namespace Q
open PySem Dy
open L2 (atI ixN)
theorem a_appO4 (i : Nat) (f : EF) (env : Dy.Env) : fAppO i f env = match env[i]? with
  | some (some (.oo _)) => f env >>= fun r => match r.1, r.2[i]? with
    | .ol w, some (some (.oo rs)) => if rs.length < 1000000 then .ok (.nx, r.2.set i (some (.oo (rs ++ [w])))) else .no
    | _, _ => .no
  | _ => .no := rfl
end Q
namespace Q
open PySem Dy
open L2 (atI ixN)
end Q
namespace Q
open PySem Dy
open L2 (atI ixN)
def low4 : List Nd := (0, []) :: (0, []) :: (List.range 60).map fun k => (1, [k, k + 1])
mutual
def Tr.h : Tr → Nat
  | .nd _ xs => Tr.hs xs + 1
def Tr.hs : List Tr → Nat
  | [] => 0
  | x :: xs => max x.h (Tr.hs xs)
end
end Q
namespace Q
open PySem Dy
open L2 (atI ixN)
theorem nx4 {a b : SF} {e e' : Dy.Env} {r : Res (Fl × Dy.Env)} (h : a e = .ok (.nx, e')) (k : b e' = r) : fSeq a b e = r := by
  show (a e >>= fun r => match r.1 with | .nx => b r.2 | _ => .ok r) = _
  rw [h]; exact k
end Q
namespace Q
open PySem Dy
open L2 (atI ixN)
theorem shp_dN10 (ys : List Nat) : shp (.list (ys.map dN)) = true := by
  have := shpLP (ys.map some)
  simpa [Function.comp_def, dP] using this
theorem fn2_10 {N : Nat} {b : SF} {d d' : PyData} {o : O} {e : Dy.Env} (h : b (some (.fr d) :: some (.fr d') :: List.replicate N none) = .ok (.rt o, e)) : fnM 2 (N + 2) [] b [.fr d, .fr d'] = .ok (o, [.fr d, .fr d']) := by
  show (b (some (.fr d) :: some (.fr d') :: List.replicate (N + 2 - 2) none) >>= fun r => match bkA [] r.2 0 [.fr d, .fr d'] with | none => .no | some os' => match r.1 with | .rt o => .ok (o, os') | .nx => .ok (.fr .none, os') | _ => .no) = _
  rw [show N + 2 - 2 = N from rfl, h]; rfl
end Q
namespace Q
open PySem Dy
open L2 (atI ixN)
theorem fn3_10 {N : Nat} {b : SF} {o o' : O} {d' d'' : PyData} {r : O} {e : Dy.Env} (h : b (some o :: some (.fr d') :: some (.fr d'') :: List.replicate N none) = .ok (.rt r, some o' :: e)) : fnM 3 (N + 3) [0] b [o, .fr d', .fr d''] = .ok (r, [o', .fr d', .fr d'']) := by
  show (b (some o :: some (.fr d') :: some (.fr d'') :: List.replicate (N + 3 - 3) none) >>= fun r => match bkA [0] r.2 0 [o, .fr d', .fr d''] with | none => .no | some os' => match r.1 with | .rt o => .ok (o, os') | .nx => .ok (.fr .none, os') | _ => .no) = _
  rw [show N + 3 - 3 = N from rfl, h]
  rfl
end Q
namespace Q
open PySem Dy
open L2 (atI ixN)
theorem ixN_m1 {n : Nat} (h : 0 < n) : ixN n (-1) = some (n - 1) := by
  unfold ixN
  rw [if_neg (by decide), if_pos (by omega)]
  congr 1; omega
def amF (_ : Nat) (l : List Nat) : Nat := 1 + l.sum
theorem pSum_N (xs : List Nat) : pSum (.list (xs.map dN)) = some (.fr (dN xs.sum)) := by
  have e2 : (xs.map fun n : Nat => (n : Int)).sum = ((xs.sum : Nat) : Int) := by
    induction xs with
    | nil => rfl
    | cons x xs ih => rw [List.map_cons, List.sum_cons, ih, List.sum_cons]; omega
  have e1 : xs.map dN = (xs.map fun n : Nat => (n : Int)).map PyData.int := by rw [List.map_map]; rfl
  rw [e1, pSum_I, e2]
theorem amounts_ok {as : List Nat} {t : List Nd} (ha : ArOk as) (ht : TrOk as t) : M_amounts [.fr (encT t)] = .ok (.ol ((alg amF 0 t).map dN), [.fr (encT t)]) := by
  have hl := ht.len
  have e := for_st (t := .nm 2) (body := L1_amounts) encN (fun acc : List Nat => V_amounts (tree := fr (encT t)) (found := ol (acc.map dN))) (alg1 amF 0) t [] rfl rfl (fun pre n post e => by
    have hn := ht.wf pre.length n (get_split e)
    have n2 := hn.le2 ha
    have hpl : pre.length < t.length := lt_of_get (get_split e)
    show (asT _ _ (V_amounts (tree := fr (encT t)) (found := ol ((alg amF 0 pre).map dN))) >>= _) = Res.ok (Fl.nx, V_amounts (tree := fr (encT t)) (found := ol ((alg1 amF 0 (alg amF 0 pre) n).map dN)))
    have al := alg_len amF 0 pre
    generalize alg amF 0 pre = acc at *
    have eg : alg1 amF 0 acc n = acc ++ [1 + (n.2.map (acc.getD · 0)).sum] := rfl
    rw [eg]
    obtain ⟨g, hg⟩ : ∃ g : Nat → Nat, g = fun p => acc.getD p 0 := ⟨_, rfl⟩
    have hat : ∀ p ∈ n.2, acc[p]? = some (g p) := fun p hp => by rw [hg]; exact getD_mem (by have := hn.2 p hp; omega)
    rw [← hg]
    clear hg
    have c2 : acc.length < 1000000 := by omega
    have el : ∀ e : Dy.Env, e = V_amounts (tree := fr (encT t)) (found := ol (acc.map dN)) (node := fr (encN n)) → lcL [3] (.nm 3) fYes E1_amounts (n.2.map dN) e [] = .ok ((n.2.map g).map dN, e) := fun e he => by
      rw [lc_tm dN (fun p => dN (g p)) n.2 rfl (fun p hp => ?_) (by omega)]
      · simp
      · subst he; simp [E1_amounts, q_mulAI, q_mulAL, a_wb, q_divW, Function.comp_def, q_starI, q_starIT, a_wp, a_fz, a_fz0, a_fz1, a_ext, a_ins, a_insA, a_pop, a_parN, a_evO0, a_evO1, a_setO0, a_setO1, a_ix2, a_setII, a_zN, a_zC, a_lcO, d_oo, pEq_int, pNe_int, pIxL, pIxT, atI_nat, atI_0, atI_1, atI_2, atI_3, atI_m1, cutLo, cutHi, cutLo1, cutHi1, a_seq, a_ifS, a_B, a_op, a_ov, a_ev0, a_evv, a_evs, a_C, a_V, a_M, a_set, a_setI, a_app, a_ret, a_ex, a_skip, a_no, a_not, a_andT, a_orT, a_and, a_or, a_notV, a_if, a_par, a_call, a_forS, a_sq, a_r1, a_r2, a_en, a_zp, a_asT, a_chI, a_yes, a_lc, a_fn, okA, f_fr, bkA, rsvs, rsv, dvs, on1, on2, d_fr, d_ol, rsO, ndS, sl, putB, asT, setAll, ofO, Dy.ints1, Dy.ints2, nE, wipeE, unw, frO, q_addI, q_addL, q_addT, q_addS, q_sub, q_div, q_mod, q_pow, q_neg, q_cm, pIs, pIsn, q_isN, q_isI, q_isS, q_isT, q_isL, q_isB, q_lenL, q_lenT, pTup, pLst, q_tupL, q_tupT, q_lstL, q_lstT, q_revL, q_slL, q_slT, q_shL, q_shT, q_sqL, q_sqT, q_intI, q_max2, q_min2, q_aII, q_aBI, q_aTI, q_aTT, q_aLL, q_aTL, q_aIT, hat p hp]
    have el := el _ rfl
    have es := pSum_N (n.2.map g)
    generalize n.2.map g = ys at *
    have eS : (1 : Int) + (ys.sum : Nat) = ((1 + ys.sum : Nat) : Int) := by omega
    rw [List.map_append, List.map_singleton]
    show _ = Res.ok (Fl.nx, V_amounts (tree := fr (encT t)) (found := ol (acc.map dN ++ [PyData.int ((1 + ys.sum : Nat) : Int)])))
    rw [← eS]
    generalize ys.map dN = L at *
    generalize ys.sum = S at *
    generalize encT t = TT at *
    simp [L1_amounts, q_mulAI, q_mulAL, a_wb, q_divW, Function.comp_def, q_starI, q_starIT, a_wp, a_fz, a_fz0, a_fz1, a_ext, a_ins, a_insA, a_pop, a_parN, a_evO0, a_evO1, a_setO0, a_setO1, a_ix2, a_setII, a_zN, a_zC, a_lcO, d_oo, pEq_int, pNe_int, pIxL, pIxT, atI_nat, atI_0, atI_1, atI_2, atI_3, atI_m1, cutLo, cutHi, cutLo1, cutHi1, a_seq, a_ifS, a_B, a_op, a_ov, a_ev0, a_evv, a_evs, a_C, a_V, a_M, a_set, a_setI, a_app, a_ret, a_ex, a_skip, a_no, a_not, a_andT, a_orT, a_and, a_or, a_notV, a_if, a_par, a_call, a_forS, a_sq, a_r1, a_r2, a_en, a_zp, a_asT, a_chI, a_yes, a_lc, a_fn, okA, f_fr, bkA, rsvs, rsv, dvs, on1, on2, d_fr, d_ol, rsO, ndS, sl, putB, asT, setAll, ofO, Dy.ints1, Dy.ints2, nE, wipeE, unw, frO, q_addI, q_addL, q_addT, q_addS, q_sub, q_div, q_mod, q_pow, q_neg, q_cm, pIs, pIsn, q_isN, q_isI, q_isS, q_isT, q_isL, q_isB, q_lenL, q_lenT, pTup, pLst, q_tupL, q_tupT, q_lstL, q_lstT, q_revL, q_slL, q_slT, q_shL, q_shT, q_sqL, q_sqT, q_intI, q_max2, q_min2, q_aII, q_aBI, q_aTI, q_aTT, q_aLL, q_aTL, q_aIT, el, es, c2])
  have e' : (t.foldl (alg1 amF 0) []) = alg amF 0 t := rfl
  rw [e'] at e
  dsimp only [List.map] at e
  simp [M_amounts, b_amounts, q_mulAI, q_mulAL, a_wb, q_divW, Function.comp_def, q_starI, q_starIT, a_wp, a_fz, a_fz0, a_fz1, a_ext, a_ins, a_insA, a_pop, a_parN, a_evO0, a_evO1, a_setO0, a_setO1, a_ix2, a_setII, a_zN, a_zC, a_lcO, d_oo, pEq_int, pNe_int, pIxL, pIxT, atI_nat, atI_0, atI_1, atI_2, atI_3, atI_m1, cutLo, cutHi, cutLo1, cutHi1, a_seq, a_ifS, a_B, a_op, a_ov, a_ev0, a_evv, a_evs, a_C, a_V, a_M, a_set, a_setI, a_app, a_ret, a_ex, a_skip, a_no, a_not, a_andT, a_orT, a_and, a_or, a_notV, a_if, a_par, a_call, a_forS, a_sq, a_r1, a_r2, a_en, a_zp, a_asT, a_chI, a_yes, a_lc, a_fn, okA, f_fr, bkA, rsvs, rsv, dvs, on1, on2, d_fr, d_ol, rsO, ndS, sl, putB, asT, setAll, ofO, Dy.ints1, Dy.ints2, nE, wipeE, unw, frO, q_addI, q_addL, q_addT, q_addS, q_sub, q_div, q_mod, q_pow, q_neg, q_cm, pIs, pIsn, q_isN, q_isI, q_isS, q_isT, q_isL, q_isB, q_lenL, q_lenT, pTup, pLst, q_tupL, q_tupT, q_lstL, q_lstT, q_revL, q_slL, q_slT, q_shL, q_shT, q_sqL, q_sqT, q_intI, q_max2, q_min2, q_aII, q_aBI, q_aTI, q_aTT, q_aLL, q_aTL, q_aIT, e]
def spF10 (op : Nat) (l : List (List Nat)) : List Nat := op :: l.flatten
def pK (t : List Nd) (k : Nat) : List Nat := (alg spF10 [] t).getD k []
theorem alg_at {β : Type} (f : Nat → List β → β) (d : β) {as : List Nat} {t : List Nd} (ht : WF as t) {k : Nat} {n : Nd} (hk : t[k]? = some n) : (alg f d t).getD k d = f n.1 (n.2.map fun p => (alg f d t).getD p d) := by
  have lk := lt_of_get hk
  have e : t = (t.take k ++ [n]) ++ t.drop (k + 1) := by
    have h1 : n = t[k] := (List.getElem?_eq_some_iff.mp hk).2.symm
    rw [h1, List.append_assoc, List.singleton_append, ← List.drop_eq_getElem_cons lk, List.take_append_drop]
  have lt : (t.take k).length = k := by rw [List.length_take]; omega
  obtain ⟨r, er⟩ := alg_prefix (f := f) (d := d) (t := t.take k ++ [n]) (u := t.drop (k + 1))
  rw [← e] at er
  have hp : ∀ p, p < k → (alg f d t).getD p d = (alg f d (t.take k)).getD p d := fun p hp => by
    rw [er, getD_app d (by rw [alg_len, List.length_append, lt]; simp; omega), alg_snoc, getD_app d (by rw [alg_len, lt]; exact hp)]
  rw [er, getD_app d (by rw [alg_len, List.length_append, lt]; simp), alg_snoc]
  have hl : (alg f d (t.take k)).length = k := by rw [alg_len, lt]
  rw [List.getD_eq_getElem?_getD, List.getElem?_append_right (by omega), hl, Nat.sub_self]
  show f n.1 _ = f n.1 _
  congr 1
  refine List.map_congr_left fun p hp' => ?_
  rw [← alg_snoc, ← er]
  exact (hp p ((ht k n hk).2 p hp')).symm
theorem am_le {as : List Nat} {t : List Nd} (ha : ArOk as) (ht : WF as t) : ∀ (b k : Nat), k ≤ b → k < t.length → (alg amF 0 t).getD k 0 + 1 ≤ 2 ^ (k + 1) := by
  intro b
  induction b with
  | zero =>
    intro k hk hl
    have : k = 0 := by omega
    subst this
    obtain ⟨n, hn, _⟩ := get_of_lt hl
    rw [alg_at amF 0 ht hn]
    have : n.2 = [] := by
      cases q : n.2 with
      | nil => rfl
      | cons x xs => have := (ht 0 n hn).2 x (by rw [q]; simp); omega
    rw [this]; simp [amF]
  | succ b ih =>
    intro k hk hl
    obtain ⟨n, hn, _⟩ := get_of_lt hl
    have h2 := (ht k n hn).le2 ha
    have hc := (ht k n hn).2
    rw [alg_at amF 0 ht hn]
    have hb : ∀ p ∈ n.2, (alg amF 0 t).getD p 0 + 1 ≤ 2 ^ k := fun p hp => by
      have := hc p hp
      have h3 := ih p (by omega) (by omega)
      exact Nat.le_trans h3 (Nat.pow_le_pow_right (by decide) (by omega))
    obtain ⟨g, hg⟩ : ∃ g : Nat → Nat, g = fun p => (alg amF 0 t).getD p 0 := ⟨_, rfl⟩
    have hb : ∀ p ∈ n.2, g p + 1 ≤ 2 ^ k := fun p hp => by rw [hg]; exact hb p hp
    rw [← hg]
    have e2 : 2 ^ (k + 1) = 2 * 2 ^ k := by rw [Nat.pow_succ, Nat.mul_comm]
    have h1 : 1 ≤ 2 ^ k := Nat.one_le_two_pow
    unfold amF
    rw [e2]
    match q : n.2, h2 with
    | [], _ => simp; omega
    | [x], _ => have := hb x (by rw [q]; simp); simp; omega
    | [x, y], _ => have := hb x (by rw [q]; simp); have := hb y (by rw [q]; simp); simp; omega
theorem pK_len {as : List Nat} {t : List Nd} (ht : WF as t) : ∀ (b k : Nat), k ≤ b → k < t.length → (pK t k).length = (alg amF 0 t).getD k 0 := by
  intro b
  induction b with
  | zero =>
    intro k hk hl
    have : k = 0 := by omega
    subst this
    obtain ⟨n, hn, _⟩ := get_of_lt hl
    unfold pK
    rw [alg_at amF 0 ht hn, alg_at spF10 [] ht hn]
    have : n.2 = [] := by
      cases q : n.2 with
      | nil => rfl
      | cons x xs => have := (ht 0 n hn).2 x (by rw [q]; simp); omega
    rw [this]; rfl
  | succ b ih =>
    intro k hk hl
    obtain ⟨n, hn, _⟩ := get_of_lt hl
    have hc := (ht k n hn).2
    unfold pK
    rw [alg_at amF 0 ht hn, alg_at spF10 [] ht hn]
    unfold spF10 amF
    rw [List.length_cons, List.length_flatten, List.map_map, Nat.add_comm]
    congr 2
    refine List.map_congr_left fun p hp => ?_
    have := hc p hp
    exact ih p (by omega) (by omega)
theorem pK_at {as : List Nat} {t : List Nd} (ht : WF as t) {k : Nat} {n : Nd} (hk : t[k]? = some n) : pK t k = n.1 :: (n.2.map (pK t)).flatten := alg_at spF10 [] ht hk
theorem pK_many {as : List Nat} {t : List Nd} (ht : WF as t) : ∀ (ws : List Nat), (∀ w ∈ ws, w < t.length) → ws.length ≤ ((ws.map (pK t)).flatten).length
  | [], _ => by simp
  | w :: ws, h => by
    have ih := pK_many ht ws fun x hx => h x (by simp [hx])
    obtain ⟨n, hn, _⟩ := get_of_lt (h w (by simp))
    rw [List.map_cons, List.flatten_cons, pK_at ht hn]
    simp at ih ⊢
    omega
theorem while_s {σ : Type} {t : TF} {body : SF} (S : σ → Dy.Env) (P Dn : σ → Prop) (meas : σ → Nat)
    (step : ∀ s, P s → (Dn s ∧ t (S s) = .ok (false, S s)) ∨ (t (S s) = .ok (true, S s) ∧ ∃ s', P s' ∧ meas s' < meas s ∧ body (S s) = .ok (.nx, S s'))) :
    ∀ (n : Nat) (s : σ), P s → meas s < n → ∃ s', P s' ∧ Dn s' ∧ fWhile t body n (S s) = .ok (.nx, S s') := by
  intro n
  induction n with
  | zero => intro s _ h; omega
  | succ n ih =>
    intro s hp hm
    have key : fWhile t body (n + 1) (S s) = t (S s) >>= fun b => if b.1 = true then body b.2 >>= fun r => match r.1 with
      | .nx => fWhile t body n r.2
      | .ct => fWhile t body n r.2
      | .bk => .ok (.nx, r.2)
      | .rt o => .ok (.rt o, r.2)
      else .ok (.nx, b.2) := rfl
    rcases step s hp with ⟨hd, e⟩ | ⟨e, s1, p1, m1, e1⟩
    · rw [key, e]
      exact ⟨s, hp, hd, rfl⟩
    · rw [key, e, bind_ok]
      dsimp only
      rw [if_pos rfl, e1]
      exact ih s1 p1 (by omega)
theorem spell_ok {as : List Nat} {t : List Nd} (ha : ArOk as) (ht : TrOk as t) (hl : (pK t (t.length - 1)).length ≤ 1000) : M_spelled_of [.fr (encT t)] = .ok (.fr (encA (pK t (t.length - 1))), [.fr (encT t)]) := by
  have t0 := List.length_pos_iff.mpr ht.ne
  have tl := ht.len
  generalize hr : pK t (t.length - 1) = R at *
  obtain ⟨s, ⟨p1, p2⟩, p3, e⟩ := while_s (t := T1_spelled_of) (body := L1_spelled_of) (fun s : List Nat × List Nat => V_spelled_of (tree := fr (encT t)) (found := ol (s.1.map dN)) (waiting := ol (s.2.map dN)))
    (fun s => s.1 ++ (s.2.reverse.map (pK t)).flatten = R ∧ ∀ w ∈ s.2, w < t.length) (fun s => s.2 = []) (fun s => ((s.2.reverse.map (pK t)).flatten).length) (fun s hs => by
      obtain ⟨f, W⟩ := s
      obtain ⟨h1, h2⟩ := hs
      dsimp only at h1 h2 ⊢
      have hsh := pNe_L0 (shp_dN10 W)
      rcases List.eq_nil_or_concat W with rfl | ⟨ws, w, rfl⟩
      · left
        refine ⟨rfl, ?_⟩
        simp at hsh
        simp [T1_spelled_of, q_mulAI, q_mulAL, a_wb, q_divW, Function.comp_def, q_starI, q_starIT, a_wp, a_fz, a_fz0, a_fz1, a_ext, a_ins, a_insA, a_pop, a_parN, a_evO0, a_evO1, a_setO0, a_setO1, a_ix2, a_setII, a_zN, a_zC, a_lcO, d_oo, pEq_int, pNe_int, pIxL, pIxT, atI_nat, atI_0, atI_1, atI_2, atI_3, atI_m1, cutLo, cutHi, cutLo1, cutHi1, a_seq, a_ifS, a_B, a_op, a_ov, a_ev0, a_evv, a_evs, a_C, a_V, a_M, a_set, a_setI, a_app, a_ret, a_ex, a_skip, a_no, a_not, a_andT, a_orT, a_and, a_or, a_notV, a_if, a_par, a_call, a_forS, a_sq, a_r1, a_r2, a_en, a_zp, a_asT, a_chI, a_yes, a_lc, a_fn, okA, f_fr, bkA, rsvs, rsv, dvs, on1, on2, d_fr, d_ol, rsO, ndS, sl, putB, asT, setAll, ofO, Dy.ints1, Dy.ints2, nE, wipeE, unw, frO, q_addI, q_addL, q_addT, q_addS, q_sub, q_div, q_mod, q_pow, q_neg, q_cm, pIs, pIsn, q_isN, q_isI, q_isS, q_isT, q_isL, q_isB, q_lenL, q_lenT, pTup, pLst, q_tupL, q_tupT, q_lstL, q_lstT, q_revL, q_slL, q_slT, q_shL, q_shT, q_sqL, q_sqT, q_intI, q_max2, q_min2, q_aII, q_aBI, q_aTI, q_aTT, q_aLL, q_aTL, q_aIT, hsh]
      · right
        rw [List.concat_eq_append] at *
        have hw := h2 w (by simp)
        obtain ⟨n, hn, _⟩ := get_of_lt hw
        have hnd := ht.wf w n hn
        have n2 := hnd.le2 ha
        have hp := pK_at ht.wf hn
        have lf : f.length + ((List.map (pK t) (ws ++ [w]).reverse).flatten).length ≤ 1000 := by rw [← h1, List.length_append] at hl; exact hl
        have wl := pK_many ht.wf (ws ++ [w]).reverse fun x hx => h2 x (List.mem_reverse.mp hx)
        rw [List.length_reverse, List.length_append, List.length_singleton] at wl
        have wl : ws.length ≤ 900000 := by omega
        rw [List.reverse_append, List.reverse_singleton, List.singleton_append, List.map_cons, List.flatten_cons, hp] at h1 lf ⊢
        refine ⟨?_, (f ++ [n.1], ws ++ n.2.reverse), ⟨?_, ?_⟩, ?_, ?_⟩
        · simp at hsh
          simp [T1_spelled_of, q_mulAI, q_mulAL, a_wb, q_divW, Function.comp_def, q_starI, q_starIT, a_wp, a_fz, a_fz0, a_fz1, a_ext, a_ins, a_insA, a_pop, a_parN, a_evO0, a_evO1, a_setO0, a_setO1, a_ix2, a_setII, a_zN, a_zC, a_lcO, d_oo, pEq_int, pNe_int, pIxL, pIxT, atI_nat, atI_0, atI_1, atI_2, atI_3, atI_m1, cutLo, cutHi, cutLo1, cutHi1, a_seq, a_ifS, a_B, a_op, a_ov, a_ev0, a_evv, a_evs, a_C, a_V, a_M, a_set, a_setI, a_app, a_ret, a_ex, a_skip, a_no, a_not, a_andT, a_orT, a_and, a_or, a_notV, a_if, a_par, a_call, a_forS, a_sq, a_r1, a_r2, a_en, a_zp, a_asT, a_chI, a_yes, a_lc, a_fn, okA, f_fr, bkA, rsvs, rsv, dvs, on1, on2, d_fr, d_ol, rsO, ndS, sl, putB, asT, setAll, ofO, Dy.ints1, Dy.ints2, nE, wipeE, unw, frO, q_addI, q_addL, q_addT, q_addS, q_sub, q_div, q_mod, q_pow, q_neg, q_cm, pIs, pIsn, q_isN, q_isI, q_isS, q_isT, q_isL, q_isB, q_lenL, q_lenT, pTup, pLst, q_tupL, q_tupT, q_lstL, q_lstT, q_revL, q_slL, q_slT, q_shL, q_shT, q_sqL, q_sqT, q_intI, q_max2, q_min2, q_aII, q_aBI, q_aTI, q_aTT, q_aLL, q_aTL, q_aIT, hsh]
        · simp only [List.reverse_append, List.reverse_reverse, List.map_append, List.flatten_append]
          rw [← h1]
          simp
        · intro x hx
          rcases List.mem_append.mp hx with z | z
          · exact h2 x (by simp [z])
          · have := hnd.2 x (List.mem_reverse.mp z); omega
        · simp
        · have c1 : f.length < 1000000 := by omega
          have c2 : ws.length + n.2.length ≤ 1000000 := by omega
          have hE : (t.map encN)[w]? = some (encN n) := by rw [List.getElem?_map, hn]; rfl
          simp [L1_spelled_of, q_mulAI, q_mulAL, a_wb, q_divW, Function.comp_def, q_starI, q_starIT, a_wp, a_fz, a_fz0, a_fz1, a_ext, a_ins, a_insA, a_pop, a_parN, a_evO0, a_evO1, a_setO0, a_setO1, a_ix2, a_setII, a_zN, a_zC, a_lcO, d_oo, pEq_int, pNe_int, pIxL, pIxT, atI_nat, atI_0, atI_1, atI_2, atI_3, atI_m1, cutLo, cutHi, cutLo1, cutHi1, a_seq, a_ifS, a_B, a_op, a_ov, a_ev0, a_evv, a_evs, a_C, a_V, a_M, a_set, a_setI, a_app, a_ret, a_ex, a_skip, a_no, a_not, a_andT, a_orT, a_and, a_or, a_notV, a_if, a_par, a_call, a_forS, a_sq, a_r1, a_r2, a_en, a_zp, a_asT, a_chI, a_yes, a_lc, a_fn, okA, f_fr, bkA, rsvs, rsv, dvs, on1, on2, d_fr, d_ol, rsO, ndS, sl, putB, asT, setAll, ofO, Dy.ints1, Dy.ints2, nE, wipeE, unw, frO, q_addI, q_addL, q_addT, q_addS, q_sub, q_div, q_mod, q_pow, q_neg, q_cm, pIs, pIsn, q_isN, q_isI, q_isS, q_isT, q_isL, q_isB, q_lenL, q_lenT, pTup, pLst, q_tupL, q_tupT, q_lstL, q_lstT, q_revL, q_slL, q_slT, q_shL, q_shT, q_sqL, q_sqT, q_intI, q_max2, q_min2, q_aII, q_aBI, q_aTI, q_aTT, q_aLL, q_aTL, q_aIT, hE, c1, c2, pRev]) 100000 ([], [t.length - 1]) ⟨by simp [hr], fun w hw => by simp at hw; omega⟩ (by simp [hr]; omega)
  obtain ⟨f, W⟩ := s
  dsimp only at p1 p2 p3 e
  subst p3
  simp at p1
  subst p1
  have c : ((t.length - 1 : Nat) : Int) = (t.length : Int) - 1 := by omega
  simp only [List.map_nil, List.map_singleton, dN, c] at e
  simp [M_spelled_of, b_spelled_of, q_mulAI, q_mulAL, a_wb, q_divW, Function.comp_def, q_starI, q_starIT, a_wp, a_fz, a_fz0, a_fz1, a_ext, a_ins, a_insA, a_pop, a_parN, a_evO0, a_evO1, a_setO0, a_setO1, a_ix2, a_setII, a_zN, a_zC, a_lcO, d_oo, pEq_int, pNe_int, pIxL, pIxT, atI_nat, atI_0, atI_1, atI_2, atI_3, atI_m1, cutLo, cutHi, cutLo1, cutHi1, a_seq, a_ifS, a_B, a_op, a_ov, a_ev0, a_evv, a_evs, a_C, a_V, a_M, a_set, a_setI, a_app, a_ret, a_ex, a_skip, a_no, a_not, a_andT, a_orT, a_and, a_or, a_notV, a_if, a_par, a_call, a_forS, a_sq, a_r1, a_r2, a_en, a_zp, a_asT, a_chI, a_yes, a_lc, a_fn, okA, f_fr, bkA, rsvs, rsv, dvs, on1, on2, d_fr, d_ol, rsO, ndS, sl, putB, asT, setAll, ofO, Dy.ints1, Dy.ints2, nE, wipeE, unw, frO, q_addI, q_addL, q_addT, q_addS, q_sub, q_div, q_mod, q_pow, q_neg, q_cm, pIs, pIsn, q_isN, q_isI, q_isS, q_isT, q_isL, q_isB, q_lenL, q_lenT, pTup, pLst, q_tupL, q_tupT, q_lstL, q_lstT, q_revL, q_slL, q_slT, q_shL, q_shT, q_sqL, q_sqT, q_intI, q_max2, q_min2, q_aII, q_aBI, q_aTI, q_aTT, q_aLL, q_aTL, q_aIT]
  rw [e]
  simp [q_mulAI, q_mulAL, a_wb, q_divW, Function.comp_def, q_starI, q_starIT, a_wp, a_fz, a_fz0, a_fz1, a_ext, a_ins, a_insA, a_pop, a_parN, a_evO0, a_evO1, a_setO0, a_setO1, a_ix2, a_setII, a_zN, a_zC, a_lcO, d_oo, pEq_int, pNe_int, pIxL, pIxT, atI_nat, atI_0, atI_1, atI_2, atI_3, atI_m1, cutLo, cutHi, cutLo1, cutHi1, a_seq, a_ifS, a_B, a_op, a_ov, a_ev0, a_evv, a_evs, a_C, a_V, a_M, a_set, a_setI, a_app, a_ret, a_ex, a_skip, a_no, a_not, a_andT, a_orT, a_and, a_or, a_notV, a_if, a_par, a_call, a_forS, a_sq, a_r1, a_r2, a_en, a_zp, a_asT, a_chI, a_yes, a_lc, a_fn, okA, f_fr, bkA, rsvs, rsv, dvs, on1, on2, d_fr, d_ol, rsO, ndS, sl, putB, asT, setAll, ofO, Dy.ints1, Dy.ints2, nE, wipeE, unw, frO, q_addI, q_addL, q_addT, q_addS, q_sub, q_div, q_mod, q_pow, q_neg, q_cm, pIs, pIsn, q_isN, q_isI, q_isS, q_isT, q_isL, q_isB, q_lenL, q_lenT, pTup, pLst, q_tupL, q_tupT, q_lstL, q_lstT, q_revL, q_slL, q_slT, q_shL, q_shT, q_sqL, q_sqT, q_intI, q_max2, q_min2, q_aII, q_aBI, q_aTI, q_aTT, q_aLL, q_aTL, q_aIT]
end Q
namespace Q
open PySem Dy
open L2 (atI ixN)
theorem a_E0 (f : Bool → Bool) (i : Nat) (env : Dy.Env) : fE0 f i env = match env[i]? with
  | some (some (.oo rs)) => .ok (.fr (.bool (f rs.isEmpty)), env)
  | _ => .no := rfl
theorem a_lenR (i : Nat) (y : Dy.Env → Option Int) (env : Dy.Env) : fLenR i y env = match env[i]?, y env with
  | some (some (.oo rs)), some k => match ixN rs.length k with
    | some j => match rs[j]? with
      | some w => .ok (.fr (.int w.length), env)
      | none => .no
    | none => .no
  | _, _ => .no := rfl
theorem a_popO (i : Nat) (env : Dy.Env) : fPopO i env = match env[i]? with
  | some (some (.oo rs)) => match rs[rs.length - 1]? with
    | some w => .ok (.ol w, env.set i (some (.oo rs.dropLast)))
    | none => .no
  | _ => .no := rfl
def addl (W : List (List Nat)) (k : Nat) : List (List Nat) := W.set (W.length - 1) (W.getD (W.length - 1) [] ++ [k])
theorem addl_len (W : List (List Nat)) (k : Nat) : (addl W k).length = W.length := by simp [addl]
theorem addl_snoc (W : List (List Nat)) (r : List Nat) (k : Nat) : addl (W ++ [r]) k = W ++ [r ++ [k]] := by
  unfold addl
  rw [List.length_append, List.length_singleton, Nat.add_sub_cancel, List.getD_eq_getElem?_getD, List.getElem?_append_right (Nat.le_refl _), Nat.sub_self, List.set_append_right _ _ (Nat.le_refl _), Nat.sub_self]
  rfl
/-- the rows that are whole become nodes -/
inductive Rd (as : List Nat) : List Nd → List (List Nat) → List Nd → List (List Nat) → Prop
  | nil {t : List Nd} : Rd as t [] t []
  | stop {t : List Nd} {ws : List (List Nat)} {op a : Nat} {cs : List Nat} : as[op]? = some a → cs.length ≠ a → Rd as t (ws ++ [op :: cs]) t (ws ++ [op :: cs])
  | go {t t' : List Nd} {ws W' : List (List Nat)} {op : Nat} {cs : List Nat} : as[op]? = some cs.length → cs.length ≤ 2 → t.length ≤ 1000 → (∀ r ∈ ws, r.length ≤ 10) → Rd as (t ++ [(op, cs)]) (addl ws t.length) t' W' → Rd as t (ws ++ [op :: cs]) t' W'
abbrev VB (as : List Nat) (d : PyData) (t : List Nd) (W : List (List Nat)) : Dy.Env := V_built (arities := fr (encA as)) (operators := fr d) (tree := ol (t.map encN)) (waiting := some (.oo (encW10 W)))
theorem w10_last {ws : List (List Nat)} {r : List Nat} : (encW10 (ws ++ [r]))[(encW10 (ws ++ [r])).length - 1]? = some (r.map dN) := by simp
theorem t1_nil {as : List Nat} {d : PyData} {t : List Nd} : T1_built (VB as d t []) = .ok (false, VB as d t []) := by
  simp [T1_built, q_mulAI, q_mulAL, a_wb, q_divW, Function.comp_def, q_starI, q_starIT, a_wp, a_fz, a_fz0, a_fz1, a_ext, a_ins, a_insA, a_pop, a_parN, a_evO0, a_evO1, a_setO0, a_setO1, a_ix2, a_setII, a_zN, a_zC, a_lcO, d_oo, pEq_int, pNe_int, pIxL, pIxT, atI_nat, atI_0, atI_1, atI_2, atI_3, atI_m1, cutLo, cutHi, cutLo1, cutHi1, a_seq, a_ifS, a_B, a_op, a_ov, a_ev0, a_evv, a_evs, a_C, a_V, a_M, a_set, a_setI, a_app, a_ret, a_ex, a_skip, a_no, a_not, a_andT, a_orT, a_and, a_or, a_notV, a_if, a_par, a_call, a_forS, a_sq, a_r1, a_r2, a_en, a_zp, a_asT, a_chI, a_yes, a_lc, a_fn, okA, f_fr, bkA, rsvs, rsv, dvs, on1, on2, d_fr, d_ol, rsO, ndS, sl, putB, asT, setAll, ofO, Dy.ints1, Dy.ints2, nE, wipeE, unw, frO, q_addI, q_addL, q_addT, q_addS, q_sub, q_div, q_mod, q_pow, q_neg, q_cm, pIs, pIsn, q_isN, q_isI, q_isS, q_isT, q_isL, q_isB, q_lenL, q_lenT, pTup, pLst, q_tupL, q_tupT, q_lstL, q_lstT, q_revL, q_slL, q_slT, q_shL, q_shT, q_sqL, q_sqT, q_intI, q_max2, q_min2, q_aII, q_aBI, q_aTI, q_aTT, q_aLL, q_aTL, q_aIT, a_E0]
theorem t1_at {as : List Nat} {d : PyData} {t : List Nd} {ws : List (List Nat)} {op a : Nat} {cs : List Nat} (h : as[op]? = some a) : T1_built (VB as d t (ws ++ [op :: cs])) = .ok (decide (cs.length = a), VB as d t (ws ++ [op :: cs])) := by
  have l : (encW10 (ws ++ [op :: cs])).length = ws.length + 1 := by simp
  have e1 : ixN (encW10 (ws ++ [op :: cs])).length (-1) = some (ws.length) := by rw [ixN_m1 (by omega), l]; rfl
  have e2 : (encW10 (ws ++ [op :: cs]))[ws.length]? = some ((op :: cs).map dN) := by have := w10_last (ws := ws) (r := op :: cs); rw [l] at this; exact this
  have e3 : (encW10 (ws ++ [op :: cs])).isEmpty = false := by simp
  rw [l] at e1
  generalize encW10 (ws ++ [op :: cs]) = W at *
  have c : ((cs.length : Int) + 1 = 1 + a) ↔ cs.length = a := by omega
  simp [T1_built, q_mulAI, q_mulAL, a_wb, q_divW, Function.comp_def, q_starI, q_starIT, a_wp, a_fz, a_fz0, a_fz1, a_ext, a_ins, a_insA, a_pop, a_parN, a_evO0, a_evO1, a_setO0, a_setO1, a_ix2, a_setII, a_zN, a_zC, a_lcO, d_oo, pEq_int, pNe_int, pIxL, pIxT, atI_nat, atI_0, atI_1, atI_2, atI_3, atI_m1, cutLo, cutHi, cutLo1, cutHi1, a_seq, a_ifS, a_B, a_op, a_ov, a_ev0, a_evv, a_evs, a_C, a_V, a_M, a_set, a_setI, a_app, a_ret, a_ex, a_skip, a_no, a_not, a_andT, a_orT, a_and, a_or, a_notV, a_if, a_par, a_call, a_forS, a_sq, a_r1, a_r2, a_en, a_zp, a_asT, a_chI, a_yes, a_lc, a_fn, okA, f_fr, bkA, rsvs, rsv, dvs, on1, on2, d_fr, d_ol, rsO, ndS, sl, putB, asT, setAll, ofO, Dy.ints1, Dy.ints2, nE, wipeE, unw, frO, q_addI, q_addL, q_addT, q_addS, q_sub, q_div, q_mod, q_pow, q_neg, q_cm, pIs, pIsn, q_isN, q_isI, q_isS, q_isT, q_isL, q_isB, q_lenL, q_lenT, pTup, pLst, q_tupL, q_tupT, q_lstL, q_lstT, q_revL, q_slL, q_slT, q_shL, q_shT, q_sqL, q_sqT, q_intI, q_max2, q_min2, q_aII, q_aBI, q_aTI, q_aTT, q_aLL, q_aTL, q_aIT, a_E0, a_lenR, l, e1, e2, e3, h, c]
theorem l1_at {as : List Nat} {d : PyData} {t : List Nd} {ws : List (List Nat)} {op : Nat} {cs : List Nat} (hc : cs.length ≤ 2) (ht : t.length ≤ 1000) (hr : ∀ r ∈ ws, r.length ≤ 10) : L1_built (VB as d t (ws ++ [op :: cs])) = .ok (.nx, VB as d (t ++ [(op, cs)]) (addl ws t.length)) := by
  have e2 := w10_last (ws := ws) (r := op :: cs)
  have e3 : (encW10 (ws ++ [op :: cs])).dropLast = encW10 ws := by simp
  have c1 : t.length < 1000000 := by omega
  have c2 : cs.length + 1 ≤ 100000 := by omega
  have s1 : fApp 2 (fOp (on1 pTuple) [.v (fPopO 3)]) (VB as d t (ws ++ [op :: cs])) = .ok (.nx, VB as d (t ++ [(op, cs)]) ws) := by
    generalize encW10 (ws ++ [op :: cs]) = W at *
    simp [q_mulAI, q_mulAL, a_wb, q_divW, Function.comp_def, q_starI, q_starIT, a_wp, a_fz, a_fz0, a_fz1, a_ext, a_ins, a_insA, a_pop, a_parN, a_evO0, a_evO1, a_setO0, a_setO1, a_ix2, a_setII, a_zN, a_zC, a_lcO, d_oo, pEq_int, pNe_int, pIxL, pIxT, atI_nat, atI_0, atI_1, atI_2, atI_3, atI_m1, cutLo, cutHi, cutLo1, cutHi1, a_seq, a_ifS, a_B, a_op, a_ov, a_ev0, a_evv, a_evs, a_C, a_V, a_M, a_set, a_setI, a_app, a_ret, a_ex, a_skip, a_no, a_not, a_andT, a_orT, a_and, a_or, a_notV, a_if, a_par, a_call, a_forS, a_sq, a_r1, a_r2, a_en, a_zp, a_asT, a_chI, a_yes, a_lc, a_fn, okA, f_fr, bkA, rsvs, rsv, dvs, on1, on2, d_fr, d_ol, rsO, ndS, sl, putB, asT, setAll, ofO, Dy.ints1, Dy.ints2, nE, wipeE, unw, frO, q_addI, q_addL, q_addT, q_addS, q_sub, q_div, q_mod, q_pow, q_neg, q_cm, pIs, pIsn, q_isN, q_isI, q_isS, q_isT, q_isL, q_isB, q_lenL, q_lenT, pTup, pLst, q_tupL, q_tupT, q_lstL, q_lstT, q_revL, q_slL, q_slT, q_shL, q_shT, q_sqL, q_sqT, q_intI, q_max2, q_min2, q_aII, q_aBI, q_aTI, q_aTT, q_aLL, q_aTL, q_aIT, a_popO, e2, e3, c1]
  unfold L1_built
  refine nx4 s1 ?_
  rcases List.eq_nil_or_concat ws with rfl | ⟨vs, r, rfl⟩
  · simp [q_mulAI, q_mulAL, a_wb, q_divW, Function.comp_def, q_starI, q_starIT, a_wp, a_fz, a_fz0, a_fz1, a_ext, a_ins, a_insA, a_pop, a_parN, a_evO0, a_evO1, a_setO0, a_setO1, a_ix2, a_setII, a_zN, a_zC, a_lcO, d_oo, pEq_int, pNe_int, pIxL, pIxT, atI_nat, atI_0, atI_1, atI_2, atI_3, atI_m1, cutLo, cutHi, cutLo1, cutHi1, a_seq, a_ifS, a_B, a_op, a_ov, a_ev0, a_evv, a_evs, a_C, a_V, a_M, a_set, a_setI, a_app, a_ret, a_ex, a_skip, a_no, a_not, a_andT, a_orT, a_and, a_or, a_notV, a_if, a_par, a_call, a_forS, a_sq, a_r1, a_r2, a_en, a_zp, a_asT, a_chI, a_yes, a_lc, a_fn, okA, f_fr, bkA, rsvs, rsv, dvs, on1, on2, d_fr, d_ol, rsO, ndS, sl, putB, asT, setAll, ofO, Dy.ints1, Dy.ints2, nE, wipeE, unw, frO, q_addI, q_addL, q_addT, q_addS, q_sub, q_div, q_mod, q_pow, q_neg, q_cm, pIs, pIsn, q_isN, q_isI, q_isS, q_isT, q_isL, q_isB, q_lenL, q_lenT, pTup, pLst, q_tupL, q_tupT, q_lstL, q_lstT, q_revL, q_slL, q_slT, q_shL, q_shT, q_sqL, q_sqT, q_intI, q_max2, q_min2, q_aII, q_aBI, q_aTI, q_aTT, q_aLL, q_aTL, q_aIT, a_E0, addl]
  · rw [List.concat_eq_append] at *
    have hl := hr r (by simp)
    rw [addl_snoc]
    have l : (encW10 (vs ++ [r])).length = vs.length + 1 := by simp
    have e1 : ixN (vs.length + 1) (-1) = some (vs.length) := by rw [ixN_m1 (by omega)]; rfl
    have e4 : (encW10 (vs ++ [r]))[vs.length]? = some (r.map dN) := by have := w10_last (ws := vs) (r := r); rw [l] at this; exact this
    have e5 : (encW10 (vs ++ [r])).isEmpty = false := by simp
    have e6 : (encW10 (vs ++ [r])).set vs.length (r.map dN ++ [dN t.length]) = encW10 (vs ++ [r ++ [t.length]]) := by
      have : vs.length = (encW10 vs).length := by simp
      simp only [encW10, List.map_append, List.map_singleton]
      rw [this, List.set_append_right _ _ (Nat.le_refl _), Nat.sub_self]
      simp
    have c3 : r.length < 1000000 := by omega
    show _ = Res.ok (Fl.nx, V_built (arities := fr (encA as)) (operators := fr d) (tree := ol ((t ++ [(op, cs)]).map encN)) (waiting := some (.oo (encW10 (vs ++ [r ++ [t.length]])))))
    unfold VB
    rw [← e6]
    clear e6 e2 e3 s1
    generalize encW10 (vs ++ [r]) = W at *
    have e7 : ∀ h : vs.length < W.length, W[vs.length] = r.map dN := fun h => (List.getElem?_eq_some_iff.mp e4).2
    simp [q_mulAI, q_mulAL, a_wb, q_divW, Function.comp_def, q_starI, q_starIT, a_wp, a_fz, a_fz0, a_fz1, a_ext, a_ins, a_insA, a_pop, a_parN, a_evO0, a_evO1, a_setO0, a_setO1, a_ix2, a_setII, a_zN, a_zC, a_lcO, d_oo, pEq_int, pNe_int, pIxL, pIxT, atI_nat, atI_0, atI_1, atI_2, atI_3, atI_m1, cutLo, cutHi, cutLo1, cutHi1, a_seq, a_ifS, a_B, a_op, a_ov, a_ev0, a_evv, a_evs, a_C, a_V, a_M, a_set, a_setI, a_app, a_ret, a_ex, a_skip, a_no, a_not, a_andT, a_orT, a_and, a_or, a_notV, a_if, a_par, a_call, a_forS, a_sq, a_r1, a_r2, a_en, a_zp, a_asT, a_chI, a_yes, a_lc, a_fn, okA, f_fr, bkA, rsvs, rsv, dvs, on1, on2, d_fr, d_ol, rsO, ndS, sl, putB, asT, setAll, ofO, Dy.ints1, Dy.ints2, nE, wipeE, unw, frO, q_addI, q_addL, q_addT, q_addS, q_sub, q_div, q_mod, q_pow, q_neg, q_cm, pIs, pIsn, q_isN, q_isI, q_isS, q_isT, q_isL, q_isB, q_lenL, q_lenT, pTup, pLst, q_tupL, q_tupT, q_lstL, q_lstT, q_revL, q_slL, q_slT, q_shL, q_shT, q_sqL, q_sqT, q_intI, q_max2, q_min2, q_aII, q_aBI, q_aTI, q_aTT, q_aLL, q_aTL, q_aIT, a_E0, a_appI_4, l, e1, e7, e5, c3]
theorem rd_run {as : List Nat} {d : PyData} {t t' : List Nd} {W W' : List (List Nat)} (h : Rd as t W t' W') : ∀ n, W.length < n → fWhile T1_built L1_built n (VB as d t W) = .ok (.nx, VB as d t' W') := by
  have key : ∀ n e, fWhile T1_built L1_built (n + 1) e = T1_built e >>= fun b => if b.1 = true then L1_built b.2 >>= fun r => match r.1 with
      | .nx => fWhile T1_built L1_built n r.2
      | .ct => fWhile T1_built L1_built n r.2
      | .bk => .ok (.nx, r.2)
      | .rt o => .ok (.rt o, r.2)
      else .ok (.nx, b.2) := fun _ _ => rfl
  induction h with
  | nil =>
    intro n hn
    obtain ⟨n, rfl⟩ : ∃ k, n = k + 1 := ⟨n - 1, by omega⟩
    rw [key, t1_nil]; rfl
  | @stop t ws op a cs h1 h2 =>
    intro n hn
    obtain ⟨n, rfl⟩ : ∃ k, n = k + 1 := ⟨n - 1, by omega⟩
    rw [key, t1_at h1, bind_ok]
    dsimp only
    rw [decide_eq_false h2, if_neg (by decide)]
  | @go t t' ws W' op cs h1 h2 h3 h4 _ ih =>
    intro n hn
    obtain ⟨n, rfl⟩ : ∃ k, n = k + 1 := ⟨n - 1, by omega⟩
    rw [key, t1_at h1, bind_ok]
    dsimp only
    rw [decide_eq_true rfl, if_pos rfl, l1_at h2 h3 h4, bind_ok]
    exact ih n (by rw [addl_len]; simp at hn; omega)
/-- operators one by one -/
inductive Ops (as : List Nat) : List Nd → List (List Nat) → List Nat → List Nd → List (List Nat) → Prop
  | nil {t : List Nd} {W : List (List Nat)} : Ops as t W [] t W
  | cons {t t1 t' : List Nd} {W W1 W' : List (List Nat)} {op : Nat} {ops : List Nat} : W ≠ [] → W.length ≤ 1000 → Rd as t (W ++ [[op]]) t1 W1 → Ops as t1 W1 ops t' W' → Ops as t W (op :: ops) t' W'
theorem Ops.trans {as : List Nat} {t t1 t2 : List Nd} {W W1 W2 : List (List Nat)} {xs ys : List Nat} (h : Ops as t W xs t1 W1) (k : Ops as t1 W1 ys t2 W2) : Ops as t W (xs ++ ys) t2 W2 := by
  induction h with
  | nil => exact k
  | cons h1 h2 h3 _ ih => exact .cons h1 h2 h3 (ih k)
theorem op_run {as : List Nat} {d : PyData} {t t1 : List Nd} {W W1 : List (List Nat)} {op at_ : Nat} (h : at_ = 0 ∨ W ≠ []) (hl : W.length ≤ 1000) (hr : Rd as t (W ++ [[op]]) t1 W1) :
    (asT (.tu [4, 5]) (.tuple [.int (at_ : Int), dN op]) (VB as d t W) >>= L2_built) = .ok (.nx, VB as d t1 W1) := by
  have e := rd_run (d := d) hr 100000 (by simp; omega)
  have c1 : W.length < 1000000 := by omega
  have e6 : encW10 W ++ [[dN op]] = encW10 (W ++ [[op]]) := by simp
  have lw : (encW10 W).length = W.length := by simp
  have ee : (encW10 W).isEmpty = W.isEmpty := by cases W <;> rfl
  have guard : (¬ (0 : Int) < at_) ∨ W.isEmpty = false := by
    rcases h with rfl | h
    · left; decide
    · right; cases W with
      | nil => exact absurd rfl h
      | cons _ _ => rfl
  have s2 : fWp [4, 5] (fAppO 3 (fOv pLst [.v (fV 5)])) (V_built (arities := fr (encA as)) (operators := fr d) (tree := ol (t.map encN)) (waiting := some (.oo (encW10 W))) (at_ := fr (dN at_)) (operator := fr (dN op))) = .ok (.nx, VB as d t (W ++ [[op]])) := by
    show _ = Res.ok (Fl.nx, V_built (arities := fr (encA as)) (operators := fr d) (tree := ol (t.map encN)) (waiting := some (.oo (encW10 (W ++ [[op]])))))
    rw [← e6]
    rw [← lw] at c1
    generalize encW10 W = WW at *
    simp [q_mulAI, q_mulAL, a_wb, q_divW, Function.comp_def, q_starI, q_starIT, a_wp, a_fz, a_fz0, a_fz1, a_ext, a_ins, a_insA, a_pop, a_parN, a_evO0, a_evO1, a_setO0, a_setO1, a_ix2, a_setII, a_zN, a_zC, a_lcO, d_oo, pEq_int, pNe_int, pIxL, pIxT, atI_nat, atI_0, atI_1, atI_2, atI_3, atI_m1, cutLo, cutHi, cutLo1, cutHi1, a_seq, a_ifS, a_B, a_op, a_ov, a_ev0, a_evv, a_evs, a_C, a_V, a_M, a_set, a_setI, a_app, a_ret, a_ex, a_skip, a_no, a_not, a_andT, a_orT, a_and, a_or, a_notV, a_if, a_par, a_call, a_forS, a_sq, a_r1, a_r2, a_en, a_zp, a_asT, a_chI, a_yes, a_lc, a_fn, okA, f_fr, bkA, rsvs, rsv, dvs, on1, on2, d_fr, d_ol, rsO, ndS, sl, putB, asT, setAll, ofO, Dy.ints1, Dy.ints2, nE, wipeE, unw, frO, q_addI, q_addL, q_addT, q_addS, q_sub, q_div, q_mod, q_pow, q_neg, q_cm, pIs, pIsn, q_isN, q_isI, q_isS, q_isT, q_isL, q_isB, q_lenL, q_lenT, pTup, pLst, q_tupL, q_tupT, q_lstL, q_lstT, q_revL, q_slL, q_slT, q_shL, q_shT, q_sqL, q_sqT, q_intI, q_max2, q_min2, q_aII, q_aBI, q_aTI, q_aTT, q_aLL, q_aTL, q_aIT, a_appO4, c1]
  have s1 : fIfS (fAndT (fB (fOp (on2 (cmI (fun i j => decide (j < i)))) [.s 4, .v (fC (.int 0))])) (fB (fE0 id 3))) (fRet (fC .none)) (fSkip) (V_built (arities := fr (encA as)) (operators := fr d) (tree := ol (t.map encN)) (waiting := some (.oo (encW10 W))) (at_ := fr (dN at_)) (operator := fr (dN op))) = .ok (.nx, V_built (arities := fr (encA as)) (operators := fr d) (tree := ol (t.map encN)) (waiting := some (.oo (encW10 W))) (at_ := fr (dN at_)) (operator := fr (dN op))) := by
    generalize encW10 W = WW at *
    by_cases z : (0 : Int) < at_
    · rcases guard with g | g
      · exact absurd z g
      · have z' : 0 < at_ := by omega
        simp [q_mulAI, q_mulAL, a_wb, q_divW, Function.comp_def, q_starI, q_starIT, a_wp, a_fz, a_fz0, a_fz1, a_ext, a_ins, a_insA, a_pop, a_parN, a_evO0, a_evO1, a_setO0, a_setO1, a_ix2, a_setII, a_zN, a_zC, a_lcO, d_oo, pEq_int, pNe_int, pIxL, pIxT, atI_nat, atI_0, atI_1, atI_2, atI_3, atI_m1, cutLo, cutHi, cutLo1, cutHi1, a_seq, a_ifS, a_B, a_op, a_ov, a_ev0, a_evv, a_evs, a_C, a_V, a_M, a_set, a_setI, a_app, a_ret, a_ex, a_skip, a_no, a_not, a_andT, a_orT, a_and, a_or, a_notV, a_if, a_par, a_call, a_forS, a_sq, a_r1, a_r2, a_en, a_zp, a_asT, a_chI, a_yes, a_lc, a_fn, okA, f_fr, bkA, rsvs, rsv, dvs, on1, on2, d_fr, d_ol, rsO, ndS, sl, putB, asT, setAll, ofO, Dy.ints1, Dy.ints2, nE, wipeE, unw, frO, q_addI, q_addL, q_addT, q_addS, q_sub, q_div, q_mod, q_pow, q_neg, q_cm, pIs, pIsn, q_isN, q_isI, q_isS, q_isT, q_isL, q_isB, q_lenL, q_lenT, pTup, pLst, q_tupL, q_tupT, q_lstL, q_lstT, q_revL, q_slL, q_slT, q_shL, q_shT, q_sqL, q_sqT, q_intI, q_max2, q_min2, q_aII, q_aBI, q_aTI, q_aTT, q_aLL, q_aTL, q_aIT, a_E0, z', ee, g]
    · have z' : ¬ 0 < at_ := by omega
      simp [q_mulAI, q_mulAL, a_wb, q_divW, Function.comp_def, q_starI, q_starIT, a_wp, a_fz, a_fz0, a_fz1, a_ext, a_ins, a_insA, a_pop, a_parN, a_evO0, a_evO1, a_setO0, a_setO1, a_ix2, a_setII, a_zN, a_zC, a_lcO, d_oo, pEq_int, pNe_int, pIxL, pIxT, atI_nat, atI_0, atI_1, atI_2, atI_3, atI_m1, cutLo, cutHi, cutLo1, cutHi1, a_seq, a_ifS, a_B, a_op, a_ov, a_ev0, a_evv, a_evs, a_C, a_V, a_M, a_set, a_setI, a_app, a_ret, a_ex, a_skip, a_no, a_not, a_andT, a_orT, a_and, a_or, a_notV, a_if, a_par, a_call, a_forS, a_sq, a_r1, a_r2, a_en, a_zp, a_asT, a_chI, a_yes, a_lc, a_fn, okA, f_fr, bkA, rsvs, rsv, dvs, on1, on2, d_fr, d_ol, rsO, ndS, sl, putB, asT, setAll, ofO, Dy.ints1, Dy.ints2, nE, wipeE, unw, frO, q_addI, q_addL, q_addT, q_addS, q_sub, q_div, q_mod, q_pow, q_neg, q_cm, pIs, pIsn, q_isN, q_isI, q_isS, q_isT, q_isL, q_isB, q_lenL, q_lenT, pTup, pLst, q_tupL, q_tupT, q_lstL, q_lstT, q_revL, q_slL, q_slT, q_shL, q_shT, q_sqL, q_sqT, q_intI, q_max2, q_min2, q_aII, q_aBI, q_aTI, q_aTT, q_aLL, q_aTL, q_aIT, a_E0, z']
  have h0 : asT (.tu [4, 5]) (.tuple [.int (at_ : Int), dN op]) (VB as d t W) = .ok (V_built (arities := fr (encA as)) (operators := fr d) (tree := ol (t.map encN)) (waiting := some (.oo (encW10 W))) (at_ := fr (dN at_)) (operator := fr (dN op))) := by
    simp [q_mulAI, q_mulAL, a_wb, q_divW, Function.comp_def, q_starI, q_starIT, a_wp, a_fz, a_fz0, a_fz1, a_ext, a_ins, a_insA, a_pop, a_parN, a_evO0, a_evO1, a_setO0, a_setO1, a_ix2, a_setII, a_zN, a_zC, a_lcO, d_oo, pEq_int, pNe_int, pIxL, pIxT, atI_nat, atI_0, atI_1, atI_2, atI_3, atI_m1, cutLo, cutHi, cutLo1, cutHi1, a_seq, a_ifS, a_B, a_op, a_ov, a_ev0, a_evv, a_evs, a_C, a_V, a_M, a_set, a_setI, a_app, a_ret, a_ex, a_skip, a_no, a_not, a_andT, a_orT, a_and, a_or, a_notV, a_if, a_par, a_call, a_forS, a_sq, a_r1, a_r2, a_en, a_zp, a_asT, a_chI, a_yes, a_lc, a_fn, okA, f_fr, bkA, rsvs, rsv, dvs, on1, on2, d_fr, d_ol, rsO, ndS, sl, putB, asT, setAll, ofO, Dy.ints1, Dy.ints2, nE, wipeE, unw, frO, q_addI, q_addL, q_addT, q_addS, q_sub, q_div, q_mod, q_pow, q_neg, q_cm, pIs, pIsn, q_isN, q_isI, q_isS, q_isT, q_isL, q_isB, q_lenL, q_lenT, pTup, pLst, q_tupL, q_tupT, q_lstL, q_lstT, q_revL, q_slL, q_slT, q_shL, q_shT, q_sqL, q_sqT, q_intI, q_max2, q_min2, q_aII, q_aBI, q_aTI, q_aTT, q_aLL, q_aTL, q_aIT]
  rw [h0, bind_ok]
  unfold L2_built
  exact nx4 s1 (nx4 s2 e)
theorem ops_run {as : List Nat} {d : PyData} {t t' : List Nd} {W W' : List (List Nat)} {ops : List Nat} (h : Ops as t W ops t' W') : ∀ k, fFor (.tu [4, 5]) L2_built (enumD k (ops.map dN)) (VB as d t W) = .ok (.nx, VB as d t' W') := by
  induction h with
  | nil => intro k; rfl
  | @cons t t1 t' W W1 W' op ops h1 h2 h3 _ ih =>
    intro k
    have e1 := op_run (d := d) (at_ := k) (.inr h1) h2 h3
    have key : fFor (.tu [4, 5]) L2_built (enumD k ((op :: ops).map dN)) (VB as d t W) = (asT (.tu [4, 5]) (.tuple [.int (k : Int), dN op]) (VB as d t W) >>= L2_built) >>= fun r => match r.1 with
      | .nx => fFor (.tu [4, 5]) L2_built (enumD (k + 1) (ops.map dN)) r.2
      | .ct => fFor (.tu [4, 5]) L2_built (enumD (k + 1) (ops.map dN)) r.2
      | .bk => .ok (.nx, r.2)
      | .rt o => .ok (.rt o, r.2) := by
        show (asT (.tu [4, 5]) (.tuple [.int (k : Int), dN op]) (VB as d t W) >>= fun e => L2_built e >>= fun r => _) = _
        cases asT (.tu [4, 5]) (.tuple [.int (k : Int), dN op]) (VB as d t W) <;> rfl
    rw [key, e1, bind_ok]
    exact ih (k + 1)
end Q
namespace Q
open PySem Dy
open L2 (atI ixN)
theorem low_enc : low4.map encN = .tuple [.int 0] :: .tuple [.int 0] :: (List.range 60).map fun k => encN (1, [k, k + 1]) := by
  simp [low4, encN, Function.comp_def]
theorem eL2 {e : Dy.Env} {x y : Option O} (he : e = V_law_20 (script := x) (full := y)) : lcL [14] (.nm 14) fYes E2_law_20 (rng 0 60) e [] = .ok ((List.range 60).map (fun k => encN (1, [k, k + 1])), e) := by
  subst he
  rw [rng_eq]
  exact lc_tm dN (fun k => encN (1, [k, k + 1])) (List.range 60) rfl (fun k hk => by simp [E2_law_20, q_mulAI, q_mulAL, a_wb, q_divW, Function.comp_def, q_starI, q_starIT, a_wp, a_fz, a_fz0, a_fz1, a_ext, a_ins, a_insA, a_pop, a_parN, a_evO0, a_evO1, a_setO0, a_setO1, a_ix2, a_setII, a_zN, a_zC, a_lcO, d_oo, pEq_int, pNe_int, pIxL, pIxT, atI_nat, atI_0, atI_1, atI_2, atI_3, atI_m1, cutLo, cutHi, cutLo1, cutHi1, a_seq, a_ifS, a_B, a_op, a_ov, a_ev0, a_evv, a_evs, a_C, a_V, a_M, a_set, a_setI, a_app, a_ret, a_ex, a_skip, a_no, a_not, a_andT, a_orT, a_and, a_or, a_notV, a_if, a_par, a_call, a_forS, a_sq, a_r1, a_r2, a_en, a_zp, a_asT, a_chI, a_yes, a_lc, a_fn, okA, f_fr, bkA, rsvs, rsv, dvs, on1, on2, d_fr, d_ol, rsO, ndS, sl, putB, asT, setAll, ofO, Dy.ints1, Dy.ints2, nE, wipeE, unw, frO, q_addI, q_addL, q_addT, q_addS, q_sub, q_div, q_mod, q_pow, q_neg, q_cm, pIs, pIsn, q_isN, q_isI, q_isS, q_isT, q_isL, q_isB, q_lenL, q_lenT, pTup, pLst, q_tupL, q_tupT, q_lstL, q_lstT, q_revL, q_slL, q_slT, q_shL, q_shT, q_sqL, q_sqT, q_intI, q_max2, q_min2, q_aII, q_aBI, q_aTI, q_aTT, q_aLL, q_aTL, q_aIT, encN]) (by simp)
theorem setB (x y : Option O) : fSet 2 (fOp (on2 pAdd) [.v (fOv pTup [.v (fOv pTup [.v (fC (.int 0))]), .v (fOv pTup [.v (fC (.int 0))])]), .v (fOp (on1 pTuple) [.v (fLc (fR1 (.v (fC (.int 60)))) [14] (.nm 14) (fYes) (E2_law_20))])]) (V_law_20 (script := x) (full := y)) = .ok (.nx, V_law_20 (script := x) (full := y) (low := fr (encT low4))) := by
  have e := eL2 (x := x) (y := y) rfl
  have hF := low_enc
  obtain ⟨L, hL⟩ : ∃ L, L = (List.range 60).map fun k => encN (1, [k, k + 1]) := ⟨_, rfl⟩
  have hl : L.length = 60 := by rw [hL]; simp
  rw [← hL] at e hF
  show _ = Res.ok (Fl.nx, V_law_20 (script := x) (full := y) (low := fr (.tuple (low4.map encN))))
  rw [hF]
  simp [q_mulAI, q_mulAL, a_wb, q_divW, Function.comp_def, q_starI, q_starIT, a_wp, a_fz, a_fz0, a_fz1, a_ext, a_ins, a_insA, a_pop, a_parN, a_evO0, a_evO1, a_setO0, a_setO1, a_ix2, a_setII, a_zN, a_zC, a_lcO, d_oo, pEq_int, pNe_int, pIxL, pIxT, atI_nat, atI_0, atI_1, atI_2, atI_3, atI_m1, cutLo, cutHi, cutLo1, cutHi1, a_seq, a_ifS, a_B, a_op, a_ov, a_ev0, a_evv, a_evs, a_C, a_V, a_M, a_set, a_setI, a_app, a_ret, a_ex, a_skip, a_no, a_not, a_andT, a_orT, a_and, a_or, a_notV, a_if, a_par, a_call, a_forS, a_sq, a_r1, a_r2, a_en, a_zp, a_asT, a_chI, a_yes, a_lc, a_fn, okA, f_fr, bkA, rsvs, rsv, dvs, on1, on2, d_fr, d_ol, rsO, ndS, sl, putB, asT, setAll, ofO, Dy.ints1, Dy.ints2, nE, wipeE, unw, frO, q_addI, q_addL, q_addT, q_addS, q_sub, q_div, q_mod, q_pow, q_neg, q_cm, pIs, pIsn, q_isN, q_isI, q_isS, q_isT, q_isL, q_isB, q_lenL, q_lenT, pTup, pLst, q_tupL, q_tupT, q_lstL, q_lstT, q_revL, q_slL, q_slT, q_shL, q_shT, q_sqL, q_sqT, q_intI, q_max2, q_min2, q_aII, q_aBI, q_aTI, q_aTT, q_aLL, q_aTL, q_aIT, e, hl]
theorem lof0_4 {S : SF} {vs : List Nat} {e0 e3 : Dy.Env} (hs : S e0 = .ok (.nx, e3)) : fSeq (fWp vs S) (fRet (fC (.bool true))) e0 = .ok (.rt (.fr (.bool true)), wipeE e3 vs) := by
  have e1 : fWp vs S e0 = .ok (.nx, wipeE e3 vs) := by rw [a_wp, hs]; rfl
  show (fWp vs S e0 >>= fun r => match r.1 with | .nx => fRet (fC (.bool true)) r.2 | _ => .ok r) = _
  rw [e1]; rfl
theorem fn1_4 {N : Nat} {b : SF} {d : PyData} {o : O} {e : Dy.Env} (h : b (some (.fr d) :: List.replicate N none) = .ok (.rt o, e)) : fnM 1 (N + 1) [] b [.fr d] = .ok (o, [.fr d]) := by
  show (b (some (.fr d) :: List.replicate (N + 1 - 1) none) >>= fun r => match bkA [] r.2 0 [.fr d] with | none => .no | some os' => match r.1 with | .rt o => .ok (o, os') | .nx => .ok (.fr .none, os') | _ => .no) = _
  rw [show N + 1 - 1 = N from rfl, h]; rfl
end Q
namespace Q
open PySem Dy
open L2 (atI ixN)
theorem pK_lt {as : List Nat} {t : List Nd} (ht : WF as t) : ∀ (b k : Nat), k ≤ b → k < t.length → ∀ x ∈ pK t k, x < as.length := by
  have step : ∀ k, (∀ c, c < k → c < t.length → ∀ x ∈ pK t c, x < as.length) → k < t.length → ∀ x ∈ pK t k, x < as.length := by
    intro k ih hk x hx
    obtain ⟨n, hn, _⟩ := get_of_lt hk
    rw [pK_at ht hn] at hx
    rcases List.mem_cons.mp hx with rfl | hx
    · exact lt_of_get (ht k n hn).1
    · obtain ⟨l, hl, hx⟩ := List.mem_flatten.mp hx
      obtain ⟨c, hc, rfl⟩ := List.mem_map.mp hl
      have := (ht k n hn).2 c hc
      exact ih c this (by omega) x hx
  intro b
  induction b with
  | zero => intro k hk hl; exact step k (fun c hc => by omega) hl
  | succ b ih => intro k hk hl; exact step k (fun c hc hl => ih c (by omega) hl) hl
end Q
namespace Q
open PySem Dy
open L2 (atI ixN)
theorem shift0 (t : List Nd) : shift 0 t = t := by
  unfold shift
  conv => rhs; rw [← List.map_id t]
  refine List.map_congr_left fun n _ => ?_
  obtain ⟨a, b⟩ := n
  simp
theorem shift_app (k : Nat) (a b : List Nd) : shift k (a ++ b) = shift k a ++ shift k b := by unfold shift; exact List.map_append
theorem shift_shift (j k : Nat) (t : List Nd) : shift j (shift k t) = shift (j + k) t := by
  unfold shift
  rw [List.map_map]
  refine List.map_congr_left fun n _ => ?_
  simp [Nat.add_assoc]
inductive Cn (as : List Nat) : List Nd → Prop
  | c0 {op : Nat} : as[op]? = some 0 → Cn as [(op, [])]
  | c1 {op : Nat} {a : List Nd} : as[op]? = some 1 → Cn as a → Cn as (a ++ [(op, [a.length - 1])])
  | c2 {op : Nat} {a b : List Nd} : as[op]? = some 2 → Cn as a → Cn as b → Cn as (a ++ shift a.length b ++ [(op, [a.length - 1, a.length + b.length - 1])])
def pL (t : List Nd) : List Nat := lastA spF10 [] t
theorem Cn.ne {as : List Nat} {t : List Nd} (h : Cn as t) : t ≠ [] := by cases h <;> simp
theorem Cn.pos {as : List Nat} {t : List Nd} (h : Cn as t) : 0 < t.length := List.length_pos_iff.mpr h.ne
theorem j1 (op : Nat) (a : List Nd) : joinT op [a] = a ++ [(op, [a.length - 1])] := by
  simp [joinT, jn1, shift0]
theorem j2 (op : Nat) (a b : List Nd) : joinT op [a, b] = a ++ shift a.length b ++ [(op, [a.length - 1, a.length + b.length - 1])] := by
  simp [joinT, jn1, shift0]
theorem pL_join (op : Nat) (ts : List (List Nd)) (h : ∀ t ∈ ts, t ≠ []) : pL (joinT op ts) = op :: (ts.map pL).flatten := lastA_join spF10 [] op ts h
theorem pL_c0 (op : Nat) : pL [(op, [])] = [op] := rfl
theorem pL_c1 {op : Nat} {a : List Nd} (h : a ≠ []) : pL (a ++ [(op, [a.length - 1])]) = op :: pL a := by
  rw [← j1, pL_join op [a] (by simpa using h)]; simp
theorem pL_c2 {op : Nat} {a b : List Nd} (h : a ≠ []) (k : b ≠ []) : pL (a ++ shift a.length b ++ [(op, [a.length - 1, a.length + b.length - 1])]) = op :: (pL a ++ pL b) := by
  rw [← j2, pL_join op [a, b] (by simp [h, k])]; simp
theorem Cn.len {as : List Nat} {t : List Nd} (h : Cn as t) : (pL t).length = t.length := by
  induction h with
  | c0 _ => rfl
  | c1 _ ha ih => rw [pL_c1 ha.ne]; simp [ih]
  | c2 _ ha hb i1 i2 => rw [pL_c2 ha.ne hb.ne]; simp [i1, i2, shift_len]; omega
theorem Cn.wf {as : List Nat} {t : List Nd} (h : Cn as t) : WF as t := by
  induction h with
  | c0 ho => exact WF.nil.snoc (n := (_, [])) ⟨ho, fun p hp => by cases hp⟩
  | c1 ho ha ih =>
    have := ha.pos
    exact ih.snoc ⟨ho, fun p hp => by simp at hp; omega⟩
  | c2 ho ha hb i1 i2 =>
    have := ha.pos
    have := hb.pos
    exact (i1.shift i2).snoc ⟨ho, fun p hp => by simp [shift_len] at hp ⊢; omega⟩
theorem Cn.join {as : List Nat} {op : Nat} {ts : List (List Nd)} (ha : ArOk as) (h : ∀ t ∈ ts, Cn as t) (ho : as[op]? = some ts.length) : Cn as (joinT op ts) := by
  have a2 := ha.le2 _ (List.mem_of_getElem? ho)
  match ts, a2 with
  | [], _ => exact .c0 ho
  | [a], _ => rw [j1]; exact .c1 ho (h a (by simp))
  | [a, b], _ => rw [j2]; exact .c2 ho (h a (by simp)) (h b (by simp))
theorem Cn.tr {as : List Nat} {t : List Nd} (h : Cn as t) (hl : t.length ≤ 1000) : TrOk as t := ⟨h.wf, h.ne, hl⟩
theorem pL_root {as : List Nat} {t : List Nd} (h : t ≠ []) : pK t (t.length - 1) = pL t := (lastA_eq spF10 [] h).symm
theorem Ops.of_cons {as : List Nat} {T t' : List Nd} {W W' : List (List Nat)} {op : Nat} {rest : List Nat} (hne : W ≠ []) (hl : W.length ≤ 1000) (h : ∃ t1 W1, Rd as T (W ++ [[op]]) t1 W1 ∧ Ops as t1 W1 rest t' W') : Ops as T W (op :: rest) t' W' := by
  obtain ⟨t1, W1, r, o⟩ := h
  exact .cons hne hl r o
theorem nodeC {as : List Nat} {t : List Nd} (h : Cn as t) : ∃ op rest, pL t = op :: rest ∧ ∀ (T : List Nd) (W : List (List Nat)), T.length + t.length ≤ 900 → W.length + t.length ≤ 900 → (∀ r ∈ W, r.length ≤ 10) → ∀ t' W', Rd as (T ++ shift T.length t) (addl W (T.length + t.length - 1)) t' W' → ∃ t1 W1, Rd as T (W ++ [[op]]) t1 W1 ∧ Ops as t1 W1 rest t' W' := by
  induction h with
  | @c0 op ho => exact ⟨op, [], rfl, fun T W l1 l2 hW t' W' hR => ⟨t', W', .go ho (by simp) (by omega) hW (by simpa [shift] using hR), .nil⟩⟩
  | @c1 op a ho ha ih =>
    obtain ⟨oa, ra, ea, ka⟩ := ih
    have pa := ha.pos
    refine ⟨op, pL a, pL_c1 ha.ne, fun T W l1 l2 hW t' W' hR => ⟨T, W ++ [[op]], .stop ho (by simp), ?_⟩⟩
    rw [ea]
    simp only [List.length_append, List.length_singleton] at l1 l2 hR
    refine .of_cons (by simp) (by simp; omega) (ka T (W ++ [[op]]) (by omega) (by simp; omega) (fun r hr => by
      rcases List.mem_append.mp hr with z | z
      · exact hW r z
      · simp at z; subst z; simp) t' W' ?_)
    rw [addl_snoc]
    have e1 : ([op] ++ [T.length + a.length - 1] : List Nat) = op :: [T.length + a.length - 1] := rfl
    rw [e1]
    refine .go (by simpa using ho) (by simp) (by simp [shift_len]; omega) hW ?_
    rw [shift_app, ← List.append_assoc] at hR
    have e2 : shift T.length [(op, [a.length - 1])] = [(op, [T.length + a.length - 1])] := by simp [shift]; omega
    rw [e2] at hR
    have e3 : (T ++ shift T.length a).length = T.length + (a.length + 1) - 1 := by simp [shift_len]
    rw [e3]
    exact hR
  | @c2 op a b ho ha hb i1 i2 =>
    obtain ⟨oa, ra, ea, ka⟩ := i1
    obtain ⟨ob, rb, eb, kb⟩ := i2
    have pa := ha.pos
    have pb := hb.pos
    refine ⟨op, pL a ++ pL b, pL_c2 ha.ne hb.ne, fun T W l1 l2 hW t' W' hR => ⟨T, W ++ [[op]], .stop ho (by simp), ?_⟩⟩
    simp only [List.length_append, List.length_singleton, shift_len] at l1 l2 hR
    have hW1 : ∀ x : List Nat, x.length ≤ 10 → ∀ r ∈ W ++ [x], r.length ≤ 10 := fun x hx r hr => by
      rcases List.mem_append.mp hr with z | z
      · exact hW r z
      · simp at z; subst z; exact hx
    have s2 : Ops as (T ++ shift T.length a) (W ++ [[op, T.length + a.length - 1]]) (pL b) t' W' := by
      rw [eb]
      refine .of_cons (by simp) (by simp; omega) (kb (T ++ shift T.length a) (W ++ [[op, T.length + a.length - 1]]) (by simp [shift_len]; omega) (by simp; omega) (hW1 _ (by simp)) t' W' ?_)
      rw [addl_snoc]
      have e1 : ([op, T.length + a.length - 1] ++ [(T ++ shift T.length a).length + b.length - 1] : List Nat) = op :: [T.length + a.length - 1, T.length + a.length + b.length - 1] := by simp [shift_len]
      rw [e1]
      refine .go (by simpa using ho) (by simp) (by simp [shift_len]; omega) hW ?_
      rw [shift_app, shift_app, shift_shift, ← List.append_assoc, ← List.append_assoc] at hR
      have e2 : shift T.length [(op, [a.length - 1, a.length + b.length - 1])] = [(op, [T.length + a.length - 1, T.length + a.length + b.length - 1])] := by simp [shift]; omega
      rw [e2] at hR
      have e3 : (T ++ shift T.length a ++ shift (T ++ shift T.length a).length b).length = T.length + (a.length + b.length + 1) - 1 := by simp [shift_len] <;> omega
      have e4 : (T ++ shift T.length a).length = T.length + a.length := by simp [shift_len]
      rw [e3, e4]
      exact hR
    refine Ops.trans ?_ s2
    rw [ea]
    refine .of_cons (by simp) (by simp; omega) (ka T (W ++ [[op]]) (by omega) (by simp; omega) (hW1 _ (by simp)) _ _ ?_)
    rw [addl_snoc]
    exact .stop ho (by simp)
/-- what is built of the row of a tree -/
theorem builtC {as : List Nat} {t : List Nd} (ha : ArOk as) (h : Cn as t) (hl : t.length ≤ 800) : M_built [.fr (encA as), .fr (encA (pL t))] = .ok (.fr (encT t), [.fr (encA as), .fr (encA (pL t))]) := by
  obtain ⟨op, rest, hp, k⟩ := nodeC h
  obtain ⟨t1, W1, r1, o1⟩ := k [] [] (by rw [List.length_nil]; omega) (by rw [List.length_nil]; omega) (fun r hr => by cases hr) t [] (by rw [List.nil_append, List.length_nil, shift0]; exact .nil)
  have un0 := h.ne
  have hu := h.tr (by omega)
  generalize pL t = R at *
  have e0 := op_run (d := encA R) (at_ := 0) (.inl rfl) (by simp) r1
  have e1 := ops_run (d := encA R) o1 1
  have e2 : fFor (.tu [4, 5]) L2_built (enumD 0 (R.map dN)) (VB as (encA R) [] []) = .ok (.nx, VB as (encA R) t []) := by
    have key : ∀ (op : Nat) (ops : List Nat), fFor (.tu [4, 5]) L2_built (enumD 0 ((op :: ops).map dN)) (VB as (encA R) [] []) = (asT (.tu [4, 5]) (.tuple [.int ((0 : Nat) : Int), dN op]) (VB as (encA R) [] []) >>= L2_built) >>= fun r => match r.1 with
      | .nx => fFor (.tu [4, 5]) L2_built (enumD 1 (ops.map dN)) r.2
      | .ct => fFor (.tu [4, 5]) L2_built (enumD 1 (ops.map dN)) r.2
      | .bk => .ok (.nx, r.2)
      | .rt o => .ok (.rt o, r.2) := fun op ops => by
        show (asT (.tu [4, 5]) (.tuple [.int ((0 : Nat) : Int), dN op]) (VB as (encA R) [] []) >>= fun e => L2_built e >>= fun r => _) = _
        cases asT (.tu [4, 5]) (.tuple [.int ((0 : Nat) : Int), dN op]) (VB as (encA R) [] []) <;> rfl
    generalize encA R = D at *
    rw [hp, key, e0, bind_ok]
    exact e1
  have hsh := pNe_L0 (xs := t.map encN) (by
    exact (Rk.lst (n := 1) (w := 4000) (fun d hd => by
      obtain ⟨n, hn, rfl⟩ := List.mem_map.mp hd
      exact rkN ha (hu.wf.mem hn) (by omega))).shp (by decide))
  have hne : (t.map encN).isEmpty = false := by cases t with
    | nil => exact absurd rfl un0
    | cons _ _ => rfl
  rw [hne] at hsh
  have c1 : t.length ≤ 100000 := by omega
  have e2' : fFor (.tu [4, 5]) L2_built (enumD 0 (R.map dN)) (V_built (arities := fr (encA as)) (operators := fr (encA R)) (tree := ol []) (waiting := some (.oo []))) = .ok (.nx, VB as (encA R) t []) := e2
  have eo : pOo0 [] = some (.oo []) := rfl
  simp [M_built, b_built, q_mulAI, q_mulAL, a_wb, q_divW, Function.comp_def, q_starI, q_starIT, a_wp, a_fz, a_fz0, a_fz1, a_ext, a_ins, a_insA, a_pop, a_parN, a_evO0, a_evO1, a_setO0, a_setO1, a_ix2, a_setII, a_zN, a_zC, a_lcO, d_oo, pEq_int, pNe_int, pIxL, pIxT, atI_nat, atI_0, atI_1, atI_2, atI_3, atI_m1, cutLo, cutHi, cutLo1, cutHi1, a_seq, a_ifS, a_B, a_op, a_ov, a_ev0, a_evv, a_evs, a_C, a_V, a_M, a_set, a_setI, a_app, a_ret, a_ex, a_skip, a_no, a_not, a_andT, a_orT, a_and, a_or, a_notV, a_if, a_par, a_call, a_forS, a_sq, a_r1, a_r2, a_en, a_zp, a_asT, a_chI, a_yes, a_lc, a_fn, okA, f_fr, bkA, rsvs, rsv, dvs, on1, on2, d_fr, d_ol, rsO, ndS, sl, putB, asT, setAll, ofO, Dy.ints1, Dy.ints2, nE, wipeE, unw, frO, q_addI, q_addL, q_addT, q_addS, q_sub, q_div, q_mod, q_pow, q_neg, q_cm, pIs, pIsn, q_isN, q_isI, q_isS, q_isT, q_isL, q_isB, q_lenL, q_lenT, pTup, pLst, q_tupL, q_tupT, q_lstL, q_lstT, q_revL, q_slL, q_slT, q_shL, q_shT, q_sqL, q_sqT, q_intI, q_max2, q_min2, q_aII, q_aBI, q_aTI, q_aTT, q_aLL, q_aTL, q_aIT, eo]
  rw [e2']
  simp [q_mulAI, q_mulAL, a_wb, q_divW, Function.comp_def, q_starI, q_starIT, a_wp, a_fz, a_fz0, a_fz1, a_ext, a_ins, a_insA, a_pop, a_parN, a_evO0, a_evO1, a_setO0, a_setO1, a_ix2, a_setII, a_zN, a_zC, a_lcO, d_oo, pEq_int, pNe_int, pIxL, pIxT, atI_nat, atI_0, atI_1, atI_2, atI_3, atI_m1, cutLo, cutHi, cutLo1, cutHi1, a_seq, a_ifS, a_B, a_op, a_ov, a_ev0, a_evv, a_evs, a_C, a_V, a_M, a_set, a_setI, a_app, a_ret, a_ex, a_skip, a_no, a_not, a_andT, a_orT, a_and, a_or, a_notV, a_if, a_par, a_call, a_forS, a_sq, a_r1, a_r2, a_en, a_zp, a_asT, a_chI, a_yes, a_lc, a_fn, okA, f_fr, bkA, rsvs, rsv, dvs, on1, on2, d_fr, d_ol, rsO, ndS, sl, putB, asT, setAll, ofO, Dy.ints1, Dy.ints2, nE, wipeE, unw, frO, q_addI, q_addL, q_addT, q_addS, q_sub, q_div, q_mod, q_pow, q_neg, q_cm, pIs, pIsn, q_isN, q_isI, q_isS, q_isT, q_isL, q_isB, q_lenL, q_lenT, pTup, pLst, q_tupL, q_tupT, q_lstL, q_lstT, q_revL, q_slL, q_slT, q_shL, q_shT, q_sqL, q_sqT, q_intI, q_max2, q_min2, q_aII, q_aBI, q_aTI, q_aTT, q_aLL, q_aTL, q_aIT, a_E0, hsh]
def hdA (as : List Nat) (r : List Nat) : Int := ((as.getD (r.headD 0) 0 : Nat) : Int) - (r.length : Int) + 1
def opn (as : List Nat) (W : List (List Nat)) : Int := (W.map (hdA as)).sum + 1 - W.length
/-- rows that wait for more -/
def Gdr (as : List Nat) (W : List (List Nat)) : Prop := ∀ r ∈ W, ∃ op cs a, r = op :: cs ∧ as[op]? = some a ∧ cs.length < a
theorem opn_snoc (as : List Nat) (W : List (List Nat)) (r : List Nat) : opn as (W ++ [r]) = opn as W + hdA as r - 1 := by
  unfold opn; simp; omega
theorem hdA_eq {as : List Nat} {op a : Nat} {cs : List Nat} (h : as[op]? = some a) : hdA as (op :: cs) = (a : Int) - cs.length := by
  unfold hdA
  rw [List.headD_cons, List.getD_eq_getElem?_getD, h]
  simp; omega
theorem opn_pos {as : List Nat} {W : List (List Nat)} (h : Gdr as W) : 1 ≤ opn as W := by
  induction W using rev_ind with
  | h0 => simp [opn]
  | h1 W r ih =>
    have i := ih fun x hx => h x (by simp [hx])
    obtain ⟨op, cs, a, rfl, e, l⟩ := h r (by simp)
    rw [opn_snoc, hdA_eq e]
    omega
theorem rd_tot {as : List Nat} (ha : ArOk as) : ∀ (n : Nat) {T : List Nd} {ws : List (List Nat)} {op a : Nat} {cs : List Nat}, ws.length ≤ n → Gdr as ws → as[op]? = some a → cs.length ≤ a → T.length + ws.length ≤ 900 →
    ∃ T' W', Rd as T (ws ++ [op :: cs]) T' W' ∧ Gdr as W' ∧ T'.length + W'.length = T.length + ws.length + 1 ∧ ((W' ≠ [] ∧ opn as W' = opn as (ws ++ [op :: cs])) ∨ (W' = [] ∧ opn as (ws ++ [op :: cs]) = 0)) := by
  intro n
  induction n with
  | zero =>
    intro T ws op a cs hn hg ho hl ht
    have a2 := ha.le2 _ (List.mem_of_getElem? ho)
    have : ws = [] := List.length_eq_zero_iff.mp (by omega)
    subst this
    by_cases z : cs.length = a
    · subst z
      refine ⟨T ++ [(op, cs)], [], .go ho a2 (by omega) (by simp) .nil, (by intro r hr; cases hr), by simp, .inr ⟨rfl, ?_⟩⟩
      rw [opn_snoc, hdA_eq ho]; simp [opn]
    · exact ⟨T, [] ++ [op :: cs], .stop ho z, fun r hr => ⟨op, cs, a, by simpa using hr, ho, by omega⟩, by simp, .inl ⟨by simp, rfl⟩⟩
  | succ n ih =>
    intro T ws op a cs hn hg ho hl ht
    have a2 := ha.le2 _ (List.mem_of_getElem? ho)
    by_cases z : cs.length = a
    · subst z
      have hw : ∀ r ∈ ws, r.length ≤ 10 := fun r hr => by
        obtain ⟨op, cs, a, rfl, e, l⟩ := hg r hr
        have := ha.le2 _ (List.mem_of_getElem? e)
        simp; omega
      rcases List.eq_nil_or_concat ws with rfl | ⟨vs, r, rfl⟩
      · refine ⟨T ++ [(op, cs)], [], .go ho a2 (by omega) hw .nil, (by intro r hr; cases hr), by simp, .inr ⟨rfl, ?_⟩⟩
        rw [opn_snoc, hdA_eq ho]; simp [opn]
      · rw [List.concat_eq_append] at *
        obtain ⟨op2, cs2, b, rfl, e2, l2⟩ := hg r (by simp)
        obtain ⟨T', W', r1, r2, r3, r4⟩ := ih (T := T ++ [(op, cs)]) (ws := vs) (op := op2) (a := b) (cs := cs2 ++ [T.length]) (by simp at hn; omega) (fun x hx => hg x (by simp [hx])) e2 (by simp; omega) (by simp at ht ⊢; omega)
        have eo : opn as (vs ++ [op2 :: (cs2 ++ [T.length])]) = opn as (vs ++ [op2 :: cs2] ++ [op :: cs]) := by
          rw [opn_snoc, opn_snoc, opn_snoc, hdA_eq e2, hdA_eq e2, hdA_eq ho]
          simp; omega
        rw [eo] at r4
        refine ⟨T', W', .go ho a2 (by simp at ht; omega) hw ?_, r2, by rw [r3]; simp; omega, r4⟩
        rw [addl_snoc]
        exact r1
    · refine ⟨T, ws ++ [op :: cs], .stop ho z, fun r hr => ?_, by simp; omega, .inl ⟨by simp, rfl⟩⟩
      rcases List.mem_append.mp hr with h | h
      · exact hg r h
      · simp at h; subst h; exact ⟨op, cs, a, rfl, ho, by omega⟩
/-- how many trees are lacking -/
def Sta (as : List Nat) (k : Nat) (W : List (List Nat)) (o : Int) : Prop := (W ≠ [] ∧ o = opn as W) ∨ (W = [] ∧ k = 0 ∧ o = 1) ∨ (W = [] ∧ k ≠ 0 ∧ o = 0)
def wgt (as : List Nat) (ops : List Nat) : Int := (ops.map fun op => ((as.getD op 0 : Nat) : Int) - 1).sum
theorem brun {as : List Nat} {d : PyData} (ha : ArOk as) : ∀ (ops : List Nat) (k : Nat) (T : List Nd) (W : List (List Nat)) (o : Int), (∀ x ∈ ops, x < as.length) → Gdr as W → T.length + W.length + ops.length ≤ 900 → Sta as k W o →
    (∃ T' W', fFor (.tu [4, 5]) L2_built (enumD k (ops.map dN)) (VB as d T W) = .ok (.nx, VB as d T' W') ∧ Gdr as W' ∧ T'.length + W'.length ≤ 900 ∧ Sta as (k + ops.length) W' (o + wgt as ops) ∧ ∀ l r, ops = l ++ r → r ≠ [] → 1 ≤ o + wgt as l) ∨
    ∃ e, fFor (.tu [4, 5]) L2_built (enumD k (ops.map dN)) (VB as d T W) = .ok (.rt (.fr .none), e)
  | [], k, T, W, o, _, hg, hl, hs => .inl ⟨T, W, rfl, hg, by simpa using hl, by simpa [wgt] using hs, fun l r e hr => by
      have := List.append_eq_nil_iff.mp e.symm
      exact absurd this.2 hr⟩
  | op :: ops, k, T, W, o, hx, hg, hl, hs => by
    have key : fFor (.tu [4, 5]) L2_built (enumD k ((op :: ops).map dN)) (VB as d T W) = (asT (.tu [4, 5]) (.tuple [.int (k : Int), dN op]) (VB as d T W) >>= L2_built) >>= fun r => match r.1 with
      | .nx => fFor (.tu [4, 5]) L2_built (enumD (k + 1) (ops.map dN)) r.2
      | .ct => fFor (.tu [4, 5]) L2_built (enumD (k + 1) (ops.map dN)) r.2
      | .bk => .ok (.nx, r.2)
      | .rt o => .ok (.rt o, r.2) := by
        show (asT (.tu [4, 5]) (.tuple [.int (k : Int), dN op]) (VB as d T W) >>= fun e => L2_built e >>= fun r => _) = _
        cases asT (.tu [4, 5]) (.tuple [.int (k : Int), dN op]) (VB as d T W) <;> rfl
    by_cases hn : W = [] ∧ k ≠ 0
    · obtain ⟨rfl, hk⟩ := hn
      right
      have hk' : 0 < k := by omega
      refine ⟨V_built (arities := fr (encA as)) (operators := fr d) (tree := ol (T.map encN)) (waiting := some (.oo [])) (at_ := fr (dN k)) (operator := fr (dN op)), ?_⟩
      rw [key]
      simp [L2_built, q_mulAI, q_mulAL, a_wb, q_divW, Function.comp_def, q_starI, q_starIT, a_wp, a_fz, a_fz0, a_fz1, a_ext, a_ins, a_insA, a_pop, a_parN, a_evO0, a_evO1, a_setO0, a_setO1, a_ix2, a_setII, a_zN, a_zC, a_lcO, d_oo, pEq_int, pNe_int, pIxL, pIxT, atI_nat, atI_0, atI_1, atI_2, atI_3, atI_m1, cutLo, cutHi, cutLo1, cutHi1, a_seq, a_ifS, a_B, a_op, a_ov, a_ev0, a_evv, a_evs, a_C, a_V, a_M, a_set, a_setI, a_app, a_ret, a_ex, a_skip, a_no, a_not, a_andT, a_orT, a_and, a_or, a_notV, a_if, a_par, a_call, a_forS, a_sq, a_r1, a_r2, a_en, a_zp, a_asT, a_chI, a_yes, a_lc, a_fn, okA, f_fr, bkA, rsvs, rsv, dvs, on1, on2, d_fr, d_ol, rsO, ndS, sl, putB, asT, setAll, ofO, Dy.ints1, Dy.ints2, nE, wipeE, unw, frO, q_addI, q_addL, q_addT, q_addS, q_sub, q_div, q_mod, q_pow, q_neg, q_cm, pIs, pIsn, q_isN, q_isI, q_isS, q_isT, q_isL, q_isB, q_lenL, q_lenT, pTup, pLst, q_tupL, q_tupT, q_lstL, q_lstT, q_revL, q_slL, q_slT, q_shL, q_shT, q_sqL, q_sqT, q_intI, q_max2, q_min2, q_aII, q_aBI, q_aTI, q_aTT, q_aLL, q_aTL, q_aIT, a_E0, hk']
    · have go : k = 0 ∨ W ≠ [] := by
        by_cases z : W = []
        · left
          by_cases y : k = 0
          · exact y
          · exact absurd ⟨z, y⟩ hn
        · exact .inr z
      obtain ⟨a, ho, _⟩ := get_of_lt (hx op (by simp))
      rw [List.length_cons] at hl
      obtain ⟨T1, W1, r1, r2, r3, r4⟩ := rd_tot ha W.length (T := T) (ws := W) (op := op) (a := a) (cs := []) (Nat.le_refl _) hg ho (by simp) (by omega)
      have e1 := op_run (d := d) (at_ := k) go (by omega) r1
      have o1 : 1 ≤ o := by
        rcases hs with ⟨_, rfl⟩ | ⟨_, _, rfl⟩ | ⟨z, y, _⟩
        · exact opn_pos hg
        · decide
        · exact absurd ⟨z, y⟩ hn
      have hw : wgt as [op] = (a : Int) - 1 := by
        unfold wgt
        rw [List.map_singleton, List.getD_eq_getElem?_getD, ho]; simp
      have eo : opn as (W ++ [[op]]) = o + (a : Int) - 1 := by
        rw [opn_snoc, hdA_eq ho]
        rcases hs with ⟨_, rfl⟩ | ⟨rfl, _, rfl⟩ | ⟨z, y, _⟩
        · simp
        · simp [opn]
        · exact absurd ⟨z, y⟩ hn
      have s1 : Sta as (k + 1) W1 (o + ((a : Int) - 1)) := by
        rcases r4 with ⟨z, q⟩ | ⟨z, q⟩
        · exact .inl ⟨z, by omega⟩
        · exact .inr (.inr ⟨z, by omega, by omega⟩)
      have hc : ∀ l, wgt as (op :: l) = ((a : Int) - 1) + wgt as l := fun l => by
        have : wgt as (op :: l) = wgt as [op] + wgt as l := by unfold wgt; simp
        rw [this, hw]
      rcases brun ha ops (k + 1) T1 W1 _ (fun x h => hx x (by simp [h])) r2 (by omega) s1 with ⟨T', W', f1, f2, f3, f4, f5⟩ | ⟨e, f1⟩
      · left
        refine ⟨T', W', by rw [key, e1, bind_ok]; exact f1, f2, f3, ?_, fun l r e hr => ?_⟩
        · rw [hc, ← Int.add_assoc, List.length_cons, show k + (ops.length + 1) = k + 1 + ops.length by omega]
          exact f4
        · cases l with
          | nil => simpa [wgt] using o1
          | cons x l =>
            rw [List.cons_append] at e
            obtain ⟨rfl, rfl⟩ := List.cons.inj e
            rw [hc, ← Int.add_assoc]
            exact f5 l r rfl hr
      · right
        exact ⟨e, by rw [key, e1, bind_ok]; exact f1⟩
end Q
namespace Q
open PySem Dy
open L2 (atI ixN)
mutual
def gd (B : Nat) : PyData → Bool
  | .none => true
  | .bool _ => true
  | .int i => decide (i.natAbs ≤ B)
  | .str x => PyData.strOk x && decide (x.length ≤ 40)
  | .tuple xs => gds B xs
  | .list xs => gds B xs
  | .dict _ => false
def gds (B : Nat) : List PyData → Bool
  | [] => true
  | d :: ds => gd B d && gds B ds
end
mutual
def sz : PyData → Nat
  | .tuple xs => szs xs + 1
  | .list xs => szs xs + 1
  | .none => 1
  | .bool _ => 1
  | .int _ => 1
  | .str _ => 1
  | .dict _ => 1
def szs : List PyData → Nat
  | [] => 0
  | d :: ds => sz d + szs ds
end
theorem gds_iff {B : Nat} : ∀ {ds : List PyData}, gds B ds = true ↔ ∀ d ∈ ds, gd B d = true
  | [] => by simp [gds]
  | d :: ds => by simp [gds, gds_iff (ds := ds)]
theorem sz_pos (d : PyData) : 1 ≤ sz d := by cases d <;> simp [sz]
theorem szs_len : ∀ ds : List PyData, ds.length ≤ szs ds
  | [] => Nat.le_refl _
  | d :: ds => by have := szs_len ds; have := sz_pos d; simp [szs]; omega
theorem sz_mem {d : PyData} : ∀ {ds : List PyData}, d ∈ ds → sz d ≤ szs ds
  | [], h => by cases h
  | e :: ds, h => by
    rcases List.mem_cons.mp h with rfl | h
    · simp [szs]
    · have := sz_mem h; simp [szs]; omega
mutual
theorem gd_mono {B C : Nat} (h : B ≤ C) : ∀ d : PyData, gd B d = true → gd C d = true
  | .none, _ => rfl
  | .bool _, _ => rfl
  | .int i, e => by simp only [gd, decide_eq_true_eq] at e ⊢; omega
  | .str x, e => e
  | .tuple xs, e => by simp only [gd] at e ⊢; exact gds_mono h xs e
  | .list xs, e => by simp only [gd] at e ⊢; exact gds_mono h xs e
  | .dict _, e => by simp [gd] at e
theorem gds_mono {B C : Nat} (h : B ≤ C) : ∀ ds : List PyData, gds B ds = true → gds C ds = true
  | [], _ => rfl
  | d :: ds, e => by
    simp only [gds, Bool.and_eq_true] at e ⊢
    exact ⟨gd_mono h d e.1, gds_mono h ds e.2⟩
end
theorem sok_lt {x : Str} (h : PyData.strOk x = true) : ∀ c ∈ x.cps.toList, c < 16 ^ 8 := by
  intro c hc
  unfold PyData.strOk at h
  have := (Array.all_eq_true_iff_forall_mem.mp h) c (by simpa using hc)
  have := of_decide_eq_true this
  exact Nat.lt_trans this (by decide)
mutual
theorem gd_rk {B : Nat} (hB : B < 10 ^ 100) : ∀ d : PyData, gd B d = true → d.canLay0 = true ∧ d.showable = true ∧ d.depth ≤ sz d ∧ rw8 d + 2 ≤ 1200 * sz d
  | .none, _ => ⟨rfl, rfl, by simp [PyData.depth], by simp [rw8, sz]⟩
  | .bool b, _ => ⟨rfl, rfl, by simp [PyData.depth], by simp [rw8, sz]⟩
  | .int i, e => by
    simp only [gd, decide_eq_true_eq] at e
    have r := Rk.int (i := i) (by omega)
    exact ⟨r.lay, r.sho, by simp [PyData.depth], by have := r.wt; simp [sz]; omega⟩
  | .str x, e => by
    simp only [gd, Bool.and_eq_true, decide_eq_true_eq] at e
    refine ⟨by simpa [PyData.canLay0] using e.1, rfl, by simp [PyData.depth], ?_⟩
    have := StrLaws.reprText_len x (sok_lt e.1)
    show (reprText x).length + 2 ≤ 1200 * 1
    omega
  | .tuple xs, e => by
    simp only [gd] at e
    obtain ⟨h1, h2, h3, h4⟩ := gds_rk hB xs e
    refine ⟨by simpa [PyData.canLay0] using h1, by simpa [PyData.showable] using h2, by simp [PyData.depth, sz]; omega, ?_⟩
    show rw8s xs + 2 + 2 ≤ 1200 * (szs xs + 1)
    omega
  | .list xs, e => by
    simp only [gd] at e
    obtain ⟨h1, h2, h3, h4⟩ := gds_rk hB xs e
    refine ⟨by simpa [PyData.canLay0] using h1, by simpa [PyData.showable] using h2, by simp [PyData.depth, sz]; omega, ?_⟩
    show rw8s xs + 2 + 2 ≤ 1200 * (szs xs + 1)
    omega
  | .dict _, e => by simp [gd] at e
theorem gds_rk {B : Nat} (hB : B < 10 ^ 100) : ∀ ds : List PyData, gds B ds = true → PyData.canLayAll0 ds = true ∧ PyData.showableAll ds = true ∧ PyData.depthAll ds ≤ szs ds ∧ rw8s ds ≤ 1200 * szs ds
  | [], _ => ⟨rfl, rfl, Nat.le_refl _, Nat.le_refl _⟩
  | d :: ds, e => by
    simp only [gds, Bool.and_eq_true] at e
    obtain ⟨h1, h2, h3, h4⟩ := gd_rk hB d e.1
    obtain ⟨k1, k2, k3, k4⟩ := gds_rk hB ds e.2
    refine ⟨by simp [PyData.canLayAll0, h1, k1], by simp [PyData.showableAll, h2, k2], ?_, ?_⟩
    · show max d.depth (PyData.depthAll ds) ≤ sz d + szs ds; omega
    · show rw8 d + 2 + rw8s ds ≤ 1200 * (sz d + szs ds); omega
end
/-- any value: numbers up to B, so deep, so great -/
structure Gd (B n m : Nat) (d : PyData) : Prop where
  gd : gd B d = true
  dep : d.depth ≤ n
  sz : sz d ≤ m
theorem Gd.mono {B n m B' n' m' : Nat} {d : PyData} (h : Gd B n m d) (a : B ≤ B') (b : n ≤ n') (c : m ≤ m') : Gd B' n' m' d := ⟨gd_mono a d h.gd, Nat.le_trans h.dep b, Nat.le_trans h.sz c⟩
theorem Gd.rk {B n m : Nat} {d : PyData} (h : Gd B n m d) (hB : B < 10 ^ 100) : Rk n (1200 * m) d := by
  obtain ⟨h1, h2, h3, h4⟩ := gd_rk hB d h.gd
  exact ⟨h1, h2, h.dep, by have := h.sz; omega⟩
theorem dep_all {n : Nat} : ∀ {ds : List PyData}, PyData.depthAll ds ≤ n ↔ ∀ d ∈ ds, d.depth ≤ n
  | [] => by simp [PyData.depthAll]
  | d :: ds => by
    have := dep_all (n := n) (ds := ds)
    simp only [List.mem_cons, forall_eq_or_imp, ← this]
    show max d.depth (PyData.depthAll ds) ≤ n ↔ _
    omega
theorem Gd.tup_iff {B n m : Nat} {xs : List PyData} : Gd B (n + 1) (m + 1) (.tuple xs) ↔ gds B xs = true ∧ (∀ d ∈ xs, d.depth ≤ n) ∧ szs xs ≤ m := by
  constructor
  · intro h
    exact ⟨by simpa [Q.gd] using h.gd, dep_all.mp (by have := h.dep; simp [PyData.depth] at this; omega), by have := h.sz; simp [Q.sz] at this; omega⟩
  · rintro ⟨h1, h2, h3⟩
    exact ⟨by simpa [Q.gd] using h1, by have := dep_all.mpr h2; simp [PyData.depth]; omega, by simp [Q.sz]; omega⟩
theorem Gd.mem {B n m : Nat} {xs : List PyData} {d : PyData} (h : Gd B (n + 1) (m + 1) (.tuple xs)) (hd : d ∈ xs) : Gd B n m d := by
  obtain ⟨h1, h2, h3⟩ := Gd.tup_iff.mp h
  exact ⟨gds_iff.mp h1 d hd, h2 d hd, Nat.le_trans (sz_mem hd) h3⟩
theorem Gd.len {B n m : Nat} {xs : List PyData} (h : Gd B n m (.tuple xs)) : xs.length < m := by
  have := h.sz
  have := szs_len xs
  simp [Q.sz] at *; omega
end Q
namespace Q
open PySem Dy
open L2 (atI ixN)
theorem reprD_of {n w : Nat} {d : PyData} (h : Rk n w d) (hn : n ≤ 64) (hw : w ≤ 16777216) : pReprD d = some (.fr (.str d.shown)) := by
  unfold pReprD; rw [if_pos (h.rOk hn hw)]
theorem q_revAT (xs : List PyData) : pRevA (.tuple xs) = some (.fr (.tuple xs.reverse)) := rfl
theorem cutLoS {α : Type} (xs : List α) (k : Nat) : cutD xs (some ((k : Int) + 1)) none = xs.drop (k + 1) := cutLo xs (k + 1)
end Q
namespace Q
open PySem Dy
open L2 (atI ixN)
end Q
namespace Q
open PySem Dy
open L2 (atI ixN)
end Q
namespace Q
open PySem Dy
open L2 (atI ixN)
end Q
namespace Q
open PySem Dy
def b_need_both_2 : SF := fSeq (fEx (fCall M_need_arities_2 [.v (fV 0)]))
  (fEx (fCall M_need_tree_2 [.v (fV 0), .v (fV 1)]))
def M_need_both_2 : Fn := fnM 2 2 [] b_need_both_2
def E1_unspelled_2 : EF := fCall M_is_between [.v (fV 3), .v (fC (.int 0)), .v (fOp (on2 pSub) [.v (fOp (on1 pLen) [.s 0]), .v (fC (.int 1))])]
def b_unspelled_2 : SF := fSeq (fEx (fCall M_need_arities_2 [.v (fV 0)]))
  (fSeq (fIfS (fOrT (fNot (fB (fOp (on1 fun d => some (.fr (.bool (isA .tuple d)))) [.s 1]))) (fB (fOp (on2 (cmI (fun i j => decide (j < i)))) [.v (fOp (on1 pLen) [.s 1]), .v (fC (.int 200))]))) (fRaise "Unspelled") (fSkip))
  (fSeq (fIfS (fNot (fB (fOp (on1 pAll) [.v (fLc (fSq (.v (fV 1))) [3] (.nm 3) (fYes) (E1_unspelled_2))]))) (fRaise "Unspelled") (fSkip))
  (fSeq (fSet 2 (fCall M_built [.v (fV 0), .v (fV 1)]))
  (fSeq (fIfS (fB (fOp (on2 pIs) [.s 2, .v (fC .none)])) (fRaise "Unspelled") (fSkip))
  (fRet (fM 2))))))
def M_unspelled_2 : Fn := fnM 2 4 [] b_unspelled_2
abbrev V_unspelled_2 (arities : Option O := none) (operators : Option O := none) (found : Option O := none) (operator : Option O := none) : Dy.Env := [arities, operators, found, operator]
end Q
namespace Q
open PySem Dy
open L2 (atI ixN)
end Q
namespace Q
open PySem Dy
open L2 (atI ixN)
theorem for_x {α σ : Type} {t : Tg} {body : SF} (enc : α → PyData) (S : σ → Dy.Env) (P : List α → σ → Prop) (R : O → Prop) (X : Exn → Prop) (xs : List α) {s : σ} (h0 : P [] s)
    (step : ∀ pre x post s, xs = pre ++ x :: post → P pre s → (∃ s', P (pre ++ [x]) s' ∧ (asT t (enc x) (S s) >>= body) = .ok (.nx, S s')) ∨ (∃ o e, R o ∧ (asT t (enc x) (S s) >>= body) = .ok (.rt o, e)) ∨ ∃ z, X z ∧ (asT t (enc x) (S s) >>= body) = .er z) :
    (∃ s', P xs s' ∧ fFor t body (xs.map enc) (S s) = .ok (.nx, S s')) ∨ (∃ o e, R o ∧ fFor t body (xs.map enc) (S s) = .ok (.rt o, e)) ∨ ∃ z, X z ∧ fFor t body (xs.map enc) (S s) = .er z := by
  suffices h : ∀ (post pre : List α) (s : σ), xs = pre ++ post → P pre s → (∃ s', P xs s' ∧ fFor t body (post.map enc) (S s) = .ok (.nx, S s')) ∨ (∃ o e, R o ∧ fFor t body (post.map enc) (S s) = .ok (.rt o, e)) ∨ ∃ z, X z ∧ fFor t body (post.map enc) (S s) = .er z from h xs [] s rfl h0
  intro post
  induction post with
  | nil => intro pre s e hp; rw [List.append_nil] at e; subst e; exact .inl ⟨s, hp, rfl⟩
  | cons x post ih =>
    intro pre s e hp
    have key : ∀ r, (asT t (enc x) (S s) >>= body) = r → fFor t body ((x :: post).map enc) (S s) = r >>= fun r => match r.1 with | .nx => fFor t body (post.map enc) r.2 | .ct => fFor t body (post.map enc) r.2 | .bk => .ok (.nx, r.2) | .rt o => .ok (.rt o, r.2) := by
      intro r hr
      subst hr
      show (asT t (enc x) (S s) >>= fun e => body e >>= fun r => match r.1 with | .nx => fFor t body (post.map enc) r.2 | .ct => fFor t body (post.map enc) r.2 | .bk => .ok (.nx, r.2) | .rt o => .ok (.rt o, r.2)) = _
      cases q : asT t (enc x) (S s) <;> rfl
    rcases step pre x post s e hp with ⟨s1, p1, e1⟩ | ⟨o, e', r1, e1⟩ | ⟨z, z1, e1⟩
    · rw [key _ e1, bind_ok]
      exact ih (pre ++ [x]) s1 (by rw [e]; simp) p1
    · rw [key _ e1, bind_ok]
      exact .inr (.inl ⟨o, e', r1, rfl⟩)
    · rw [key _ e1, bind_er]
      exact .inr (.inr ⟨z, z1, rfl⟩)
theorem foldl_flat {α β : Type} (f : α → List β) : ∀ (xs : List α) (s : List β), xs.foldl (fun s x => s ++ f x) s = s ++ xs.flatMap f
  | [], s => by simp
  | x :: xs, s => by rw [List.foldl_cons, foldl_flat f xs, List.flatMap_cons, List.append_assoc]
end Q
namespace Q
open PySem Dy
def b__law_said_2 (y : Exn) : SF := fSeq (fSet 2 (fKind 3 (b__law_kind y.cls)))
  (fRet (fOp (on2 pAdd) [.v (fOp (on2 pAdd) [.v (fC (.str "! ")), .s 2]), .v (fIf (fB (fOp (on2 pEq) [.s 2, .v (fC (.str "many"))])) (fTm y fun p q => fOp (on2 pAdd) [.v (fC (.str " ")), .v (fOp (on1 pRepr) [.v (fOv pTup [.v (fC (.int p)), .v (fC (.int q))])])]) (fC (.str "")))]))
def b_spelled_3 : SF := fSeq (fEx (fCall M_need_both_2 [.v (fV 0), .v (fV 1)]))
  (fSeq (fSet 2 (fOp (on2 pIx) [.v (fCall M_amounts [.v (fV 1)]), .v (fOp (on1 pNeg) [.v (fC (.int 1))])]))
  (fSeq (fIfS (fB (fOp (on2 (cmI (fun i j => decide (j < i)))) [.s 2, .v (fC (.int 200))])) (fRaiseT "TooMany" [.v (fV 2), .v (fC (.int 200))]) (fSkip))
  (fRet (fCall M_spelled_of [.v (fV 1)]))))
def M_spelled_3 : Fn := fnM 2 3 [] b_spelled_3
def b__law_rows : SF := fSeq (fPar 4 5 (fCall M__law_draw_2 [.s 0, .v (fOp (on2 pAdd) [.v (fOp (on1 pLen) [.s 2]), .v (fC (.int 1))])]) (fCall M__law_draw_2 [.s 0, .v (fOp (on1 pLen) [.s 1])]))
  (fSeq (fFz [3] (fSet 3 (fOv pLst [.v (fV 2), .v (fOp (on2 pAdd) [.v (fOp (on2 pAdd) [.v (fOp (on2 pSl2h) [.s 2, .s 4]), .v (fOv pTup [.v (fV 5)])]), .v (fOp (on2 pSl2l) [.s 2, .s 4])]), .v (fOp (on2 pAdd) [.v (fOp (on2 pSl2h) [.s 2, .s 4]), .v (fOp (on2 pSl2l) [.s 2, .v (fOp (on2 pAdd) [.s 4, .v (fC (.int 1))])])]), .v (fOp (on2 pAdd) [.v (fOp (on2 pAdd) [.v (fOp (on2 pSl2h) [.s 2, .s 4]), .v (fOv pTup [.v (fV 5)])]), .v (fOp (on2 pSl2l) [.s 2, .v (fOp (on2 pAdd) [.s 4, .v (fC (.int 1))])])])])))
  (fRet (fOp (on2 pAdd) [.s 3, .v (fOv pLst [.v (fOp (on1 pRevA) [.s 2]), .v (fOp (on2 pAdd) [.s 2, .s 2]), .v (fOp (on2 pSl2l) [.s 2, .s 4]), .v (fOp (on2 pSl2h) [.s 2, .s 4]), .v (fOp (on2 pAdd) [.v (fOp (on2 pSl2l) [.s 2, .v (fC (.int 1))]), .v (fOp (on2 pSl2h) [.s 2, .v (fC (.int 1))])])])])))
def M__law_rows : Fn := fnM 3 6 [0] b__law_rows
def E1__law_many_2 : EF := fOp (on2 pIx) [.s 1, .s 3]
def L1__law_many_2 : SF := fWp [2] (fApp 1 (fOp (on2 pAdd) [.v (fC (.int 1)), .v (fOp (on1 pSum) [.v (fLc (fSq (.v (fOp (on2 pSl2l) [.s 2, .v (fC (.int 1))]))) [3] (.nm 3) (fYes) (E1__law_many_2))])]))
def b__law_many_2 : SF := fSeq (fSet 1 (fOv pLst []))
  (fSeq (fWp [0, 2] (fForS (fSq (.v (fV 0))) (.nm 2) (L1__law_many_2)))
  (fRet (fOp (on2 pIx) [.s 1, .v (fOp (on1 pNeg) [.v (fC (.int 1))])])))
def M__law_many_2 : Fn := fnM 1 4 [] b__law_many_2
abbrev V__law_many_2 (written_here : Option O := none) (found : Option O := none) (one : Option O := none) (part : Option O := none) : Dy.Env := [written_here, found, one, part]
def L1__law_spell (R__law_spell : Fn) : SF := fWp [3] (fExt 2 (fCall R__law_spell [.v (fV 0), .v (fV 3)]))
def b__law_spell (R__law_spell : Fn) : SF := fSeq (fSet 2 (fOv pLst [.v (fOp (on2 pIx) [.v (fOp (on2 pIx) [.s 0, .s 1]), .v (fC (.int 0))])]))
  (fSeq (fWp [0, 1, 3] (fForS (fSq (.v (fOp (on2 pSl2l) [.v (fOp (on2 pIx) [.s 0, .s 1]), .v (fC (.int 1))]))) (.nm 3) ((L1__law_spell R__law_spell))))
  (fRet (fM 2)))
def M__law_spell : Nat → Fn := Dy.rec 2 4 [] b__law_spell
abbrev V__law_spell (written_here : Option O := none) (at_ : Option O := none) (found : Option O := none) (part : Option O := none) : Dy.Env := [written_here, at_, found, part]
def E1__law_unspell : EF := fOp (on2 pAdd) [.s 8, .s 10]
def E2__law_unspell : EF := fOp (on2 pAdd) [.v (fOv pTup [.v (fOp (on2 pIx) [.s 9, .v (fC (.int 0))])]), .v (fOp (on1 pTuple) [.v (fLc (fSq (.v (fOp (on2 pSl2l) [.s 9, .v (fC (.int 1))]))) [10] (.nm 10) (fYes) (E1__law_unspell))])]
def L1__law_unspell : SF := fSeq (fSet 7 (fPop 2))
  (fSeq (fApp 6 (fOp (on2 pSub) [.v (fOp (on2 pAdd) [.v (fOp (on1 pLen) [.s 5]), .v (fOp (on1 pLen) [.s 7])]), .v (fC (.int 1))]))
  (fSeq (fSet 8 (fOp (on1 pLen) [.s 5]))
  (fWp [4, 7, 8] (fFz [5] (fSet 5 (fOp (on2 pAdd) [.s 5, .v (fLc (fSq (.v (fV 7))) [9] (.nm 9) (fYes) (E2__law_unspell))]))))))
def L2__law_unspell : SF := fSeq (fIfS (fB (fOp (on2 (cmI (fun i j => decide (i < j)))) [.v (fOp (on1 pLen) [.s 2]), .v (fOp (on2 pIx) [.s 0, .s 3])])) (fRet (fC .none)) (fSkip))
  (fSeq (fFz [5] (fPar 5 6 (fOv pLst []) (fOv pLst [])))
  (fSeq (fWp [4, 7, 8] (fForS (fR1 (.v (fOp (on2 pIx) [.s 0, .s 3]))) (.nm 4) (L1__law_unspell)))
  (fWp [3, 5, 6] (fApp 2 (fOp (on2 pAdd) [.s 5, .v (fOv pLst [.v (fOp (on2 pAdd) [.v (fOv pTup [.v (fV 3)]), .v (fOp (on1 pTuple) [.s 6])])])])))))
def b__law_unspell : SF := fSeq (fSet 2 (fOv pLst []))
  (fSeq (fWp [0, 1, 3, 4, 5, 6, 7, 8] (fForS (fSq (.v (fOp (on1 pRevA) [.s 1]))) (.nm 3) (L2__law_unspell)))
  (fRet (fIf (fB (fOp (on2 pEq) [.v (fOp (on1 pLen) [.s 2]), .v (fC (.int 1))])) (fOp (on1 pTuple) [.v (fOp (on2 pIx) [.s 2, .v (fC (.int 0))])]) (fC .none))))
def M__law_unspell : Fn := fnM 2 11 [] b__law_unspell
abbrev V__law_unspell (arities_here : Option O := none) (row : Option O := none) (parts : Option O := none) (one : Option O := none) (turn : Option O := none) (found : Option O := none) (ends : Option O := none) (inner : Option O := none) (ahead : Option O := none) (its : Option O := none) (at_ : Option O := none) : Dy.Env := [arities_here, row, parts, one, turn, found, ends, inner, ahead, its, at_]
def F1__law_row_right : EF := fCall M_unspelled_2 [.v (fV 0), .v (fV 1)]
def b__law_row_right : SF := fSeq (fPar 3 4 (fCall M__law_unspell [.v (fV 0), .v (fV 1)]) (fOp (on1 pRepr) [.s 1]))
  (fSeq (fFz [2] (fSet 2 (fSaidT 3 ["NoArities", "NoTree", "Unspelled"] ["TooMany"] [0, 1] [2, 3, 4] F1__law_row_right b__law_said_2)))
  (fSeq (fIfS (fOrT (fB (fOp (on2 pNe) [.s 2, .v (fIf (fB (fOp (on2 pIs) [.s 3, .v (fC .none)])) (fC (.str "! unspelled")) (fOp (on1 pRepr) [.s 3]))])) (fB (fOp (on2 pNe) [.v (fOp (on1 pRepr) [.s 1]), .s 4]))) (fRet (fC (.bool false))) (fSkip))
  (fRet (fOr (fOp (on2 pIs) [.s 3, .v (fC .none)]) (fOp (on2 pEq) [.v (fCall M_spelled_3 [.v (fV 0), .v (fV 3)]), .s 1])))))
def M__law_row_right : Fn := fnM 2 5 [] b__law_row_right
abbrev V__law_row_right (arities_here : Option O := none) (row : Option O := none) (told : Option O := none) (due : Option O := none) (kept : Option O := none) : Dy.Env := [arities_here, row, told, due, kept]
def F1__law_tree_right_2 : EF := fCall M_spelled_3 [.v (fV 1), .v (fV 2)]
def L1__law_tree_right_2 : SF := fWp [5] (fIfS (fAndT (fB (fOp (on2 (cmI (fun i j => decide (i < j)))) [.v (fOp (on1 pLen) [.s 5]), .v (fC (.int 201))])) (fNot (fB (fCall M__law_row_right [.v (fV 1), .v (fV 5)])))) (fRet (fC (.bool false))) (fSkip))
def b__law_tree_right_2 : SF := fSeq (fPar 6 7 (fCall M__law_many_2 [.v (fV 2)]) (fOp (on1 pRepr) [.s 2]))
  (fSeq (fFz [3] (fSet 3 (fSaidT 3 ["NoArities", "NoTree", "Unspelled"] ["TooMany"] [1, 2] [0, 3, 4, 5, 6, 7] F1__law_tree_right_2 b__law_said_2)))
  (fSeq (fIfS (fB (fOp (on2 pNe) [.v (fOp (on1 pRepr) [.s 2]), .s 7])) (fRet (fC (.bool false))) (fSkip))
  (fSeq (fIfS (fB (fOp (on2 (cmI (fun i j => decide (j < i)))) [.s 6, .v (fC (.int 200))])) (fRet (fOp (on2 pEq) [.s 3, .v (fOp (on2 pAdd) [.v (fC (.str "! many ")), .v (fOp (on1 pRepr) [.v (fOv pTup [.v (fV 6), .v (fC (.int 200))])])])])) (fSkip))
  (fSeq (fSet 4 (fOp (on1 pTuple) [.v (fCall (M__law_spell 20) [.v (fV 2), .v (fOp (on2 pSub) [.v (fOp (on1 pLen) [.s 2]), .v (fC (.int 1))])])]))
  (fSeq (fWp [2, 3, 6, 7] (fIfS (fB (fOp (on2 pNe) [.s 3, .v (fOp (on1 pRepr) [.s 4])])) (fRet (fC (.bool false))) (fSkip)))
  (fSeq (fWp [1, 4, 5] (fForS (fSq (.v (fCall M__law_rows [.s 0, .v (fV 1), .v (fV 4)]))) (.nm 5) (L1__law_tree_right_2)))
  (fRet (fC (.bool true)))))))))
def M__law_tree_right_2 : Fn := fnM 3 8 [0] b__law_tree_right_2
abbrev V__law_tree_right_2 (pen_here : Option O := none) (arities_here : Option O := none) (written_here : Option O := none) (told : Option O := none) (row : Option O := none) (one : Option O := none) (many_here : Option O := none) (kept : Option O := none) : Dy.Env := [pen_here, arities_here, written_here, told, row, one, many_here, kept]
def F1_law_25 : EF := fCall M_unspelled_2 [.v (fOv pTup [.v (fC (.int 0)), .v (fC (.int 1))]), .v (fOp (on2 pAdd) [.v (fOv pTup [.v (fC (.int 1))]), .s 1])]
def F2_law_25 : EF := fCall M_unspelled_2 [.v (fOv pTup [.v (fC (.int 0)), .v (fC (.int 1))]), .v (fV 2)]
def L1_law_25 : SF := fWp [2] (fIfS (fB (fOp (on2 pNe) [.v (fSaidT 3 ["NoArities", "NoTree", "Unspelled"] ["TooMany"] [2] [0, 1, 3, 4, 5, 6, 7, 8] F2_law_25 b__law_said_2), .v (fC (.str "! unspelled"))])) (fRet (fC (.bool false))) (fSkip))
def E1_law_25 : EF := fOv pTup [.v (fC (.int 1)), .v (fV 8)]
def F3_law_25 : EF := fCall M_spelled_3 [.v (fOv pTup [.v (fC (.int 0)), .v (fC (.int 1))]), .v (fV 3)]
def L2_law_25 : SF := fSeq (fSet 7 (fCall M__law_arities_2 [.s 5]))
  (fWp [6, 7] (fIfS (fNot (fB (fCall M__law_tree_right_2 [.s 5, .v (fV 7), .v (fCall M__law_written [.s 5, .v (fV 7), .v (fOp (on2 pIx) [.v (fOv pLst [.v (fC (.int 4)), .v (fC (.int 9)), .v (fC (.int 20))]), .v (fOp (on2 pMod) [.s 6, .v (fC (.int 3))])])])]))) (fRet (fC (.bool false))) (fSkip)))
def L3_law_25 : SF := fSeq (fWp [4] (fSet 5 (fCall M__law_pen_2 [.v (fCall M__law_cell [.v (fV 0), .v (fV 4)])])))
  (fWp [5, 6, 7] (fForS (fR1 (.v (fC (.int 9)))) (.nm 6) (L2_law_25)))
def b_law_25 : SF := fSeq (fSet 1 (fOp (on2 pAdd) [.v (fOp (on2 pMulA) [.v (fOv pTup [.v (fC (.int 1))]), .v (fC (.int 199))]), .v (fOv pTup [.v (fC (.int 0))])]))
  (fSeq (fIfS (fOrT (fB (fOp (on2 pNe) [.v (fOp (on1 pLen) [.v (fCall M_unspelled_2 [.v (fOv pTup [.v (fC (.int 0)), .v (fC (.int 1))]), .v (fV 1)])]), .v (fC (.int 200))])) (fB (fOp (on2 pNe) [.v (fSaidT 3 ["NoArities", "NoTree", "Unspelled"] ["TooMany"] [1] [0, 2, 3, 4, 5, 6, 7, 8] F1_law_25 b__law_said_2), .v (fC (.str "! unspelled"))]))) (fRet (fC (.bool false))) (fSkip))
  (fSeq (fWp [2] (fForS (fSq (.v (fOv pLst [.v (fC .none), .v (fOv pLst [.v (fC (.int 0))]), .v (fOv pTup []), .v (fC (.int 0)), .v (fC (.str "0")), .v (fOv pTup [.v (fC (.int 1))]), .v (fOv pTup [.v (fC (.int 2))]), .v (fOv pTup [.v (fOp (on1 pNeg) [.v (fC (.int 1))])]), .v (fOv pTup [.v (fC (.bool true))]), .v (fOv pTup [.v (fC (.int 0)), .v (fC (.int 0))]), .v (fOv pTup [.v (fOv pTup [.v (fC (.int 0))])]), .v (fOv pTup [.v (fC .none)]), .v (fNewD)]))) (.nm 2) (L1_law_25)))
  (fSeq (fSet 3 (fOp (on2 pAdd) [.v (fOv pTup [.v (fOv pTup [.v (fC (.int 0))])]), .v (fOp (on1 pTuple) [.v (fLc (fR1 (.v (fC (.int 200)))) [8] (.nm 8) (fYes) (E1_law_25))])]))
  (fSeq (fWp [1, 3] (fIfS (fOrT (fB (fOp (on2 pNe) [.v (fCall M_spelled_3 [.v (fOv pTup [.v (fC (.int 0)), .v (fC (.int 1))]), .v (fOp (on2 pSl2h) [.s 3, .v (fC (.int 200))])]), .s 1])) (fB (fOp (on2 pNe) [.v (fSaidT 3 ["NoArities", "NoTree", "Unspelled"] ["TooMany"] [3] [0, 1, 2, 4, 5, 6, 7, 8] F3_law_25 b__law_said_2), .v (fC (.str "! many (201, 200)"))]))) (fRet (fC (.bool false))) (fSkip)))
  (fSeq (fWp [0, 4, 5, 6, 7] (fForS (fR1 (.v (fOp (pMax) [.v (fC (.int 1)), .v (fOp (pMin) [.v (fOp (on1 pLen) [.s 0]), .v (fC (.int 3))])]))) (.nm 4) (L3_law_25)))
  (fRet (fC (.bool true))))))))
def M_law_25 : Fn := fnM 1 9 [] b_law_25
abbrev V_law_25 (script : Option O := none) (long : Option O := none) (bad : Option O := none) (chain : Option O := none) (k : Option O := none) (pen_here : Option O := none) (lap : Option O := none) (arities_here : Option O := none) (at_ : Option O := none) : Dy.Env := [script, long, bad, chain, k, pen_here, lap, arities_here, at_]
end Q
namespace Q
open PySem Dy
open L2 (atI ixN)
def Bad5 (as : List Nat) (row : List Nat) : Prop := (∃ ts : List (List Nd), (∀ t ∈ ts, Cn as t) ∧ row = (ts.map pL).flatten ∧ ts.length ≠ 1) ∨
  ∃ (l : List Nat) (op : Nat) (rest : List Nat) (ts : List (List Nd)) (a : Nat), row = l ++ op :: rest ∧ as[op]? = some a ∧ rest = (ts.map pL).flatten ∧ (∀ t ∈ ts, Cn as t) ∧ ts.length < a
theorem wgt_app (as a b : List Nat) : wgt as (a ++ b) = wgt as a + wgt as b := by unfold wgt; simp
theorem wgt_cons {as : List Nat} {op a : Nat} {l : List Nat} (h : as[op]? = some a) : wgt as (op :: l) = (a : Int) - 1 + wgt as l := by
  unfold wgt
  rw [List.map_cons, List.sum_cons, List.getD_eq_getElem?_getD, h]; rfl
theorem wgt_pL {as : List Nat} {t : List Nd} (h : Cn as t) : wgt as (pL t) = -1 := by
  induction h with
  | c0 ho => rw [pL_c0, wgt_cons ho]; simp [wgt]
  | c1 ho ha ih => rw [pL_c1 ha.ne, wgt_cons ho, ih]; simp
  | c2 ho ha hb i1 i2 => rw [pL_c2 ha.ne hb.ne, wgt_cons ho, wgt_app, i1, i2]; simp
theorem wgt_flat {as : List Nat} : ∀ {ts : List (List Nd)}, (∀ t ∈ ts, Cn as t) → wgt as ((ts.map pL).flatten) = -(ts.length : Int)
  | [], _ => by simp [wgt]
  | t :: ts, h => by
    rw [List.map_cons, List.flatten_cons, wgt_app, wgt_pL (h t (by simp)), wgt_flat fun x hx => h x (by simp [hx])]
    simp; omega
theorem ff0 (t : Tg) (b : SF) (e : Dy.Env) : fFor t b [] e = .ok (.nx, e) := rfl
theorem builtN {as row : List Nat} (ha : ArOk as) (hx : ∀ x ∈ row, x < as.length) (hl : row.length ≤ 800) (hb : Bad5 as row) : M_built [.fr (encA as), .fr (encA row)] = .ok (.fr .none, [.fr (encA as), .fr (encA row)]) := by
  have eo : pOo0 [] = some (.oo []) := rfl
  rcases brun (d := encA row) ha row 0 [] [] 1 hx (fun r hr => by cases hr) (by simp; omega) (.inr (.inl ⟨rfl, rfl, rfl⟩)) with ⟨T', W', f1, f2, f3, f4, f5⟩ | ⟨e, f1⟩
  · have f1' : fFor (.tu [4, 5]) L2_built (enumD 0 (row.map dN)) (V_built (arities := fr (encA as)) (operators := fr (encA row)) (tree := ol []) (waiting := some (.oo []))) = .ok (.nx, VB as (encA row) T' W') := f1
    have hs : shp (.list (T'.map encN)) = true ∨ True := .inr trivial
    by_cases hr : row = []
    · subst hr
      have e0 : enumD 0 ([] : List PyData) = [] := rfl
      simp [M_built, b_built, q_mulAI, q_mulAL, a_wb, q_divW, Function.comp_def, q_starI, q_starIT, a_wp, a_fz, a_fz0, a_fz1, a_ext, a_ins, a_insA, a_pop, a_parN, a_evO0, a_evO1, a_setO0, a_setO1, a_ix2, a_setII, a_zN, a_zC, a_lcO, d_oo, pEq_int, pNe_int, pIxL, pIxT, atI_nat, atI_0, atI_1, atI_2, atI_3, atI_m1, cutLo, cutHi, cutLo1, cutHi1, a_seq, a_ifS, a_B, a_op, a_ov, a_ev0, a_evv, a_evs, a_C, a_V, a_M, a_set, a_setI, a_app, a_ret, a_ex, a_skip, a_no, a_not, a_andT, a_orT, a_and, a_or, a_notV, a_if, a_par, a_call, a_forS, a_sq, a_r1, a_r2, a_en, a_zp, a_asT, a_chI, a_yes, a_lc, a_fn, okA, f_fr, bkA, rsvs, rsv, dvs, on1, on2, d_fr, d_ol, rsO, ndS, sl, putB, asT, setAll, ofO, Dy.ints1, Dy.ints2, nE, wipeE, unw, frO, q_addI, q_addL, q_addT, q_addS, q_sub, q_div, q_mod, q_pow, q_neg, q_cm, pIs, pIsn, q_isN, q_isI, q_isS, q_isT, q_isL, q_isB, q_lenL, q_lenT, pTup, pLst, q_tupL, q_tupT, q_lstL, q_lstT, q_revL, q_slL, q_slT, q_shL, q_shT, q_sqL, q_sqT, q_intI, q_max2, q_min2, q_aII, q_aBI, q_aTI, q_aTT, q_aLL, q_aTL, q_aIT, eo, e0, ff0, a_E0, pNe_nil]
    · have rl : row.length ≠ 0 := fun z => hr (List.length_eq_zero_iff.mp z)
      have hw : W' ≠ [] := by
        rcases hb with ⟨ts, h1, h2, h3⟩ | ⟨l, op, rest, ts, a, h1, h2, h3, h4, h5⟩
        · exfalso
          have hwt : wgt as row = -(ts.length : Int) := by rw [h2]; exact wgt_flat h1
          have t2 : 2 ≤ ts.length := by
            cases ts with
            | nil => rw [h2] at hr; exact absurd rfl hr
            | cons t ts => cases ts with
              | nil => exact absurd rfl h3
              | cons _ _ => simp
          rcases f4 with ⟨z, q⟩ | ⟨z, q, _⟩ | ⟨z, q, r⟩
          · have := opn_pos f2; omega
          · omega
          · omega
        · intro z
          have hwt : wgt as row = wgt as l + ((a : Int) - 1 - ts.length) := by rw [h1, wgt_app, wgt_cons h2, h3, wgt_flat h4]; omega
          have := f5 l (op :: rest) h1 (by simp)
          rcases f4 with ⟨q, _⟩ | ⟨_, q, _⟩ | ⟨_, _, q⟩
          · exact q z
          · omega
          · omega
      have he : (encW10 W').isEmpty = false := by cases W' with
        | nil => exact absurd rfl hw
        | cons _ _ => rfl
      simp [M_built, b_built, q_mulAI, q_mulAL, a_wb, q_divW, Function.comp_def, q_starI, q_starIT, a_wp, a_fz, a_fz0, a_fz1, a_ext, a_ins, a_insA, a_pop, a_parN, a_evO0, a_evO1, a_setO0, a_setO1, a_ix2, a_setII, a_zN, a_zC, a_lcO, d_oo, pEq_int, pNe_int, pIxL, pIxT, atI_nat, atI_0, atI_1, atI_2, atI_3, atI_m1, cutLo, cutHi, cutLo1, cutHi1, a_seq, a_ifS, a_B, a_op, a_ov, a_ev0, a_evv, a_evs, a_C, a_V, a_M, a_set, a_setI, a_app, a_ret, a_ex, a_skip, a_no, a_not, a_andT, a_orT, a_and, a_or, a_notV, a_if, a_par, a_call, a_forS, a_sq, a_r1, a_r2, a_en, a_zp, a_asT, a_chI, a_yes, a_lc, a_fn, okA, f_fr, bkA, rsvs, rsv, dvs, on1, on2, d_fr, d_ol, rsO, ndS, sl, putB, asT, setAll, ofO, Dy.ints1, Dy.ints2, nE, wipeE, unw, frO, q_addI, q_addL, q_addT, q_addS, q_sub, q_div, q_mod, q_pow, q_neg, q_cm, pIs, pIsn, q_isN, q_isI, q_isS, q_isT, q_isL, q_isB, q_lenL, q_lenT, pTup, pLst, q_tupL, q_tupT, q_lstL, q_lstT, q_revL, q_slL, q_slT, q_shL, q_shT, q_sqL, q_sqT, q_intI, q_max2, q_min2, q_aII, q_aBI, q_aTI, q_aTT, q_aLL, q_aTL, q_aIT, eo]
      rw [f1']
      have hv : VB as (encA row) T' W' = V_built (arities := fr (encA as)) (operators := fr (encA row)) (tree := ol (T'.map encN)) (waiting := some (.oo (encW10 W'))) := rfl
      rw [hv]
      generalize encW10 W' = WW at *
      simp [q_mulAI, q_mulAL, a_wb, q_divW, Function.comp_def, q_starI, q_starIT, a_wp, a_fz, a_fz0, a_fz1, a_ext, a_ins, a_insA, a_pop, a_parN, a_evO0, a_evO1, a_setO0, a_setO1, a_ix2, a_setII, a_zN, a_zC, a_lcO, d_oo, pEq_int, pNe_int, pIxL, pIxT, atI_nat, atI_0, atI_1, atI_2, atI_3, atI_m1, cutLo, cutHi, cutLo1, cutHi1, a_seq, a_ifS, a_B, a_op, a_ov, a_ev0, a_evv, a_evs, a_C, a_V, a_M, a_set, a_setI, a_app, a_ret, a_ex, a_skip, a_no, a_not, a_andT, a_orT, a_and, a_or, a_notV, a_if, a_par, a_call, a_forS, a_sq, a_r1, a_r2, a_en, a_zp, a_asT, a_chI, a_yes, a_lc, a_fn, okA, f_fr, bkA, rsvs, rsv, dvs, on1, on2, d_fr, d_ol, rsO, ndS, sl, putB, asT, setAll, ofO, Dy.ints1, Dy.ints2, nE, wipeE, unw, frO, q_addI, q_addL, q_addT, q_addS, q_sub, q_div, q_mod, q_pow, q_neg, q_cm, pIs, pIsn, q_isN, q_isI, q_isS, q_isT, q_isL, q_isB, q_lenL, q_lenT, pTup, pLst, q_tupL, q_tupT, q_lstL, q_lstT, q_revL, q_slL, q_slT, q_shL, q_shT, q_sqL, q_sqT, q_intI, q_max2, q_min2, q_aII, q_aBI, q_aTI, q_aTT, q_aLL, q_aTL, q_aIT, a_E0, he]
  · have f1' : fFor (.tu [4, 5]) L2_built (enumD 0 (row.map dN)) (V_built (arities := fr (encA as)) (operators := fr (encA row)) (tree := ol []) (waiting := some (.oo []))) = .ok (.rt (.fr .none), e) := f1
    simp [M_built, b_built, q_mulAI, q_mulAL, a_wb, q_divW, Function.comp_def, q_starI, q_starIT, a_wp, a_fz, a_fz0, a_fz1, a_ext, a_ins, a_insA, a_pop, a_parN, a_evO0, a_evO1, a_setO0, a_setO1, a_ix2, a_setII, a_zN, a_zC, a_lcO, d_oo, pEq_int, pNe_int, pIxL, pIxT, atI_nat, atI_0, atI_1, atI_2, atI_3, atI_m1, cutLo, cutHi, cutLo1, cutHi1, a_seq, a_ifS, a_B, a_op, a_ov, a_ev0, a_evv, a_evs, a_C, a_V, a_M, a_set, a_setI, a_app, a_ret, a_ex, a_skip, a_no, a_not, a_andT, a_orT, a_and, a_or, a_notV, a_if, a_par, a_call, a_forS, a_sq, a_r1, a_r2, a_en, a_zp, a_asT, a_chI, a_yes, a_lc, a_fn, okA, f_fr, bkA, rsvs, rsv, dvs, on1, on2, d_fr, d_ol, rsO, ndS, sl, putB, asT, setAll, ofO, Dy.ints1, Dy.ints2, nE, wipeE, unw, frO, q_addI, q_addL, q_addT, q_addS, q_sub, q_div, q_mod, q_pow, q_neg, q_cm, pIs, pIsn, q_isN, q_isI, q_isS, q_isT, q_isL, q_isB, q_lenL, q_lenT, pTup, pLst, q_tupL, q_tupT, q_lstL, q_lstT, q_revL, q_slL, q_slT, q_shL, q_shT, q_sqL, q_sqT, q_intI, q_max2, q_min2, q_aII, q_aBI, q_aTI, q_aTT, q_aLL, q_aTL, q_aIT, eo]
    rw [f1']
    simp [q_mulAI, q_mulAL, a_wb, q_divW, Function.comp_def, q_starI, q_starIT, a_wp, a_fz, a_fz0, a_fz1, a_ext, a_ins, a_insA, a_pop, a_parN, a_evO0, a_evO1, a_setO0, a_setO1, a_ix2, a_setII, a_zN, a_zC, a_lcO, d_oo, pEq_int, pNe_int, pIxL, pIxT, atI_nat, atI_0, atI_1, atI_2, atI_3, atI_m1, cutLo, cutHi, cutLo1, cutHi1, a_seq, a_ifS, a_B, a_op, a_ov, a_ev0, a_evv, a_evs, a_C, a_V, a_M, a_set, a_setI, a_app, a_ret, a_ex, a_skip, a_no, a_not, a_andT, a_orT, a_and, a_or, a_notV, a_if, a_par, a_call, a_forS, a_sq, a_r1, a_r2, a_en, a_zp, a_asT, a_chI, a_yes, a_lc, a_fn, okA, f_fr, bkA, rsvs, rsv, dvs, on1, on2, d_fr, d_ol, rsO, ndS, sl, putB, asT, setAll, ofO, Dy.ints1, Dy.ints2, nE, wipeE, unw, frO, q_addI, q_addL, q_addT, q_addS, q_sub, q_div, q_mod, q_pow, q_neg, q_cm, pIs, pIsn, q_isN, q_isI, q_isS, q_isT, q_isL, q_isB, q_lenL, q_lenT, pTup, pLst, q_tupL, q_tupT, q_lstL, q_lstT, q_revL, q_slL, q_slT, q_shL, q_shT, q_sqL, q_sqT, q_intI, q_max2, q_min2, q_aII, q_aBI, q_aTI, q_aTT, q_aLL, q_aTL, q_aIT]
theorem chkU {as row : List Nat} (hx : ∀ x ∈ row, x < as.length) (hl : row.length ≤ 800) : ∀ e : Dy.Env, e = V_unspelled_2 (arities := fr (encA as)) (operators := fr (encA row)) → lcL [3] (.nm 3) fYes E1_unspelled_2 (row.map dN) e [] = .ok (row.map fun _ => .bool true, e) := fun e he => by
  rw [lc_tm dN (fun _ => .bool true) row rfl (fun x hx' => ?_) (by omega)]
  subst he
  have := hx x hx'
  have c1 : (x : Int) ≤ as.length - 1 := by omega
  simp [E1_unspelled_2, q_mulAI, q_mulAL, a_wb, q_divW, Function.comp_def, q_starI, q_starIT, a_wp, a_fz, a_fz0, a_fz1, a_ext, a_ins, a_insA, a_pop, a_parN, a_evO0, a_evO1, a_setO0, a_setO1, a_ix2, a_setII, a_zN, a_zC, a_lcO, d_oo, pEq_int, pNe_int, pIxL, pIxT, atI_nat, atI_0, atI_1, atI_2, atI_3, atI_m1, cutLo, cutHi, cutLo1, cutHi1, a_seq, a_ifS, a_B, a_op, a_ov, a_ev0, a_evv, a_evs, a_C, a_V, a_M, a_set, a_setI, a_app, a_ret, a_ex, a_skip, a_no, a_not, a_andT, a_orT, a_and, a_or, a_notV, a_if, a_par, a_call, a_forS, a_sq, a_r1, a_r2, a_en, a_zp, a_asT, a_chI, a_yes, a_lc, a_fn, okA, f_fr, bkA, rsvs, rsv, dvs, on1, on2, d_fr, d_ol, rsO, ndS, sl, putB, asT, setAll, ofO, Dy.ints1, Dy.ints2, nE, wipeE, unw, frO, q_addI, q_addL, q_addT, q_addS, q_sub, q_div, q_mod, q_pow, q_neg, q_cm, pIs, pIsn, q_isN, q_isI, q_isS, q_isT, q_isL, q_isB, q_lenL, q_lenT, pTup, pLst, q_tupL, q_tupT, q_lstL, q_lstT, q_revL, q_slL, q_slT, q_shL, q_shT, q_sqL, q_sqT, q_intI, q_max2, q_min2, q_aII, q_aBI, q_aTI, q_aTT, q_aLL, q_aTL, q_aIT, between_ok, c1]
theorem need2 {as : List Nat} (ha : ArOk as) : M_need_arities_2 [.fr (encA as)] = .ok (.fr .none, [.fr (encA as)]) := by
  simp [M_need_arities_2, b_need_arities_2, q_mulAI, q_mulAL, a_wb, q_divW, Function.comp_def, q_starI, q_starIT, a_wp, a_fz, a_fz0, a_fz1, a_ext, a_ins, a_insA, a_pop, a_parN, a_evO0, a_evO1, a_setO0, a_setO1, a_ix2, a_setII, a_zN, a_zC, a_lcO, d_oo, pEq_int, pNe_int, pIxL, pIxT, atI_nat, atI_0, atI_1, atI_2, atI_3, atI_m1, cutLo, cutHi, cutLo1, cutHi1, a_seq, a_ifS, a_B, a_op, a_ov, a_ev0, a_evv, a_evs, a_C, a_V, a_M, a_set, a_setI, a_app, a_ret, a_ex, a_skip, a_no, a_not, a_andT, a_orT, a_and, a_or, a_notV, a_if, a_par, a_call, a_forS, a_sq, a_r1, a_r2, a_en, a_zp, a_asT, a_chI, a_yes, a_lc, a_fn, okA, f_fr, bkA, rsvs, rsv, dvs, on1, on2, d_fr, d_ol, rsO, ndS, sl, putB, asT, setAll, ofO, Dy.ints1, Dy.ints2, nE, wipeE, unw, frO, q_addI, q_addL, q_addT, q_addS, q_sub, q_div, q_mod, q_pow, q_neg, q_cm, pIs, pIsn, q_isN, q_isI, q_isS, q_isT, q_isL, q_isB, q_lenL, q_lenT, pTup, pLst, q_tupL, q_tupT, q_lstL, q_lstT, q_revL, q_slL, q_slT, q_shL, q_shT, q_sqL, q_sqT, q_intI, q_max2, q_min2, q_aII, q_aBI, q_aTI, q_aTT, q_aLL, q_aTL, q_aIT, arities_ok ha]
theorem unspC {as : List Nat} {t : List Nd} (ha : ArOk as) (h : Cn as t) (hx : ∀ x ∈ pL t, x < as.length) (hl : t.length ≤ 200) : M_unspelled_2 [.fr (encA as), .fr (encA (pL t))] = .ok (.fr (encT t), [.fr (encA as), .fr (encA (pL t))]) := by
  have e := builtC ha h (by omega)
  have hk := h.len
  have el := chkU hx (by omega) _ rfl
  generalize pL t = R at *
  have c : ¬ (200 : Int) < R.length := by omega
  have c' : ¬ 200 < R.length := by omega
  simp [M_unspelled_2, b_unspelled_2, q_mulAI, q_mulAL, a_wb, q_divW, Function.comp_def, q_starI, q_starIT, a_wp, a_fz, a_fz0, a_fz1, a_ext, a_ins, a_insA, a_pop, a_parN, a_evO0, a_evO1, a_setO0, a_setO1, a_ix2, a_setII, a_zN, a_zC, a_lcO, d_oo, pEq_int, pNe_int, pIxL, pIxT, atI_nat, atI_0, atI_1, atI_2, atI_3, atI_m1, cutLo, cutHi, cutLo1, cutHi1, a_seq, a_ifS, a_B, a_op, a_ov, a_ev0, a_evv, a_evs, a_C, a_V, a_M, a_set, a_setI, a_app, a_ret, a_ex, a_skip, a_no, a_not, a_andT, a_orT, a_and, a_or, a_notV, a_if, a_par, a_call, a_forS, a_sq, a_r1, a_r2, a_en, a_zp, a_asT, a_chI, a_yes, a_lc, a_fn, okA, f_fr, bkA, rsvs, rsv, dvs, on1, on2, d_fr, d_ol, rsO, ndS, sl, putB, asT, setAll, ofO, Dy.ints1, Dy.ints2, nE, wipeE, unw, frO, q_addI, q_addL, q_addT, q_addS, q_sub, q_div, q_mod, q_pow, q_neg, q_cm, pIs, pIsn, q_isN, q_isI, q_isS, q_isT, q_isL, q_isB, q_lenL, q_lenT, pTup, pLst, q_tupL, q_tupT, q_lstL, q_lstT, q_revL, q_slL, q_slT, q_shL, q_shT, q_sqL, q_sqT, q_intI, q_max2, q_min2, q_aII, q_aBI, q_aTI, q_aTT, q_aLL, q_aTL, q_aIT, need2 ha, isA, c, c', el, pAll_true, e]
theorem unspN {as row : List Nat} (ha : ArOk as) (hx : ∀ x ∈ row, x < as.length) (hl : row.length ≤ 200) (hb : Bad5 as row) : M_unspelled_2 [.fr (encA as), .fr (encA row)] = .er ⟨"Unspelled", []⟩ := by
  have e := builtN ha hx (by omega) hb
  have el := chkU hx (by omega) _ rfl
  have c : ¬ (200 : Int) < row.length := by omega
  have c' : ¬ 200 < row.length := by omega
  simp [M_unspelled_2, b_unspelled_2, q_mulAI, q_mulAL, a_wb, q_divW, Function.comp_def, q_starI, q_starIT, a_wp, a_fz, a_fz0, a_fz1, a_ext, a_ins, a_insA, a_pop, a_parN, a_evO0, a_evO1, a_setO0, a_setO1, a_ix2, a_setII, a_zN, a_zC, a_lcO, d_oo, pEq_int, pNe_int, pIxL, pIxT, atI_nat, atI_0, atI_1, atI_2, atI_3, atI_m1, cutLo, cutHi, cutLo1, cutHi1, a_seq, a_ifS, a_B, a_op, a_ov, a_ev0, a_evv, a_evs, a_C, a_V, a_M, a_set, a_setI, a_app, a_ret, a_ex, a_skip, a_no, a_not, a_andT, a_orT, a_and, a_or, a_notV, a_if, a_par, a_call, a_forS, a_sq, a_r1, a_r2, a_en, a_zp, a_asT, a_chI, a_yes, a_lc, a_fn, okA, f_fr, bkA, rsvs, rsv, dvs, on1, on2, d_fr, d_ol, rsO, ndS, sl, putB, asT, setAll, ofO, Dy.ints1, Dy.ints2, nE, wipeE, unw, frO, q_addI, q_addL, q_addT, q_addS, q_sub, q_div, q_mod, q_pow, q_neg, q_cm, pIs, pIsn, q_isN, q_isI, q_isS, q_isT, q_isL, q_isB, q_lenL, q_lenT, pTup, pLst, q_tupL, q_tupT, q_lstL, q_lstT, q_revL, q_slL, q_slT, q_shL, q_shT, q_sqL, q_sqT, q_intI, q_max2, q_min2, q_aII, q_aBI, q_aTI, q_aTT, q_aLL, q_aTL, q_aIT, need2 ha, isA, c, c', el, pAll_true, e, a_raise]
end Q
namespace Q
open PySem Dy
open L2 (atI ixN)
abbrev enc5 (S : List (List Nd)) : List PyData := S.map fun t => .list (t.map encN)
abbrev VU (as row : List Nat) (S : List (List Nd)) (one turn fnd ends : Option O) : Dy.Env := V__law_unspell (arities_here := fr (encA as)) (row := fr (encA row)) (parts := ol (enc5 S)) (one := one) (turn := turn) (found := fnd) (ends := ends)
theorem un1 {as row : List Nat} {S : List (List Nd)} {p f : List Nd} {e : List Nat} {op : Nat} {d : PyData} (ha : ArOk as) (hp : Cn as p) (hl : p.length ≤ 1000) (hf : f.length ≤ 1000) (he : e.length ≤ 10) :
    (asT (.nm 4) d (VU as row (S ++ [p]) (fr (dN op)) none (fr (.list (f.map encN))) (ol (e.map dN))) >>= L1__law_unspell) = .ok (.nx, VU as row S (fr (dN op)) none (fr (.list ((jn1 (f, e) p).1.map encN))) (ol ((jn1 (f, e) p).2.map dN))) := by
  have pp := hp.pos
  have hpop : (enc5 (S ++ [p]))[(enc5 (S ++ [p])).length - 1]? = some (.list (p.map encN)) := by simp
  have hdrop : (enc5 (S ++ [p])).dropLast = enc5 S := by simp
  have el : ∀ e0 : Dy.Env, e0 = V__law_unspell (arities_here := fr (encA as)) (row := fr (encA row)) (parts := ol (enc5 S)) (one := fr (dN op)) (turn := fr d) (found := fr (.list (f.map encN))) (ends := ol (e.map dN ++ [dN (f.length + p.length - 1)])) (inner := fr (.list (p.map encN))) (ahead := fr (dN f.length)) → lcL [9] (.nm 9) fYes E2__law_unspell (p.map encN) e0 [] = .ok ((shift f.length p).map encN, e0) := fun e0 he0 => by
    rw [lc_tm encN (fun n => encN (n.1, n.2.map (f.length + ·))) p rfl (fun n hn => ?_) (by omega)]
    · simp [shift]
    have n2 := (hp.wf.mem hn).le2 ha
    have e2 : ∀ e1 : Dy.Env, e1 = V__law_unspell (arities_here := fr (encA as)) (row := fr (encA row)) (parts := ol (enc5 S)) (one := fr (dN op)) (turn := fr d) (found := fr (.list (f.map encN))) (ends := ol (e.map dN ++ [dN (f.length + p.length - 1)])) (inner := fr (.list (p.map encN))) (ahead := fr (dN f.length)) (its := fr (encN n)) → lcL [10] (.nm 10) fYes E1__law_unspell (n.2.map dN) e1 [] = .ok ((n.2.map (f.length + ·)).map dN, e1) := fun e1 he1 => by
      rw [lc_tm dN (fun x => dN (f.length + x)) n.2 rfl (fun x hx => ?_) (by omega)]
      · simp
      subst he1
      generalize enc5 S = SS at *
      generalize p.map encN = PP at *
      generalize f.map encN = FF at *
      simp [E1__law_unspell, q_mulAI, q_mulAL, a_wb, q_divW, Function.comp_def, q_starI, q_starIT, a_wp, a_fz, a_fz0, a_fz1, a_ext, a_ins, a_insA, a_pop, a_parN, a_evO0, a_evO1, a_setO0, a_setO1, a_ix2, a_setII, a_zN, a_zC, a_lcO, d_oo, pEq_int, pNe_int, pIxL, pIxT, atI_nat, atI_0, atI_1, atI_2, atI_3, atI_m1, cutLo, cutHi, cutLo1, cutHi1, a_seq, a_ifS, a_B, a_op, a_ov, a_ev0, a_evv, a_evs, a_C, a_V, a_M, a_set, a_setI, a_app, a_ret, a_ex, a_skip, a_no, a_not, a_andT, a_orT, a_and, a_or, a_notV, a_if, a_par, a_call, a_forS, a_sq, a_r1, a_r2, a_en, a_zp, a_asT, a_chI, a_yes, a_lc, a_fn, okA, f_fr, bkA, rsvs, rsv, dvs, on1, on2, d_fr, d_ol, rsO, ndS, sl, putB, asT, setAll, ofO, Dy.ints1, Dy.ints2, nE, wipeE, unw, frO, q_addI, q_addL, q_addT, q_addS, q_sub, q_div, q_mod, q_pow, q_neg, q_cm, pIs, pIsn, q_isN, q_isI, q_isS, q_isT, q_isL, q_isB, q_lenL, q_lenT, pTup, pLst, q_tupL, q_tupT, q_lstL, q_lstT, q_revL, q_slL, q_slT, q_shL, q_shT, q_sqL, q_sqT, q_intI, q_max2, q_min2, q_aII, q_aBI, q_aTI, q_aTT, q_aLL, q_aTL, q_aIT]
    have e2 := e2 _ rfl
    subst he0
    generalize enc5 S = SS at *
    generalize p.map encN = PP at *
    generalize f.map encN = FF at *
    have c : 1 + n.2.length ≤ 1000000 := by omega
    simp only [List.map_map] at e2
    simp [E2__law_unspell, q_mulAI, q_mulAL, a_wb, q_divW, Function.comp_def, q_starI, q_starIT, a_wp, a_fz, a_fz0, a_fz1, a_ext, a_ins, a_insA, a_pop, a_parN, a_evO0, a_evO1, a_setO0, a_setO1, a_ix2, a_setII, a_zN, a_zC, a_lcO, d_oo, pEq_int, pNe_int, pIxL, pIxT, atI_nat, atI_0, atI_1, atI_2, atI_3, atI_m1, cutLo, cutHi, cutLo1, cutHi1, a_seq, a_ifS, a_B, a_op, a_ov, a_ev0, a_evv, a_evs, a_C, a_V, a_M, a_set, a_setI, a_app, a_ret, a_ex, a_skip, a_no, a_not, a_andT, a_orT, a_and, a_or, a_notV, a_if, a_par, a_call, a_forS, a_sq, a_r1, a_r2, a_en, a_zp, a_asT, a_chI, a_yes, a_lc, a_fn, okA, f_fr, bkA, rsvs, rsv, dvs, on1, on2, d_fr, d_ol, rsO, ndS, sl, putB, asT, setAll, ofO, Dy.ints1, Dy.ints2, nE, wipeE, unw, frO, q_addI, q_addL, q_addT, q_addS, q_sub, q_div, q_mod, q_pow, q_neg, q_cm, pIs, pIsn, q_isN, q_isI, q_isS, q_isT, q_isL, q_isB, q_lenL, q_lenT, pTup, pLst, q_tupL, q_tupT, q_lstL, q_lstT, q_revL, q_slL, q_slT, q_shL, q_shT, q_sqL, q_sqT, q_intI, q_max2, q_min2, q_aII, q_aBI, q_aTI, q_aTT, q_aLL, q_aTL, q_aIT, e2, c]
  have el := el _ rfl
  have cE : ((f.length : Int) + p.length - 1) = ((f.length + p.length - 1 : Nat) : Int) := by omega
  have c1 : e.length < 1000000 := by omega
  have c2 : f.length + (shift f.length p).length ≤ 1000000 := by rw [shift_len]; omega
  have s1 : fSet 7 (fPop 2) (V__law_unspell (arities_here := fr (encA as)) (row := fr (encA row)) (parts := ol (enc5 (S ++ [p]))) (one := fr (dN op)) (turn := fr d) (found := fr (.list (f.map encN))) (ends := ol (e.map dN))) = .ok (.nx, V__law_unspell (arities_here := fr (encA as)) (row := fr (encA row)) (parts := ol (enc5 S)) (one := fr (dN op)) (turn := fr d) (found := fr (.list (f.map encN))) (ends := ol (e.map dN)) (inner := fr (.list (p.map encN)))) := by
    generalize p.map encN = PP at *
    generalize f.map encN = FF at *
    generalize enc5 (S ++ [p]) = SP at *
    generalize enc5 S = SS at *
    simp [q_mulAI, q_mulAL, a_wb, q_divW, Function.comp_def, q_starI, q_starIT, a_wp, a_fz, a_fz0, a_fz1, a_ext, a_ins, a_insA, a_pop, a_parN, a_evO0, a_evO1, a_setO0, a_setO1, a_ix2, a_setII, a_zN, a_zC, a_lcO, d_oo, pEq_int, pNe_int, pIxL, pIxT, atI_nat, atI_0, atI_1, atI_2, atI_3, atI_m1, cutLo, cutHi, cutLo1, cutHi1, a_seq, a_ifS, a_B, a_op, a_ov, a_ev0, a_evv, a_evs, a_C, a_V, a_M, a_set, a_setI, a_app, a_ret, a_ex, a_skip, a_no, a_not, a_andT, a_orT, a_and, a_or, a_notV, a_if, a_par, a_call, a_forS, a_sq, a_r1, a_r2, a_en, a_zp, a_asT, a_chI, a_yes, a_lc, a_fn, okA, f_fr, bkA, rsvs, rsv, dvs, on1, on2, d_fr, d_ol, rsO, ndS, sl, putB, asT, setAll, ofO, Dy.ints1, Dy.ints2, nE, wipeE, unw, frO, q_addI, q_addL, q_addT, q_addS, q_sub, q_div, q_mod, q_pow, q_neg, q_cm, pIs, pIsn, q_isN, q_isI, q_isS, q_isT, q_isL, q_isB, q_lenL, q_lenT, pTup, pLst, q_tupL, q_tupT, q_lstL, q_lstT, q_revL, q_slL, q_slT, q_shL, q_shT, q_sqL, q_sqT, q_intI, q_max2, q_min2, q_aII, q_aBI, q_aTI, q_aTT, q_aLL, q_aTL, q_aIT, hpop, hdrop]
  have h0 : asT (.nm 4) d (VU as row (S ++ [p]) (fr (dN op)) none (fr (.list (f.map encN))) (ol (e.map dN))) = .ok (V__law_unspell (arities_here := fr (encA as)) (row := fr (encA row)) (parts := ol (enc5 (S ++ [p]))) (one := fr (dN op)) (turn := fr d) (found := fr (.list (f.map encN))) (ends := ol (e.map dN))) := by
    simp [q_mulAI, q_mulAL, a_wb, q_divW, Function.comp_def, q_starI, q_starIT, a_wp, a_fz, a_fz0, a_fz1, a_ext, a_ins, a_insA, a_pop, a_parN, a_evO0, a_evO1, a_setO0, a_setO1, a_ix2, a_setII, a_zN, a_zC, a_lcO, d_oo, pEq_int, pNe_int, pIxL, pIxT, atI_nat, atI_0, atI_1, atI_2, atI_3, atI_m1, cutLo, cutHi, cutLo1, cutHi1, a_seq, a_ifS, a_B, a_op, a_ov, a_ev0, a_evv, a_evs, a_C, a_V, a_M, a_set, a_setI, a_app, a_ret, a_ex, a_skip, a_no, a_not, a_andT, a_orT, a_and, a_or, a_notV, a_if, a_par, a_call, a_forS, a_sq, a_r1, a_r2, a_en, a_zp, a_asT, a_chI, a_yes, a_lc, a_fn, okA, f_fr, bkA, rsvs, rsv, dvs, on1, on2, d_fr, d_ol, rsO, ndS, sl, putB, asT, setAll, ofO, Dy.ints1, Dy.ints2, nE, wipeE, unw, frO, q_addI, q_addL, q_addT, q_addS, q_sub, q_div, q_mod, q_pow, q_neg, q_cm, pIs, pIsn, q_isN, q_isI, q_isS, q_isT, q_isL, q_isB, q_lenL, q_lenT, pTup, pLst, q_tupL, q_tupT, q_lstL, q_lstT, q_revL, q_slL, q_slT, q_shL, q_shT, q_sqL, q_sqT, q_intI, q_max2, q_min2, q_aII, q_aBI, q_aTI, q_aTT, q_aLL, q_aTL, q_aIT]
  rw [h0, bind_ok]
  unfold L1__law_unspell
  refine nx4 s1 ?_
  show _ = Res.ok (Fl.nx, V__law_unspell (arities_here := fr (encA as)) (row := fr (encA row)) (parts := ol (enc5 S)) (one := fr (dN op)) (found := fr (.list ((f ++ shift f.length p).map encN))) (ends := ol ((e ++ [f.length + p.length - 1]).map dN)))
  rw [List.map_append, List.map_append, List.map_singleton]
  have lsh : ((shift f.length p).map encN).length = p.length := by rw [List.length_map, shift_len]
  rw [shift_len] at c2
  generalize (shift f.length p).map encN = SH at *
  generalize hPP : p.map encN = PP at *
  generalize hFF : f.map encN = FF at *
  have lP : PP.length = p.length := by rw [← hPP, List.length_map]
  have lF : FF.length = f.length := by rw [← hFF, List.length_map]
  clear hPP hFF h0 s1 hpop hdrop
  generalize enc5 S = SS at *
  simp [q_mulAI, q_mulAL, a_wb, q_divW, Function.comp_def, q_starI, q_starIT, a_wp, a_fz, a_fz0, a_fz1, a_ext, a_ins, a_insA, a_pop, a_parN, a_evO0, a_evO1, a_setO0, a_setO1, a_ix2, a_setII, a_zN, a_zC, a_lcO, d_oo, pEq_int, pNe_int, pIxL, pIxT, atI_nat, atI_0, atI_1, atI_2, atI_3, atI_m1, cutLo, cutHi, cutLo1, cutHi1, a_seq, a_ifS, a_B, a_op, a_ov, a_ev0, a_evv, a_evs, a_C, a_V, a_M, a_set, a_setI, a_app, a_ret, a_ex, a_skip, a_no, a_not, a_andT, a_orT, a_and, a_or, a_notV, a_if, a_par, a_call, a_forS, a_sq, a_r1, a_r2, a_en, a_zp, a_asT, a_chI, a_yes, a_lc, a_fn, okA, f_fr, bkA, rsvs, rsv, dvs, on1, on2, d_fr, d_ol, rsO, ndS, sl, putB, asT, setAll, ofO, Dy.ints1, Dy.ints2, nE, wipeE, unw, frO, q_addI, q_addL, q_addT, q_addS, q_sub, q_div, q_mod, q_pow, q_neg, q_cm, pIs, pIsn, q_isN, q_isI, q_isS, q_isT, q_isL, q_isB, q_lenL, q_lenT, pTup, pLst, q_tupL, q_tupT, q_lstL, q_lstT, q_revL, q_slL, q_slT, q_shL, q_shT, q_sqL, q_sqT, q_intI, q_max2, q_min2, q_aII, q_aBI, q_aTI, q_aTT, q_aLL, q_aTL, q_aIT, lP, lF, cE, c1, el, lsh, c2]
theorem ffc {t : Tg} {b : SF} {d : PyData} {ds : List PyData} {e e1 : Dy.Env} (h : (asT t d e >>= b) = .ok (.nx, e1)) : fFor t b (d :: ds) e = fFor t b ds e1 := by
  show (asT t d e >>= fun x => b x >>= fun r => _) = _
  cases q : asT t d e with
  | no => rw [q] at h; cases h
  | er z => rw [q] at h; cases h
  | ok x =>
    rw [q, bind_ok] at h
    rw [bind_ok, h, bind_ok]
theorem loopU {as row : List Nat} {S : List (List Nd)} {ps : List (List Nd)} {op : Nat} (ha : ArOk as) (hp : ∀ p ∈ ps, Cn as p ∧ p.length ≤ 400) (h2 : ps.length ≤ 2) :
    fFor (.nm 4) L1__law_unspell (rng 0 ps.length) (VU as row (S ++ ps.reverse) (fr (dN op)) none (fr (.list [])) (ol [])) = .ok (.nx, VU as row S (fr (dN op)) none (fr (.list ((ps.foldl jn1 ([], [])).1.map encN))) (ol ((ps.foldl jn1 ([], [])).2.map dN))) := by
  match ps, h2 with
  | [], _ => simp [rng, ff0]
  | [p], _ =>
    have e1 := un1 (as := as) (row := row) (S := S) (p := p) (f := []) (e := []) (op := op) (d := .int 0) ha (hp p (by simp)).1 (by have := (hp p (by simp)).2; omega) (by simp) (by simp)
    rw [show rng 0 [p].length = [.int 0] from rfl, show S ++ [p].reverse = S ++ [p] from rfl]
    exact (ffc e1).trans rfl
  | [p, q], _ =>
    have lp := (hp p (by simp)).2
    have lq := (hp q (by simp)).2
    have e1 := un1 (as := as) (row := row) (S := S ++ [q]) (p := p) (f := []) (e := []) (op := op) (d := .int 0) ha (hp p (by simp)).1 (by omega) (by simp) (by simp)
    have e2 := un1 (as := as) (row := row) (S := S) (p := q) (f := (jn1 ([], []) p).1) (e := (jn1 ([], []) p).2) (op := op) (d := .int 1) ha (hp q (by simp)).1 (by omega) (by simp [jn1, shift_len]; omega) (by simp [jn1])
    rw [show rng 0 [p, q].length = [.int 0, .int 1] from rfl, show S ++ [p, q].reverse = S ++ [q] ++ [p] by simp]
    exact (ffc e1).trans ((ffc e2).trans rfl)
theorem jl5 {ps : List (List Nd)} (h2 : ps.length ≤ 2) (h : ∀ p ∈ ps, p.length ≤ 400) : (ps.foldl jn1 ([], [])).2.length = ps.length ∧ (ps.foldl jn1 ([], [])).1.length ≤ 800 := by
  match ps, h2 with
  | [], _ => simp
  | [p], _ => have := h p (by simp); simp [jn1, shift_len]; omega
  | [p, q], _ => have := h p (by simp); have := h q (by simp); simp [jn1, shift_len]; omega
theorem un2 {as row : List Nat} {S : List (List Nd)} {ps : List (List Nd)} {op : Nat} (ha : ArOk as) (ho : as[op]? = some ps.length) (hp : ∀ p ∈ ps, Cn as p ∧ p.length ≤ 400) (hS : S.length ≤ 900) :
    (asT (.nm 3) (dN op) (VU as row (S ++ ps.reverse) none none none none) >>= L2__law_unspell) = .ok (.nx, VU as row (S ++ [joinT op ps]) none none none none) := by
  have a2 := ha.le2 _ (List.mem_of_getElem? ho)
  have eL := loopU (row := row) (S := S) (op := op) ha hp a2
  have lS : (enc5 (S ++ ps.reverse)).length = S.length + ps.length := by simp
  have c1 : ¬ ((S.length : Int) + ps.length < ps.length) := by omega
  have c2 : (ps.length : Int) ≤ 1000000000 ∧ (-1000000000 : Int) ≤ ps.length := by omega
  have s1 : fIfS (fB (fOp (on2 (cmI (fun i j => decide (i < j)))) [.v (fOp (on1 pLen) [.s 2]), .v (fOp (on2 pIx) [.s 0, .s 3])])) (fRet (fC .none)) (fSkip) (VU as row (S ++ ps.reverse) (fr (dN op)) none none none) = .ok (.nx, VU as row (S ++ ps.reverse) (fr (dN op)) none none none) := by
    generalize enc5 (S ++ ps.reverse) = SP at *
    have c1' : ¬ S.length + ps.length < ps.length := by omega
    simp [q_mulAI, q_mulAL, a_wb, q_divW, Function.comp_def, q_starI, q_starIT, a_wp, a_fz, a_fz0, a_fz1, a_ext, a_ins, a_insA, a_pop, a_parN, a_evO0, a_evO1, a_setO0, a_setO1, a_ix2, a_setII, a_zN, a_zC, a_lcO, d_oo, pEq_int, pNe_int, pIxL, pIxT, atI_nat, atI_0, atI_1, atI_2, atI_3, atI_m1, cutLo, cutHi, cutLo1, cutHi1, a_seq, a_ifS, a_B, a_op, a_ov, a_ev0, a_evv, a_evs, a_C, a_V, a_M, a_set, a_setI, a_app, a_ret, a_ex, a_skip, a_no, a_not, a_andT, a_orT, a_and, a_or, a_notV, a_if, a_par, a_call, a_forS, a_sq, a_r1, a_r2, a_en, a_zp, a_asT, a_chI, a_yes, a_lc, a_fn, okA, f_fr, bkA, rsvs, rsv, dvs, on1, on2, d_fr, d_ol, rsO, ndS, sl, putB, asT, setAll, ofO, Dy.ints1, Dy.ints2, nE, wipeE, unw, frO, q_addI, q_addL, q_addT, q_addS, q_sub, q_div, q_mod, q_pow, q_neg, q_cm, pIs, pIsn, q_isN, q_isI, q_isS, q_isT, q_isL, q_isB, q_lenL, q_lenT, pTup, pLst, q_tupL, q_tupT, q_lstL, q_lstT, q_revL, q_slL, q_slT, q_shL, q_shT, q_sqL, q_sqT, q_intI, q_max2, q_min2, q_aII, q_aBI, q_aTI, q_aTT, q_aLL, q_aTL, q_aIT, lS, ho, c1, c1']
  have s2 : fFz [5] (fPar 5 6 (fOv pLst []) (fOv pLst [])) (VU as row (S ++ ps.reverse) (fr (dN op)) none none none) = .ok (.nx, VU as row (S ++ ps.reverse) (fr (dN op)) none (fr (.list [])) (ol [])) := by
    generalize enc5 (S ++ ps.reverse) = SP at *
    simp [q_mulAI, q_mulAL, a_wb, q_divW, Function.comp_def, q_starI, q_starIT, a_wp, a_fz, a_fz0, a_fz1, a_ext, a_ins, a_insA, a_pop, a_parN, a_evO0, a_evO1, a_setO0, a_setO1, a_ix2, a_setII, a_zN, a_zC, a_lcO, d_oo, pEq_int, pNe_int, pIxL, pIxT, atI_nat, atI_0, atI_1, atI_2, atI_3, atI_m1, cutLo, cutHi, cutLo1, cutHi1, a_seq, a_ifS, a_B, a_op, a_ov, a_ev0, a_evv, a_evs, a_C, a_V, a_M, a_set, a_setI, a_app, a_ret, a_ex, a_skip, a_no, a_not, a_andT, a_orT, a_and, a_or, a_notV, a_if, a_par, a_call, a_forS, a_sq, a_r1, a_r2, a_en, a_zp, a_asT, a_chI, a_yes, a_lc, a_fn, okA, f_fr, bkA, rsvs, rsv, dvs, on1, on2, d_fr, d_ol, rsO, ndS, sl, putB, asT, setAll, ofO, Dy.ints1, Dy.ints2, nE, wipeE, unw, frO, q_addI, q_addL, q_addT, q_addS, q_sub, q_div, q_mod, q_pow, q_neg, q_cm, pIs, pIsn, q_isN, q_isI, q_isS, q_isT, q_isL, q_isB, q_lenL, q_lenT, pTup, pLst, q_tupL, q_tupT, q_lstL, q_lstT, q_revL, q_slL, q_slT, q_shL, q_shT, q_sqL, q_sqT, q_intI, q_max2, q_min2, q_aII, q_aBI, q_aTI, q_aTT, q_aLL, q_aTL, q_aIT]
  have s3 : fWp [4, 7, 8] (fForS (fR1 (.v (fOp (on2 pIx) [.s 0, .s 3]))) (.nm 4) (L1__law_unspell)) (VU as row (S ++ ps.reverse) (fr (dN op)) none (fr (.list [])) (ol [])) = .ok (.nx, VU as row S (fr (dN op)) none (fr (.list ((ps.foldl jn1 ([], [])).1.map encN))) (ol ((ps.foldl jn1 ([], [])).2.map dN))) := by
    have er : fR1 (.v (fOp (on2 pIx) [.s 0, .s 3])) (VU as row (S ++ ps.reverse) (fr (dN op)) none (fr (.list [])) (ol [])) = .ok (rng 0 ps.length, VU as row (S ++ ps.reverse) (fr (dN op)) none (fr (.list [])) (ol [])) := by
      generalize enc5 (S ++ ps.reverse) = SP at *
      simp [q_mulAI, q_mulAL, a_wb, q_divW, Function.comp_def, q_starI, q_starIT, a_wp, a_fz, a_fz0, a_fz1, a_ext, a_ins, a_insA, a_pop, a_parN, a_evO0, a_evO1, a_setO0, a_setO1, a_ix2, a_setII, a_zN, a_zC, a_lcO, d_oo, pEq_int, pNe_int, pIxL, pIxT, atI_nat, atI_0, atI_1, atI_2, atI_3, atI_m1, cutLo, cutHi, cutLo1, cutHi1, a_seq, a_ifS, a_B, a_op, a_ov, a_ev0, a_evv, a_evs, a_C, a_V, a_M, a_set, a_setI, a_app, a_ret, a_ex, a_skip, a_no, a_not, a_andT, a_orT, a_and, a_or, a_notV, a_if, a_par, a_call, a_forS, a_sq, a_r1, a_r2, a_en, a_zp, a_asT, a_chI, a_yes, a_lc, a_fn, okA, f_fr, bkA, rsvs, rsv, dvs, on1, on2, d_fr, d_ol, rsO, ndS, sl, putB, asT, setAll, ofO, Dy.ints1, Dy.ints2, nE, wipeE, unw, frO, q_addI, q_addL, q_addT, q_addS, q_sub, q_div, q_mod, q_pow, q_neg, q_cm, pIs, pIsn, q_isN, q_isI, q_isS, q_isT, q_isL, q_isB, q_lenL, q_lenT, pTup, pLst, q_tupL, q_tupT, q_lstL, q_lstT, q_revL, q_slL, q_slT, q_shL, q_shT, q_sqL, q_sqT, q_intI, q_max2, q_min2, q_aII, q_aBI, q_aTI, q_aTT, q_aLL, q_aTL, q_aIT, ho, c2]
    rw [a_wp, a_forS, er, bind_ok, eL]
    rfl
  have h0 : asT (.nm 3) (dN op) (VU as row (S ++ ps.reverse) none none none none) = .ok (VU as row (S ++ ps.reverse) (fr (dN op)) none none none) := by
    simp [q_mulAI, q_mulAL, a_wb, q_divW, Function.comp_def, q_starI, q_starIT, a_wp, a_fz, a_fz0, a_fz1, a_ext, a_ins, a_insA, a_pop, a_parN, a_evO0, a_evO1, a_setO0, a_setO1, a_ix2, a_setII, a_zN, a_zC, a_lcO, d_oo, pEq_int, pNe_int, pIxL, pIxT, atI_nat, atI_0, atI_1, atI_2, atI_3, atI_m1, cutLo, cutHi, cutLo1, cutHi1, a_seq, a_ifS, a_B, a_op, a_ov, a_ev0, a_evv, a_evs, a_C, a_V, a_M, a_set, a_setI, a_app, a_ret, a_ex, a_skip, a_no, a_not, a_andT, a_orT, a_and, a_or, a_notV, a_if, a_par, a_call, a_forS, a_sq, a_r1, a_r2, a_en, a_zp, a_asT, a_chI, a_yes, a_lc, a_fn, okA, f_fr, bkA, rsvs, rsv, dvs, on1, on2, d_fr, d_ol, rsO, ndS, sl, putB, asT, setAll, ofO, Dy.ints1, Dy.ints2, nE, wipeE, unw, frO, q_addI, q_addL, q_addT, q_addS, q_sub, q_div, q_mod, q_pow, q_neg, q_cm, pIs, pIsn, q_isN, q_isI, q_isS, q_isT, q_isL, q_isB, q_lenL, q_lenT, pTup, pLst, q_tupL, q_tupT, q_lstL, q_lstT, q_revL, q_slL, q_slT, q_shL, q_shT, q_sqL, q_sqT, q_intI, q_max2, q_min2, q_aII, q_aBI, q_aTI, q_aTT, q_aLL, q_aTL, q_aIT]
  rw [h0, bind_ok]
  unfold L2__law_unspell
  refine nx4 s1 (nx4 s2 (nx4 s3 ?_))
  have ej : enc5 (S ++ [joinT op ps]) = enc5 S ++ [.list ((ps.foldl jn1 ([], [])).1.map encN ++ [encN (op, (ps.foldl jn1 ([], [])).2)])] := by
    simp [joinT]
  have l1 := jl5 a2 fun p h => (hp p h).2
  show _ = Res.ok (Fl.nx, V__law_unspell (arities_here := fr (encA as)) (row := fr (encA row)) (parts := ol (enc5 (S ++ [joinT op ps]))))
  rw [ej]
  generalize (ps.foldl jn1 ([], [])).1 = F1 at *
  generalize (ps.foldl jn1 ([], [])).2 = F2 at *
  have lS2 : (enc5 S).length = S.length := by simp
  clear eL s1 s2 s3 h0 lS ej
  unfold VU
  generalize enc5 S = SS at *
  have c5 : 1 + F2.length ≤ 1000000 := by omega
  have c6 : F1.length + 1 ≤ 1000000 := by omega
  have c7 : S.length < 1000000 := by omega
  simp [q_mulAI, q_mulAL, a_wb, q_divW, Function.comp_def, q_starI, q_starIT, a_wp, a_fz, a_fz0, a_fz1, a_ext, a_ins, a_insA, a_pop, a_parN, a_evO0, a_evO1, a_setO0, a_setO1, a_ix2, a_setII, a_zN, a_zC, a_lcO, d_oo, pEq_int, pNe_int, pIxL, pIxT, atI_nat, atI_0, atI_1, atI_2, atI_3, atI_m1, cutLo, cutHi, cutLo1, cutHi1, a_seq, a_ifS, a_B, a_op, a_ov, a_ev0, a_evv, a_evs, a_C, a_V, a_M, a_set, a_setI, a_app, a_ret, a_ex, a_skip, a_no, a_not, a_andT, a_orT, a_and, a_or, a_notV, a_if, a_par, a_call, a_forS, a_sq, a_r1, a_r2, a_en, a_zp, a_asT, a_chI, a_yes, a_lc, a_fn, okA, f_fr, bkA, rsvs, rsv, dvs, on1, on2, d_fr, d_ol, rsO, ndS, sl, putB, asT, setAll, ofO, Dy.ints1, Dy.ints2, nE, wipeE, unw, frO, q_addI, q_addL, q_addT, q_addS, q_sub, q_div, q_mod, q_pow, q_neg, q_cm, pIs, pIsn, q_isN, q_isI, q_isS, q_isT, q_isL, q_isB, q_lenL, q_lenT, pTup, pLst, q_tupL, q_tupT, q_lstL, q_lstT, q_revL, q_slL, q_slT, q_shL, q_shT, q_sqL, q_sqT, q_intI, q_max2, q_min2, q_aII, q_aBI, q_aTI, q_aTT, q_aLL, q_aTL, q_aIT, lS2, c5, c6, c7]
theorem flat_len5 {as : List Nat} : ∀ {ts : List (List Nd)}, (∀ t ∈ ts, Cn as t) → ts.length ≤ ((ts.map pL).flatten).length ∧ ∀ t ∈ ts, t.length ≤ ((ts.map pL).flatten).length
  | [], _ => by simp
  | t :: ts, h => by
    obtain ⟨i1, i2⟩ := flat_len5 (ts := ts) fun x hx => h x (by simp [hx])
    have h1 := h t (by simp)
    have h2 := h1.len
    have h3 := h1.pos
    rw [List.map_cons, List.flatten_cons, List.length_append, List.length_cons]
    refine ⟨by omega, fun x hx => ?_⟩
    rcases List.mem_cons.mp hx with rfl | hx
    · omega
    · have := i2 x hx; omega
theorem unspell_ok {as row : List Nat} (ha : ArOk as) (hx : ∀ x ∈ row, x < as.length) (hl : row.length ≤ 400) :
    (∃ t, Cn as t ∧ pL t = row ∧ M__law_unspell [.fr (encA as), .fr (encA row)] = .ok (.fr (encT t), [.fr (encA as), .fr (encA row)])) ∨
    (Bad5 as row ∧ M__law_unspell [.fr (encA as), .fr (encA row)] = .ok (.fr .none, [.fr (encA as), .fr (encA row)])) := by
  have er : pRevA (encA row) = some (.fr (.tuple (row.reverse.map dN))) := by
    show some (O.fr (.tuple (row.map dN).reverse)) = _
    rw [List.map_reverse]
  rcases for_x (t := .nm 3) (body := L2__law_unspell) dN (fun S : List (List Nd) => VU as row S none none none none) (fun pre S => (∀ t ∈ S, Cn as t) ∧ pre.reverse = (S.reverse.map pL).flatten) (fun o => o = .fr .none ∧ Bad5 as row) (fun _ => False) row.reverse (s := []) ⟨by simp, rfl⟩ (fun pre op post S e hP => by
    obtain ⟨h1, h2⟩ := hP
    have e' : row = post.reverse ++ op :: pre.reverse := by
      have := congrArg List.reverse e
      rw [List.reverse_reverse] at this
      rw [this]; simp
    have hop : op < as.length := hx op (by rw [e']; simp)
    obtain ⟨a, ho, _⟩ := get_of_lt hop
    have a2 := ha.le2 _ (List.mem_of_getElem? ho)
    have hr : ∀ t ∈ S.reverse, Cn as t := fun t ht => h1 t (List.mem_reverse.mp ht)
    obtain ⟨f1, f2⟩ := flat_len5 hr
    rw [← h2, List.length_reverse, List.length_reverse] at f1
    have pl : pre.length + 1 ≤ row.length := by rw [e']; simp only [List.length_append, List.length_cons, List.length_reverse]; omega
    by_cases hs : S.length < a
    · right; left
      refine ⟨.fr .none, VU as row S (fr (dN op)) none none none, ⟨rfl, .inr ⟨post.reverse, op, pre.reverse, S.reverse, a, e', ho, h2, hr, by rw [List.length_reverse]; exact hs⟩⟩, ?_⟩
      have lS : (enc5 S).length = S.length := by simp
      have c1 : ((S.length : Int) < a) := by omega
      generalize enc5 S = SS at *
      simp [L2__law_unspell, q_mulAI, q_mulAL, a_wb, q_divW, Function.comp_def, q_starI, q_starIT, a_wp, a_fz, a_fz0, a_fz1, a_ext, a_ins, a_insA, a_pop, a_parN, a_evO0, a_evO1, a_setO0, a_setO1, a_ix2, a_setII, a_zN, a_zC, a_lcO, d_oo, pEq_int, pNe_int, pIxL, pIxT, atI_nat, atI_0, atI_1, atI_2, atI_3, atI_m1, cutLo, cutHi, cutLo1, cutHi1, a_seq, a_ifS, a_B, a_op, a_ov, a_ev0, a_evv, a_evs, a_C, a_V, a_M, a_set, a_setI, a_app, a_ret, a_ex, a_skip, a_no, a_not, a_andT, a_orT, a_and, a_or, a_notV, a_if, a_par, a_call, a_forS, a_sq, a_r1, a_r2, a_en, a_zp, a_asT, a_chI, a_yes, a_lc, a_fn, okA, f_fr, bkA, rsvs, rsv, dvs, on1, on2, d_fr, d_ol, rsO, ndS, sl, putB, asT, setAll, ofO, Dy.ints1, Dy.ints2, nE, wipeE, unw, frO, q_addI, q_addL, q_addT, q_addS, q_sub, q_div, q_mod, q_pow, q_neg, q_cm, pIs, pIsn, q_isN, q_isI, q_isS, q_isT, q_isL, q_isB, q_lenL, q_lenT, pTup, pLst, q_tupL, q_tupT, q_lstL, q_lstT, q_revL, q_slL, q_slT, q_shL, q_shT, q_sqL, q_sqT, q_intI, q_max2, q_min2, q_aII, q_aBI, q_aTI, q_aTT, q_aLL, q_aTL, q_aIT, lS, ho, hs, c1]
    · left
      obtain ⟨S', ps, rfl, lp⟩ : ∃ S' ps : List (List Nd), S = S' ++ ps.reverse ∧ ps.length = a := ⟨S.take (S.length - a), (S.drop (S.length - a)).reverse, by rw [List.reverse_reverse, List.take_append_drop], by rw [List.length_reverse, List.length_drop]; omega⟩
      have hp : ∀ p ∈ ps, Cn as p ∧ p.length ≤ 400 := fun p hp => by
        refine ⟨h1 p (by simp [hp]), ?_⟩
        have := f2 p (by simp [hp])
        rw [← h2, List.length_reverse] at this
        omega
      subst lp
      refine ⟨S' ++ [joinT op ps], ⟨fun t ht => ?_, ?_⟩, un2 ha ho hp (by simp at f1; omega)⟩
      · rcases List.mem_append.mp ht with z | z
        · exact h1 t (by simp [z])
        · simp at z; subst z
          exact Cn.join ha (fun p h => (hp p h).1) ho
      · rw [List.reverse_append, h2]
        simp only [List.reverse_append, List.reverse_reverse, List.map_append, List.flatten_append, List.reverse_cons, List.reverse_nil, List.nil_append, List.map_cons, List.map_nil, List.flatten_cons, List.flatten_nil, List.append_nil]
        rw [pL_join op ps fun p h => (hp p h).1.ne]
        simp) with ⟨S, ⟨h1, h2⟩, e⟩ | ⟨o, e', ⟨rfl, hb⟩, e⟩ | ⟨z, hz, _⟩
  · rw [List.reverse_reverse] at h2
    have hr : ∀ t ∈ S.reverse, Cn as t := fun t ht => h1 t (List.mem_reverse.mp ht)
    have ev : VU as row [] none none none none = V__law_unspell (arities_here := fr (encA as)) (row := fr (encA row)) (parts := ol []) := rfl
    rw [ev] at e
    have lS : (enc5 S).length = S.length := by simp
    by_cases hs : S.length = 1
    · left
      obtain ⟨t, rfl⟩ := List.length_eq_one_iff.mp hs
      have ht := h1 t (by simp)
      have hp : pL t = row := by rw [h2]; simp
      refine ⟨t, ht, hp, ?_⟩
      have lt := ht.len
      rw [hp] at lt
      have c : t.length ≤ 100000 := by omega
      have e2 : VU as row [t] none none none none = V__law_unspell (arities_here := fr (encA as)) (row := fr (encA row)) (parts := ol [.list (t.map encN)]) := rfl
      rw [e2] at e
      generalize row.reverse.map dN = RR at *
      generalize encA row = RW at *
      simp [M__law_unspell, b__law_unspell, q_mulAI, q_mulAL, a_wb, q_divW, Function.comp_def, q_starI, q_starIT, a_wp, a_fz, a_fz0, a_fz1, a_ext, a_ins, a_insA, a_pop, a_parN, a_evO0, a_evO1, a_setO0, a_setO1, a_ix2, a_setII, a_zN, a_zC, a_lcO, d_oo, pEq_int, pNe_int, pIxL, pIxT, atI_nat, atI_0, atI_1, atI_2, atI_3, atI_m1, cutLo, cutHi, cutLo1, cutHi1, a_seq, a_ifS, a_B, a_op, a_ov, a_ev0, a_evv, a_evs, a_C, a_V, a_M, a_set, a_setI, a_app, a_ret, a_ex, a_skip, a_no, a_not, a_andT, a_orT, a_and, a_or, a_notV, a_if, a_par, a_call, a_forS, a_sq, a_r1, a_r2, a_en, a_zp, a_asT, a_chI, a_yes, a_lc, a_fn, okA, f_fr, bkA, rsvs, rsv, dvs, on1, on2, d_fr, d_ol, rsO, ndS, sl, putB, asT, setAll, ofO, Dy.ints1, Dy.ints2, nE, wipeE, unw, frO, q_addI, q_addL, q_addT, q_addS, q_sub, q_div, q_mod, q_pow, q_neg, q_cm, pIs, pIsn, q_isN, q_isI, q_isS, q_isT, q_isL, q_isB, q_lenL, q_lenT, pTup, pLst, q_tupL, q_tupT, q_lstL, q_lstT, q_revL, q_slL, q_slT, q_shL, q_shT, q_sqL, q_sqT, q_intI, q_max2, q_min2, q_aII, q_aBI, q_aTI, q_aTT, q_aLL, q_aTL, q_aIT, er]
      rw [e]
      simp [q_mulAI, q_mulAL, a_wb, q_divW, Function.comp_def, q_starI, q_starIT, a_wp, a_fz, a_fz0, a_fz1, a_ext, a_ins, a_insA, a_pop, a_parN, a_evO0, a_evO1, a_setO0, a_setO1, a_ix2, a_setII, a_zN, a_zC, a_lcO, d_oo, pEq_int, pNe_int, pIxL, pIxT, atI_nat, atI_0, atI_1, atI_2, atI_3, atI_m1, cutLo, cutHi, cutLo1, cutHi1, a_seq, a_ifS, a_B, a_op, a_ov, a_ev0, a_evv, a_evs, a_C, a_V, a_M, a_set, a_setI, a_app, a_ret, a_ex, a_skip, a_no, a_not, a_andT, a_orT, a_and, a_or, a_notV, a_if, a_par, a_call, a_forS, a_sq, a_r1, a_r2, a_en, a_zp, a_asT, a_chI, a_yes, a_lc, a_fn, okA, f_fr, bkA, rsvs, rsv, dvs, on1, on2, d_fr, d_ol, rsO, ndS, sl, putB, asT, setAll, ofO, Dy.ints1, Dy.ints2, nE, wipeE, unw, frO, q_addI, q_addL, q_addT, q_addS, q_sub, q_div, q_mod, q_pow, q_neg, q_cm, pIs, pIsn, q_isN, q_isI, q_isS, q_isT, q_isL, q_isB, q_lenL, q_lenT, pTup, pLst, q_tupL, q_tupT, q_lstL, q_lstT, q_revL, q_slL, q_slT, q_shL, q_shT, q_sqL, q_sqT, q_intI, q_max2, q_min2, q_aII, q_aBI, q_aTI, q_aTT, q_aLL, q_aTL, q_aIT, c]
    · right
      refine ⟨.inl ⟨S.reverse, hr, h2, by rw [List.length_reverse]; exact hs⟩, ?_⟩
      have e2 : VU as row S none none none none = V__law_unspell (arities_here := fr (encA as)) (row := fr (encA row)) (parts := ol (enc5 S)) := rfl
      rw [e2] at e
      have c : ¬ ((S.length : Int) = 1) := by omega
      generalize row.reverse.map dN = RR at *
      generalize encA row = RW at *
      generalize enc5 S = SS at *
      simp [M__law_unspell, b__law_unspell, q_mulAI, q_mulAL, a_wb, q_divW, Function.comp_def, q_starI, q_starIT, a_wp, a_fz, a_fz0, a_fz1, a_ext, a_ins, a_insA, a_pop, a_parN, a_evO0, a_evO1, a_setO0, a_setO1, a_ix2, a_setII, a_zN, a_zC, a_lcO, d_oo, pEq_int, pNe_int, pIxL, pIxT, atI_nat, atI_0, atI_1, atI_2, atI_3, atI_m1, cutLo, cutHi, cutLo1, cutHi1, a_seq, a_ifS, a_B, a_op, a_ov, a_ev0, a_evv, a_evs, a_C, a_V, a_M, a_set, a_setI, a_app, a_ret, a_ex, a_skip, a_no, a_not, a_andT, a_orT, a_and, a_or, a_notV, a_if, a_par, a_call, a_forS, a_sq, a_r1, a_r2, a_en, a_zp, a_asT, a_chI, a_yes, a_lc, a_fn, okA, f_fr, bkA, rsvs, rsv, dvs, on1, on2, d_fr, d_ol, rsO, ndS, sl, putB, asT, setAll, ofO, Dy.ints1, Dy.ints2, nE, wipeE, unw, frO, q_addI, q_addL, q_addT, q_addS, q_sub, q_div, q_mod, q_pow, q_neg, q_cm, pIs, pIsn, q_isN, q_isI, q_isS, q_isT, q_isL, q_isB, q_lenL, q_lenT, pTup, pLst, q_tupL, q_tupT, q_lstL, q_lstT, q_revL, q_slL, q_slT, q_shL, q_shT, q_sqL, q_sqT, q_intI, q_max2, q_min2, q_aII, q_aBI, q_aTI, q_aTT, q_aLL, q_aTL, q_aIT, er]
      rw [e]
      simp [q_mulAI, q_mulAL, a_wb, q_divW, Function.comp_def, q_starI, q_starIT, a_wp, a_fz, a_fz0, a_fz1, a_ext, a_ins, a_insA, a_pop, a_parN, a_evO0, a_evO1, a_setO0, a_setO1, a_ix2, a_setII, a_zN, a_zC, a_lcO, d_oo, pEq_int, pNe_int, pIxL, pIxT, atI_nat, atI_0, atI_1, atI_2, atI_3, atI_m1, cutLo, cutHi, cutLo1, cutHi1, a_seq, a_ifS, a_B, a_op, a_ov, a_ev0, a_evv, a_evs, a_C, a_V, a_M, a_set, a_setI, a_app, a_ret, a_ex, a_skip, a_no, a_not, a_andT, a_orT, a_and, a_or, a_notV, a_if, a_par, a_call, a_forS, a_sq, a_r1, a_r2, a_en, a_zp, a_asT, a_chI, a_yes, a_lc, a_fn, okA, f_fr, bkA, rsvs, rsv, dvs, on1, on2, d_fr, d_ol, rsO, ndS, sl, putB, asT, setAll, ofO, Dy.ints1, Dy.ints2, nE, wipeE, unw, frO, q_addI, q_addL, q_addT, q_addS, q_sub, q_div, q_mod, q_pow, q_neg, q_cm, pIs, pIsn, q_isN, q_isI, q_isS, q_isT, q_isL, q_isB, q_lenL, q_lenT, pTup, pLst, q_tupL, q_tupT, q_lstL, q_lstT, q_revL, q_slL, q_slT, q_shL, q_shT, q_sqL, q_sqT, q_intI, q_max2, q_min2, q_aII, q_aBI, q_aTI, q_aTT, q_aLL, q_aTL, q_aIT, lS, hs, c]
  · right
    refine ⟨hb, ?_⟩
    have e2 : VU as row [] none none none none = V__law_unspell (arities_here := fr (encA as)) (row := fr (encA row)) (parts := ol []) := rfl
    rw [e2] at e
    generalize row.reverse.map dN = RR at *
    generalize encA row = RW at *
    simp [M__law_unspell, b__law_unspell, q_mulAI, q_mulAL, a_wb, q_divW, Function.comp_def, q_starI, q_starIT, a_wp, a_fz, a_fz0, a_fz1, a_ext, a_ins, a_insA, a_pop, a_parN, a_evO0, a_evO1, a_setO0, a_setO1, a_ix2, a_setII, a_zN, a_zC, a_lcO, d_oo, pEq_int, pNe_int, pIxL, pIxT, atI_nat, atI_0, atI_1, atI_2, atI_3, atI_m1, cutLo, cutHi, cutLo1, cutHi1, a_seq, a_ifS, a_B, a_op, a_ov, a_ev0, a_evv, a_evs, a_C, a_V, a_M, a_set, a_setI, a_app, a_ret, a_ex, a_skip, a_no, a_not, a_andT, a_orT, a_and, a_or, a_notV, a_if, a_par, a_call, a_forS, a_sq, a_r1, a_r2, a_en, a_zp, a_asT, a_chI, a_yes, a_lc, a_fn, okA, f_fr, bkA, rsvs, rsv, dvs, on1, on2, d_fr, d_ol, rsO, ndS, sl, putB, asT, setAll, ofO, Dy.ints1, Dy.ints2, nE, wipeE, unw, frO, q_addI, q_addL, q_addT, q_addS, q_sub, q_div, q_mod, q_pow, q_neg, q_cm, pIs, pIsn, q_isN, q_isI, q_isS, q_isT, q_isL, q_isB, q_lenL, q_lenT, pTup, pLst, q_tupL, q_tupT, q_lstL, q_lstT, q_revL, q_slL, q_slT, q_shL, q_shT, q_sqL, q_sqT, q_intI, q_max2, q_min2, q_aII, q_aBI, q_aTI, q_aTT, q_aLL, q_aTL, q_aIT, er]
    rw [e]
    simp [q_mulAI, q_mulAL, a_wb, q_divW, Function.comp_def, q_starI, q_starIT, a_wp, a_fz, a_fz0, a_fz1, a_ext, a_ins, a_insA, a_pop, a_parN, a_evO0, a_evO1, a_setO0, a_setO1, a_ix2, a_setII, a_zN, a_zC, a_lcO, d_oo, pEq_int, pNe_int, pIxL, pIxT, atI_nat, atI_0, atI_1, atI_2, atI_3, atI_m1, cutLo, cutHi, cutLo1, cutHi1, a_seq, a_ifS, a_B, a_op, a_ov, a_ev0, a_evv, a_evs, a_C, a_V, a_M, a_set, a_setI, a_app, a_ret, a_ex, a_skip, a_no, a_not, a_andT, a_orT, a_and, a_or, a_notV, a_if, a_par, a_call, a_forS, a_sq, a_r1, a_r2, a_en, a_zp, a_asT, a_chI, a_yes, a_lc, a_fn, okA, f_fr, bkA, rsvs, rsv, dvs, on1, on2, d_fr, d_ol, rsO, ndS, sl, putB, asT, setAll, ofO, Dy.ints1, Dy.ints2, nE, wipeE, unw, frO, q_addI, q_addL, q_addT, q_addS, q_sub, q_div, q_mod, q_pow, q_neg, q_cm, pIs, pIsn, q_isN, q_isI, q_isS, q_isT, q_isL, q_isB, q_lenL, q_lenT, pTup, pLst, q_tupL, q_tupT, q_lstL, q_lstT, q_revL, q_slL, q_slT, q_shL, q_shT, q_sqL, q_sqT, q_intI, q_max2, q_min2, q_aII, q_aBI, q_aTI, q_aTT, q_aLL, q_aTL, q_aIT]
  · exact hz.elim
end Q
namespace Q
open PySem Dy
open L2 (atI ixN)
def cntR (t : List Nd) : Nat := (alg amF 0 t).getD (t.length - 1) 0
theorem many_ok {as : List Nat} {t : List Nd} (ha : ArOk as) (ht : TrOk as t) : M__law_many_2 [.fr (encT t)] = .ok (.fr (dN (cntR t)), [.fr (encT t)]) := by
  have hl := ht.len
  have t0 := List.length_pos_iff.mpr ht.ne
  have e := for_st (t := .nm 2) (body := L1__law_many_2) encN (fun acc : List Nat => V__law_many_2 (written_here := fr (encT t)) (found := ol (acc.map dN))) (alg1 amF 0) t [] rfl rfl (fun pre n post e => by
    have hn := ht.wf pre.length n (get_split e)
    have n2 := hn.le2 ha
    have hpl : pre.length < t.length := lt_of_get (get_split e)
    show (asT _ _ (V__law_many_2 (written_here := fr (encT t)) (found := ol ((alg amF 0 pre).map dN))) >>= _) = Res.ok (Fl.nx, V__law_many_2 (written_here := fr (encT t)) (found := ol ((alg1 amF 0 (alg amF 0 pre) n).map dN)))
    have al := alg_len amF 0 pre
    generalize alg amF 0 pre = acc at *
    have eg : alg1 amF 0 acc n = acc ++ [1 + (n.2.map (acc.getD · 0)).sum] := rfl
    rw [eg]
    obtain ⟨g, hg⟩ : ∃ g : Nat → Nat, g = fun p => acc.getD p 0 := ⟨_, rfl⟩
    have hat : ∀ p ∈ n.2, acc[p]? = some (g p) := fun p hp => by rw [hg]; exact getD_mem (by have := hn.2 p hp; omega)
    rw [← hg]
    clear hg
    have c2 : acc.length < 1000000 := by omega
    have el : ∀ e : Dy.Env, e = V__law_many_2 (written_here := fr (encT t)) (found := ol (acc.map dN)) (one := fr (encN n)) → lcL [3] (.nm 3) fYes E1__law_many_2 (n.2.map dN) e [] = .ok ((n.2.map g).map dN, e) := fun e he => by
      rw [lc_tm dN (fun p => dN (g p)) n.2 rfl (fun p hp => ?_) (by omega)]
      · simp
      · subst he; simp [E1__law_many_2, q_mulAI, q_mulAL, a_wb, q_divW, Function.comp_def, q_starI, q_starIT, a_wp, a_fz, a_fz0, a_fz1, a_ext, a_ins, a_insA, a_pop, a_parN, a_evO0, a_evO1, a_setO0, a_setO1, a_ix2, a_setII, a_zN, a_zC, a_lcO, d_oo, pEq_int, pNe_int, pIxL, pIxT, atI_nat, atI_0, atI_1, atI_2, atI_3, atI_m1, cutLo, cutHi, cutLo1, cutHi1, a_seq, a_ifS, a_B, a_op, a_ov, a_ev0, a_evv, a_evs, a_C, a_V, a_M, a_set, a_setI, a_app, a_ret, a_ex, a_skip, a_no, a_not, a_andT, a_orT, a_and, a_or, a_notV, a_if, a_par, a_call, a_forS, a_sq, a_r1, a_r2, a_en, a_zp, a_asT, a_chI, a_yes, a_lc, a_fn, okA, f_fr, bkA, rsvs, rsv, dvs, on1, on2, d_fr, d_ol, rsO, ndS, sl, putB, asT, setAll, ofO, Dy.ints1, Dy.ints2, nE, wipeE, unw, frO, q_addI, q_addL, q_addT, q_addS, q_sub, q_div, q_mod, q_pow, q_neg, q_cm, pIs, pIsn, q_isN, q_isI, q_isS, q_isT, q_isL, q_isB, q_lenL, q_lenT, pTup, pLst, q_tupL, q_tupT, q_lstL, q_lstT, q_revL, q_slL, q_slT, q_shL, q_shT, q_sqL, q_sqT, q_intI, q_max2, q_min2, q_aII, q_aBI, q_aTI, q_aTT, q_aLL, q_aTL, q_aIT, hat p hp]
    have el := el _ rfl
    have es := pSum_N (n.2.map g)
    generalize n.2.map g = ys at *
    have eS : (1 : Int) + (ys.sum : Nat) = ((1 + ys.sum : Nat) : Int) := by omega
    rw [List.map_append, List.map_singleton]
    show _ = Res.ok (Fl.nx, V__law_many_2 (written_here := fr (encT t)) (found := ol (acc.map dN ++ [PyData.int ((1 + ys.sum : Nat) : Int)])))
    rw [← eS]
    generalize ys.map dN = L at *
    generalize ys.sum = S at *
    generalize encT t = TT at *
    simp [L1__law_many_2, q_mulAI, q_mulAL, a_wb, q_divW, Function.comp_def, q_starI, q_starIT, a_wp, a_fz, a_fz0, a_fz1, a_ext, a_ins, a_insA, a_pop, a_parN, a_evO0, a_evO1, a_setO0, a_setO1, a_ix2, a_setII, a_zN, a_zC, a_lcO, d_oo, pEq_int, pNe_int, pIxL, pIxT, atI_nat, atI_0, atI_1, atI_2, atI_3, atI_m1, cutLo, cutHi, cutLo1, cutHi1, a_seq, a_ifS, a_B, a_op, a_ov, a_ev0, a_evv, a_evs, a_C, a_V, a_M, a_set, a_setI, a_app, a_ret, a_ex, a_skip, a_no, a_not, a_andT, a_orT, a_and, a_or, a_notV, a_if, a_par, a_call, a_forS, a_sq, a_r1, a_r2, a_en, a_zp, a_asT, a_chI, a_yes, a_lc, a_fn, okA, f_fr, bkA, rsvs, rsv, dvs, on1, on2, d_fr, d_ol, rsO, ndS, sl, putB, asT, setAll, ofO, Dy.ints1, Dy.ints2, nE, wipeE, unw, frO, q_addI, q_addL, q_addT, q_addS, q_sub, q_div, q_mod, q_pow, q_neg, q_cm, pIs, pIsn, q_isN, q_isI, q_isS, q_isT, q_isL, q_isB, q_lenL, q_lenT, pTup, pLst, q_tupL, q_tupT, q_lstL, q_lstT, q_revL, q_slL, q_slT, q_shL, q_shT, q_sqL, q_sqT, q_intI, q_max2, q_min2, q_aII, q_aBI, q_aTI, q_aTT, q_aLL, q_aTL, q_aIT, el, es, c2])
  have e' : (t.foldl (alg1 amF 0) []) = alg amF 0 t := rfl
  rw [e'] at e
  dsimp only [List.map] at e
  have e3 : ((alg amF 0 t).map dN).getLast? = some (dN (cntR t)) := by
    rw [List.getLast?_map, List.getLast?_eq_getElem?, alg_len, getD_mem (d := 0) (by rw [alg_len]; omega)]
    rfl
  generalize (alg amF 0 t).map dN = A at *
  generalize cntR t = C at *
  simp [M__law_many_2, b__law_many_2, q_mulAI, q_mulAL, a_wb, q_divW, Function.comp_def, q_starI, q_starIT, a_wp, a_fz, a_fz0, a_fz1, a_ext, a_ins, a_insA, a_pop, a_parN, a_evO0, a_evO1, a_setO0, a_setO1, a_ix2, a_setII, a_zN, a_zC, a_lcO, d_oo, pEq_int, pNe_int, pIxL, pIxT, atI_nat, atI_0, atI_1, atI_2, atI_3, atI_m1, cutLo, cutHi, cutLo1, cutHi1, a_seq, a_ifS, a_B, a_op, a_ov, a_ev0, a_evv, a_evs, a_C, a_V, a_M, a_set, a_setI, a_app, a_ret, a_ex, a_skip, a_no, a_not, a_andT, a_orT, a_and, a_or, a_notV, a_if, a_par, a_call, a_forS, a_sq, a_r1, a_r2, a_en, a_zp, a_asT, a_chI, a_yes, a_lc, a_fn, okA, f_fr, bkA, rsvs, rsv, dvs, on1, on2, d_fr, d_ol, rsO, ndS, sl, putB, asT, setAll, ofO, Dy.ints1, Dy.ints2, nE, wipeE, unw, frO, q_addI, q_addL, q_addT, q_addS, q_sub, q_div, q_mod, q_pow, q_neg, q_cm, pIs, pIsn, q_isN, q_isI, q_isS, q_isT, q_isL, q_isB, q_lenL, q_lenT, pTup, pLst, q_tupL, q_tupT, q_lstL, q_lstT, q_revL, q_slL, q_slT, q_shL, q_shT, q_sqL, q_sqT, q_intI, q_max2, q_min2, q_aII, q_aBI, q_aTI, q_aTT, q_aLL, q_aTL, q_aIT, e, e3]
theorem spell_s {n : Nat} {args : List O} : M__law_spell (n + 1) args = fnM 2 4 [] (b__law_spell (M__law_spell n)) args := rfl
theorem spellR_ok {as : List Nat} {t : List Nd} (ha : ArOk as) (ht : TrOk as t) : ∀ (n k : Nat), k < n → k < t.length → (pK t k).length ≤ 1000 → M__law_spell n [.fr (encT t), .fr (dN k)] = .ok (.ol ((pK t k).map dN), [.fr (encT t), .fr (dN k)]) := by
  intro n
  induction n with
  | zero => intro k hk; omega
  | succ n ih =>
    intro k hk hl hb
    obtain ⟨nd, hn, _⟩ := get_of_lt hl
    have hnd := ht.wf k nd hn
    have n2 := hnd.le2 ha
    have hp := pK_at ht.wf hn
    have hE : (t.map encN)[k]? = some (encN nd) := by rw [List.getElem?_map, hn]; rfl
    have sub : ∀ pre post : List Nat, nd.2 = pre ++ post → ((pre.map (pK t)).flatten).length + ((post.map (pK t)).flatten).length + 1 ≤ 1000 := fun pre post e => by
      rw [hp, e, List.map_append, List.flatten_append, List.length_cons, List.length_append] at hb
      omega
    have e := for_st (t := .nm 3) (body := L1__law_spell (M__law_spell n)) dN (fun acc : List Nat => V__law_spell (written_here := fr (encT t)) (at_ := fr (dN k)) (found := ol (acc.map dN))) (fun acc p => acc ++ pK t p) nd.2 [nd.1] rfl rfl (fun pre p post e => by
      have hpk := hnd.2 p (by rw [e]; simp)
      have s := sub pre (p :: post) e
      rw [List.map_cons, List.flatten_cons, List.length_append] at s
      have e1 := ih p (by omega) (by omega) (by omega)
      have ef : pre.foldl (fun acc p => acc ++ pK t p) [nd.1] = nd.1 :: (pre.map (pK t)).flatten := by
        rw [foldl_flat (pK t) pre [nd.1]]; simp [List.flatMap]
      rw [ef, List.map_append]
      have c : (nd.1 :: (pre.map (pK t)).flatten).length + (pK t p).length ≤ 1000000 := by rw [List.length_cons]; omega
      generalize nd.1 :: (pre.map (pK t)).flatten = ACC at *
      generalize pK t p = Y at *
      generalize encT t = TT at *
      have c' : ACC.length + Y.length ≤ 1000000 := c
      simp [L1__law_spell, q_mulAI, q_mulAL, a_wb, q_divW, Function.comp_def, q_starI, q_starIT, a_wp, a_fz, a_fz0, a_fz1, a_ext, a_ins, a_insA, a_pop, a_parN, a_evO0, a_evO1, a_setO0, a_setO1, a_ix2, a_setII, a_zN, a_zC, a_lcO, d_oo, pEq_int, pNe_int, pIxL, pIxT, atI_nat, atI_0, atI_1, atI_2, atI_3, atI_m1, cutLo, cutHi, cutLo1, cutHi1, a_seq, a_ifS, a_B, a_op, a_ov, a_ev0, a_evv, a_evs, a_C, a_V, a_M, a_set, a_setI, a_app, a_ret, a_ex, a_skip, a_no, a_not, a_andT, a_orT, a_and, a_or, a_notV, a_if, a_par, a_call, a_forS, a_sq, a_r1, a_r2, a_en, a_zp, a_asT, a_chI, a_yes, a_lc, a_fn, okA, f_fr, bkA, rsvs, rsv, dvs, on1, on2, d_fr, d_ol, rsO, ndS, sl, putB, asT, setAll, ofO, Dy.ints1, Dy.ints2, nE, wipeE, unw, frO, q_addI, q_addL, q_addT, q_addS, q_sub, q_div, q_mod, q_pow, q_neg, q_cm, pIs, pIsn, q_isN, q_isI, q_isS, q_isT, q_isL, q_isB, q_lenL, q_lenT, pTup, pLst, q_tupL, q_tupT, q_lstL, q_lstT, q_revL, q_slL, q_slT, q_shL, q_shT, q_sqL, q_sqT, q_intI, q_max2, q_min2, q_aII, q_aBI, q_aTI, q_aTT, q_aLL, q_aTL, q_aIT, e1, c'])
    have ef : nd.2.foldl (fun acc p => acc ++ pK t p) [nd.1] = pK t k := by
      rw [foldl_flat (pK t) nd.2 [nd.1], hp]; simp [List.flatMap]
    rw [ef] at e
    rw [spell_s]
    dsimp only [List.map] at e
    generalize pK t k = Y at *
    generalize M__law_spell n = MS at *
    simp [b__law_spell, q_mulAI, q_mulAL, a_wb, q_divW, Function.comp_def, q_starI, q_starIT, a_wp, a_fz, a_fz0, a_fz1, a_ext, a_ins, a_insA, a_pop, a_parN, a_evO0, a_evO1, a_setO0, a_setO1, a_ix2, a_setII, a_zN, a_zC, a_lcO, d_oo, pEq_int, pNe_int, pIxL, pIxT, atI_nat, atI_0, atI_1, atI_2, atI_3, atI_m1, cutLo, cutHi, cutLo1, cutHi1, a_seq, a_ifS, a_B, a_op, a_ov, a_ev0, a_evv, a_evs, a_C, a_V, a_M, a_set, a_setI, a_app, a_ret, a_ex, a_skip, a_no, a_not, a_andT, a_orT, a_and, a_or, a_notV, a_if, a_par, a_call, a_forS, a_sq, a_r1, a_r2, a_en, a_zp, a_asT, a_chI, a_yes, a_lc, a_fn, okA, f_fr, bkA, rsvs, rsv, dvs, on1, on2, d_fr, d_ol, rsO, ndS, sl, putB, asT, setAll, ofO, Dy.ints1, Dy.ints2, nE, wipeE, unw, frO, q_addI, q_addL, q_addT, q_addS, q_sub, q_div, q_mod, q_pow, q_neg, q_cm, pIs, pIsn, q_isN, q_isI, q_isS, q_isT, q_isL, q_isB, q_lenL, q_lenT, pTup, pLst, q_tupL, q_tupT, q_lstL, q_lstT, q_revL, q_slL, q_slT, q_shL, q_shT, q_sqL, q_sqT, q_intI, q_max2, q_min2, q_aII, q_aBI, q_aTI, q_aTT, q_aLL, q_aTL, q_aIT, hE, e]
theorem fSaidT_er {n : Nat} {L LT : List Str} {caps ws : List Nat} {f : EF} {h : Exn → SF} {env env' e' : Dy.Env} {y : Exn} {o : O} (he : wipeE (frzE env caps) ws = env') (ha : allF env' = true) (hf : f env' = .er y) (hy : (y.cls ∈ L ∧ y.args = []) ∨ (y.cls ∈ LT ∧ is2 y.args = true)) (hh : h y (List.replicate n none) = .ok (.rt o, e')) :
    fSaidT n L LT caps ws f h env = .ok (.fr o.data, frzE env caps) := by
  subst he
  unfold fSaidT
  rw [if_pos ha, hf]
  simp only
  rw [if_pos hy, hh]
theorem fSaidT_ok {n : Nat} {L LT : List Str} {caps ws : List Nat} {f : EF} {h : Exn → SF} {env env' : Dy.Env} {r : O × Dy.Env} {x : Str} (he : wipeE (frzE env caps) ws = env') (ha : allF env' = true) (hf : f env' = .ok r) (hr : pReprD r.1.data = some (.fr (.str x))) :
    fSaidT n L LT caps ws f h env = .ok (.fr (.str x), frzE env caps) := by
  subst he
  unfold fSaidT
  rw [if_pos ha, hf]
  simp only
  rw [hr]
theorem su_un : b__law_said_2 ⟨"Unspelled", []⟩ (List.replicate 3 none) = .ok (.rt (.fr (.str "! unspelled")), [none, none, some (.fr (.str "unspelled"))]) := by kernel_rfl
theorem kd_many : fKind 3 (b__law_kind "TooMany") (List.replicate 3 none) = .ok (.fr (.str "many"), List.replicate 3 none) := by kernel_rfl
abbrev mnT (m l : Int) : PyData := .tuple [.int m, .int l]
theorem mn_rk {m l : Nat} (h : m < 10 ^ 30) (k : l < 10 ^ 30) : Rk 1 3000 (mnT m l) :=
  (Rk.tup (n := 0) (w := 1100) (ds := [.int (m : Int), .int (l : Int)]) (fun d hd => by
    simp at hd
    rcases hd with rfl | rfl
    · exact Rk.nat (Nat.lt_trans h (by decide))
    · exact Rk.nat (Nat.lt_trans k (by decide)))).mono (by decide) (by simp)
theorem mn_repr {m l : Nat} (h : m < 10 ^ 30) (k : l < 10 ^ 30) : pRepr (mnT m l) = some (.fr (.str (mnT m l).shown)) := (mn_rk h k).repr (by decide) (by decide)
theorem mn_len {m l : Nat} (h : m < 10 ^ 30) (k : l < 10 ^ 30) : (mnT m l).shown.length ≤ 3000 := Nat.le_trans (shown_len _ (mn_rk h k).lay) (mn_rk h k).wt
theorem sapp (a b c : Str) : a ++ b ++ c = a ++ (b ++ c) := by
  have : (a ++ b ++ c).cps = (a ++ (b ++ c)).cps := by simp [PySem.Str.cps_append]
  cases h1 : (a ++ b ++ c)
  cases h2 : (a ++ (b ++ c))
  rw [h1, h2] at this
  simp at this
  rw [this]
theorem smany : ("! " : Str) ++ ("many" : Str) ++ (" " : Str) = ("! many " : Str) := by decide +kernel
theorem su_many {m l : Nat} (h : m < 10 ^ 30) (k : l < 10 ^ 30) : b__law_said_2 ⟨"TooMany", [.int (m : Int), .int (l : Int)]⟩ (List.replicate 3 none) = .ok (.rt (.fr (.str (("! many " : Str) ++ (mnT m l).shown))), [none, none, some (.fr (.str "many"))]) := by
  have hr := mn_repr h k
  have hs : ("! " : Str) ++ ("many" : Str) ++ ((" " : Str) ++ (mnT m l).shown) = ("! many " : Str) ++ (mnT m l).shown := by rw [← sapp, smany]
  rw [← hs]
  have hl := mn_len h k
  generalize (mnT (m : Int) (l : Int)).shown = SH at *
  have hk := kd_many
  unfold b__law_said_2
  generalize fKind 3 (b__law_kind "TooMany") = KK at *
  generalize (m : Int) = mi at *
  generalize (l : Int) = li at *
  have hk' : KK [none, none, none] = .ok (.fr (.str "many"), [none, none, none]) := hk
  have l1 : ("! " : Str).length + ("many" : Str).length ≤ 1000000 := by decide +kernel
  have l0 : (" " : Str).length = 1 := by decide +kernel
  have l2 : (" " : Str).length + SH.length ≤ 1000000 := by rw [l0]; omega
  have l3 : (("! " : Str) ++ ("many" : Str)).length + ((" " : Str) ++ SH).length ≤ 1000000 := by
    have h1 : (("! " : Str) ++ ("many" : Str)).length = 6 := by decide +kernel
    have h2 : (" " : Str).length = 1 := by decide +kernel
    rw [str_app_len (" " : Str) SH]; omega
  simp [q_mulAI, q_mulAL, a_wb, q_divW, Function.comp_def, q_starI, q_starIT, a_wp, a_fz, a_fz0, a_fz1, a_ext, a_ins, a_insA, a_pop, a_parN, a_evO0, a_evO1, a_setO0, a_setO1, a_ix2, a_setII, a_zN, a_zC, a_lcO, d_oo, pEq_int, pNe_int, pIxL, pIxT, atI_nat, atI_0, atI_1, atI_2, atI_3, atI_m1, cutLo, cutHi, cutLo1, cutHi1, a_seq, a_ifS, a_B, a_op, a_ov, a_ev0, a_evv, a_evs, a_C, a_V, a_M, a_set, a_setI, a_app, a_ret, a_ex, a_skip, a_no, a_not, a_andT, a_orT, a_and, a_or, a_notV, a_if, a_par, a_call, a_forS, a_sq, a_r1, a_r2, a_en, a_zp, a_asT, a_chI, a_yes, a_lc, a_fn, okA, f_fr, bkA, rsvs, rsv, dvs, on1, on2, d_fr, d_ol, rsO, ndS, sl, putB, asT, setAll, ofO, Dy.ints1, Dy.ints2, nE, wipeE, unw, frO, q_addI, q_addL, q_addT, q_addS, q_sub, q_div, q_mod, q_pow, q_neg, q_cm, pIs, pIsn, q_isN, q_isI, q_isS, q_isT, q_isL, q_isB, q_lenL, q_lenT, pTup, pLst, q_tupL, q_tupT, q_lstL, q_lstT, q_revL, q_slL, q_slT, q_shL, q_shT, q_sqL, q_sqT, q_intI, q_max2, q_min2, q_aII, q_aBI, q_aTI, q_aTT, q_aLL, q_aTL, q_aIT, hk', fTm, hr, pEq_str, l1, l2, l3]
theorem need_both5 {as : List Nat} {t : List Nd} (ha : ArOk as) (ht : TrOk as t) : M_need_both_2 [.fr (encA as), .fr (encT t)] = .ok (.fr .none, [.fr (encA as), .fr (encT t)]) := by
  simp [M_need_both_2, b_need_both_2, M_need_tree_2, b_need_tree_2, q_mulAI, q_mulAL, a_wb, q_divW, Function.comp_def, q_starI, q_starIT, a_wp, a_fz, a_fz0, a_fz1, a_ext, a_ins, a_insA, a_pop, a_parN, a_evO0, a_evO1, a_setO0, a_setO1, a_ix2, a_setII, a_zN, a_zC, a_lcO, d_oo, pEq_int, pNe_int, pIxL, pIxT, atI_nat, atI_0, atI_1, atI_2, atI_3, atI_m1, cutLo, cutHi, cutLo1, cutHi1, a_seq, a_ifS, a_B, a_op, a_ov, a_ev0, a_evv, a_evs, a_C, a_V, a_M, a_set, a_setI, a_app, a_ret, a_ex, a_skip, a_no, a_not, a_andT, a_orT, a_and, a_or, a_notV, a_if, a_par, a_call, a_forS, a_sq, a_r1, a_r2, a_en, a_zp, a_asT, a_chI, a_yes, a_lc, a_fn, okA, f_fr, bkA, rsvs, rsv, dvs, on1, on2, d_fr, d_ol, rsO, ndS, sl, putB, asT, setAll, ofO, Dy.ints1, Dy.ints2, nE, wipeE, unw, frO, q_addI, q_addL, q_addT, q_addS, q_sub, q_div, q_mod, q_pow, q_neg, q_cm, pIs, pIsn, q_isN, q_isI, q_isS, q_isT, q_isL, q_isB, q_lenL, q_lenT, pTup, pLst, q_tupL, q_tupT, q_lstL, q_lstT, q_revL, q_slL, q_slT, q_shL, q_shT, q_sqL, q_sqT, q_intI, q_max2, q_min2, q_aII, q_aBI, q_aTI, q_aTT, q_aLL, q_aTL, q_aIT, need2 ha, written_ok ha ht]
theorem cnt_len {as : List Nat} {t : List Nd} (ht : TrOk as t) : (pK t (t.length - 1)).length = cntR t := by
  have t0 := List.length_pos_iff.mpr ht.ne
  exact pK_len ht.wf _ _ (Nat.le_refl _) (by omega)
theorem amt_last {as : List Nat} {t : List Nd} (ht : TrOk as t) : ((alg amF 0 t).map dN).getLast? = some (dN (cntR t)) := by
  have t0 := List.length_pos_iff.mpr ht.ne
  rw [List.getLast?_map, List.getLast?_eq_getElem?, alg_len, getD_mem (d := 0) (by rw [alg_len]; omega)]
  rfl
theorem spelled5 {as : List Nat} {t : List Nd} (ha : ArOk as) (ht : TrOk as t) (hl : cntR t ≤ 200) : M_spelled_3 [.fr (encA as), .fr (encT t)] = .ok (.fr (encA (pK t (t.length - 1))), [.fr (encA as), .fr (encT t)]) := by
  have e1 := amounts_ok ha ht
  have e2 := spell_ok ha ht (by rw [cnt_len ht]; omega)
  have e3 := amt_last ht
  have nb := need_both5 ha ht
  generalize (alg amF 0 t).map dN = A at *
  generalize pK t (t.length - 1) = R at *
  generalize encT t = TT at *
  have c : ¬ (200 : Int) < cntR t := by omega
  have c' : ¬ 200 < cntR t := by omega
  generalize cntR t = C at *
  simp [M_spelled_3, b_spelled_3, q_mulAI, q_mulAL, a_wb, q_divW, Function.comp_def, q_starI, q_starIT, a_wp, a_fz, a_fz0, a_fz1, a_ext, a_ins, a_insA, a_pop, a_parN, a_evO0, a_evO1, a_setO0, a_setO1, a_ix2, a_setII, a_zN, a_zC, a_lcO, d_oo, pEq_int, pNe_int, pIxL, pIxT, atI_nat, atI_0, atI_1, atI_2, atI_3, atI_m1, cutLo, cutHi, cutLo1, cutHi1, a_seq, a_ifS, a_B, a_op, a_ov, a_ev0, a_evv, a_evs, a_C, a_V, a_M, a_set, a_setI, a_app, a_ret, a_ex, a_skip, a_no, a_not, a_andT, a_orT, a_and, a_or, a_notV, a_if, a_par, a_call, a_forS, a_sq, a_r1, a_r2, a_en, a_zp, a_asT, a_chI, a_yes, a_lc, a_fn, okA, f_fr, bkA, rsvs, rsv, dvs, on1, on2, d_fr, d_ol, rsO, ndS, sl, putB, asT, setAll, ofO, Dy.ints1, Dy.ints2, nE, wipeE, unw, frO, q_addI, q_addL, q_addT, q_addS, q_sub, q_div, q_mod, q_pow, q_neg, q_cm, pIs, pIsn, q_isN, q_isI, q_isS, q_isT, q_isL, q_isB, q_lenL, q_lenT, pTup, pLst, q_tupL, q_tupT, q_lstL, q_lstT, q_revL, q_slL, q_slT, q_shL, q_shT, q_sqL, q_sqT, q_intI, q_max2, q_min2, q_aII, q_aBI, q_aTI, q_aTT, q_aLL, q_aTL, q_aIT, nb, e1, e3, e2, c, c']
theorem a_raiseT (x : Str) (as : List AF) (env : Dy.Env) : fRaiseT x as env = evA as env >>= fun r => match dvs r.1 with
  | some [.int p, .int q] => if tmSmall p q = true then .er ⟨x, [.int p, .int q]⟩ else .no
  | _ => .no := rfl
theorem spelledN {as : List Nat} {t : List Nd} (ha : ArOk as) (ht : TrOk as t) (hl : 200 < cntR t) (hb : cntR t ≤ 1000000000) : M_spelled_3 [.fr (encA as), .fr (encT t)] = .er ⟨"TooMany", [.int (cntR t : Int), .int 200]⟩ := by
  have e1 := amounts_ok ha ht
  have e3 := amt_last ht
  have nb := need_both5 ha ht
  generalize (alg amF 0 t).map dN = A at *
  generalize encT t = TT at *
  have c : (200 : Int) < cntR t := by omega
  have z : tmSmall (cntR t) 200 = true := by unfold tmSmall; exact decide_eq_true ⟨by omega, by omega, by omega, by omega⟩
  generalize cntR t = C at *
  simp [M_spelled_3, b_spelled_3, q_mulAI, q_mulAL, a_wb, q_divW, Function.comp_def, q_starI, q_starIT, a_wp, a_fz, a_fz0, a_fz1, a_ext, a_ins, a_insA, a_pop, a_parN, a_evO0, a_evO1, a_setO0, a_setO1, a_ix2, a_setII, a_zN, a_zC, a_lcO, d_oo, pEq_int, pNe_int, pIxL, pIxT, atI_nat, atI_0, atI_1, atI_2, atI_3, atI_m1, cutLo, cutHi, cutLo1, cutHi1, a_seq, a_ifS, a_B, a_op, a_ov, a_ev0, a_evv, a_evs, a_C, a_V, a_M, a_set, a_setI, a_app, a_ret, a_ex, a_skip, a_no, a_not, a_andT, a_orT, a_and, a_or, a_notV, a_if, a_par, a_call, a_forS, a_sq, a_r1, a_r2, a_en, a_zp, a_asT, a_chI, a_yes, a_lc, a_fn, okA, f_fr, bkA, rsvs, rsv, dvs, on1, on2, d_fr, d_ol, rsO, ndS, sl, putB, asT, setAll, ofO, Dy.ints1, Dy.ints2, nE, wipeE, unw, frO, q_addI, q_addL, q_addT, q_addS, q_sub, q_div, q_mod, q_pow, q_neg, q_cm, pIs, pIsn, q_isN, q_isI, q_isS, q_isT, q_isL, q_isB, q_lenL, q_lenT, pTup, pLst, q_tupL, q_tupT, q_lstL, q_lstT, q_revL, q_slL, q_slT, q_shL, q_shT, q_sqL, q_sqT, q_intI, q_max2, q_min2, q_aII, q_aBI, q_aTI, q_aTT, q_aLL, q_aTL, q_aIT, nb, e1, e3, c, hl, a_raiseT, z]
theorem rkRow {row : List Nat} (hx : ∀ x ∈ row, x < 1000) (hl : row.length ≤ 1000) : Rk 1 1200000 (encA row) :=
  (Rk.tup (rkNs fun a h => by have := hx a h; omega)).mono (Nat.le_refl _) (by simp; omega)
theorem chD {d : PyData} {n w : Nat} (h : Rk n w d) (hn : n ≤ 64) (hw : w ≤ 16777216) : pReprD d = some (.fr (.str d.shown)) := reprD_of h hn hw
theorem eqvN : ∀ xs : List Nat, PyData.eqvAll (xs.map dN) (xs.map dN) = true
  | [] => rfl
  | x :: xs => by
    show (PyData.eqv (dN x) (dN x) && PyData.eqvAll (xs.map dN) (xs.map dN)) = true
    rw [eqvN xs]; simp [PyData.eqv]
theorem row_right {as row : List Nat} (ha : ArOk as) (hx : ∀ x ∈ row, x < as.length) (hl : row.length ≤ 200) : M__law_row_right [.fr (encA as), .fr (encA row)] = .ok (.fr (.bool true), [.fr (encA as), .fr (encA row)]) := by
  have al := ha.len
  have rk := rkRow (row := row) (fun x h => by have := hx x h; omega) (by omega)
  have er := rk.repr (by decide) (by decide)
  rcases unspell_ok ha hx (by omega) with ⟨t, ht, hp, e1⟩ | ⟨hb, e1⟩
  · have lt := ht.len
    rw [hp] at lt
    have tr := ht.tr (by omega)
    have rt := rkT ha tr.wf tr.len
    have et := rt.repr (by decide) (by decide)
    have etD := chD rt (by decide) (by decide)
    have eu := unspC ha ht (by rw [hp]; exact hx) (by omega)
    rw [hp] at eu
    have hk : pK t (t.length - 1) = row := by rw [pL_root tr.ne (as := as), hp]
    have es := spelled5 ha tr (by rw [← cnt_len tr, hk]; omega)
    rw [hk] at es
    have hsh := rk.shp (by decide)
    have eq : pEq (encA row) (encA row) = some (.fr (.bool true)) := by rw [pEq_T _ _ hsh hsh, eqvN]
    have hn : isN (encT t) = false := rfl
    have g1 : fSaidT 3 ["NoArities", "NoTree", "Unspelled"] ["TooMany"] [0, 1] [2, 3, 4] F1__law_row_right b__law_said_2 (V__law_row_right (arities_here := fr (encA as)) (row := fr (encA row)) (due := fr (encT t)) (kept := fr (.str (encA row).shown))) = .ok (.fr (.str (encT t).shown), V__law_row_right (arities_here := fr (encA as)) (row := fr (encA row)) (due := fr (encT t)) (kept := fr (.str (encA row).shown))) :=
      fSaidT_ok (env' := V__law_row_right (arities_here := fr (encA as)) (row := fr (encA row))) (r := (.fr (encT t), V__law_row_right (arities_here := fr (encA as)) (row := fr (encA row)))) rfl rfl (by
        generalize encT t = TT at *
        generalize encA row = RR at *
        simp [F1__law_row_right, q_mulAI, q_mulAL, a_wb, q_divW, Function.comp_def, q_starI, q_starIT, a_wp, a_fz, a_fz0, a_fz1, a_ext, a_ins, a_insA, a_pop, a_parN, a_evO0, a_evO1, a_setO0, a_setO1, a_ix2, a_setII, a_zN, a_zC, a_lcO, d_oo, pEq_int, pNe_int, pIxL, pIxT, atI_nat, atI_0, atI_1, atI_2, atI_3, atI_m1, cutLo, cutHi, cutLo1, cutHi1, a_seq, a_ifS, a_B, a_op, a_ov, a_ev0, a_evv, a_evs, a_C, a_V, a_M, a_set, a_setI, a_app, a_ret, a_ex, a_skip, a_no, a_not, a_andT, a_orT, a_and, a_or, a_notV, a_if, a_par, a_call, a_forS, a_sq, a_r1, a_r2, a_en, a_zp, a_asT, a_chI, a_yes, a_lc, a_fn, okA, f_fr, bkA, rsvs, rsv, dvs, on1, on2, d_fr, d_ol, rsO, ndS, sl, putB, asT, setAll, ofO, Dy.ints1, Dy.ints2, nE, wipeE, unw, frO, q_addI, q_addL, q_addT, q_addS, q_sub, q_div, q_mod, q_pow, q_neg, q_cm, pIs, pIsn, q_isN, q_isI, q_isS, q_isT, q_isL, q_isB, q_lenL, q_lenT, pTup, pLst, q_tupL, q_tupT, q_lstL, q_lstT, q_revL, q_slL, q_slT, q_shL, q_shT, q_sqL, q_sqT, q_intI, q_max2, q_min2, q_aII, q_aBI, q_aTI, q_aTT, q_aLL, q_aTL, q_aIT, eu]) etD
    refine fn2_10 (N := 3) (e := V__law_row_right (arities_here := fr (encA as)) (row := fr (encA row)) (told := fr (.str (encT t).shown)) (due := fr (encT t)) (kept := fr (.str (encA row).shown))) ?_
    unfold b__law_row_right
    generalize fSaidT 3 ["NoArities", "NoTree", "Unspelled"] ["TooMany"] [0, 1] [2, 3, 4] F1__law_row_right b__law_said_2 = SS at *
    generalize (encT t).shown = KT at *
    generalize (encA row).shown = KR at *
    generalize encT t = TT at *
    generalize encA row = RR at *
    simp [q_mulAI, q_mulAL, a_wb, q_divW, Function.comp_def, q_starI, q_starIT, a_wp, a_fz, a_fz0, a_fz1, a_ext, a_ins, a_insA, a_pop, a_parN, a_evO0, a_evO1, a_setO0, a_setO1, a_ix2, a_setII, a_zN, a_zC, a_lcO, d_oo, pEq_int, pNe_int, pIxL, pIxT, atI_nat, atI_0, atI_1, atI_2, atI_3, atI_m1, cutLo, cutHi, cutLo1, cutHi1, a_seq, a_ifS, a_B, a_op, a_ov, a_ev0, a_evv, a_evs, a_C, a_V, a_M, a_set, a_setI, a_app, a_ret, a_ex, a_skip, a_no, a_not, a_andT, a_orT, a_and, a_or, a_notV, a_if, a_par, a_call, a_forS, a_sq, a_r1, a_r2, a_en, a_zp, a_asT, a_chI, a_yes, a_lc, a_fn, okA, f_fr, bkA, rsvs, rsv, dvs, on1, on2, d_fr, d_ol, rsO, ndS, sl, putB, asT, setAll, ofO, Dy.ints1, Dy.ints2, nE, wipeE, unw, frO, q_addI, q_addL, q_addT, q_addS, q_sub, q_div, q_mod, q_pow, q_neg, q_cm, pIs, pIsn, q_isN, q_isI, q_isS, q_isT, q_isL, q_isB, q_lenL, q_lenT, pTup, pLst, q_tupL, q_tupT, q_lstL, q_lstT, q_revL, q_slL, q_slT, q_shL, q_shT, q_sqL, q_sqT, q_intI, q_max2, q_min2, q_aII, q_aBI, q_aTI, q_aTT, q_aLL, q_aTL, q_aIT, e1, er, g1, hn, et, pNe_str, es, eq]
  · have eu := unspN ha hx hl hb
    have g1 : fSaidT 3 ["NoArities", "NoTree", "Unspelled"] ["TooMany"] [0, 1] [2, 3, 4] F1__law_row_right b__law_said_2 (V__law_row_right (arities_here := fr (encA as)) (row := fr (encA row)) (due := fr .none) (kept := fr (.str (encA row).shown))) = .ok (.fr (.str "! unspelled"), V__law_row_right (arities_here := fr (encA as)) (row := fr (encA row)) (due := fr .none) (kept := fr (.str (encA row).shown))) :=
      fSaidT_er (env' := V__law_row_right (arities_here := fr (encA as)) (row := fr (encA row))) (y := ⟨"Unspelled", []⟩) (o := .fr (.str "! unspelled")) rfl rfl (by
        generalize encA row = RR at *
        simp [F1__law_row_right, q_mulAI, q_mulAL, a_wb, q_divW, Function.comp_def, q_starI, q_starIT, a_wp, a_fz, a_fz0, a_fz1, a_ext, a_ins, a_insA, a_pop, a_parN, a_evO0, a_evO1, a_setO0, a_setO1, a_ix2, a_setII, a_zN, a_zC, a_lcO, d_oo, pEq_int, pNe_int, pIxL, pIxT, atI_nat, atI_0, atI_1, atI_2, atI_3, atI_m1, cutLo, cutHi, cutLo1, cutHi1, a_seq, a_ifS, a_B, a_op, a_ov, a_ev0, a_evv, a_evs, a_C, a_V, a_M, a_set, a_setI, a_app, a_ret, a_ex, a_skip, a_no, a_not, a_andT, a_orT, a_and, a_or, a_notV, a_if, a_par, a_call, a_forS, a_sq, a_r1, a_r2, a_en, a_zp, a_asT, a_chI, a_yes, a_lc, a_fn, okA, f_fr, bkA, rsvs, rsv, dvs, on1, on2, d_fr, d_ol, rsO, ndS, sl, putB, asT, setAll, ofO, Dy.ints1, Dy.ints2, nE, wipeE, unw, frO, q_addI, q_addL, q_addT, q_addS, q_sub, q_div, q_mod, q_pow, q_neg, q_cm, pIs, pIsn, q_isN, q_isI, q_isS, q_isT, q_isL, q_isB, q_lenL, q_lenT, pTup, pLst, q_tupL, q_tupT, q_lstL, q_lstT, q_revL, q_slL, q_slT, q_shL, q_shT, q_sqL, q_sqT, q_intI, q_max2, q_min2, q_aII, q_aBI, q_aTI, q_aTT, q_aLL, q_aTL, q_aIT, eu]) (.inl ⟨by simp, rfl⟩) su_un
    have hn : pIs .none .none = some (.fr (.bool true)) := rfl
    refine fn2_10 (N := 3) (e := V__law_row_right (arities_here := fr (encA as)) (row := fr (encA row)) (told := fr (.str "! unspelled")) (due := fr .none) (kept := fr (.str (encA row).shown))) ?_
    unfold b__law_row_right
    generalize fSaidT 3 ["NoArities", "NoTree", "Unspelled"] ["TooMany"] [0, 1] [2, 3, 4] F1__law_row_right b__law_said_2 = SS at *
    generalize (encA row).shown = KR at *
    generalize encA row = RR at *
    simp [q_mulAI, q_mulAL, a_wb, q_divW, Function.comp_def, q_starI, q_starIT, a_wp, a_fz, a_fz0, a_fz1, a_ext, a_ins, a_insA, a_pop, a_parN, a_evO0, a_evO1, a_setO0, a_setO1, a_ix2, a_setII, a_zN, a_zC, a_lcO, d_oo, pEq_int, pNe_int, pIxL, pIxT, atI_nat, atI_0, atI_1, atI_2, atI_3, atI_m1, cutLo, cutHi, cutLo1, cutHi1, a_seq, a_ifS, a_B, a_op, a_ov, a_ev0, a_evv, a_evs, a_C, a_V, a_M, a_set, a_setI, a_app, a_ret, a_ex, a_skip, a_no, a_not, a_andT, a_orT, a_and, a_or, a_notV, a_if, a_par, a_call, a_forS, a_sq, a_r1, a_r2, a_en, a_zp, a_asT, a_chI, a_yes, a_lc, a_fn, okA, f_fr, bkA, rsvs, rsv, dvs, on1, on2, d_fr, d_ol, rsO, ndS, sl, putB, asT, setAll, ofO, Dy.ints1, Dy.ints2, nE, wipeE, unw, frO, q_addI, q_addL, q_addT, q_addS, q_sub, q_div, q_mod, q_pow, q_neg, q_cm, pIs, pIsn, q_isN, q_isI, q_isS, q_isT, q_isL, q_isB, q_lenL, q_lenT, pTup, pLst, q_tupL, q_tupT, q_lstL, q_lstT, q_revL, q_slL, q_slT, q_shL, q_shT, q_sqL, q_sqT, q_intI, q_max2, q_min2, q_aII, q_aBI, q_aTI, q_aTT, q_aLL, q_aTL, q_aIT, e1, er, g1, hn, pNe_str]
end Q
namespace Q
open PySem Dy
open L2 (atI ixN)
theorem rows_ok5 {o : O} {as row : List Nat} (hp : PenA o) (ha : ArOk as) (hx : ∀ x ∈ row, x < as.length) (hl : row.length ≤ 200) :
    ∃ (RL : List (List Nat)) (o' : O), PenA o' ∧ RL.length ≤ 9 ∧ (∀ r ∈ RL, ∀ x ∈ r, x < as.length) ∧ M__law_rows [o, .fr (encA as), .fr (encA row)] = .ok (.ol (RL.map encA), [o', .fr (encA as), .fr (encA row)]) := by
  have al := ha.len
  obtain ⟨at_, o1, h1, p1, e1⟩ := drawA_upto hp (row.length + 1) (by omega) (by omega)
  obtain ⟨one, o2, h2, p2, e2⟩ := drawA_upto p1 as.length ha.pos (by omega)
  have ht : ∀ k, ∀ x ∈ row.take k, x < as.length := fun k x h => hx x (List.mem_of_mem_take h)
  have hd : ∀ k, ∀ x ∈ row.drop k, x < as.length := fun k x h => hx x (List.mem_of_mem_drop h)
  refine ⟨[row, row.take at_ ++ [one] ++ row.drop at_, row.take at_ ++ row.drop (at_ + 1), row.take at_ ++ [one] ++ row.drop (at_ + 1), row.reverse, row ++ row, row.drop at_, row.take at_, row.drop 1 ++ row.take 1], o2, p2, by simp, fun r hr x hxr => ?_, ?_⟩
  · simp only [List.mem_cons, List.not_mem_nil, or_false] at hr
    rcases hr with rfl | rfl | rfl | rfl | rfl | rfl | rfl | rfl | rfl
    · exact hx x hxr
    · simp only [List.mem_append, List.mem_singleton] at hxr
      rcases hxr with (z | rfl) | z
      · exact ht _ x z
      · exact h2
      · exact hd _ x z
    · rcases List.mem_append.mp hxr with z | z
      · exact ht _ x z
      · exact hd _ x z
    · simp only [List.mem_append, List.mem_singleton] at hxr
      rcases hxr with (z | rfl) | z
      · exact ht _ x z
      · exact h2
      · exact hd _ x z
    · exact hx x (List.mem_reverse.mp hxr)
    · rcases List.mem_append.mp hxr with z | z <;> exact hx x z
    · exact hd _ x hxr
    · exact ht _ x hxr
    · rcases List.mem_append.mp hxr with z | z
      · exact hd _ x z
      · exact ht _ x z
  · have c1 : ((row.length + 1 : Nat) : Int) = (row.length : Int) + 1 := by omega
    rw [c1] at e1
    have c2 : min at_ row.length + 1 ≤ 1000000 := by omega
    have c3 : min at_ row.length + 1 + (row.length - at_) ≤ 1000000 := by omega
    have c4 : min at_ row.length + (row.length - (at_ + 1)) ≤ 1000000 := by omega
    have c5 : min at_ row.length + 1 + (row.length - (at_ + 1)) ≤ 1000000 := by omega
    have c6 : row.length + row.length ≤ 1000000 := by omega
    have c7 : row.length - 1 + min 1 row.length ≤ 1000000 := by omega
    simp [M__law_rows, b__law_rows, q_mulAI, q_mulAL, a_wb, q_divW, Function.comp_def, q_starI, q_starIT, a_wp, a_fz, a_fz0, a_fz1, a_ext, a_ins, a_insA, a_pop, a_parN, a_evO0, a_evO1, a_setO0, a_setO1, a_ix2, a_setII, a_zN, a_zC, a_lcO, d_oo, pEq_int, pNe_int, pIxL, pIxT, atI_nat, atI_0, atI_1, atI_2, atI_3, atI_m1, cutLo, cutHi, cutLo1, cutHi1, a_seq, a_ifS, a_B, a_op, a_ov, a_ev0, a_evv, a_evs, a_C, a_V, a_M, a_set, a_setI, a_app, a_ret, a_ex, a_skip, a_no, a_not, a_andT, a_orT, a_and, a_or, a_notV, a_if, a_par, a_call, a_forS, a_sq, a_r1, a_r2, a_en, a_zp, a_asT, a_chI, a_yes, a_lc, a_fn, okA, f_fr, bkA, rsvs, rsv, dvs, on1, on2, d_fr, d_ol, rsO, ndS, sl, putB, asT, setAll, ofO, Dy.ints1, Dy.ints2, nE, wipeE, unw, frO, q_addI, q_addL, q_addT, q_addS, q_sub, q_div, q_mod, q_pow, q_neg, q_cm, pIs, pIsn, q_isN, q_isI, q_isS, q_isT, q_isL, q_isB, q_lenL, q_lenT, pTup, pLst, q_tupL, q_tupT, q_lstL, q_lstT, q_revL, q_slL, q_slT, q_shL, q_shT, q_sqL, q_sqT, q_intI, q_max2, q_min2, q_aII, q_aBI, q_aTI, q_aTT, q_aLL, q_aTL, q_aIT, e1, e2, q_revAT, cutLoS, c2, c3, c4, c5, c6, c7]
abbrev VT (o : O) (as : List Nat) (T : PyData) (told row one many kept : Option O) : Dy.Env := V__law_tree_right_2 (pen_here := some o) (arities_here := fr (encA as)) (written_here := fr T) (told := told) (row := row) (one := one) (many_here := many) (kept := kept)
theorem rl1 {o : O} {as : List Nat} {row : Option O} {r : List Nat} (ha : ArOk as) (hx : ∀ x ∈ r, x < as.length) :
    (asT (.nm 5) (encA r) (V__law_tree_right_2 (pen_here := some o) (arities_here := fr (encA as)) (row := row)) >>= L1__law_tree_right_2) = .ok (.nx, V__law_tree_right_2 (pen_here := some o) (arities_here := fr (encA as)) (row := row)) := by
  by_cases h : r.length < 201
  · have e := row_right ha hx (by omega)
    have c : (r.length : Int) < 201 := by omega
    simp [L1__law_tree_right_2, q_mulAI, q_mulAL, a_wb, q_divW, Function.comp_def, q_starI, q_starIT, a_wp, a_fz, a_fz0, a_fz1, a_ext, a_ins, a_insA, a_pop, a_parN, a_evO0, a_evO1, a_setO0, a_setO1, a_ix2, a_setII, a_zN, a_zC, a_lcO, d_oo, pEq_int, pNe_int, pIxL, pIxT, atI_nat, atI_0, atI_1, atI_2, atI_3, atI_m1, cutLo, cutHi, cutLo1, cutHi1, a_seq, a_ifS, a_B, a_op, a_ov, a_ev0, a_evv, a_evs, a_C, a_V, a_M, a_set, a_setI, a_app, a_ret, a_ex, a_skip, a_no, a_not, a_andT, a_orT, a_and, a_or, a_notV, a_if, a_par, a_call, a_forS, a_sq, a_r1, a_r2, a_en, a_zp, a_asT, a_chI, a_yes, a_lc, a_fn, okA, f_fr, bkA, rsvs, rsv, dvs, on1, on2, d_fr, d_ol, rsO, ndS, sl, putB, asT, setAll, ofO, Dy.ints1, Dy.ints2, nE, wipeE, unw, frO, q_addI, q_addL, q_addT, q_addS, q_sub, q_div, q_mod, q_pow, q_neg, q_cm, pIs, pIsn, q_isN, q_isI, q_isS, q_isT, q_isL, q_isB, q_lenL, q_lenT, pTup, pLst, q_tupL, q_tupT, q_lstL, q_lstT, q_revL, q_slL, q_slT, q_shL, q_shT, q_sqL, q_sqT, q_intI, q_max2, q_min2, q_aII, q_aBI, q_aTI, q_aTT, q_aLL, q_aTL, q_aIT, h, c, e]
  · have c : ¬ (r.length : Int) < 201 := by omega
    simp [L1__law_tree_right_2, q_mulAI, q_mulAL, a_wb, q_divW, Function.comp_def, q_starI, q_starIT, a_wp, a_fz, a_fz0, a_fz1, a_ext, a_ins, a_insA, a_pop, a_parN, a_evO0, a_evO1, a_setO0, a_setO1, a_ix2, a_setII, a_zN, a_zC, a_lcO, d_oo, pEq_int, pNe_int, pIxL, pIxT, atI_nat, atI_0, atI_1, atI_2, atI_3, atI_m1, cutLo, cutHi, cutLo1, cutHi1, a_seq, a_ifS, a_B, a_op, a_ov, a_ev0, a_evv, a_evs, a_C, a_V, a_M, a_set, a_setI, a_app, a_ret, a_ex, a_skip, a_no, a_not, a_andT, a_orT, a_and, a_or, a_notV, a_if, a_par, a_call, a_forS, a_sq, a_r1, a_r2, a_en, a_zp, a_asT, a_chI, a_yes, a_lc, a_fn, okA, f_fr, bkA, rsvs, rsv, dvs, on1, on2, d_fr, d_ol, rsO, ndS, sl, putB, asT, setAll, ofO, Dy.ints1, Dy.ints2, nE, wipeE, unw, frO, q_addI, q_addL, q_addT, q_addS, q_sub, q_div, q_mod, q_pow, q_neg, q_cm, pIs, pIsn, q_isN, q_isI, q_isS, q_isT, q_isL, q_isB, q_lenL, q_lenT, pTup, pLst, q_tupL, q_tupT, q_lstL, q_lstT, q_revL, q_slL, q_slT, q_shL, q_shT, q_sqL, q_sqT, q_intI, q_max2, q_min2, q_aII, q_aBI, q_aTI, q_aTT, q_aLL, q_aTL, q_aIT, h, c]
theorem tree_right5 {o : O} {as : List Nat} {t : List Nd} (hp : PenA o) (ha : ArOk as) (ht : TrOk as t) (hl : t.length ≤ 20) : ∃ o', PenA o' ∧ M__law_tree_right_2 [o, .fr (encA as), .fr (encT t)] = .ok (.fr (.bool true), [o', .fr (encA as), .fr (encT t)]) := by
  have t0 := List.length_pos_iff.mpr ht.ne
  have rt := rkT ha ht.wf ht.len
  have et := rt.repr (by decide) (by decide)
  have em := many_ok ha ht
  have hb : cntR t ≤ 1000000000 := by
    have := am_le ha ht.wf _ (t.length - 1) (Nat.le_refl _) (by omega)
    have h2 : 2 ^ (t.length - 1 + 1) ≤ 2 ^ 20 := Nat.pow_le_pow_right (by decide) (by omega)
    have h3 : (2 : Nat) ^ 20 ≤ 1000000000 := by decide
    have : cntR t + 1 ≤ 2 ^ (t.length - 1 + 1) := this
    omega
  have hF : F1__law_tree_right_2 (V__law_tree_right_2 (arities_here := fr (encA as)) (written_here := fr (encT t))) = M_spelled_3 [.fr (encA as), .fr (encT t)] >>= fun q => .ok (q.1, putB [.d (encA as), .d (encT t)] q.2 (V__law_tree_right_2 (arities_here := fr (encA as)) (written_here := fr (encT t)))) := by
    generalize encT t = TT at *
    simp [F1__law_tree_right_2, q_mulAI, q_mulAL, a_wb, q_divW, Function.comp_def, q_starI, q_starIT, a_wp, a_fz, a_fz0, a_fz1, a_ext, a_ins, a_insA, a_pop, a_parN, a_evO0, a_evO1, a_setO0, a_setO1, a_ix2, a_setII, a_zN, a_zC, a_lcO, d_oo, pEq_int, pNe_int, pIxL, pIxT, atI_nat, atI_0, atI_1, atI_2, atI_3, atI_m1, cutLo, cutHi, cutLo1, cutHi1, a_seq, a_ifS, a_B, a_op, a_ov, a_ev0, a_evv, a_evs, a_C, a_V, a_M, a_set, a_setI, a_app, a_ret, a_ex, a_skip, a_no, a_not, a_andT, a_orT, a_and, a_or, a_notV, a_if, a_par, a_call, a_forS, a_sq, a_r1, a_r2, a_en, a_zp, a_asT, a_chI, a_yes, a_lc, a_fn, okA, f_fr, bkA, rsvs, rsv, dvs, on1, on2, d_fr, d_ol, rsO, ndS, sl, putB, asT, setAll, ofO, Dy.ints1, Dy.ints2, nE, wipeE, unw, frO, q_addI, q_addL, q_addT, q_addS, q_sub, q_div, q_mod, q_pow, q_neg, q_cm, pIs, pIsn, q_isN, q_isI, q_isS, q_isT, q_isL, q_isB, q_lenL, q_lenT, pTup, pLst, q_tupL, q_tupT, q_lstL, q_lstT, q_revL, q_slL, q_slT, q_shL, q_shT, q_sqL, q_sqT, q_intI, q_max2, q_min2, q_aII, q_aBI, q_aTI, q_aTT, q_aLL, q_aTL, q_aIT]
  by_cases hc : 200 < cntR t
  · have es := spelledN ha ht hc hb
    rw [es, bind_er] at hF
    have g1 : fSaidT 3 ["NoArities", "NoTree", "Unspelled"] ["TooMany"] [1, 2] [0, 3, 4, 5, 6, 7] F1__law_tree_right_2 b__law_said_2 (VT o as (encT t) none none none (fr (dN (cntR t))) (fr (.str (encT t).shown))) = .ok (.fr (.str (("! many " : Str) ++ (mnT (cntR t : Int) ((200 : Nat) : Int)).shown)), VT o as (encT t) none none none (fr (dN (cntR t))) (fr (.str (encT t).shown))) :=
      fSaidT_er (env' := V__law_tree_right_2 (arities_here := fr (encA as)) (written_here := fr (encT t))) (y := ⟨"TooMany", [.int (cntR t : Int), .int ((200 : Nat) : Int)]⟩) (o := .fr (.str (("! many " : Str) ++ (mnT (cntR t : Int) ((200 : Nat) : Int)).shown))) rfl rfl hF (.inr ⟨by simp, rfl⟩) (su_many (by omega) (by omega))
    have hr := mn_repr (m := cntR t) (l := 200) (by omega) (by omega)
    have ln := mn_len (m := cntR t) (l := 200) (by omega) (by omega)
    have l7 : ("! many " : Str).length = 7 := by decide +kernel
    have hlen : ("! many " : Str).length + (mnT (cntR t : Int) ((200 : Nat) : Int)).shown.length ≤ 1000000 := by rw [l7]; omega
    refine ⟨o, hp, fn3_10 (N := 5) (o' := o) (e := (VT o as (encT t) (fr (.str (("! many " : Str) ++ (mnT (cntR t : Int) ((200 : Nat) : Int)).shown))) none none (fr (dN (cntR t))) (fr (.str (encT t).shown))).tail) ?_⟩
    unfold b__law_tree_right_2
    generalize fSaidT 3 ["NoArities", "NoTree", "Unspelled"] ["TooMany"] [1, 2] [0, 3, 4, 5, 6, 7] F1__law_tree_right_2 b__law_said_2 = SS at *
    have hr' : pRepr (.tuple [.int (cntR t : Int), .int 200]) = some (.fr (.str (mnT (cntR t : Int) ((200 : Nat) : Int)).shown)) := hr
    have c : (200 : Int) < cntR t := by omega
    clear hr hF es
    generalize (mnT (cntR t : Int) ((200 : Nat) : Int)).shown = SH at *
    generalize (encT t).shown = KT at *
    generalize encT t = TT at *
    generalize hC : cntR t = C at *
    simp [q_mulAI, q_mulAL, a_wb, q_divW, Function.comp_def, q_starI, q_starIT, a_wp, a_fz, a_fz0, a_fz1, a_ext, a_ins, a_insA, a_pop, a_parN, a_evO0, a_evO1, a_setO0, a_setO1, a_ix2, a_setII, a_zN, a_zC, a_lcO, d_oo, pEq_int, pNe_int, pIxL, pIxT, atI_nat, atI_0, atI_1, atI_2, atI_3, atI_m1, cutLo, cutHi, cutLo1, cutHi1, a_seq, a_ifS, a_B, a_op, a_ov, a_ev0, a_evv, a_evs, a_C, a_V, a_M, a_set, a_setI, a_app, a_ret, a_ex, a_skip, a_no, a_not, a_andT, a_orT, a_and, a_or, a_notV, a_if, a_par, a_call, a_forS, a_sq, a_r1, a_r2, a_en, a_zp, a_asT, a_chI, a_yes, a_lc, a_fn, okA, f_fr, bkA, rsvs, rsv, dvs, on1, on2, d_fr, d_ol, rsO, ndS, sl, putB, asT, setAll, ofO, Dy.ints1, Dy.ints2, nE, wipeE, unw, frO, q_addI, q_addL, q_addT, q_addS, q_sub, q_div, q_mod, q_pow, q_neg, q_cm, pIs, pIsn, q_isN, q_isI, q_isS, q_isT, q_isL, q_isB, q_lenL, q_lenT, pTup, pLst, q_tupL, q_tupT, q_lstL, q_lstT, q_revL, q_slL, q_slT, q_shL, q_shT, q_sqL, q_sqT, q_intI, q_max2, q_min2, q_aII, q_aBI, q_aTI, q_aTT, q_aLL, q_aTL, q_aIT, em, et, g1, pNe_str, hc, c, hr', hlen, pEq_str]
  · have hc' : cntR t ≤ 200 := by omega
    have es := spelled5 ha ht hc'
    have hk := cnt_len ht
    have hx := pK_lt ht.wf _ (t.length - 1) (Nat.le_refl _) (by omega)
    have esp := spellR_ok ha ht 20 (t.length - 1) (by omega) (by omega) (by omega)
    have cl : ((t.length - 1 : Nat) : Int) = (t.length : Int) - 1 := by omega
    rw [es, bind_ok] at hF
    generalize pK t (t.length - 1) = row at *
    have rr := rkRow (row := row) (fun x h => by have := hx x h; have := ha.len; omega) (by omega)
    have err := rr.repr (by decide) (by decide)
    have errD := chD rr (by decide) (by decide)
    obtain ⟨RL, o1, p1, lR, hR, eR⟩ := rows_ok5 hp ha hx (by omega)
    have g1 : fSaidT 3 ["NoArities", "NoTree", "Unspelled"] ["TooMany"] [1, 2] [0, 3, 4, 5, 6, 7] F1__law_tree_right_2 b__law_said_2 (VT o as (encT t) none none none (fr (dN (cntR t))) (fr (.str (encT t).shown))) = .ok (.fr (.str (encA row).shown), VT o as (encT t) none none none (fr (dN (cntR t))) (fr (.str (encT t).shown))) :=
      fSaidT_ok (env' := V__law_tree_right_2 (arities_here := fr (encA as)) (written_here := fr (encT t))) (r := (.fr (encA row), _)) rfl rfl hF errD
    have eL : fFor (.nm 5) L1__law_tree_right_2 (RL.map encA) (V__law_tree_right_2 (pen_here := some o1) (arities_here := fr (encA as)) (row := fr (encA row))) = .ok (.nx, V__law_tree_right_2 (pen_here := some o1) (arities_here := fr (encA as)) (row := fr (encA row))) :=
      for_st encA (fun _ : Unit => V__law_tree_right_2 (pen_here := some o1) (arities_here := fr (encA as)) (row := fr (encA row))) (fun _ _ => ()) RL () rfl rfl (fun pre r post e => rl1 ha (hR r (by rw [e]; simp)))
    refine ⟨o1, p1, fn3_10 (N := 5) (o' := o1) (e := [none, none, none, none, none, none, none]) ?_⟩
    have lT : (encT t) = .tuple (t.map encN) := rfl
    have lt : (t.map encN).length = t.length := by simp
    unfold b__law_tree_right_2
    have s1 : fPar 6 7 (fCall M__law_many_2 [.v (fV 2)]) (fOp (on1 pRepr) [.s 2]) (VT o as (encT t) none none none none none) = .ok (.nx, VT o as (encT t) none none none (fr (dN (cntR t))) (fr (.str (encT t).shown))) := by
      generalize (encT t).shown = KT at *
      generalize encT t = TT at *
      simp [q_mulAI, q_mulAL, a_wb, q_divW, Function.comp_def, q_starI, q_starIT, a_wp, a_fz, a_fz0, a_fz1, a_ext, a_ins, a_insA, a_pop, a_parN, a_evO0, a_evO1, a_setO0, a_setO1, a_ix2, a_setII, a_zN, a_zC, a_lcO, d_oo, pEq_int, pNe_int, pIxL, pIxT, atI_nat, atI_0, atI_1, atI_2, atI_3, atI_m1, cutLo, cutHi, cutLo1, cutHi1, a_seq, a_ifS, a_B, a_op, a_ov, a_ev0, a_evv, a_evs, a_C, a_V, a_M, a_set, a_setI, a_app, a_ret, a_ex, a_skip, a_no, a_not, a_andT, a_orT, a_and, a_or, a_notV, a_if, a_par, a_call, a_forS, a_sq, a_r1, a_r2, a_en, a_zp, a_asT, a_chI, a_yes, a_lc, a_fn, okA, f_fr, bkA, rsvs, rsv, dvs, on1, on2, d_fr, d_ol, rsO, ndS, sl, putB, asT, setAll, ofO, Dy.ints1, Dy.ints2, nE, wipeE, unw, frO, q_addI, q_addL, q_addT, q_addS, q_sub, q_div, q_mod, q_pow, q_neg, q_cm, pIs, pIsn, q_isN, q_isI, q_isS, q_isT, q_isL, q_isB, q_lenL, q_lenT, pTup, pLst, q_tupL, q_tupT, q_lstL, q_lstT, q_revL, q_slL, q_slT, q_shL, q_shT, q_sqL, q_sqT, q_intI, q_max2, q_min2, q_aII, q_aBI, q_aTI, q_aTT, q_aLL, q_aTL, q_aIT, em, et]
    have s2 : fFz [3] (fSet 3 (fSaidT 3 ["NoArities", "NoTree", "Unspelled"] ["TooMany"] [1, 2] [0, 3, 4, 5, 6, 7] F1__law_tree_right_2 b__law_said_2)) (VT o as (encT t) none none none (fr (dN (cntR t))) (fr (.str (encT t).shown))) = .ok (.nx, VT o as (encT t) (fr (.str (encA row).shown)) none none (fr (dN (cntR t))) (fr (.str (encT t).shown))) := by
      generalize fSaidT 3 ["NoArities", "NoTree", "Unspelled"] ["TooMany"] [1, 2] [0, 3, 4, 5, 6, 7] F1__law_tree_right_2 b__law_said_2 = SS at *
      generalize (encT t).shown = KT at *
      generalize encT t = TT at *
      simp [q_mulAI, q_mulAL, a_wb, q_divW, Function.comp_def, q_starI, q_starIT, a_wp, a_fz, a_fz0, a_fz1, a_ext, a_ins, a_insA, a_pop, a_parN, a_evO0, a_evO1, a_setO0, a_setO1, a_ix2, a_setII, a_zN, a_zC, a_lcO, d_oo, pEq_int, pNe_int, pIxL, pIxT, atI_nat, atI_0, atI_1, atI_2, atI_3, atI_m1, cutLo, cutHi, cutLo1, cutHi1, a_seq, a_ifS, a_B, a_op, a_ov, a_ev0, a_evv, a_evs, a_C, a_V, a_M, a_set, a_setI, a_app, a_ret, a_ex, a_skip, a_no, a_not, a_andT, a_orT, a_and, a_or, a_notV, a_if, a_par, a_call, a_forS, a_sq, a_r1, a_r2, a_en, a_zp, a_asT, a_chI, a_yes, a_lc, a_fn, okA, f_fr, bkA, rsvs, rsv, dvs, on1, on2, d_fr, d_ol, rsO, ndS, sl, putB, asT, setAll, ofO, Dy.ints1, Dy.ints2, nE, wipeE, unw, frO, q_addI, q_addL, q_addT, q_addS, q_sub, q_div, q_mod, q_pow, q_neg, q_cm, pIs, pIsn, q_isN, q_isI, q_isS, q_isT, q_isL, q_isB, q_lenL, q_lenT, pTup, pLst, q_tupL, q_tupT, q_lstL, q_lstT, q_revL, q_slL, q_slT, q_shL, q_shT, q_sqL, q_sqT, q_intI, q_max2, q_min2, q_aII, q_aBI, q_aTI, q_aTT, q_aLL, q_aTL, q_aIT, g1]
    refine nx4 s1 (nx4 s2 (nx4 (e' := VT o as (encT t) (fr (.str (encA row).shown)) none none (fr (dN (cntR t))) (fr (.str (encT t).shown))) ?_ (nx4 (e' := VT o as (encT t) (fr (.str (encA row).shown)) none none (fr (dN (cntR t))) (fr (.str (encT t).shown))) ?_ (nx4 (e' := VT o as (encT t) (fr (.str (encA row).shown)) (fr (encA row)) none (fr (dN (cntR t))) (fr (.str (encT t).shown))) ?_ (nx4 (e' := V__law_tree_right_2 (pen_here := some o) (arities_here := fr (encA as)) (row := fr (encA row))) ?_ (nx4 (e' := V__law_tree_right_2 (pen_here := some o1)) ?_ ?_))))))
    · generalize (encA row).shown = KR at *
      generalize (encT t).shown = KT at *
      generalize encT t = TT at *
      simp [q_mulAI, q_mulAL, a_wb, q_divW, Function.comp_def, q_starI, q_starIT, a_wp, a_fz, a_fz0, a_fz1, a_ext, a_ins, a_insA, a_pop, a_parN, a_evO0, a_evO1, a_setO0, a_setO1, a_ix2, a_setII, a_zN, a_zC, a_lcO, d_oo, pEq_int, pNe_int, pIxL, pIxT, atI_nat, atI_0, atI_1, atI_2, atI_3, atI_m1, cutLo, cutHi, cutLo1, cutHi1, a_seq, a_ifS, a_B, a_op, a_ov, a_ev0, a_evv, a_evs, a_C, a_V, a_M, a_set, a_setI, a_app, a_ret, a_ex, a_skip, a_no, a_not, a_andT, a_orT, a_and, a_or, a_notV, a_if, a_par, a_call, a_forS, a_sq, a_r1, a_r2, a_en, a_zp, a_asT, a_chI, a_yes, a_lc, a_fn, okA, f_fr, bkA, rsvs, rsv, dvs, on1, on2, d_fr, d_ol, rsO, ndS, sl, putB, asT, setAll, ofO, Dy.ints1, Dy.ints2, nE, wipeE, unw, frO, q_addI, q_addL, q_addT, q_addS, q_sub, q_div, q_mod, q_pow, q_neg, q_cm, pIs, pIsn, q_isN, q_isI, q_isS, q_isT, q_isL, q_isB, q_lenL, q_lenT, pTup, pLst, q_tupL, q_tupT, q_lstL, q_lstT, q_revL, q_slL, q_slT, q_shL, q_shT, q_sqL, q_sqT, q_intI, q_max2, q_min2, q_aII, q_aBI, q_aTI, q_aTT, q_aLL, q_aTL, q_aIT, et, pNe_str]
    · have c : ¬ (200 : Int) < cntR t := by omega
      generalize (encA row).shown = KR at *
      generalize (encT t).shown = KT at *
      generalize encT t = TT at *
      simp [q_mulAI, q_mulAL, a_wb, q_divW, Function.comp_def, q_starI, q_starIT, a_wp, a_fz, a_fz0, a_fz1, a_ext, a_ins, a_insA, a_pop, a_parN, a_evO0, a_evO1, a_setO0, a_setO1, a_ix2, a_setII, a_zN, a_zC, a_lcO, d_oo, pEq_int, pNe_int, pIxL, pIxT, atI_nat, atI_0, atI_1, atI_2, atI_3, atI_m1, cutLo, cutHi, cutLo1, cutHi1, a_seq, a_ifS, a_B, a_op, a_ov, a_ev0, a_evv, a_evs, a_C, a_V, a_M, a_set, a_setI, a_app, a_ret, a_ex, a_skip, a_no, a_not, a_andT, a_orT, a_and, a_or, a_notV, a_if, a_par, a_call, a_forS, a_sq, a_r1, a_r2, a_en, a_zp, a_asT, a_chI, a_yes, a_lc, a_fn, okA, f_fr, bkA, rsvs, rsv, dvs, on1, on2, d_fr, d_ol, rsO, ndS, sl, putB, asT, setAll, ofO, Dy.ints1, Dy.ints2, nE, wipeE, unw, frO, q_addI, q_addL, q_addT, q_addS, q_sub, q_div, q_mod, q_pow, q_neg, q_cm, pIs, pIsn, q_isN, q_isI, q_isS, q_isT, q_isL, q_isB, q_lenL, q_lenT, pTup, pLst, q_tupL, q_tupT, q_lstL, q_lstT, q_revL, q_slL, q_slT, q_shL, q_shT, q_sqL, q_sqT, q_intI, q_max2, q_min2, q_aII, q_aBI, q_aTI, q_aTT, q_aLL, q_aTL, q_aIT, hc, c]
    · have c : row.length ≤ 100000 := by omega
      have cd : dN (t.length - 1) = .int ((t.length : Int) - 1) := congrArg PyData.int cl
      rw [cd] at esp
      generalize (encA row).shown = KR at *
      generalize (encT t).shown = KT at *
      generalize M__law_spell 20 = MS at *
      have esp' : MS [.fr (.tuple (t.map encN)), .fr (.int ((t.length : Int) - 1))] = .ok (.ol (row.map dN), [.fr (.tuple (t.map encN)), .fr (.int ((t.length : Int) - 1))]) := esp
      simp [q_mulAI, q_mulAL, a_wb, q_divW, Function.comp_def, q_starI, q_starIT, a_wp, a_fz, a_fz0, a_fz1, a_ext, a_ins, a_insA, a_pop, a_parN, a_evO0, a_evO1, a_setO0, a_setO1, a_ix2, a_setII, a_zN, a_zC, a_lcO, d_oo, pEq_int, pNe_int, pIxL, pIxT, atI_nat, atI_0, atI_1, atI_2, atI_3, atI_m1, cutLo, cutHi, cutLo1, cutHi1, a_seq, a_ifS, a_B, a_op, a_ov, a_ev0, a_evv, a_evs, a_C, a_V, a_M, a_set, a_setI, a_app, a_ret, a_ex, a_skip, a_no, a_not, a_andT, a_orT, a_and, a_or, a_notV, a_if, a_par, a_call, a_forS, a_sq, a_r1, a_r2, a_en, a_zp, a_asT, a_chI, a_yes, a_lc, a_fn, okA, f_fr, bkA, rsvs, rsv, dvs, on1, on2, d_fr, d_ol, rsO, ndS, sl, putB, asT, setAll, ofO, Dy.ints1, Dy.ints2, nE, wipeE, unw, frO, q_addI, q_addL, q_addT, q_addS, q_sub, q_div, q_mod, q_pow, q_neg, q_cm, pIs, pIsn, q_isN, q_isI, q_isS, q_isT, q_isL, q_isB, q_lenL, q_lenT, pTup, pLst, q_tupL, q_tupT, q_lstL, q_lstT, q_revL, q_slL, q_slT, q_shL, q_shT, q_sqL, q_sqT, q_intI, q_max2, q_min2, q_aII, q_aBI, q_aTI, q_aTT, q_aLL, q_aTL, q_aIT, esp', c]
    · generalize (encT t).shown = KT at *
      generalize encT t = TT at *
      have err' := err
      generalize (encA row).shown = KR at *
      generalize encA row = RW at *
      simp [q_mulAI, q_mulAL, a_wb, q_divW, Function.comp_def, q_starI, q_starIT, a_wp, a_fz, a_fz0, a_fz1, a_ext, a_ins, a_insA, a_pop, a_parN, a_evO0, a_evO1, a_setO0, a_setO1, a_ix2, a_setII, a_zN, a_zC, a_lcO, d_oo, pEq_int, pNe_int, pIxL, pIxT, atI_nat, atI_0, atI_1, atI_2, atI_3, atI_m1, cutLo, cutHi, cutLo1, cutHi1, a_seq, a_ifS, a_B, a_op, a_ov, a_ev0, a_evv, a_evs, a_C, a_V, a_M, a_set, a_setI, a_app, a_ret, a_ex, a_skip, a_no, a_not, a_andT, a_orT, a_and, a_or, a_notV, a_if, a_par, a_call, a_forS, a_sq, a_r1, a_r2, a_en, a_zp, a_asT, a_chI, a_yes, a_lc, a_fn, okA, f_fr, bkA, rsvs, rsv, dvs, on1, on2, d_fr, d_ol, rsO, ndS, sl, putB, asT, setAll, ofO, Dy.ints1, Dy.ints2, nE, wipeE, unw, frO, q_addI, q_addL, q_addT, q_addS, q_sub, q_div, q_mod, q_pow, q_neg, q_cm, pIs, pIsn, q_isN, q_isI, q_isS, q_isT, q_isL, q_isB, q_lenL, q_lenT, pTup, pLst, q_tupL, q_tupT, q_lstL, q_lstT, q_revL, q_slL, q_slT, q_shL, q_shT, q_sqL, q_sqT, q_intI, q_max2, q_min2, q_aII, q_aBI, q_aTI, q_aTT, q_aLL, q_aTL, q_aIT, err', pNe_str]
    · generalize L1__law_tree_right_2 = LB at *
      generalize RL.map encA = RR at *
      generalize encA row = RW at *
      simp [q_mulAI, q_mulAL, a_wb, q_divW, Function.comp_def, q_starI, q_starIT, a_wp, a_fz, a_fz0, a_fz1, a_ext, a_ins, a_insA, a_pop, a_parN, a_evO0, a_evO1, a_setO0, a_setO1, a_ix2, a_setII, a_zN, a_zC, a_lcO, d_oo, pEq_int, pNe_int, pIxL, pIxT, atI_nat, atI_0, atI_1, atI_2, atI_3, atI_m1, cutLo, cutHi, cutLo1, cutHi1, a_seq, a_ifS, a_B, a_op, a_ov, a_ev0, a_evv, a_evs, a_C, a_V, a_M, a_set, a_setI, a_app, a_ret, a_ex, a_skip, a_no, a_not, a_andT, a_orT, a_and, a_or, a_notV, a_if, a_par, a_call, a_forS, a_sq, a_r1, a_r2, a_en, a_zp, a_asT, a_chI, a_yes, a_lc, a_fn, okA, f_fr, bkA, rsvs, rsv, dvs, on1, on2, d_fr, d_ol, rsO, ndS, sl, putB, asT, setAll, ofO, Dy.ints1, Dy.ints2, nE, wipeE, unw, frO, q_addI, q_addL, q_addT, q_addS, q_sub, q_div, q_mod, q_pow, q_neg, q_cm, pIs, pIsn, q_isN, q_isI, q_isS, q_isT, q_isL, q_isB, q_lenL, q_lenT, pTup, pLst, q_tupL, q_tupT, q_lstL, q_lstT, q_revL, q_slL, q_slT, q_shL, q_shT, q_sqL, q_sqT, q_intI, q_max2, q_min2, q_aII, q_aBI, q_aTI, q_aTT, q_aLL, q_aTL, q_aIT, eR, eL]
    · simp [q_mulAI, q_mulAL, a_wb, q_divW, Function.comp_def, q_starI, q_starIT, a_wp, a_fz, a_fz0, a_fz1, a_ext, a_ins, a_insA, a_pop, a_parN, a_evO0, a_evO1, a_setO0, a_setO1, a_ix2, a_setII, a_zN, a_zC, a_lcO, d_oo, pEq_int, pNe_int, pIxL, pIxT, atI_nat, atI_0, atI_1, atI_2, atI_3, atI_m1, cutLo, cutHi, cutLo1, cutHi1, a_seq, a_ifS, a_B, a_op, a_ov, a_ev0, a_evv, a_evs, a_C, a_V, a_M, a_set, a_setI, a_app, a_ret, a_ex, a_skip, a_no, a_not, a_andT, a_orT, a_and, a_or, a_notV, a_if, a_par, a_call, a_forS, a_sq, a_r1, a_r2, a_en, a_zp, a_asT, a_chI, a_yes, a_lc, a_fn, okA, f_fr, bkA, rsvs, rsv, dvs, on1, on2, d_fr, d_ol, rsO, ndS, sl, putB, asT, setAll, ofO, Dy.ints1, Dy.ints2, nE, wipeE, unw, frO, q_addI, q_addL, q_addT, q_addS, q_sub, q_div, q_mod, q_pow, q_neg, q_cm, pIs, pIsn, q_isN, q_isI, q_isS, q_isT, q_isL, q_isB, q_lenL, q_lenT, pTup, pLst, q_tupL, q_tupT, q_lstL, q_lstT, q_revL, q_slL, q_slT, q_shL, q_shT, q_sqL, q_sqT, q_intI, q_max2, q_min2, q_aII, q_aBI, q_aTI, q_aTT, q_aLL, q_aTL, q_aIT]
theorem lap5 {o : O} {sc : PyData} {j : Nat} {jj : Int} (hjj : jj = (j : Int)) (hp : PenA o) :
    ∃ o', PenA o' ∧ (asT (.nm 6) (.int jj) (V_law_25 (script := fr sc) (pen_here := some o)) >>= L2_law_25) = .ok (.nx, V_law_25 (script := fr sc) (pen_here := some o')) := by
  obtain ⟨as, o1, ha, a0, al, p1, e1⟩ := aritiesA hp
  obtain ⟨up, u1, u2, eu⟩ : ∃ up : Nat, 0 < up ∧ up ≤ 20 ∧ pIx (.list [.int 4, .int 9, .int 20]) (.int (jj % 3)) = some (.fr (dN up)) := by
    have : jj % 3 = 0 ∨ jj % 3 = 1 ∨ jj % 3 = 2 := by omega
    rcases this with z | z | z <;> rw [z]
    · exact ⟨4, by decide, by decide, rfl⟩
    · exact ⟨9, by decide, by decide, rfl⟩
    · exact ⟨20, by decide, by decide, rfl⟩
  obtain ⟨t, o2, ht, lt, p2, e2⟩ := wrA4 (ui := (up : Int)) up p1 ha a0 u1 (by omega) rfl
  obtain ⟨o3, p3, e3⟩ := tree_right5 p2 ha ht (by omega)
  refine ⟨o3, p3, ?_⟩
  generalize encT t = T1 at *
  simp [L2_law_25, q_mulAI, q_mulAL, a_wb, q_divW, Function.comp_def, q_starI, q_starIT, a_wp, a_fz, a_fz0, a_fz1, a_ext, a_ins, a_insA, a_pop, a_parN, a_evO0, a_evO1, a_setO0, a_setO1, a_ix2, a_setII, a_zN, a_zC, a_lcO, d_oo, pEq_int, pNe_int, pIxL, pIxT, atI_nat, atI_0, atI_1, atI_2, atI_3, atI_m1, cutLo, cutHi, cutLo1, cutHi1, a_seq, a_ifS, a_B, a_op, a_ov, a_ev0, a_evv, a_evs, a_C, a_V, a_M, a_set, a_setI, a_app, a_ret, a_ex, a_skip, a_no, a_not, a_andT, a_orT, a_and, a_or, a_notV, a_if, a_par, a_call, a_forS, a_sq, a_r1, a_r2, a_en, a_zp, a_asT, a_chI, a_yes, a_lc, a_fn, okA, f_fr, bkA, rsvs, rsv, dvs, on1, on2, d_fr, d_ol, rsO, ndS, sl, putB, asT, setAll, ofO, Dy.ints1, Dy.ints2, nE, wipeE, unw, frO, q_addI, q_addL, q_addT, q_addS, q_sub, q_div, q_mod, q_pow, q_neg, q_cm, pIs, pIsn, q_isN, q_isI, q_isS, q_isT, q_isL, q_isB, q_lenL, q_lenT, pTup, pLst, q_tupL, q_tupT, q_lstL, q_lstT, q_revL, q_slL, q_slT, q_shL, q_shT, q_sqL, q_sqT, q_intI, q_max2, q_min2, q_aII, q_aBI, q_aTI, q_aTT, q_aLL, q_aTL, q_aIT, e1, eu, e2, e3]
theorem loop5 (ns : List Int) : fForS (fR1 (.v (fOp (pMax) [.v (fC (.int 1)), .v (fOp (pMin) [.v (fOp (on1 pLen) [.s 0]), .v (fC (.int 3))])]))) (.nm 4) (L3_law_25) (V_law_25 (script := fr (.list (ns.map PyData.int)))) = .ok (.nx, V_law_25 (script := fr (.list (ns.map PyData.int)))) := by
  obtain ⟨_, _, e⟩ := for_r (t := .nm 4) (body := L3_law_25) (fun _ : Unit => V_law_25 (script := fr (.list (ns.map PyData.int)))) (fun _ _ => True) (max 1 (min (ns.length : Int) 3)).toNat (s := ()) trivial (fun k s hk _ => by
    obtain ⟨z, ez⟩ := cellA_ok (ns := ns) (k := k)
    obtain ⟨o, hp, eo⟩ := penA_ok z
    obtain ⟨o', hp', e'⟩ := for_r (t := .nm 6) (body := L2_law_25) (fun o : O => V_law_25 (script := fr (.list (ns.map PyData.int))) (pen_here := some o)) (fun j o => PenA o) 9 (s := o) hp (fun j o hj hp => lap5 rfl hp)
    exact ⟨(), trivial, by simp [L3_law_25, q_mulAI, q_mulAL, a_wb, q_divW, Function.comp_def, q_starI, q_starIT, a_wp, a_fz, a_fz0, a_fz1, a_ext, a_ins, a_insA, a_pop, a_parN, a_evO0, a_evO1, a_setO0, a_setO1, a_ix2, a_setII, a_zN, a_zC, a_lcO, d_oo, pEq_int, pNe_int, pIxL, pIxT, atI_nat, atI_0, atI_1, atI_2, atI_3, atI_m1, cutLo, cutHi, cutLo1, cutHi1, a_seq, a_ifS, a_B, a_op, a_ov, a_ev0, a_evv, a_evs, a_C, a_V, a_M, a_set, a_setI, a_app, a_ret, a_ex, a_skip, a_no, a_not, a_andT, a_orT, a_and, a_or, a_notV, a_if, a_par, a_call, a_forS, a_sq, a_r1, a_r2, a_en, a_zp, a_asT, a_chI, a_yes, a_lc, a_fn, okA, f_fr, bkA, rsvs, rsv, dvs, on1, on2, d_fr, d_ol, rsO, ndS, sl, putB, asT, setAll, ofO, Dy.ints1, Dy.ints2, nE, wipeE, unw, frO, q_addI, q_addL, q_addT, q_addS, q_sub, q_div, q_mod, q_pow, q_neg, q_cm, pIs, pIsn, q_isN, q_isI, q_isS, q_isT, q_isL, q_isB, q_lenL, q_lenT, pTup, pLst, q_tupL, q_tupT, q_lstL, q_lstT, q_revL, q_slL, q_slT, q_shL, q_shT, q_sqL, q_sqT, q_intI, q_max2, q_min2, q_aII, q_aBI, q_aTI, q_aTT, q_aLL, q_aTL, q_aIT, ez, eo, e']⟩)
  have c : max 1 (min (ns.length : Int) 3) ≤ 1000000000 ∧ -1000000000 ≤ max 1 (min (ns.length : Int) 3) := ⟨by omega, by omega⟩
  generalize L3_law_25 = L at *
  simp [q_mulAI, q_mulAL, a_wb, q_divW, Function.comp_def, q_starI, q_starIT, a_wp, a_fz, a_fz0, a_fz1, a_ext, a_ins, a_insA, a_pop, a_parN, a_evO0, a_evO1, a_setO0, a_setO1, a_ix2, a_setII, a_zN, a_zC, a_lcO, d_oo, pEq_int, pNe_int, pIxL, pIxT, atI_nat, atI_0, atI_1, atI_2, atI_3, atI_m1, cutLo, cutHi, cutLo1, cutHi1, a_seq, a_ifS, a_B, a_op, a_ov, a_ev0, a_evv, a_evs, a_C, a_V, a_M, a_set, a_setI, a_app, a_ret, a_ex, a_skip, a_no, a_not, a_andT, a_orT, a_and, a_or, a_notV, a_if, a_par, a_call, a_forS, a_sq, a_r1, a_r2, a_en, a_zp, a_asT, a_chI, a_yes, a_lc, a_fn, okA, f_fr, bkA, rsvs, rsv, dvs, on1, on2, d_fr, d_ol, rsO, ndS, sl, putB, asT, setAll, ofO, Dy.ints1, Dy.ints2, nE, wipeE, unw, frO, q_addI, q_addL, q_addT, q_addS, q_sub, q_div, q_mod, q_pow, q_neg, q_cm, pIs, pIsn, q_isN, q_isI, q_isS, q_isT, q_isL, q_isB, q_lenL, q_lenT, pTup, pLst, q_tupL, q_tupT, q_lstL, q_lstT, q_revL, q_slL, q_slT, q_shL, q_shT, q_sqL, q_sqT, q_intI, q_max2, q_min2, q_aII, q_aBI, q_aTI, q_aTT, q_aLL, q_aTL, q_aIT, c, e]
end Q
namespace Q
open PySem Dy
open L2 (atI ixN)
def ch5 : Nat → List Nd
  | 0 => [(0, [])]
  | n + 1 => ch5 n ++ [(1, [n])]
theorem ch5_len : ∀ n, (ch5 n).length = n + 1
  | 0 => rfl
  | n + 1 => by show (ch5 n ++ [(1, [n])]).length = _; rw [List.length_append, ch5_len n]; rfl
theorem ch5_cn : ∀ n, Cn [0, 1] (ch5 n) ∧ pL (ch5 n) = List.replicate n 1 ++ [0]
  | 0 => ⟨.c0 rfl, rfl⟩
  | n + 1 => by
    obtain ⟨h1, h2⟩ := ch5_cn n
    have e : ch5 (n + 1) = ch5 n ++ [(1, [(ch5 n).length - 1])] := by rw [ch5_len]; rfl
    rw [e]
    exact ⟨.c1 rfl h1, by rw [pL_c1 h1.ne, h2, List.replicate_succ]; rfl⟩
theorem ch5_eq : ∀ n, ch5 n = (0, []) :: (List.range n).map fun k => (1, [k])
  | 0 => rfl
  | n + 1 => by
    show ch5 n ++ [(1, [n])] = _
    rw [ch5_eq n, List.range_succ]; simp
theorem ar5 : ArOk [0, 1] := ⟨by simp, by simp, by simp⟩
def lo5 : List Nat := List.replicate 199 1 ++ [0]
theorem pL199 : pL (ch5 199) = lo5 := (ch5_cn 199).2
theorem lo5_len : lo5.length = 200 := by simp [lo5]
theorem lo5_lt : ∀ x ∈ lo5, x < ([0, 1] : List Nat).length := fun x hx => by
  unfold lo5 at hx
  rcases List.mem_append.mp hx with z | z
  · rw [(List.mem_replicate.mp z).2]; decide
  · simp at z; subst z; decide
theorem ch5_cnt (n : Nat) (h : n ≤ 900) : cntR (ch5 n) = n + 1 := by
  have h1 := (ch5_cn n).1
  have tr := h1.tr (by rw [ch5_len]; omega)
  rw [← cnt_len tr, pL_root (as := [0, 1]) tr.ne, h1.len, ch5_len]
theorem setA5 (x : Option O) : fSet 1 (fOp (on2 pAdd) [.v (fOp (on2 pMulA) [.v (fOv pTup [.v (fC (.int 1))]), .v (fC (.int 199))]), .v (fOv pTup [.v (fC (.int 0))])]) (V_law_25 (script := x)) = .ok (.nx, V_law_25 (script := x) (long := fr (encA lo5))) := by kernel_rfl
theorem unspL {as row : List Nat} (ha : ArOk as) (hl : 200 < row.length) : M_unspelled_2 [.fr (encA as), .fr (encA row)] = .er ⟨"Unspelled", []⟩ := by
  have c : (200 : Int) < row.length := by omega
  simp [M_unspelled_2, b_unspelled_2, q_mulAI, q_mulAL, a_wb, q_divW, Function.comp_def, q_starI, q_starIT, a_wp, a_fz, a_fz0, a_fz1, a_ext, a_ins, a_insA, a_pop, a_parN, a_evO0, a_evO1, a_setO0, a_setO1, a_ix2, a_setII, a_zN, a_zC, a_lcO, d_oo, pEq_int, pNe_int, pIxL, pIxT, atI_nat, atI_0, atI_1, atI_2, atI_3, atI_m1, cutLo, cutHi, cutLo1, cutHi1, a_seq, a_ifS, a_B, a_op, a_ov, a_ev0, a_evv, a_evs, a_C, a_V, a_M, a_set, a_setI, a_app, a_ret, a_ex, a_skip, a_no, a_not, a_andT, a_orT, a_and, a_or, a_notV, a_if, a_par, a_call, a_forS, a_sq, a_r1, a_r2, a_en, a_zp, a_asT, a_chI, a_yes, a_lc, a_fn, okA, f_fr, bkA, rsvs, rsv, dvs, on1, on2, d_fr, d_ol, rsO, ndS, sl, putB, asT, setAll, ofO, Dy.ints1, Dy.ints2, nE, wipeE, unw, frO, q_addI, q_addL, q_addT, q_addS, q_sub, q_div, q_mod, q_pow, q_neg, q_cm, pIs, pIsn, q_isN, q_isI, q_isS, q_isT, q_isL, q_isB, q_lenL, q_lenT, pTup, pLst, q_tupL, q_tupT, q_lstL, q_lstT, q_revL, q_slL, q_slT, q_shL, q_shT, q_sqL, q_sqT, q_intI, q_max2, q_min2, q_aII, q_aBI, q_aTI, q_aTT, q_aLL, q_aTL, q_aIT, need2 ha, isA, hl, c, a_raise]
theorem hF1 {L : List Nat} (hc : 1 + L.length ≤ 1000000) (e2 : M_unspelled_2 [.fr (.tuple [.int 0, .int 1]), .fr (.tuple (.int 1 :: L.map dN))] = .er ⟨"Unspelled", []⟩) : F1_law_25 (V_law_25 (long := fr (encA L))) = .er ⟨"Unspelled", []⟩ := by
  simp [F1_law_25, q_mulAI, q_mulAL, a_wb, q_divW, Function.comp_def, q_starI, q_starIT, a_wp, a_fz, a_fz0, a_fz1, a_ext, a_ins, a_insA, a_pop, a_parN, a_evO0, a_evO1, a_setO0, a_setO1, a_ix2, a_setII, a_zN, a_zC, a_lcO, d_oo, pEq_int, pNe_int, pIxL, pIxT, atI_nat, atI_0, atI_1, atI_2, atI_3, atI_m1, cutLo, cutHi, cutLo1, cutHi1, a_seq, a_ifS, a_B, a_op, a_ov, a_ev0, a_evv, a_evs, a_C, a_V, a_M, a_set, a_setI, a_app, a_ret, a_ex, a_skip, a_no, a_not, a_andT, a_orT, a_and, a_or, a_notV, a_if, a_par, a_call, a_forS, a_sq, a_r1, a_r2, a_en, a_zp, a_asT, a_chI, a_yes, a_lc, a_fn, okA, f_fr, bkA, rsvs, rsv, dvs, on1, on2, d_fr, d_ol, rsO, ndS, sl, putB, asT, setAll, ofO, Dy.ints1, Dy.ints2, nE, wipeE, unw, frO, q_addI, q_addL, q_addT, q_addS, q_sub, q_div, q_mod, q_pow, q_neg, q_cm, pIs, pIsn, q_isN, q_isI, q_isS, q_isT, q_isL, q_isB, q_lenL, q_lenT, pTup, pLst, q_tupL, q_tupT, q_lstL, q_lstT, q_revL, q_slL, q_slT, q_shL, q_shT, q_sqL, q_sqT, q_intI, q_max2, q_min2, q_aII, q_aBI, q_aTI, q_aTT, q_aLL, q_aTL, q_aIT, hc, e2]
theorem gB5 (x : Option O) {SS : EF} {CH LO : PyData} (e1 : M_unspelled_2 [.fr (.tuple [.int 0, .int 1]), .fr LO] = .ok (.fr CH, [.fr (.tuple [.int 0, .int 1]), .fr LO])) (ll : pLen CH = some (.fr (.int 200))) (g1 : SS (V_law_25 (script := x) (long := fr LO)) = .ok (.fr (.str "! unspelled"), V_law_25 (script := x) (long := fr LO))) :
    fIfS (fOrT (fB (fOp (on2 pNe) [.v (fOp (on1 pLen) [.v (fCall M_unspelled_2 [.v (fOv pTup [.v (fC (.int 0)), .v (fC (.int 1))]), .v (fV 1)])]), .v (fC (.int 200))])) (fB (fOp (on2 pNe) [.v SS, .v (fC (.str "! unspelled"))]))) (fRet (fC (.bool false))) (fSkip) (V_law_25 (script := x) (long := fr LO)) = .ok (.nx, V_law_25 (script := x) (long := fr LO)) := by
  simp [q_mulAI, q_mulAL, a_wb, q_divW, Function.comp_def, q_starI, q_starIT, a_wp, a_fz, a_fz0, a_fz1, a_ext, a_ins, a_insA, a_pop, a_parN, a_evO0, a_evO1, a_setO0, a_setO1, a_ix2, a_setII, a_zN, a_zC, a_lcO, d_oo, pEq_int, pNe_int, pIxL, pIxT, atI_nat, atI_0, atI_1, atI_2, atI_3, atI_m1, cutLo, cutHi, cutLo1, cutHi1, a_seq, a_ifS, a_B, a_op, a_ov, a_ev0, a_evv, a_evs, a_C, a_V, a_M, a_set, a_setI, a_app, a_ret, a_ex, a_skip, a_no, a_not, a_andT, a_orT, a_and, a_or, a_notV, a_if, a_par, a_call, a_forS, a_sq, a_r1, a_r2, a_en, a_zp, a_asT, a_chI, a_yes, a_lc, a_fn, okA, f_fr, bkA, rsvs, rsv, dvs, on1, on2, d_fr, d_ol, rsO, ndS, sl, putB, asT, setAll, ofO, Dy.ints1, Dy.ints2, nE, wipeE, unw, frO, q_addI, q_addL, q_addT, q_addS, q_sub, q_div, q_mod, q_pow, q_neg, q_cm, pIs, pIsn, q_isN, q_isI, q_isS, q_isT, q_isL, q_isB, q_lenL, q_lenT, pTup, pLst, q_tupL, q_tupT, q_lstL, q_lstT, q_revL, q_slL, q_slT, q_shL, q_shT, q_sqL, q_sqT, q_intI, q_max2, q_min2, q_aII, q_aBI, q_aTI, q_aTT, q_aLL, q_aTL, q_aIT, e1, ll, g1, pNe_str]
theorem len199 : pLen (encT (ch5 199)) = some (.fr (.int 200)) := by
  show some (O.fr (.int (((ch5 199).map encN).length : Int))) = _
  rw [List.length_map, ch5_len]; rfl
theorem unsp199 : M_unspelled_2 [.fr (encA [0, 1]), .fr (encA lo5)] = .ok (.fr (encT (ch5 199)), [.fr (encA [0, 1]), .fr (encA lo5)]) := by
  have e1 := unspC ar5 (ch5_cn 199).1 (by rw [pL199]; exact lo5_lt) (by rw [ch5_len]; decide)
  rw [pL199] at e1
  exact e1
theorem saidBg (x : Option O) {LO : PyData} (h : F1_law_25 (V_law_25 (long := fr LO)) = .er ⟨"Unspelled", []⟩) : fSaidT 3 ["NoArities", "NoTree", "Unspelled"] ["TooMany"] [1] [0, 2, 3, 4, 5, 6, 7, 8] F1_law_25 b__law_said_2 (V_law_25 (script := x) (long := fr LO)) = .ok (.fr (.str "! unspelled"), V_law_25 (script := x) (long := fr LO)) :=
  fSaidT_er (env' := V_law_25 (long := fr LO)) (y := ⟨"Unspelled", []⟩) (o := .fr (.str "! unspelled")) rfl rfl h (.inl ⟨by simp, rfl⟩) su_un
theorem unsp201 : M_unspelled_2 [.fr (encA [0, 1]), .fr (encA (1 :: lo5))] = .er ⟨"Unspelled", []⟩ := unspL ar5 (by rw [List.length_cons, lo5_len]; decide)
theorem f1lo5 : F1_law_25 (V_law_25 (long := fr (encA lo5))) = .er ⟨"Unspelled", []⟩ := hF1 (by rw [lo5_len]; decide) unsp201
theorem saidB (x : Option O) : fSaidT 3 ["NoArities", "NoTree", "Unspelled"] ["TooMany"] [1] [0, 2, 3, 4, 5, 6, 7, 8] F1_law_25 b__law_said_2 (V_law_25 (script := x) (long := fr (encA lo5))) = .ok (.fr (.str "! unspelled"), V_law_25 (script := x) (long := fr (encA lo5))) := saidBg x f1lo5
theorem guardB (x : Option O) : fIfS (fOrT (fB (fOp (on2 pNe) [.v (fOp (on1 pLen) [.v (fCall M_unspelled_2 [.v (fOv pTup [.v (fC (.int 0)), .v (fC (.int 1))]), .v (fV 1)])]), .v (fC (.int 200))])) (fB (fOp (on2 pNe) [.v (fSaidT 3 ["NoArities", "NoTree", "Unspelled"] ["TooMany"] [1] [0, 2, 3, 4, 5, 6, 7, 8] F1_law_25 b__law_said_2), .v (fC (.str "! unspelled"))]))) (fRet (fC (.bool false))) (fSkip) (V_law_25 (script := x) (long := fr (encA lo5))) = .ok (.nx, V_law_25 (script := x) (long := fr (encA lo5))) :=
  gB5 x unsp199 len199 (saidB x)
theorem loopC (x L : Option O) : fWp [2] (fForS (fSq (.v (fOv pLst [.v (fC .none), .v (fOv pLst [.v (fC (.int 0))]), .v (fOv pTup []), .v (fC (.int 0)), .v (fC (.str "0")), .v (fOv pTup [.v (fC (.int 1))]), .v (fOv pTup [.v (fC (.int 2))]), .v (fOv pTup [.v (fOp (on1 pNeg) [.v (fC (.int 1))])]), .v (fOv pTup [.v (fC (.bool true))]), .v (fOv pTup [.v (fC (.int 0)), .v (fC (.int 0))]), .v (fOv pTup [.v (fOv pTup [.v (fC (.int 0))])]), .v (fOv pTup [.v (fC .none)]), .v (fNewD)]))) (.nm 2) (L1_law_25)) (V_law_25 (script := x) (long := L)) = .ok (.nx, V_law_25 (script := x) (long := L)) := by kernel_rfl
theorem ch5_data (n : Nat) : (ch5 n).map encN = .tuple [.int 0] :: (List.range n).map fun k => encN (1, [k]) := by
  rw [ch5_eq]; simp
theorem setD5 (x L : Option O) : fSet 3 (fOp (on2 pAdd) [.v (fOv pTup [.v (fOv pTup [.v (fC (.int 0))])]), .v (fOp (on1 pTuple) [.v (fLc (fR1 (.v (fC (.int 200)))) [8] (.nm 8) (fYes) (E1_law_25))])]) (V_law_25 (script := x) (long := L)) = .ok (.nx, V_law_25 (script := x) (long := L) (chain := fr (encT (ch5 200)))) := by
  have e : ∀ e : Dy.Env, e = V_law_25 (script := x) (long := L) → lcL [8] (.nm 8) fYes E1_law_25 (rng 0 200) e [] = .ok ((List.range 200).map (fun k => encN (1, [k])), e) := fun e he => by
    rw [rng_eq, lc_tm dN (fun k => encN (1, [k])) (List.range 200) rfl (fun k hk => ?_) (by simp)]
    subst he
    simp [E1_law_25, q_mulAI, q_mulAL, a_wb, q_divW, Function.comp_def, q_starI, q_starIT, a_wp, a_fz, a_fz0, a_fz1, a_ext, a_ins, a_insA, a_pop, a_parN, a_evO0, a_evO1, a_setO0, a_setO1, a_ix2, a_setII, a_zN, a_zC, a_lcO, d_oo, pEq_int, pNe_int, pIxL, pIxT, atI_nat, atI_0, atI_1, atI_2, atI_3, atI_m1, cutLo, cutHi, cutLo1, cutHi1, a_seq, a_ifS, a_B, a_op, a_ov, a_ev0, a_evv, a_evs, a_C, a_V, a_M, a_set, a_setI, a_app, a_ret, a_ex, a_skip, a_no, a_not, a_andT, a_orT, a_and, a_or, a_notV, a_if, a_par, a_call, a_forS, a_sq, a_r1, a_r2, a_en, a_zp, a_asT, a_chI, a_yes, a_lc, a_fn, okA, f_fr, bkA, rsvs, rsv, dvs, on1, on2, d_fr, d_ol, rsO, ndS, sl, putB, asT, setAll, ofO, Dy.ints1, Dy.ints2, nE, wipeE, unw, frO, q_addI, q_addL, q_addT, q_addS, q_sub, q_div, q_mod, q_pow, q_neg, q_cm, pIs, pIsn, q_isN, q_isI, q_isS, q_isT, q_isL, q_isB, q_lenL, q_lenT, pTup, pLst, q_tupL, q_tupT, q_lstL, q_lstT, q_revL, q_slL, q_slT, q_shL, q_shT, q_sqL, q_sqT, q_intI, q_max2, q_min2, q_aII, q_aBI, q_aTI, q_aTT, q_aLL, q_aTL, q_aIT]
  have e := e _ rfl
  have ll : ((List.range 200).map fun k => encN (1, [k])).length = 200 := by simp
  have hT : encT (ch5 200) = .tuple (.tuple [.int 0] :: (List.range 200).map fun k => encN (1, [k])) := congrArg PyData.tuple (ch5_data 200)
  rw [hT]
  generalize ((List.range 200).map fun k => encN (1, [k])) = R at *
  have er : ∀ e0 : Dy.Env, fR1 (.v (fC (.int 200))) e0 = .ok (rng 0 200, e0) := fun e0 => by rw [a_r1]; rfl
  have ef : fLc (fR1 (.v (fC (.int 200)))) [8] (.nm 8) (fYes) (E1_law_25) (V_law_25 (script := x) (long := L)) = .ok (.ol R, V_law_25 (script := x) (long := L)) := by
    show (fR1 (.v (fC (.int 200))) (V_law_25 (script := x) (long := L)) >>= fun r => lcL [8] (.nm 8) fYes E1_law_25 r.1 (wipeE r.2 [8]) [] >>= fun q => Res.ok (O.ol q.1, unw r.2 q.2 [8])) = _
    rw [er, bind_ok]
    show (lcL [8] (.nm 8) fYes E1_law_25 (rng 0 200) (V_law_25 (script := x) (long := L)) [] >>= fun q => Res.ok (O.ol q.1, unw (V_law_25 (script := x) (long := L)) q.2 [8])) = _
    rw [e]; rfl
  generalize fLc (fR1 (.v (fC (.int 200)))) [8] (.nm 8) (fYes) (E1_law_25) = FF at *
  simp [q_mulAI, q_mulAL, a_wb, q_divW, Function.comp_def, q_starI, q_starIT, a_wp, a_fz, a_fz0, a_fz1, a_ext, a_ins, a_insA, a_pop, a_parN, a_evO0, a_evO1, a_setO0, a_setO1, a_ix2, a_setII, a_zN, a_zC, a_lcO, d_oo, pEq_int, pNe_int, pIxL, pIxT, atI_nat, atI_0, atI_1, atI_2, atI_3, atI_m1, cutLo, cutHi, cutLo1, cutHi1, a_seq, a_ifS, a_B, a_op, a_ov, a_ev0, a_evv, a_evs, a_C, a_V, a_M, a_set, a_setI, a_app, a_ret, a_ex, a_skip, a_no, a_not, a_andT, a_orT, a_and, a_or, a_notV, a_if, a_par, a_call, a_forS, a_sq, a_r1, a_r2, a_en, a_zp, a_asT, a_chI, a_yes, a_lc, a_fn, okA, f_fr, bkA, rsvs, rsv, dvs, on1, on2, d_fr, d_ol, rsO, ndS, sl, putB, asT, setAll, ofO, Dy.ints1, Dy.ints2, nE, wipeE, unw, frO, q_addI, q_addL, q_addT, q_addS, q_sub, q_div, q_mod, q_pow, q_neg, q_cm, pIs, pIsn, q_isN, q_isI, q_isS, q_isT, q_isL, q_isB, q_lenL, q_lenT, pTup, pLst, q_tupL, q_tupT, q_lstL, q_lstT, q_revL, q_slL, q_slT, q_shL, q_shT, q_sqL, q_sqT, q_intI, q_max2, q_min2, q_aII, q_aBI, q_aTI, q_aTT, q_aLL, q_aTL, q_aIT, ef, ll]
theorem many201 : ("! many " : Str) ++ (mnT ((201 : Nat) : Int) ((200 : Nat) : Int)).shown = ("! many (201, 200)" : Str) := by decide +kernel
theorem hF3 {T : PyData} {a b : Int} (e2 : M_spelled_3 [.fr (.tuple [.int 0, .int 1]), .fr T] = .er ⟨"TooMany", [.int a, .int b]⟩) : F3_law_25 (V_law_25 (chain := fr T)) = .er ⟨"TooMany", [.int a, .int b]⟩ := by
  simp [F3_law_25, q_mulAI, q_mulAL, a_wb, q_divW, Function.comp_def, q_starI, q_starIT, a_wp, a_fz, a_fz0, a_fz1, a_ext, a_ins, a_insA, a_pop, a_parN, a_evO0, a_evO1, a_setO0, a_setO1, a_ix2, a_setII, a_zN, a_zC, a_lcO, d_oo, pEq_int, pNe_int, pIxL, pIxT, atI_nat, atI_0, atI_1, atI_2, atI_3, atI_m1, cutLo, cutHi, cutLo1, cutHi1, a_seq, a_ifS, a_B, a_op, a_ov, a_ev0, a_evv, a_evs, a_C, a_V, a_M, a_set, a_setI, a_app, a_ret, a_ex, a_skip, a_no, a_not, a_andT, a_orT, a_and, a_or, a_notV, a_if, a_par, a_call, a_forS, a_sq, a_r1, a_r2, a_en, a_zp, a_asT, a_chI, a_yes, a_lc, a_fn, okA, f_fr, bkA, rsvs, rsv, dvs, on1, on2, d_fr, d_ol, rsO, ndS, sl, putB, asT, setAll, ofO, Dy.ints1, Dy.ints2, nE, wipeE, unw, frO, q_addI, q_addL, q_addT, q_addS, q_sub, q_div, q_mod, q_pow, q_neg, q_cm, pIs, pIsn, q_isN, q_isI, q_isS, q_isT, q_isL, q_isB, q_lenL, q_lenT, pTup, pLst, q_tupL, q_tupT, q_lstL, q_lstT, q_revL, q_slL, q_slT, q_shL, q_shT, q_sqL, q_sqT, q_intI, q_max2, q_min2, q_aII, q_aBI, q_aTI, q_aTT, q_aLL, q_aTL, q_aIT, e2]
theorem gE5 (x : Option O) {SS : EF} {C2 C1 : List PyData} {LO : PyData} (ec : cutD C2 none (some 200) = C1) (e1 : M_spelled_3 [.fr (.tuple [.int 0, .int 1]), .fr (.tuple C1)] = .ok (.fr LO, [.fr (.tuple [.int 0, .int 1]), .fr (.tuple C1)])) (eq : pNe LO LO = some (.fr (.bool false)))
    (g1 : SS (V_law_25 (script := x) (long := fr LO) (chain := fr (.tuple C2))) = .ok (.fr (.str "! many (201, 200)"), V_law_25 (script := x) (long := fr LO) (chain := fr (.tuple C2)))) :
    fWp [1, 3] (fIfS (fOrT (fB (fOp (on2 pNe) [.v (fCall M_spelled_3 [.v (fOv pTup [.v (fC (.int 0)), .v (fC (.int 1))]), .v (fOp (on2 pSl2h) [.s 3, .v (fC (.int 200))])]), .s 1])) (fB (fOp (on2 pNe) [.v SS, .v (fC (.str "! many (201, 200)"))]))) (fRet (fC (.bool false))) (fSkip)) (V_law_25 (script := x) (long := fr LO) (chain := fr (.tuple C2))) = .ok (.nx, V_law_25 (script := x)) := by
  simp [q_mulAI, q_mulAL, a_wb, q_divW, Function.comp_def, q_starI, q_starIT, a_wp, a_fz, a_fz0, a_fz1, a_ext, a_ins, a_insA, a_pop, a_parN, a_evO0, a_evO1, a_setO0, a_setO1, a_ix2, a_setII, a_zN, a_zC, a_lcO, d_oo, pEq_int, pNe_int, pIxL, pIxT, atI_nat, atI_0, atI_1, atI_2, atI_3, atI_m1, cutLo, cutHi, cutLo1, cutHi1, a_seq, a_ifS, a_B, a_op, a_ov, a_ev0, a_evv, a_evs, a_C, a_V, a_M, a_set, a_setI, a_app, a_ret, a_ex, a_skip, a_no, a_not, a_andT, a_orT, a_and, a_or, a_notV, a_if, a_par, a_call, a_forS, a_sq, a_r1, a_r2, a_en, a_zp, a_asT, a_chI, a_yes, a_lc, a_fn, okA, f_fr, bkA, rsvs, rsv, dvs, on1, on2, d_fr, d_ol, rsO, ndS, sl, putB, asT, setAll, ofO, Dy.ints1, Dy.ints2, nE, wipeE, unw, frO, q_addI, q_addL, q_addT, q_addS, q_sub, q_div, q_mod, q_pow, q_neg, q_cm, pIs, pIsn, q_isN, q_isI, q_isS, q_isT, q_isL, q_isB, q_lenL, q_lenT, pTup, pLst, q_tupL, q_tupT, q_lstL, q_lstT, q_revL, q_slL, q_slT, q_shL, q_shT, q_sqL, q_sqT, q_intI, q_max2, q_min2, q_aII, q_aBI, q_aTI, q_aTT, q_aLL, q_aTL, q_aIT, ec, e1, eq, g1, pNe_str]
theorem tr5 (n : Nat) (h : n ≤ 900) : TrOk [0, 1] (ch5 n) := (ch5_cn n).1.tr (by rw [ch5_len]; omega)
theorem sp199 : M_spelled_3 [.fr (encA [0, 1]), .fr (encT (ch5 199))] = .ok (.fr (encA lo5), [.fr (encA [0, 1]), .fr (encT (ch5 199))]) := by
  have e1 := spelled5 ar5 (tr5 199 (by decide)) (by rw [ch5_cnt 199 (by decide)]; decide)
  rw [pL_root (as := [0, 1]) (tr5 199 (by decide)).ne, pL199] at e1
  exact e1
theorem sp200 : M_spelled_3 [.fr (encA [0, 1]), .fr (encT (ch5 200))] = .er ⟨"TooMany", [.int ((201 : Nat) : Int), .int ((200 : Nat) : Int)]⟩ := by
  have c2 := ch5_cnt 200 (by decide)
  have e2 := spelledN ar5 (tr5 200 (by decide)) (by rw [c2]; decide) (by rw [c2]; decide)
  rw [c2] at e2
  exact e2
theorem cut200 : cutD ((ch5 200).map encN) none (some 200) = (ch5 199).map encN := by
  rw [show (some (200 : Int)) = some ((200 : Nat) : Int) from rfl, cutHi]
  have : ch5 200 = ch5 199 ++ [(1, [199])] := rfl
  rw [this, List.map_append, List.take_append_of_le_length (by rw [List.length_map, ch5_len]; decide), List.take_of_length_le (by rw [List.length_map, ch5_len]; decide)]
theorem saidEg (x : Option O) {LO T : PyData} {a b : Nat} {S : Str} (hS : ("! many " : Str) ++ (mnT (a : Int) (b : Int)).shown = S) (ha : a < 10 ^ 30) (hb : b < 10 ^ 30) (h : F3_law_25 (V_law_25 (chain := fr T)) = .er ⟨"TooMany", [.int (a : Int), .int (b : Int)]⟩) : fSaidT 3 ["NoArities", "NoTree", "Unspelled"] ["TooMany"] [3] [0, 1, 2, 4, 5, 6, 7, 8] F3_law_25 b__law_said_2 (V_law_25 (script := x) (long := fr LO) (chain := fr T)) = .ok (.fr (.str S), V_law_25 (script := x) (long := fr LO) (chain := fr T)) := by
  subst hS
  exact fSaidT_er (env' := V_law_25 (chain := fr T)) (y := ⟨"TooMany", [.int (a : Int), .int (b : Int)]⟩) (o := .fr (.str (("! many " : Str) ++ (mnT (a : Int) (b : Int)).shown))) rfl rfl h (.inr ⟨by simp, rfl⟩) (su_many ha hb)
theorem f3ch : F3_law_25 (V_law_25 (chain := fr (encT (ch5 200)))) = .er ⟨"TooMany", [.int ((201 : Nat) : Int), .int ((200 : Nat) : Int)]⟩ := hF3 sp200
theorem saidE (x : Option O) : fSaidT 3 ["NoArities", "NoTree", "Unspelled"] ["TooMany"] [3] [0, 1, 2, 4, 5, 6, 7, 8] F3_law_25 b__law_said_2 (V_law_25 (script := x) (long := fr (encA lo5)) (chain := fr (encT (ch5 200)))) = .ok (.fr (.str "! many (201, 200)"), V_law_25 (script := x) (long := fr (encA lo5)) (chain := fr (encT (ch5 200)))) :=
  saidEg x many201 (by decide) (by decide) f3ch
theorem ne_lo5 : pNe (encA lo5) (encA lo5) = some (.fr (.bool false)) := by
  have hsh := (rkRow (row := lo5) (fun x h => by have := lo5_lt x h; simp at this; omega) (by rw [lo5_len]; decide)).shp (by decide)
  rw [pNe_T _ _ hsh hsh, eqvN]; rfl
theorem guardE (x : Option O) : fWp [1, 3] (fIfS (fOrT (fB (fOp (on2 pNe) [.v (fCall M_spelled_3 [.v (fOv pTup [.v (fC (.int 0)), .v (fC (.int 1))]), .v (fOp (on2 pSl2h) [.s 3, .v (fC (.int 200))])]), .s 1])) (fB (fOp (on2 pNe) [.v (fSaidT 3 ["NoArities", "NoTree", "Unspelled"] ["TooMany"] [3] [0, 1, 2, 4, 5, 6, 7, 8] F3_law_25 b__law_said_2), .v (fC (.str "! many (201, 200)"))]))) (fRet (fC (.bool false))) (fSkip)) (V_law_25 (script := x) (long := fr (encA lo5)) (chain := fr (encT (ch5 200)))) = .ok (.nx, V_law_25 (script := x)) :=
  gE5 x cut200 sp199 ne_lo5 (saidE x)
theorem law_true_05 (ns : List Int) (hl : ns.length ≤ 63) : ∃ os, M_law_25 [.fr (.list (ns.map PyData.int))] = .ok (.fr (.bool true), os) := by
  refine ⟨[.fr (.list (ns.map PyData.int))], fn1_4 (N := 8) (e := wipeE (V_law_25 (script := fr (.list (ns.map PyData.int)))) [0, 4, 5, 6, 7]) ?_⟩
  unfold b_law_25
  exact nx4 (setA5 _) (nx4 (guardB _) (nx4 (loopC _ _) (nx4 (setD5 _ _) (nx4 (guardE _) (lof0_4 (loop5 ns))))))
end Q
namespace W05
open PySem PySem.Spec PyProof.Rows L2 Dy Q
def topS (i : Nat) : Stmt := PySem.Challenge.pw_codepick_k05_spelled_there_and_back.main.body.getD i (.Pass ⟨0, 0, 0, 0⟩)
section
variable {P : Program} {w : World} {K : PySem.W.Frag} {mg : Str → Option Value} {T : List (Addr × Str)}
abbrev s__law_pen : Stmt := topS 45
theorem sc__law_pen : FnScope ["_law_cell_here"] ["_law_cell_here"] (defScope s__law_pen) := ⟨rfl, rfl, rfl, by decide +kernel, rfl, by decide +kernel, by decide +kernel⟩
theorem ok__law_pen {f : Addr} {fd : FuncData} {k : Nat} (F : Fun K "_law_pen" "_law_pen" s__law_pen f fd) (hm : mg "_law_pen" = some (.ref f)) (hb : Binds K fd ["_law_cell_here"] []) (z_max : mg "max" = none) : CallOk P w K mg T (k + 1) "_law_pen" ["_law_cell_here"] M__law_pen_2 :=
  callOk_of F hm hb fun base => fnD F sc__law_pen rfl rfl (by decide) fun cdv A outer s H qv E hgd hr => (dss_one (ds_ret (de_lst (da_cons (dx_v (de_callB (cl_max rfl) os_max rfl z_max bt_max (da_cons (dx_v de_int) (da_cons (dx_v (de_op op_sub os_sub (dx_s 0 (pv 0)) (dx_v (de_op op_pow os_pow (dx_v de_int) (dx_v de_int))))) da_nil)))) (da_cons (dx_v (de_op op_addA os_add (dx_v (de_op op_mod os_mod (dx_s 0 (pv 0)) (dx_v de_int))) (dx_v de_int))) (da_cons (dx_v de_int) da_nil))))))
abbrev s__law_kind : Stmt := topS 50
theorem sc__law_kind : FnScope ["_law_error", "_law_marks", "_law_words"] ["_law_error"] (defScope s__law_kind) := ⟨rfl, rfl, rfl, by decide +kernel, rfl, by decide +kernel, by decide +kernel⟩
theorem kd__law_kind {base : Heap} {gK : Addr} {k : Nat} {a C : Addr} {oe : Obj} {c : Str} {PEa : Addr} (XS : ExcSet K mg ["NoArities", "NoTree", "Unspelled"] ["NoMachine", "NoArities", "NoTree", "Unspelled", "NoOperator", "NoPrices", "NoStates", "NoForm", "NoCover", "NoNumber", "NoNumbers", "NoPrice", "ManyForms", "Endless", "OtherArities", "NoContext", "NoNodes", "NoArguments", "NothingRead", "NothingDone", "NoPlace", "NoText", "BadLine", "TooMany"] "PickError" PEa) (hc : c ∈ (["NoArities", "NoTree", "Unspelled"] : List Str)) (hC : mg c = some (.ref C)) (hz : Zc (.ref C) none oe) (hv : ∃ vs, oe.data = .fields vs) (z_ValueError : mg "ValueError" = none) (z_isinstance : mg "isinstance" = none) : ∀ (cdv : Value) (A : Around) (outer : List PySem.Env) (s : Shared) (H : Hp), (A.deeper (envOfC "_law_kind" (defScope s__law_kind) s.heap.objs.size gK cdv)).guards = some [] → L2H.RoomH k (A.deeper (envOfC "_law_kind" (defScope s__law_kind) s.heap.objs.size gK cdv)) →
    DSs ⟨K, mg, ([0], (fun _ => .ref a), T), fun _ _ _ => False⟩ (L2H.cxH (L2.CX P w) P w K mg base ["_law_error", "_law_marks", "_law_words"] "_law_kind" (defScope s__law_kind) gK cdv A outer s H (fun _ _ _ => False) (a, oe)) (defBody s__law_kind) (b__law_kind c) :=
  fun cdv A outer s H hgd hr => (dss_cons (ds_fz [1] (ds_set (i := 1) sc__law_kind.nd rfl (by first | exact .inl rfl | exact .inr rfl) (np1 rfl) (de_lst (da_cons (dx_v (de_isK XS hc hC (memS (by decide +kernel)) (.head _) hz hv rfl rfl z_isinstance (pv 0) rfl)) (da_cons (dx_v (de_isK XS hc hC (memS (by decide +kernel)) (.head _) hz hv rfl rfl z_isinstance (pv 0) rfl)) (da_cons (dx_v (de_isK XS hc hC (memS (by decide +kernel)) (.head _) hz hv rfl rfl z_isinstance (pv 0) rfl)) da_nil))))) nx_set)
    (dss_cons (ds_fz [1] (ds_set (i := 1) sc__law_kind.nd rfl (by first | exact .inl rfl | exact .inr rfl) (np1 rfl) (de_op op_addA os_add (dx_s 1 (pv 1)) (dx_v (de_lst (da_cons (dx_v (de_isK XS hc hC (memS (by decide +kernel)) (.head _) hz hv rfl rfl z_isinstance (pv 0) rfl)) (da_cons (dx_v (de_isK XS hc hC (memS (by decide +kernel)) (.head _) hz hv rfl rfl z_isinstance (pv 0) rfl)) (da_cons (dx_v (de_isK XS hc hC (memS (by decide +kernel)) (.head _) hz hv rfl rfl z_isinstance (pv 0) rfl)) da_nil))))))) nx_set)
    (dss_cons (ds_fz [1] (ds_set (i := 1) sc__law_kind.nd rfl (by first | exact .inl rfl | exact .inr rfl) (np1 rfl) (de_op op_addA os_add (dx_s 1 (pv 1)) (dx_v (de_lst (da_cons (dx_v (de_isK XS hc hC (memS (by decide +kernel)) (.head _) hz hv rfl rfl z_isinstance (pv 0) rfl)) (da_cons (dx_v (de_isK XS hc hC (memS (by decide +kernel)) (.head _) hz hv rfl rfl z_isinstance (pv 0) rfl)) (da_cons (dx_v (de_isK XS hc hC (memS (by decide +kernel)) (.head _) hz hv rfl rfl z_isinstance (pv 0) rfl)) da_nil))))))) nx_set)
    (dss_cons (ds_fz [1] (ds_set (i := 1) sc__law_kind.nd rfl (by first | exact .inl rfl | exact .inr rfl) (np1 rfl) (de_op op_addA os_add (dx_s 1 (pv 1)) (dx_v (de_lst (da_cons (dx_v (de_isK XS hc hC (memS (by decide +kernel)) (.head _) hz hv rfl rfl z_isinstance (pv 0) rfl)) (da_cons (dx_v (de_isK XS hc hC (memS (by decide +kernel)) (.head _) hz hv rfl rfl z_isinstance (pv 0) rfl)) (da_cons (dx_v (de_isK XS hc hC (memS (by decide +kernel)) (.head _) hz hv rfl rfl z_isinstance (pv 0) rfl)) da_nil))))))) nx_set)
    (dss_cons (ds_fz [1] (ds_set (i := 1) sc__law_kind.nd rfl (by first | exact .inl rfl | exact .inr rfl) (np1 rfl) (de_op op_addA os_add (dx_s 1 (pv 1)) (dx_v (de_lst (da_cons (dx_v (de_isK XS hc hC (memS (by decide +kernel)) (.head _) hz hv rfl rfl z_isinstance (pv 0) rfl)) (da_cons (dx_v (de_isK XS hc hC (memS (by decide +kernel)) (.head _) hz hv rfl rfl z_isinstance (pv 0) rfl)) da_nil)))))) nx_set)
    (dss_cons (ds_fz [1] (ds_set (i := 1) sc__law_kind.nd rfl (by first | exact .inl rfl | exact .inr rfl) (np1 rfl) (de_op op_addA os_add (dx_s 1 (pv 1)) (dx_v (de_lst (da_cons (dx_v (de_isK XS hc hC (memS (by decide +kernel)) (.head _) hz hv rfl rfl z_isinstance (pv 0) rfl)) (da_cons (dx_v (de_isK XS hc hC (memS (by decide +kernel)) (.head _) hz hv rfl rfl z_isinstance (pv 0) rfl)) da_nil)))))) nx_set)
    (dss_cons (ds_fz [1] (ds_set (i := 1) sc__law_kind.nd rfl (by first | exact .inl rfl | exact .inr rfl) (np1 rfl) (de_op op_addA os_add (dx_s 1 (pv 1)) (dx_v (de_lst (da_cons (dx_v (de_isK XS hc hC (memS (by decide +kernel)) (.head _) hz hv rfl rfl z_isinstance (pv 0) rfl)) (da_cons (dx_v (de_isK XS hc hC (memS (by decide +kernel)) (.head _) hz hv rfl rfl z_isinstance (pv 0) rfl)) (da_cons (dx_v (de_isK XS hc hC (memS (by decide +kernel)) (.head _) hz hv rfl rfl z_isinstance (pv 0) rfl)) da_nil))))))) nx_set)
    (dss_cons (ds_fz [1] (ds_set (i := 1) sc__law_kind.nd rfl (by first | exact .inl rfl | exact .inr rfl) (np1 rfl) (de_op op_addA os_add (dx_s 1 (pv 1)) (dx_v (de_lst (da_cons (dx_v (de_isK XS hc hC (memS (by decide +kernel)) (.head _) hz hv rfl rfl z_isinstance (pv 0) rfl)) (da_cons (dx_v (de_isK XS hc hC (memS (by decide +kernel)) (.head _) hz hv rfl rfl z_isinstance (pv 0) rfl)) (da_cons (dx_v (de_isK XS hc hC (memS (by decide +kernel)) (.head _) hz hv rfl rfl z_isinstance (pv 0) rfl)) da_nil))))))) nx_set)
    (dss_cons (ds_fz [1] (ds_set (i := 1) sc__law_kind.nd rfl (by first | exact .inl rfl | exact .inr rfl) (np1 rfl) (de_op op_addA os_add (dx_s 1 (pv 1)) (dx_v (de_lst (da_cons (dx_v (de_isK XS hc hC (memS (by decide +kernel)) (.head _) hz hv rfl rfl z_isinstance (pv 0) rfl)) (da_cons (dx_v (de_isK XS hc hC (memS (by decide +kernel)) (.head _) hz hv rfl rfl z_isinstance (pv 0) rfl)) da_nil)))))) nx_set)
    (dss_cons (ds_fz [2] (ds_set (i := 2) sc__law_kind.nd rfl (by first | exact .inl rfl | exact .inr rfl) (np1 rfl) (de_lst (da_cons (dx_v de_str) (da_cons (dx_v de_str) (da_cons (dx_v de_str) (da_cons (dx_v de_str) (da_cons (dx_v de_str) (da_cons (dx_v de_str) (da_cons (dx_v de_str) (da_cons (dx_v de_str) (da_cons (dx_v de_str) da_nil))))))))))) nx_set)
    (dss_cons (ds_fz [2] (ds_set (i := 2) sc__law_kind.nd rfl (by first | exact .inl rfl | exact .inr rfl) (np1 rfl) (de_op op_addA os_add (dx_s 2 (pv 2)) (dx_v (de_lst (da_cons (dx_v de_str) (da_cons (dx_v de_str) (da_cons (dx_v de_str) (da_cons (dx_v de_str) (da_cons (dx_v de_str) (da_cons (dx_v de_str) (da_cons (dx_v de_str) (da_cons (dx_v de_str) da_nil)))))))))))) nx_set)
    (dss_cons (ds_fz [2] (ds_set (i := 2) sc__law_kind.nd rfl (by first | exact .inl rfl | exact .inr rfl) (np1 rfl) (de_op op_addA os_add (dx_s 2 (pv 2)) (dx_v (de_lst (da_cons (dx_v de_str) (da_cons (dx_v de_str) (da_cons (dx_v de_str) (da_cons (dx_v de_str) (da_cons (dx_v de_str) (da_cons (dx_v de_str) (da_cons (dx_v de_str) da_nil))))))))))) nx_set)
    (dss_cons (ds_if (dw_t (dw_or (dt_cmp (op_neA (ruH64 hr)) os_ne (dx_v (de_count (ruH65 hr) (pv 1) (dx_v de_bl))) (dx_v de_int) (nomark _)) (dw_or1 (dt_not (dt_val (de_isVE XS hc hC (.head _) hz hv rfl rfl z_isinstance (pv 0) (pty rfl z_ValueError bt_ValueError))))))) (dss_one (ds_ret de_str)) dss_nil)
    (dss_one (ds_ret (de_ix (ixD (ruH65 hr)) os_ix (dx_s 2 (pv 2)) (dx_v (de_index (ruH65 hr) (pv 1) (dx_v de_bl))) (fun _ _ => rfl)))))))))))))))))
theorem kdT__law_kind {base : Heap} {gK : Addr} {k : Nat} {a C dx : Addr} {oe : Obj} {p q : Int} {PEa : Addr} (TM : TmSet P w K mg ["NoMachine", "NoArities", "NoTree", "Unspelled", "NoOperator", "NoPrices", "NoStates", "NoForm", "NoCover", "NoNumber", "NoNumbers", "NoPrice", "ManyForms", "Endless", "OtherArities", "NoContext", "NoNodes", "NoArguments", "NothingRead", "NothingDone", "NoPlace", "NoText", "BadLine", "TooMany"] "TooMany" PEa " are more than ") (hC : mg "TooMany" = some (.ref C)) (hz : Zc (.ref C) (some dx) oe) (hv : ∃ vs, oe.data = .fields vs) (z_ValueError : mg "ValueError" = none) (z_isinstance : mg "isinstance" = none) : ∀ (cdv : Value) (A : Around) (outer : List PySem.Env) (s : Shared) (H : Hp), (A.deeper (envOfC "_law_kind" (defScope s__law_kind) s.heap.objs.size gK cdv)).guards = some [] → L2H.RoomH k (A.deeper (envOfC "_law_kind" (defScope s__law_kind) s.heap.objs.size gK cdv)) →
    DSs ⟨K, mg, ([0], (fun _ => .ref a), (dx, fldS p q) :: T), fun _ _ _ => False⟩ (L2H.cxH (L2.CX P w) P w K mg base ["_law_error", "_law_marks", "_law_words"] "_law_kind" (defScope s__law_kind) gK cdv A outer s H (fun _ _ _ => False) (a, oe)) (defBody s__law_kind) (b__law_kind "TooMany") :=
  fun cdv A outer s H hgd hr => (dss_cons (ds_fz [1] (ds_set (i := 1) sc__law_kind.nd rfl (by first | exact .inl rfl | exact .inr rfl) (np1 rfl) (de_lst (da_cons (dx_v (de_isTK TM hC (memS (by decide +kernel)) (.head _) hz hv rfl (.head _) rfl z_isinstance (pv 0) rfl)) (da_cons (dx_v (de_isTK TM hC (memS (by decide +kernel)) (.head _) hz hv rfl (.head _) rfl z_isinstance (pv 0) rfl)) (da_cons (dx_v (de_isTK TM hC (memS (by decide +kernel)) (.head _) hz hv rfl (.head _) rfl z_isinstance (pv 0) rfl)) da_nil))))) nx_set)
    (dss_cons (ds_fz [1] (ds_set (i := 1) sc__law_kind.nd rfl (by first | exact .inl rfl | exact .inr rfl) (np1 rfl) (de_op op_addA os_add (dx_s 1 (pv 1)) (dx_v (de_lst (da_cons (dx_v (de_isTK TM hC (memS (by decide +kernel)) (.head _) hz hv rfl (.head _) rfl z_isinstance (pv 0) rfl)) (da_cons (dx_v (de_isTK TM hC (memS (by decide +kernel)) (.head _) hz hv rfl (.head _) rfl z_isinstance (pv 0) rfl)) (da_cons (dx_v (de_isTK TM hC (memS (by decide +kernel)) (.head _) hz hv rfl (.head _) rfl z_isinstance (pv 0) rfl)) da_nil))))))) nx_set)
    (dss_cons (ds_fz [1] (ds_set (i := 1) sc__law_kind.nd rfl (by first | exact .inl rfl | exact .inr rfl) (np1 rfl) (de_op op_addA os_add (dx_s 1 (pv 1)) (dx_v (de_lst (da_cons (dx_v (de_isTK TM hC (memS (by decide +kernel)) (.head _) hz hv rfl (.head _) rfl z_isinstance (pv 0) rfl)) (da_cons (dx_v (de_isTK TM hC (memS (by decide +kernel)) (.head _) hz hv rfl (.head _) rfl z_isinstance (pv 0) rfl)) (da_cons (dx_v (de_isTK TM hC (memS (by decide +kernel)) (.head _) hz hv rfl (.head _) rfl z_isinstance (pv 0) rfl)) da_nil))))))) nx_set)
    (dss_cons (ds_fz [1] (ds_set (i := 1) sc__law_kind.nd rfl (by first | exact .inl rfl | exact .inr rfl) (np1 rfl) (de_op op_addA os_add (dx_s 1 (pv 1)) (dx_v (de_lst (da_cons (dx_v (de_isTK TM hC (memS (by decide +kernel)) (.head _) hz hv rfl (.head _) rfl z_isinstance (pv 0) rfl)) (da_cons (dx_v (de_isTK TM hC (memS (by decide +kernel)) (.head _) hz hv rfl (.head _) rfl z_isinstance (pv 0) rfl)) (da_cons (dx_v (de_isTK TM hC (memS (by decide +kernel)) (.head _) hz hv rfl (.head _) rfl z_isinstance (pv 0) rfl)) da_nil))))))) nx_set)
    (dss_cons (ds_fz [1] (ds_set (i := 1) sc__law_kind.nd rfl (by first | exact .inl rfl | exact .inr rfl) (np1 rfl) (de_op op_addA os_add (dx_s 1 (pv 1)) (dx_v (de_lst (da_cons (dx_v (de_isTK TM hC (memS (by decide +kernel)) (.head _) hz hv rfl (.head _) rfl z_isinstance (pv 0) rfl)) (da_cons (dx_v (de_isTK TM hC (memS (by decide +kernel)) (.head _) hz hv rfl (.head _) rfl z_isinstance (pv 0) rfl)) da_nil)))))) nx_set)
    (dss_cons (ds_fz [1] (ds_set (i := 1) sc__law_kind.nd rfl (by first | exact .inl rfl | exact .inr rfl) (np1 rfl) (de_op op_addA os_add (dx_s 1 (pv 1)) (dx_v (de_lst (da_cons (dx_v (de_isTK TM hC (memS (by decide +kernel)) (.head _) hz hv rfl (.head _) rfl z_isinstance (pv 0) rfl)) (da_cons (dx_v (de_isTK TM hC (memS (by decide +kernel)) (.head _) hz hv rfl (.head _) rfl z_isinstance (pv 0) rfl)) da_nil)))))) nx_set)
    (dss_cons (ds_fz [1] (ds_set (i := 1) sc__law_kind.nd rfl (by first | exact .inl rfl | exact .inr rfl) (np1 rfl) (de_op op_addA os_add (dx_s 1 (pv 1)) (dx_v (de_lst (da_cons (dx_v (de_isTK TM hC (memS (by decide +kernel)) (.head _) hz hv rfl (.head _) rfl z_isinstance (pv 0) rfl)) (da_cons (dx_v (de_isTK TM hC (memS (by decide +kernel)) (.head _) hz hv rfl (.head _) rfl z_isinstance (pv 0) rfl)) (da_cons (dx_v (de_isTK TM hC (memS (by decide +kernel)) (.head _) hz hv rfl (.head _) rfl z_isinstance (pv 0) rfl)) da_nil))))))) nx_set)
    (dss_cons (ds_fz [1] (ds_set (i := 1) sc__law_kind.nd rfl (by first | exact .inl rfl | exact .inr rfl) (np1 rfl) (de_op op_addA os_add (dx_s 1 (pv 1)) (dx_v (de_lst (da_cons (dx_v (de_isTK TM hC (memS (by decide +kernel)) (.head _) hz hv rfl (.head _) rfl z_isinstance (pv 0) rfl)) (da_cons (dx_v (de_isTK TM hC (memS (by decide +kernel)) (.head _) hz hv rfl (.head _) rfl z_isinstance (pv 0) rfl)) (da_cons (dx_v (de_isTK TM hC (memS (by decide +kernel)) (.head _) hz hv rfl (.head _) rfl z_isinstance (pv 0) rfl)) da_nil))))))) nx_set)
    (dss_cons (ds_fz [1] (ds_set (i := 1) sc__law_kind.nd rfl (by first | exact .inl rfl | exact .inr rfl) (np1 rfl) (de_op op_addA os_add (dx_s 1 (pv 1)) (dx_v (de_lst (da_cons (dx_v (de_isTK TM hC (memS (by decide +kernel)) (.head _) hz hv rfl (.head _) rfl z_isinstance (pv 0) rfl)) (da_cons (dx_v (de_isTK TM hC (memS (by decide +kernel)) (.head _) hz hv rfl (.head _) rfl z_isinstance (pv 0) rfl)) da_nil)))))) nx_set)
    (dss_cons (ds_fz [2] (ds_set (i := 2) sc__law_kind.nd rfl (by first | exact .inl rfl | exact .inr rfl) (np1 rfl) (de_lst (da_cons (dx_v de_str) (da_cons (dx_v de_str) (da_cons (dx_v de_str) (da_cons (dx_v de_str) (da_cons (dx_v de_str) (da_cons (dx_v de_str) (da_cons (dx_v de_str) (da_cons (dx_v de_str) (da_cons (dx_v de_str) da_nil))))))))))) nx_set)
    (dss_cons (ds_fz [2] (ds_set (i := 2) sc__law_kind.nd rfl (by first | exact .inl rfl | exact .inr rfl) (np1 rfl) (de_op op_addA os_add (dx_s 2 (pv 2)) (dx_v (de_lst (da_cons (dx_v de_str) (da_cons (dx_v de_str) (da_cons (dx_v de_str) (da_cons (dx_v de_str) (da_cons (dx_v de_str) (da_cons (dx_v de_str) (da_cons (dx_v de_str) (da_cons (dx_v de_str) da_nil)))))))))))) nx_set)
    (dss_cons (ds_fz [2] (ds_set (i := 2) sc__law_kind.nd rfl (by first | exact .inl rfl | exact .inr rfl) (np1 rfl) (de_op op_addA os_add (dx_s 2 (pv 2)) (dx_v (de_lst (da_cons (dx_v de_str) (da_cons (dx_v de_str) (da_cons (dx_v de_str) (da_cons (dx_v de_str) (da_cons (dx_v de_str) (da_cons (dx_v de_str) (da_cons (dx_v de_str) da_nil))))))))))) nx_set)
    (dss_cons (ds_if (dw_t (dw_or (dt_cmp (op_neA (ruH64 hr)) os_ne (dx_v (de_count (ruH65 hr) (pv 1) (dx_v de_bl))) (dx_v de_int) (nomark _)) (dw_or1 (dt_not (dt_val (de_isTVE TM hC (.head _) hz hv rfl (.head _) rfl z_isinstance (pv 0) (pty rfl z_ValueError bt_ValueError))))))) (dss_one (ds_ret de_str)) dss_nil)
    (dss_one (ds_ret (de_ix (ixD (ruH65 hr)) os_ix (dx_s 2 (pv 2)) (dx_v (de_index (ruH65 hr) (pv 1) (dx_v de_bl))) (fun _ _ => rfl)))))))))))))))))
abbrev s__law_said : Stmt := topS 51
theorem sc__law_said : FnScope ["_law_call", "_law_error", "_law_word"] ["_law_call"] (defScope s__law_said) := ⟨rfl, rfl, rfl, by decide +kernel, rfl, by decide +kernel, by decide +kernel⟩
theorem su__law_said {base : Heap} {gS gK : Addr} {fdK : FuncData} {k : Nat} (F__law_kind : Fun K "_law_kind" "_law_kind" s__law_kind gK fdK) (m__law_kind : mg "_law_kind" = some (.ref gK)) (bn__law_kind : Binds K fdK ["_law_error"] []) {PEa : Addr} (XS : ExcSet K mg ["NoArities", "NoTree", "Unspelled"] ["NoMachine", "NoArities", "NoTree", "Unspelled", "NoOperator", "NoPrices", "NoStates", "NoForm", "NoCover", "NoNumber", "NoNumbers", "NoPrice", "ManyForms", "Endless", "OtherArities", "NoContext", "NoNodes", "NoArguments", "NothingRead", "NothingDone", "NoPlace", "NoText", "BadLine", "TooMany"] "PickError" PEa) (TM : TmSet P w K mg ["NoMachine", "NoArities", "NoTree", "Unspelled", "NoOperator", "NoPrices", "NoStates", "NoForm", "NoCover", "NoNumber", "NoNumbers", "NoPrice", "ManyForms", "Endless", "OtherArities", "NoContext", "NoNodes", "NoArguments", "NothingRead", "NothingDone", "NoPlace", "NoText", "BadLine", "TooMany"] "TooMany" PEa " are more than ") (z_ValueError : mg "ValueError" = none) (z_isinstance : mg "isinstance" = none) (z_repr : mg "repr" = none) : ∀ (cdv : Value) (A : Around) (outer : List PySem.Env) (s : Shared) (H : Hp), (A.deeper (envOfC "_law_said" (defScope s__law_said) s.heap.objs.size gS cdv)).guards = some [] → Room (k + 1) (A.deeper (envOfC "_law_said" (defScope s__law_said) s.heap.objs.size gS cdv)) → ∀ (a : Addr) (oe : Obj) (pn : List (Addr × Obj)) (y : Exn) (C : Addr), y.cls ∈ (["NoArities", "NoTree", "Unspelled"] : List Str) → y.args = [] → mg y.cls = some (.ref C) → Zc (.ref C) none oe → (∃ vs, oe.data = .fields vs) →
    DSs ⟨K, mg, ([1], (fun _ => .ref a), T), fun _ _ _ => False⟩ ((cxOf (L2.CX P w) P w K mg base ["_law_call", "_law_error", "_law_word"] "_law_said" (defScope s__law_said) gS cdv A outer s H (fun _ _ _ => False)).suite a ((a, oe) :: pn)) (suiteOf s__law_said) (b__law_said_2 y) :=
  fun cdv A outer s H hgd hr a oe pn y C hc ha hC hz hv => (dss_cons (ds_set (i := 2) sc__law_said.nd rfl (by first | exact .inl rfl | exact .inr rfl) (np1 rfl) (de_kind (a := a) (oe := oe) (i := 1) (k := k) (st := s__law_kind) (fb := b__law_kind y.cls) (Ng := ["_law_error", "_law_marks", "_law_words"]) (.head _) rfl rfl m__law_kind F__law_kind.kp F__law_kind bn__law_kind sc__law_kind hgd ⟨hr.dp, hr.un⟩ (pv 1) (by decide) (kd__law_kind XS hc hC hz hv z_ValueError z_isinstance)))
    (dss_one (ds_ret (de_op op_addA os_add (dx_v (de_op op_addA os_add (dx_v de_str) (dx_s 2 (pv 2)))) (dx_v (de_if (dt_cmp (op_eqA (ruH64 (k := k + 1) ⟨hr.dp, hr.un⟩)) os_eq (dx_s 2 (pv 2)) (dx_v de_str) (nomark _)) (de_tm0 ha) de_str))))))
theorem suT__law_said {base : Heap} {gS gK : Addr} {fdK : FuncData} {k : Nat} (F__law_kind : Fun K "_law_kind" "_law_kind" s__law_kind gK fdK) (m__law_kind : mg "_law_kind" = some (.ref gK)) (bn__law_kind : Binds K fdK ["_law_error"] []) {PEa : Addr} (XS : ExcSet K mg ["NoArities", "NoTree", "Unspelled"] ["NoMachine", "NoArities", "NoTree", "Unspelled", "NoOperator", "NoPrices", "NoStates", "NoForm", "NoCover", "NoNumber", "NoNumbers", "NoPrice", "ManyForms", "Endless", "OtherArities", "NoContext", "NoNodes", "NoArguments", "NothingRead", "NothingDone", "NoPlace", "NoText", "BadLine", "TooMany"] "PickError" PEa) (TM : TmSet P w K mg ["NoMachine", "NoArities", "NoTree", "Unspelled", "NoOperator", "NoPrices", "NoStates", "NoForm", "NoCover", "NoNumber", "NoNumbers", "NoPrice", "ManyForms", "Endless", "OtherArities", "NoContext", "NoNodes", "NoArguments", "NothingRead", "NothingDone", "NoPlace", "NoText", "BadLine", "TooMany"] "TooMany" PEa " are more than ") (z_ValueError : mg "ValueError" = none) (z_isinstance : mg "isinstance" = none) (z_repr : mg "repr" = none) : ∀ (cdv : Value) (A : Around) (outer : List PySem.Env) (s : Shared) (H : Hp), (A.deeper (envOfC "_law_said" (defScope s__law_said) s.heap.objs.size gS cdv)).guards = some [] → Room (k + 1) (A.deeper (envOfC "_law_said" (defScope s__law_said) s.heap.objs.size gS cdv)) → ∀ (a : Addr) (oe : Obj) (pn : List (Addr × Obj)) (y : Exn) (C dx : Addr) (p q : Int), y.cls ∈ (["TooMany"] : List Str) → y.args = [.int p, .int q] → mg y.cls = some (.ref C) → Zc (.ref C) (some dx) oe → (∃ vs, oe.data = .fields vs) →
    DSs ⟨K, mg, ([1], (fun _ => .ref a), (dx, fldS p q) :: T), fun _ _ _ => False⟩ ((cxOf (L2.CX P w) P w K mg base ["_law_call", "_law_error", "_law_word"] "_law_said" (defScope s__law_said) gS cdv A outer s H (fun _ _ _ => False)).suite a ((a, oe) :: pn)) (suiteOf s__law_said) (b__law_said_2 y) := by
  intro cdv A outer s H hgd hr a oe pn y C dx p q hc ha hC hz hv
  obtain ⟨cls, as⟩ := y
  have hc : cls = ("TooMany" : Str) := by simpa using hc
  have ha : as = [.int p, .int q] := ha
  subst hc ha
  exact (dss_cons (ds_set (i := 2) sc__law_said.nd rfl (by first | exact .inl rfl | exact .inr rfl) (np1 rfl) (de_kind (a := a) (oe := oe) (i := 1) (k := k) (st := s__law_kind) (fb := b__law_kind ("TooMany" : Str)) (Ng := ["_law_error", "_law_marks", "_law_words"]) (.head _) rfl rfl m__law_kind F__law_kind.kp F__law_kind bn__law_kind sc__law_kind hgd ⟨hr.dp, hr.un⟩ (pv 1) (by decide) (kdT__law_kind TM hC hz hv z_ValueError z_isinstance)))
    (dss_one (ds_ret (de_op op_addA os_add (dx_v (de_op op_addA os_add (dx_v de_str) (dx_s 2 (pv 2)))) (dx_v (de_if (dt_cmp (op_eqA (ruH64 (k := k + 1) ⟨hr.dp, hr.un⟩)) os_eq (dx_s 2 (pv 2)) (dx_v de_str) (nomark _)) (de_tm1 (de_op op_addA os_add (dx_v de_str) (dx_v (de_callB (cr_reprH hgd ⟨hr.dp, hr.un⟩) os_repr rfl z_repr bt_repr (da_cons (dx_v (de_tup (da_cons (dx_v (de_amountT TM hC hz hv rfl (.head _) (pv 1))) (da_cons (dx_v (de_limitT TM hC hz hv rfl (.head _) (pv 1))) da_nil)))) da_nil))))) de_str))))))
abbrev s_is_between : Stmt := topS 29
theorem sc_is_between : FnScope ["thing", "low", "high"] ["thing", "low", "high"] (defScope s_is_between) := ⟨rfl, rfl, rfl, by decide +kernel, rfl, by decide +kernel, by decide +kernel⟩
theorem ok_is_between {f : Addr} {fd : FuncData} {k : Nat} (F : Fun K "is_between" "is_between" s_is_between f fd) (hm : mg "is_between" = some (.ref f)) (hb : Binds K fd ["thing", "low", "high"] []) (z_bool : mg "bool" = none) (z_int : mg "int" = none) (z_isinstance : mg "isinstance" = none) : CallOk P w K mg T (k + 1) "is_between" ["thing", "low", "high"] M_is_between :=
  callOk_of F hm hb fun base => fnD F sc_is_between rfl rfl (by decide) fun cdv A outer s H qv E hgd hr => (dss_one (ds_ret (de_and (de_isi .int rfl z_isinstance bt_isinstance (dx_s 0 (pv 0)) (pty rfl z_int bt_int)) (de_and (de_not (de_isi .bool rfl z_isinstance bt_isinstance (dx_s 0 (pv 0)) (pty rfl z_bool bt_bool))) (de_one (de_chI op_le op_le (fun a b c => pe_chain op_le op_le a b c) (dx_s 1 (pv 1)) (dx_s 0 (pv 0)) (dx_s 2 (pv 2))))))))
abbrev s_is_arities : Stmt := topS 30
theorem sc_is_arities : FnScope ["thing", "arity"] ["thing"] (defScope s_is_arities) := ⟨rfl, rfl, rfl, by decide +kernel, rfl, by decide +kernel, by decide +kernel⟩
theorem ok_is_arities {f : Addr} {fd : FuncData} {k : Nat} (F : Fun K "is_arities" "is_arities" s_is_arities f fd) (hm : mg "is_arities" = some (.ref f)) (hb : Binds K fd ["thing"] []) (c_is_between : CallOk P w K mg T k "is_between" ["thing", "low", "high"] M_is_between) (z_all : mg "all" = none) (z_isinstance : mg "isinstance" = none) (z_len : mg "len" = none) (z_tuple : mg "tuple" = none) {t_MOST_ARITY : Tok} (g_MOST_ARITY : mg "MOST_ARITY" = some (.int 2 t_MOST_ARITY)) {t_MOST_OPERATORS : Tok} (g_MOST_OPERATORS : mg "MOST_OPERATORS" = some (.int 6 t_MOST_OPERATORS)) : CallOk P w K mg T (k + 1) "is_arities" ["thing"] M_is_arities :=
  callOk_of F hm hb fun base => fnD F sc_is_arities rfl rfl (by decide) fun cdv A outer s H qv E hgd hr => (dss_cons (ds_if (dw_t (dw_or (dt_not (dt_val (de_isi .tuple rfl z_isinstance bt_isinstance (dx_s 0 (pv 0)) (pty rfl z_tuple bt_tuple)))) (dw_or1 (dt_not (dt_chI (fun a b c => pt_chain op_le op_le a b c) (dx_v de_int) (dx_v (de_callB call_lenA os_len rfl z_len bt_len (da_cons (dx_s 0 (pv 0)) da_nil))) (dx_v (de_gint rfl g_MOST_OPERATORS))))))) (dss_one (ds_ret de_bl)) dss_nil)
    (dss_one (ds_ret (de_callB (cr_all rfl) os_all rfl z_all bt_all (da_cons (dx_v (de_lc (own := [("arity", 1)]) (npn rfl) (by decide) rfl sc_is_arities.nd (di_seq (dx_v (de_v 0 (pv 0)))) (blkOk_by (N := ["thing", "arity"]) (sc := defScope s_is_arities) (own := [("arity", 1)]) (by decide +kernel)) (fun _ _ _ _ _ => (pg_name (i := 1) sc_is_arities.nd rfl (by first | exact .inl rfl | exact .inr rfl))) (fun _ _ _ _ _ => pts_yes) (fun _ _ _ _ _ => (dcall c_is_between hgd hr rfl passL (da_cons (dx_v (de_v 1 (pv 1))) (da_cons (dx_v de_int) (da_cons (dx_v (de_gint rfl g_MOST_ARITY)) da_nil))))))) da_nil)))))
abbrev s_need_arities : Stmt := topS 31
theorem sc_need_arities : FnScope ["thing"] ["thing"] (defScope s_need_arities) := ⟨rfl, rfl, rfl, by decide +kernel, rfl, by decide +kernel, by decide +kernel⟩
theorem ok_need_arities {f : Addr} {fd : FuncData} {k : Nat} (F : Fun K "need_arities" "need_arities" s_need_arities f fd) (hm : mg "need_arities" = some (.ref f)) (hb : Binds K fd ["thing"] []) (c_is_arities : CallOk P w K mg T k "is_arities" ["thing"] M_is_arities) {PEa : Addr} (XS : ExcSet K mg ["NoArities", "NoTree", "Unspelled"] ["NoMachine", "NoArities", "NoTree", "Unspelled", "NoOperator", "NoPrices", "NoStates", "NoForm", "NoCover", "NoNumber", "NoNumbers", "NoPrice", "ManyForms", "Endless", "OtherArities", "NoContext", "NoNodes", "NoArguments", "NothingRead", "NothingDone", "NoPlace", "NoText", "BadLine", "TooMany"] "PickError" PEa) (TM : TmSet P w K mg ["NoMachine", "NoArities", "NoTree", "Unspelled", "NoOperator", "NoPrices", "NoStates", "NoForm", "NoCover", "NoNumber", "NoNumbers", "NoPrice", "ManyForms", "Endless", "OtherArities", "NoContext", "NoNodes", "NoArguments", "NothingRead", "NothingDone", "NoPlace", "NoText", "BadLine", "TooMany"] "TooMany" PEa " are more than ") : CallOk P w K mg T (k + 1) "need_arities" ["thing"] M_need_arities_2 :=
  callOk_of F hm hb fun base => fnD F sc_need_arities rfl rfl (by decide) fun cdv A outer s H qv E hgd hr => (dss_one (ds_if (dt_not (dt_val (dcall c_is_arities hgd hr rfl (passes_call (takes_of rfl rfl rfl rfl) (fun _ _ _ _ h => h)) (da_cons (dx_v (de_v 0 (pv 0))) da_nil)))) (dss_one (ds_raiseS XS (memS (by decide +kernel)) rfl (takes_of rfl rfl rfl rfl) rfl)) dss_nil))
abbrev s_is_node : Stmt := topS 34
theorem sc_is_node : FnScope ["arities", "thing", "before", "node"] ["arities", "thing", "before"] (defScope s_is_node) := ⟨rfl, rfl, rfl, by decide +kernel, rfl, by decide +kernel, by decide +kernel⟩
theorem ok_is_node {f : Addr} {fd : FuncData} {k : Nat} (F : Fun K "is_node" "is_node" s_is_node f fd) (hm : mg "is_node" = some (.ref f)) (hb : Binds K fd ["arities", "thing", "before"] []) (c_is_between : CallOk P w K mg T k "is_between" ["thing", "low", "high"] M_is_between) (z_all : mg "all" = none) (z_isinstance : mg "isinstance" = none) (z_len : mg "len" = none) (z_tuple : mg "tuple" = none) : CallOk P w K mg T (k + 1) "is_node" ["arities", "thing", "before"] M_is_node :=
  callOk_of F hm hb fun base => fnD F sc_is_node rfl rfl (by decide) fun cdv A outer s H qv E hgd hr => (dss_cons (ds_if (dw_t (dw_or (dt_not (dt_val (de_isi .tuple rfl z_isinstance bt_isinstance (dx_s 1 (pv 1)) (pty rfl z_tuple bt_tuple)))) (dw_or (dt_cmp (op_eqA (ru64 hr)) os_eq (dx_s 1 (pv 1)) (dx_v (de_tup da_nil)) (nomark _)) (dw_or1 (dt_not (dt_val (dcall c_is_between hgd hr rfl (passes_call (takes_of rfl rfl rfl rfl) (fun _ _ _ _ h => h)) (da_cons (dx_v (de_ix (ixD (ru65 hr)) os_ix (dx_s 1 (pv 1)) (dx_v de_int) (fun _ _ => rfl))) (da_cons (dx_v de_int) (da_cons (dx_v (de_op op_sub os_sub (dx_v (de_callB call_lenA os_len rfl z_len bt_len (da_cons (dx_s 0 (pv 0)) da_nil))) (dx_v de_int))) da_nil)))))))))) (dss_one (ds_ret de_bl)) dss_nil)
    (dss_cons (ds_if (dt_cmp (op_neA (ru64 hr)) os_ne (dx_v (de_callB call_lenA os_len rfl z_len bt_len (da_cons (dx_s 1 (pv 1)) da_nil))) (dx_v (de_op op_addA os_add (dx_v de_int) (dx_v (de_ix (ixD (ru65 hr)) os_ix (dx_s 0 (pv 0)) (dx_v (de_ix (ixD (ru65 hr)) os_ix (dx_s 1 (pv 1)) (dx_v de_int) (fun _ _ => rfl))) (fun _ _ => rfl))))) (nomark _)) (dss_one (ds_ret de_bl)) dss_nil)
    (dss_one (ds_ret (de_callB (cr_all rfl) os_all rfl z_all bt_all (da_cons (dx_v (de_lc (own := [("node", 3)]) (npn rfl) (by decide) rfl sc_is_node.nd (di_seq (dx_v (de_slLo (dx_s 1 (pv 1)) (dx_v de_int)))) (blkOk_by (N := ["arities", "thing", "before", "node"]) (sc := defScope s_is_node) (own := [("node", 3)]) (by decide +kernel)) (fun _ _ _ _ _ => (pg_name (i := 3) sc_is_node.nd rfl (by first | exact .inl rfl | exact .inr rfl))) (fun _ _ _ _ _ => pts_yes) (fun _ _ _ _ _ => (dcall c_is_between hgd hr rfl passL (da_cons (dx_v (de_v 3 (pv 3))) (da_cons (dx_v de_int) (da_cons (dx_v (de_op op_sub os_sub (dx_s 2 (pv 2)) (dx_v de_int))) da_nil))))))) da_nil))))))
abbrev s_is_written : Stmt := topS 35
theorem sc_is_written : FnScope ["arities", "thing", "at", "node"] ["arities", "thing"] (defScope s_is_written) := ⟨rfl, rfl, rfl, by decide +kernel, rfl, by decide +kernel, by decide +kernel⟩
theorem ok_is_written {f : Addr} {fd : FuncData} {k : Nat} (F : Fun K "is_written" "is_written" s_is_written f fd) (hm : mg "is_written" = some (.ref f)) (hb : Binds K fd ["arities", "thing"] []) (c_is_node : CallOk P w K mg T k "is_node" ["arities", "thing", "before"] M_is_node) (z_all : mg "all" = none) (z_enumerate : mg "enumerate" = none) (z_isinstance : mg "isinstance" = none) (z_tuple : mg "tuple" = none) : CallOk P w K mg T (k + 1) "is_written" ["arities", "thing"] M_is_written :=
  callOk_of F hm hb fun base => fnD F sc_is_written rfl rfl (by decide) fun cdv A outer s H qv E hgd hr => (dss_cons (ds_if (dw_t (dw_or (dt_not (dt_val (de_isi .tuple rfl z_isinstance bt_isinstance (dx_s 1 (pv 1)) (pty rfl z_tuple bt_tuple)))) (dw_or1 (dt_cmp (op_eqA (ru64 hr)) os_eq (dx_s 1 (pv 1)) (dx_v (de_tup da_nil)) (nomark _))))) (dss_one (ds_ret de_bl)) dss_nil)
    (dss_one (ds_ret (de_callB (cr_all rfl) os_all rfl z_all bt_all (da_cons (dx_v (de_lc (own := [("at", 2), ("node", 3)]) (npn rfl) (by decide) rfl sc_is_written.nd (di_en rfl z_enumerate (da_cons (dx_v (de_v 1 (pv 1))) da_nil)) (blkOk_by (N := ["arities", "thing", "at", "node"]) (sc := defScope s_is_written) (own := [("at", 2), ("node", 3)]) (by decide +kernel)) (fun _ _ _ _ _ => (pg_tup rfl (pgs_cons (pg_name (i := 2) sc_is_written.nd rfl (by first | exact .inl rfl | exact .inr rfl)) (pgs_cons (pg_name (i := 3) sc_is_written.nd rfl (by first | exact .inl rfl | exact .inr rfl)) pgs_nil)))) (fun _ _ _ _ _ => pts_yes) (fun _ _ _ _ _ => (dcall c_is_node hgd hr rfl passL (da_cons (dx_v (de_v 0 (pv 0))) (da_cons (dx_v (de_v 3 (pv 3))) (da_cons (dx_v (de_v 2 (pv 2))) da_nil))))))) da_nil)))))
abbrev s_need_tree : Stmt := topS 36
theorem sc_need_tree : FnScope ["arities", "thing"] ["arities", "thing"] (defScope s_need_tree) := ⟨rfl, rfl, rfl, by decide +kernel, rfl, by decide +kernel, by decide +kernel⟩
theorem ok_need_tree {f : Addr} {fd : FuncData} {k : Nat} (F : Fun K "need_tree" "need_tree" s_need_tree f fd) (hm : mg "need_tree" = some (.ref f)) (hb : Binds K fd ["arities", "thing"] []) (c_is_written : CallOk P w K mg T k "is_written" ["arities", "thing"] M_is_written) {PEa : Addr} (XS : ExcSet K mg ["NoArities", "NoTree", "Unspelled"] ["NoMachine", "NoArities", "NoTree", "Unspelled", "NoOperator", "NoPrices", "NoStates", "NoForm", "NoCover", "NoNumber", "NoNumbers", "NoPrice", "ManyForms", "Endless", "OtherArities", "NoContext", "NoNodes", "NoArguments", "NothingRead", "NothingDone", "NoPlace", "NoText", "BadLine", "TooMany"] "PickError" PEa) (TM : TmSet P w K mg ["NoMachine", "NoArities", "NoTree", "Unspelled", "NoOperator", "NoPrices", "NoStates", "NoForm", "NoCover", "NoNumber", "NoNumbers", "NoPrice", "ManyForms", "Endless", "OtherArities", "NoContext", "NoNodes", "NoArguments", "NothingRead", "NothingDone", "NoPlace", "NoText", "BadLine", "TooMany"] "TooMany" PEa " are more than ") : CallOk P w K mg T (k + 1) "need_tree" ["arities", "thing"] M_need_tree_2 :=
  callOk_of F hm hb fun base => fnD F sc_need_tree rfl rfl (by decide) fun cdv A outer s H qv E hgd hr => (dss_one (ds_if (dt_not (dt_val (dcall c_is_written hgd hr rfl (passes_call (takes_of rfl rfl rfl rfl) (fun _ _ _ _ h => h)) (da_cons (dx_v (de_v 0 (pv 0))) (da_cons (dx_v (de_v 1 (pv 1))) da_nil))))) (dss_one (ds_raiseS XS (memS (by decide +kernel)) rfl (takes_of rfl rfl rfl rfl) rfl)) dss_nil))
abbrev s_need_both : Stmt := topS 37
theorem sc_need_both : FnScope ["arities", "tree"] ["arities", "tree"] (defScope s_need_both) := ⟨rfl, rfl, rfl, by decide +kernel, rfl, by decide +kernel, by decide +kernel⟩
theorem ok_need_both {f : Addr} {fd : FuncData} {k : Nat} (F : Fun K "need_both" "need_both" s_need_both f fd) (hm : mg "need_both" = some (.ref f)) (hb : Binds K fd ["arities", "tree"] []) (c_need_arities : CallOk P w K mg T k "need_arities" ["thing"] M_need_arities_2) (c_need_tree : CallOk P w K mg T k "need_tree" ["arities", "thing"] M_need_tree_2) : CallOk P w K mg T (k + 1) "need_both" ["arities", "tree"] M_need_both_2 :=
  callOk_of F hm hb fun base => fnD F sc_need_both rfl rfl (by decide) fun cdv A outer s H qv E hgd hr => (dss_cons (ds_expr (dcall c_need_arities hgd hr rfl (passes_call (takes_of rfl rfl rfl rfl) (fun _ _ _ _ h => h)) (da_cons (dx_v (de_v 0 (pv 0))) da_nil)))
    (dss_one (ds_expr (dcall c_need_tree hgd hr rfl (passes_call (takes_of rfl rfl rfl rfl) (fun _ _ _ _ h => h)) (da_cons (dx_v (de_v 0 (pv 0))) (da_cons (dx_v (de_v 1 (pv 1))) da_nil))))))
abbrev s_spelled_of : Stmt := topS 39
theorem sc_spelled_of : FnScope ["tree", "found", "waiting", "node"] ["tree"] (defScope s_spelled_of) := ⟨rfl, rfl, rfl, by decide +kernel, rfl, by decide +kernel, by decide +kernel⟩
theorem ok_spelled_of {f : Addr} {fd : FuncData} {k : Nat} (F : Fun K "spelled_of" "spelled_of" s_spelled_of f fd) (hm : mg "spelled_of" = some (.ref f)) (hb : Binds K fd ["tree"] []) (z_len : mg "len" = none) (z_list : mg "list" = none) (z_tuple : mg "tuple" = none) : CallOk P w K mg T (k + 1) "spelled_of" ["tree"] M_spelled_of :=
  callOk_of F hm hb fun base => fnD F sc_spelled_of rfl rfl (by decide) fun cdv A outer s H qv E hgd hr => (dss_cons (ds_par (i := 1) (j := 2) (np1 rfl) (np1 rfl) rfl sc_spelled_of.nd rfl rfl (by decide) rfl rfl (de_lst da_nil) (de_lst (da_cons (dx_v (de_op op_sub os_sub (dx_v (de_callB call_lenA os_len rfl z_len bt_len (da_cons (dx_s 0 (pv 0)) da_nil))) (dx_v de_int))) da_nil)))
    (dss_cons (ds_wp [0, 2, 3] (ds_while 100000 (passes_of rfl) (dt_cmp (op_neA (ru64 hr)) os_ne (dx_s 2 (pv 2)) (dx_v (de_lst da_nil)) (nomark _)) (dss_cons (ds_set (i := 3) sc_spelled_of.nd rfl (by first | exact .inl rfl | exact .inr rfl) (np1 rfl) (de_ix (ixD (ru65 hr)) os_ix (dx_s 0 (pv 0)) (dx_v (de_pop (pv 2))) (fun _ _ => rfl)))
    (dss_cons (ds_app (pv 1) (de_ix (ixD (ru65 hr)) os_ix (dx_s 3 (pv 3)) (dx_v de_int) (fun _ _ => rfl)))
    (dss_one (ds_wp [3] (ds_ext (pv 2) (de_rev (dx_v (de_callTy call_list_of os_list rfl z_list bt_list (da_cons (dx_v (de_slLo (dx_s 3 (pv 3)) (dx_v de_int))) da_nil)))))))))))
    (dss_one (ds_ret (de_callTy call_tuple_of os_tuple rfl z_tuple bt_tuple (da_cons (dx_s 1 (pv 1)) da_nil))))))
abbrev s_amounts : Stmt := topS 38
theorem sc_amounts : FnScope ["tree", "found", "node", "part"] ["tree"] (defScope s_amounts) := ⟨rfl, rfl, rfl, by decide +kernel, rfl, by decide +kernel, by decide +kernel⟩
theorem ok_amounts {f : Addr} {fd : FuncData} {k : Nat} (F : Fun K "amounts" "amounts" s_amounts f fd) (hm : mg "amounts" = some (.ref f)) (hb : Binds K fd ["tree"] []) (z_sum : mg "sum" = none) : CallOk P w K mg T (k + 1) "amounts" ["tree"] M_amounts :=
  callOk_of F hm hb fun base => fnD F sc_amounts rfl rfl (by decide) fun cdv A outer s H qv E hgd hr => (dss_cons (ds_set (i := 1) sc_amounts.nd rfl (by first | exact .inl rfl | exact .inr rfl) (np1 rfl) (de_lst da_nil))
    (dss_cons (ds_wp [0, 2] (ds_for (npn rfl) (passes_of rfl) rfl (di_seq (dx_v (de_v 0 (pv 0)))) (pg_name (i := 2) sc_amounts.nd rfl (by first | exact .inl rfl | exact .inr rfl)) (dss_one (ds_wp [2] (ds_app (pv 1) (de_op op_addA os_add (dx_v de_int) (dx_v (de_callB (cr_sum rfl) os_sum rfl z_sum bt_sum (da_cons (dx_v (de_lc (own := [("part", 3)]) (npn rfl) (by decide) rfl sc_amounts.nd (di_seq (dx_v (de_slLo (dx_s 2 (pv 2)) (dx_v de_int)))) (blkOk_by (N := ["tree", "found", "node", "part"]) (sc := defScope s_amounts) (own := [("part", 3)]) (by decide +kernel)) (fun _ _ _ _ _ => (pg_name (i := 3) sc_amounts.nd rfl (by first | exact .inl rfl | exact .inr rfl))) (fun _ _ _ _ _ => pts_yes) (fun _ _ _ _ _ => (de_ix (ixD (ru65 hr)) os_ix (dx_s 1 (pv 1)) (dx_s 3 (pv 3)) (fun _ _ => rfl))))) da_nil)))))))))
    (dss_one (ds_ret (de_m 1 (pv 1))))))
abbrev s_spelled : Stmt := topS 40
theorem sc_spelled : FnScope ["arities", "tree", "many"] ["arities", "tree"] (defScope s_spelled) := ⟨rfl, rfl, rfl, by decide +kernel, rfl, by decide +kernel, by decide +kernel⟩
theorem ok_spelled {f : Addr} {fd : FuncData} {k : Nat} (F : Fun K "spelled" "spelled" s_spelled f fd) (hm : mg "spelled" = some (.ref f)) (hb : Binds K fd ["arities", "tree"] []) (c_amounts : CallOk P w K mg T k "amounts" ["tree"] M_amounts) (c_need_both : CallOk P w K mg T k "need_both" ["arities", "tree"] M_need_both_2) (c_spelled_of : CallOk P w K mg T k "spelled_of" ["tree"] M_spelled_of) {t_MOST_SPELLED : Tok} (g_MOST_SPELLED : mg "MOST_SPELLED" = some (.int 200 t_MOST_SPELLED)) {PEa : Addr} (XS : ExcSet K mg ["NoArities", "NoTree", "Unspelled"] ["NoMachine", "NoArities", "NoTree", "Unspelled", "NoOperator", "NoPrices", "NoStates", "NoForm", "NoCover", "NoNumber", "NoNumbers", "NoPrice", "ManyForms", "Endless", "OtherArities", "NoContext", "NoNodes", "NoArguments", "NothingRead", "NothingDone", "NoPlace", "NoText", "BadLine", "TooMany"] "PickError" PEa) (TM : TmSet P w K mg ["NoMachine", "NoArities", "NoTree", "Unspelled", "NoOperator", "NoPrices", "NoStates", "NoForm", "NoCover", "NoNumber", "NoNumbers", "NoPrice", "ManyForms", "Endless", "OtherArities", "NoContext", "NoNodes", "NoArguments", "NothingRead", "NothingDone", "NoPlace", "NoText", "BadLine", "TooMany"] "TooMany" PEa " are more than ") (hk : 1 ≤ k) : CallOk P w K mg T (k + 1) "spelled" ["arities", "tree"] M_spelled_3 :=
  callOk_of F hm hb fun base => fnD F sc_spelled rfl rfl (by decide) fun cdv A outer s H qv E hgd hr => (dss_cons (ds_expr (dcall c_need_both hgd hr rfl (passes_call (takes_of rfl rfl rfl rfl) (fun _ _ _ _ h => h)) (da_cons (dx_v (de_v 0 (pv 0))) (da_cons (dx_v (de_v 1 (pv 1))) da_nil))))
    (dss_cons (ds_set (i := 2) sc_spelled.nd rfl (by first | exact .inl rfl | exact .inr rfl) (np1 rfl) (de_ix (ixD (ru65 hr)) os_ix (dx_v (dcall c_amounts hgd hr rfl (passes_call (takes_of rfl rfl rfl rfl) (fun _ _ _ _ h => h)) (da_cons (dx_v (de_v 1 (pv 1))) da_nil))) (dx_v (de_un un_neg os_neg (dx_v de_int))) (fun _ _ => rfl)))
    (dss_cons (ds_if (dt_cmp op_gt os_cmI (dx_s 2 (pv 2)) (dx_v (de_gint rfl g_MOST_SPELLED)) (nomark _)) (dss_one (ds_raiseTS (k := 0) TM (room1 hr hk) rfl (takes_of rfl rfl rfl rfl) rfl (da_cons (dx_v (de_v 2 (pv 2))) (da_cons (dx_v (de_gint rfl g_MOST_SPELLED)) da_nil)))) dss_nil)
    (dss_one (ds_ret (dcall c_spelled_of hgd hr rfl (passes_call (takes_of rfl rfl rfl rfl) (fun _ _ _ _ h => h)) (da_cons (dx_v (de_v 1 (pv 1))) da_nil)))))))
abbrev s__law_cell : Stmt := topS 44
theorem sc__law_cell : FnScope ["_law_script", "_law_k"] ["_law_script", "_law_k"] (defScope s__law_cell) := ⟨rfl, rfl, rfl, by decide +kernel, rfl, by decide +kernel, by decide +kernel⟩
theorem ok__law_cell {f : Addr} {fd : FuncData} {k : Nat} (F : Fun K "_law_cell" "_law_cell" s__law_cell f fd) (hm : mg "_law_cell" = some (.ref f)) (hb : Binds K fd ["_law_script", "_law_k"] []) (z_len : mg "len" = none) : CallOk P w K mg T (k + 1) "_law_cell" ["_law_script", "_law_k"] M__law_cell :=
  callOk_of F hm hb fun base => fnD F sc__law_cell rfl rfl (by decide) fun cdv A outer s H qv E hgd hr => (dss_cons (ds_if (dt_cmp op_lt os_cmI (dx_s 1 (pv 1)) (dx_v (de_callB call_lenA os_len rfl z_len bt_len (da_cons (dx_s 0 (pv 0)) da_nil))) (nomark _)) (dss_one (ds_ret (de_ix (ixD (ru65 hr)) os_ix (dx_s 0 (pv 0)) (dx_s 1 (pv 1)) (fun _ _ => rfl)))) dss_nil)
    (dss_one (ds_ret de_int)))
abbrev s__law_draw : Stmt := topS 46
theorem sc__law_draw : FnScope ["_law_pen_here", "_law_many_here", "_law_stirred", "_law_found"] ["_law_pen_here", "_law_many_here"] (defScope s__law_draw) := ⟨rfl, rfl, rfl, by decide +kernel, rfl, by decide +kernel, by decide +kernel⟩
theorem ok__law_draw {f : Addr} {fd : FuncData} {k : Nat} (F : Fun K "_law_draw" "_law_draw" s__law_draw f fd) (hm : mg "_law_draw" = some (.ref f)) (hb : Binds K fd ["_law_pen_here", "_law_many_here"] [])  : CallOk P w K mg T (k + 1) "_law_draw" ["_law_pen_here", "_law_many_here"] M__law_draw_2 :=
  callOk_of F hm hb fun base => fnD F sc__law_draw rfl rfl (by decide) fun cdv A outer s H qv E hgd hr => (dss_cons (ds_if (dt_cmp op_gt os_cmI (dx_v (de_ix (ixD (ru65 hr)) os_ix (dx_s 0 (pv 0)) (dx_v de_int) (fun _ _ => rfl))) (dx_v de_int) (nomark _)) (dss_cons (ds_set (i := 3) sc__law_draw.nd rfl (by first | exact .inl rfl | exact .inr rfl) (np1 rfl) (de_op op_mod os_mod (dx_v (de_ix (ixD (ru65 hr)) os_ix (dx_s 0 (pv 0)) (dx_v de_int) (fun _ _ => rfl))) (dx_s 1 (pv 1))))
    (dss_cons (ds_setI (pv 0) (dx_v de_int) (de_op op_fdivW os_divW (dx_v (de_ix (ixD (ru65 hr)) os_ix (dx_s 0 (pv 0)) (dx_v de_int) (fun _ _ => rfl))) (dx_s 1 (pv 1))))
    (dss_one (ds_ret (de_m 3 (pv 3)))))) dss_nil)
    (dss_cons (ds_setI (pv 0) (dx_v de_int) (de_op op_addA os_add (dx_v (de_ix (ixD (ru65 hr)) os_ix (dx_s 0 (pv 0)) (dx_v de_int) (fun _ _ => rfl))) (dx_v de_int)))
    (dss_cons (ds_setI (pv 0) (dx_v de_int) (de_op op_mod os_mod (dx_v (de_op op_addA os_add (dx_v (de_op op_addA os_add (dx_v (de_op op_mulB os_mulB (dx_v (de_ix (ixD (ru65 hr)) os_ix (dx_s 0 (pv 0)) (dx_v de_int) (fun _ _ => rfl))) (dx_v de_int))) (dx_v (de_op op_mulB os_mulB (dx_v de_int) (dx_v (de_ix (ixD (ru65 hr)) os_ix (dx_s 0 (pv 0)) (dx_v de_int) (fun _ _ => rfl))))))) (dx_v de_int))) (dx_v de_int)))
    (dss_cons (ds_set (i := 2) sc__law_draw.nd rfl (by first | exact .inl rfl | exact .inr rfl) (np1 rfl) (de_op op_mod os_mod (dx_v (de_op op_addA os_add (dx_v (de_op op_addA os_add (dx_v (de_op op_mulB os_mulB (dx_v (de_ix (ixD (ru65 hr)) os_ix (dx_s 0 (pv 0)) (dx_v de_int) (fun _ _ => rfl))) (dx_v (de_ix (ixD (ru65 hr)) os_ix (dx_s 0 (pv 0)) (dx_v de_int) (fun _ _ => rfl))))) (dx_v (de_op op_mulB os_mulB (dx_v de_int) (dx_v (de_ix (ixD (ru65 hr)) os_ix (dx_s 0 (pv 0)) (dx_v de_int) (fun _ _ => rfl))))))) (dx_v de_int))) (dx_v de_int)))
    (dss_cons (ds_set (i := 2) sc__law_draw.nd rfl (by first | exact .inl rfl | exact .inr rfl) (np1 rfl) (de_op op_mod os_mod (dx_v (de_op op_addA os_add (dx_v (de_op op_mulB os_mulB (dx_s 2 (pv 2)) (dx_s 2 (pv 2)))) (dx_v (de_op op_mulB os_mulB (dx_v de_int) (dx_s 2 (pv 2)))))) (dx_v de_int)))
    (dss_one (ds_ret (de_op op_mod os_mod (dx_v (de_op op_fdivW os_divW (dx_s 2 (pv 2)) (dx_v de_int))) (dx_s 1 (pv 1))))))))))
abbrev s__law_pick : Stmt := topS 47
theorem sc__law_pick : FnScope ["_law_pen_here", "_law_some"] ["_law_pen_here", "_law_some"] (defScope s__law_pick) := ⟨rfl, rfl, rfl, by decide +kernel, rfl, by decide +kernel, by decide +kernel⟩
theorem ok__law_pick {f : Addr} {fd : FuncData} {k : Nat} (F : Fun K "_law_pick" "_law_pick" s__law_pick f fd) (hm : mg "_law_pick" = some (.ref f)) (hb : Binds K fd ["_law_pen_here", "_law_some"] []) (c__law_draw : CallOk P w K mg T k "_law_draw" ["_law_pen_here", "_law_many_here"] M__law_draw_2) (z_len : mg "len" = none) : CallOk P w K mg T (k + 1) "_law_pick" ["_law_pen_here", "_law_some"] M__law_pick_2 :=
  callOk_of F hm hb fun base => fnD F sc__law_pick rfl rfl (by decide) fun cdv A outer s H qv E hgd hr => (dss_one (ds_ret (de_ix (ixD (ru65 hr)) os_ix (dx_s 1 (pv 1)) (dx_v (dcall c__law_draw hgd hr rfl (passes_call (takes_of rfl rfl rfl rfl) (fun _ _ _ _ h => h)) (da_cons (dx_s 0 (pv 0)) (da_cons (dx_v (de_callB call_lenA os_len rfl z_len bt_len (da_cons (dx_s 1 (pv 1)) da_nil))) da_nil)))) (fun _ _ => rfl))))
abbrev s__law_arities : Stmt := topS 48
theorem sc__law_arities : FnScope ["_law_pen_here", "_law_found", "_law_turn"] ["_law_pen_here"] (defScope s__law_arities) := ⟨rfl, rfl, rfl, by decide +kernel, rfl, by decide +kernel, by decide +kernel⟩
theorem ok__law_arities {f : Addr} {fd : FuncData} {k : Nat} (F : Fun K "_law_arities" "_law_arities" s__law_arities f fd) (hm : mg "_law_arities" = some (.ref f)) (hb : Binds K fd ["_law_pen_here"] []) (c__law_draw : CallOk P w K mg T k "_law_draw" ["_law_pen_here", "_law_many_here"] M__law_draw_2) (c__law_pick : CallOk P w K mg T k "_law_pick" ["_law_pen_here", "_law_some"] M__law_pick_2) (z_range : mg "range" = none) (z_tuple : mg "tuple" = none) : CallOk P w K mg T (k + 1) "_law_arities" ["_law_pen_here"] M__law_arities_2 :=
  callOk_of F hm hb fun base => fnD F sc__law_arities rfl rfl (by decide) fun cdv A outer s H qv E hgd hr => (dss_cons (ds_fz [1] (ds_setLc (i := 1) (own := [("_law_turn", 2)]) (np1 rfl) (npn rfl) (by decide) rfl sc__law_arities.nd rfl rfl (sw_true rfl rfl rfl (by decide +kernel)) (di_r1 rfl z_range (da_cons (dx_v (dcall c__law_draw hgd hr rfl (passes_call (takes_of rfl rfl rfl rfl) (fun _ _ _ _ h => h)) (da_cons (dx_s 0 (pv 0)) (da_cons (dx_v de_int) da_nil)))) da_nil)) (blkOk_by (N := ["_law_pen_here", "_law_found", "_law_turn"]) (sc := defScope s__law_arities) (own := [("_law_turn", 2)]) (by decide +kernel)) (fun _ _ _ _ _ => (pg_name (i := 2) sc__law_arities.nd rfl (by first | exact .inl rfl | exact .inr rfl))) (fun _ _ _ _ _ => pts_yes) (fun _ _ _ _ _ => (dcall c__law_pick hgd hr rfl passL (da_cons (dx_s 0 (pv 0)) (da_cons (dx_v (de_lst (da_cons (dx_v de_int) (da_cons (dx_v de_int) (da_cons (dx_v de_int) (da_cons (dx_v de_int) da_nil)))))) da_nil))))) nx_set)
    (dss_cons (ds_fz [1] (ds_set (i := 1) sc__law_arities.nd rfl (by first | exact .inl rfl | exact .inr rfl) (np1 rfl) (de_op op_addA os_add (dx_s 1 (pv 1)) (dx_v (de_op op_mulB os_mulB (dx_v (de_lst (da_cons (dx_v de_int) da_nil))) (dx_v (de_op op_addA os_add (dx_v de_int) (dx_v (dcall c__law_draw hgd hr rfl (passes_call (takes_of rfl rfl rfl rfl) (fun _ _ _ _ h => h)) (da_cons (dx_s 0 (pv 0)) (da_cons (dx_v de_int) da_nil)))))))))) nx_set)
    (dss_one (ds_ret (de_callTy call_tuple_of os_tuple rfl z_tuple bt_tuple (da_cons (dx_v (de_if (dt_cmp (op_eqA (ru64 hr)) os_eq (dx_v (dcall c__law_draw hgd hr rfl (passes_call (takes_of rfl rfl rfl rfl) (fun _ _ _ _ h => h)) (da_cons (dx_s 0 (pv 0)) (da_cons (dx_v de_int) da_nil)))) (dx_v de_int) (nomark _)) (de_rev (dx_s 1 (pv 1))) (de_v 1 (pv 1)))) da_nil))))))
abbrev s_built : Stmt := topS 41
theorem sc_built : FnScope ["arities", "operators", "tree", "waiting", "at", "operator"] ["arities", "operators"] (defScope s_built) := ⟨rfl, rfl, rfl, by decide +kernel, rfl, by decide +kernel, by decide +kernel⟩
theorem ok_built {f : Addr} {fd : FuncData} {k : Nat} (F : Fun K "built" "built" s_built f fd) (hm : mg "built" = some (.ref f)) (hb : Binds K fd ["arities", "operators"] []) (z_enumerate : mg "enumerate" = none) (z_len : mg "len" = none) (z_tuple : mg "tuple" = none) : CallOk P w K mg T (k + 1) "built" ["arities", "operators"] M_built :=
  callOk_of F hm hb fun base => fnD F sc_built rfl rfl (by decide) fun cdv A outer s H qv E hgd hr => (dss_cons (ds_par (i := 2) (j := 3) (np1 rfl) (np1 rfl) rfl sc_built.nd rfl rfl (by decide) rfl rfl (de_lst da_nil) (de_lstO da_nil))
    (dss_cons (ds_wp [0, 1, 4, 5] (ds_for (npn rfl) (passes_of rfl) rfl (di_en rfl z_enumerate (da_cons (dx_v (de_v 1 (pv 1))) da_nil)) (pg_tup rfl (pgs_cons (pg_name (i := 4) sc_built.nd rfl (by first | exact .inl rfl | exact .inr rfl)) (pgs_cons (pg_name (i := 5) sc_built.nd rfl (by first | exact .inl rfl | exact .inr rfl)) pgs_nil))) (dss_cons (ds_if (dw_t (dw_and (dt_cmp op_gt os_cmI (dx_s 4 (pv 4)) (dx_v de_int) (nomark _)) (dw_and1 (dt_eq0 (ru0 hr) (pv 3))))) (dss_one (ds_ret de_non)) dss_nil)
    (dss_cons (ds_wp [4, 5] (ds_appO (pv 3) (de_lst (da_cons (dx_v (de_v 5 (pv 5))) da_nil))))
    (dss_one (ds_while 100000 (passes_of rfl) (dw_t (dw_and (dt_ne0 (ru0 hr) (pv 3)) (dw_and1 (dt_cmp (op_eqA (ru64 hr)) os_eq (dx_v (de_lenR rfl z_len (pv 3) (pe_un un_neg pe_int) pi_neg (fun _ _ => rfl))) (dx_v (de_op op_addA os_add (dx_v de_int) (dx_v (de_ix (ixD (ru65 hr)) os_ix (dx_s 0 (pv 0)) (dx_v (de_ix2 (pv 3) (pe_un un_neg pe_int) pi_neg pe_int pi_c (fun _ _ => rfl) (fun _ _ => rfl))) (fun _ _ => rfl))))) (nomark _))))) (dss_cons (ds_app (pv 2) (de_callTy call_tuple_of os_tuple rfl z_tuple bt_tuple (da_cons (dx_v (de_popO (pv 3))) da_nil)))
    (dss_one (ds_if (dt_ne0 (ru0 hr) (pv 3)) (dss_one (ds_appI (pv 3) (pe_un un_neg pe_int) pi_neg (fun _ _ => rfl) (de_op op_sub os_sub (dx_v (de_callB call_lenA os_len rfl z_len bt_len (da_cons (dx_s 2 (pv 2)) da_nil))) (dx_v de_int)))) dss_nil)))))))))
    (dss_one (ds_ret (de_if (dw_t (dw_and (dt_eq0 (ru0 hr) (pv 3)) (dw_and1 (dt_cmp (op_neA (ru64 hr)) os_ne (dx_s 2 (pv 2)) (dx_v (de_lst da_nil)) (nomark _))))) (de_callTy call_tuple_of os_tuple rfl z_tuple bt_tuple (da_cons (dx_s 2 (pv 2)) da_nil)) de_non)))))
abbrev s_unspelled : Stmt := topS 42
theorem sc_unspelled : FnScope ["arities", "operators", "found", "operator"] ["arities", "operators"] (defScope s_unspelled) := ⟨rfl, rfl, rfl, by decide +kernel, rfl, by decide +kernel, by decide +kernel⟩
theorem ok_unspelled {f : Addr} {fd : FuncData} {k : Nat} (F : Fun K "unspelled" "unspelled" s_unspelled f fd) (hm : mg "unspelled" = some (.ref f)) (hb : Binds K fd ["arities", "operators"] []) (c_built : CallOk P w K mg T k "built" ["arities", "operators"] M_built) (c_is_between : CallOk P w K mg T k "is_between" ["thing", "low", "high"] M_is_between) (c_need_arities : CallOk P w K mg T k "need_arities" ["thing"] M_need_arities_2) (z_all : mg "all" = none) (z_isinstance : mg "isinstance" = none) (z_len : mg "len" = none) (z_tuple : mg "tuple" = none) {t_MOST_SPELLED : Tok} (g_MOST_SPELLED : mg "MOST_SPELLED" = some (.int 200 t_MOST_SPELLED)) {PEa : Addr} (XS : ExcSet K mg ["NoArities", "NoTree", "Unspelled"] ["NoMachine", "NoArities", "NoTree", "Unspelled", "NoOperator", "NoPrices", "NoStates", "NoForm", "NoCover", "NoNumber", "NoNumbers", "NoPrice", "ManyForms", "Endless", "OtherArities", "NoContext", "NoNodes", "NoArguments", "NothingRead", "NothingDone", "NoPlace", "NoText", "BadLine", "TooMany"] "PickError" PEa) (TM : TmSet P w K mg ["NoMachine", "NoArities", "NoTree", "Unspelled", "NoOperator", "NoPrices", "NoStates", "NoForm", "NoCover", "NoNumber", "NoNumbers", "NoPrice", "ManyForms", "Endless", "OtherArities", "NoContext", "NoNodes", "NoArguments", "NothingRead", "NothingDone", "NoPlace", "NoText", "BadLine", "TooMany"] "TooMany" PEa " are more than ") : CallOk P w K mg T (k + 1) "unspelled" ["arities", "operators"] M_unspelled_2 :=
  callOk_of F hm hb fun base => fnD F sc_unspelled rfl rfl (by decide) fun cdv A outer s H qv E hgd hr => (dss_cons (ds_expr (dcall c_need_arities hgd hr rfl (passes_call (takes_of rfl rfl rfl rfl) (fun _ _ _ _ h => h)) (da_cons (dx_v (de_v 0 (pv 0))) da_nil)))
    (dss_cons (ds_if (dw_t (dw_or (dt_not (dt_val (de_isi .tuple rfl z_isinstance bt_isinstance (dx_s 1 (pv 1)) (pty rfl z_tuple bt_tuple)))) (dw_or1 (dt_cmp op_gt os_cmI (dx_v (de_callB call_lenA os_len rfl z_len bt_len (da_cons (dx_s 1 (pv 1)) da_nil))) (dx_v (de_gint rfl g_MOST_SPELLED)) (nomark _))))) (dss_one (ds_raiseS XS (memS (by decide +kernel)) rfl (takes_of rfl rfl rfl rfl) rfl)) dss_nil)
    (dss_cons (ds_if (dt_not (dt_val (de_callB (cr_all rfl) os_all rfl z_all bt_all (da_cons (dx_v (de_lc (own := [("operator", 3)]) (npn rfl) (by decide) rfl sc_unspelled.nd (di_seq (dx_v (de_v 1 (pv 1)))) (blkOk_by (N := ["arities", "operators", "found", "operator"]) (sc := defScope s_unspelled) (own := [("operator", 3)]) (by decide +kernel)) (fun _ _ _ _ _ => (pg_name (i := 3) sc_unspelled.nd rfl (by first | exact .inl rfl | exact .inr rfl))) (fun _ _ _ _ _ => pts_yes) (fun _ _ _ _ _ => (dcall c_is_between hgd hr rfl passL (da_cons (dx_v (de_v 3 (pv 3))) (da_cons (dx_v de_int) (da_cons (dx_v (de_op op_sub os_sub (dx_v (de_callB call_lenA os_len rfl z_len bt_len (da_cons (dx_s 0 (pv 0)) da_nil))) (dx_v de_int))) da_nil))))))) da_nil)))) (dss_one (ds_raiseS XS (memS (by decide +kernel)) rfl (takes_of rfl rfl rfl rfl) rfl)) dss_nil)
    (dss_cons (ds_set (i := 2) sc_unspelled.nd rfl (by first | exact .inl rfl | exact .inr rfl) (np1 rfl) (dcall c_built hgd hr rfl (passes_call (takes_of rfl rfl rfl rfl) (fun _ _ _ _ h => h)) (da_cons (dx_v (de_v 0 (pv 0))) (da_cons (dx_v (de_v 1 (pv 1))) da_nil))))
    (dss_cons (ds_if (dt_cmp op_isN os_is (dx_s 2 (pv 2)) (dx_v de_non) (nomark _)) (dss_one (ds_raiseS XS (memS (by decide +kernel)) rfl (takes_of rfl rfl rfl rfl) rfl)) dss_nil)
    (dss_one (ds_ret (de_m 2 (pv 2)))))))))
abbrev s__law_rows : Stmt := topS 56
theorem sc__law_rows : FnScope ["_law_pen_here", "_law_arities_here", "_law_row", "_law_found", "_law_at", "_law_one"] ["_law_pen_here", "_law_arities_here", "_law_row"] (defScope s__law_rows) := ⟨rfl, rfl, rfl, by decide +kernel, rfl, by decide +kernel, by decide +kernel⟩
theorem ok__law_rows {f : Addr} {fd : FuncData} {k : Nat} (F : Fun K "_law_rows" "_law_rows" s__law_rows f fd) (hm : mg "_law_rows" = some (.ref f)) (hb : Binds K fd ["_law_pen_here", "_law_arities_here", "_law_row"] []) (c__law_draw : CallOk P w K mg T k "_law_draw" ["_law_pen_here", "_law_many_here"] M__law_draw_2) (z_len : mg "len" = none) : CallOk P w K mg T (k + 1) "_law_rows" ["_law_pen_here", "_law_arities_here", "_law_row"] M__law_rows :=
  callOk_of F hm hb fun base => fnD F sc__law_rows rfl rfl (by decide) fun cdv A outer s H qv E hgd hr => (dss_cons (ds_par (i := 4) (j := 5) (np1 rfl) (np1 rfl) rfl sc__law_rows.nd rfl rfl (by decide) rfl rfl (dcall c__law_draw hgd hr rfl (passes_call (takes_of rfl rfl rfl rfl) (fun _ _ _ _ h => h)) (da_cons (dx_s 0 (pv 0)) (da_cons (dx_v (de_op op_addA os_add (dx_v (de_callB call_lenA os_len rfl z_len bt_len (da_cons (dx_s 2 (pv 2)) da_nil))) (dx_v de_int))) da_nil))) (dcall c__law_draw hgd hr rfl (passes_call (takes_of rfl rfl rfl rfl) (fun _ _ _ _ h => h)) (da_cons (dx_s 0 (pv 0)) (da_cons (dx_v (de_callB call_lenA os_len rfl z_len bt_len (da_cons (dx_s 1 (pv 1)) da_nil))) da_nil))))
    (dss_cons (ds_fz [3] (ds_set (i := 3) sc__law_rows.nd rfl (by first | exact .inl rfl | exact .inr rfl) (np1 rfl) (de_lst (da_cons (dx_v (de_v 2 (pv 2))) (da_cons (dx_v (de_op op_addA os_add (dx_v (de_op op_addA os_add (dx_v (de_slHi (dx_s 2 (pv 2)) (dx_s 4 (pv 4)))) (dx_v (de_tup (da_cons (dx_v (de_v 5 (pv 5))) da_nil))))) (dx_v (de_slLo (dx_s 2 (pv 2)) (dx_s 4 (pv 4)))))) (da_cons (dx_v (de_op op_addA os_add (dx_v (de_slHi (dx_s 2 (pv 2)) (dx_s 4 (pv 4)))) (dx_v (de_slLo (dx_s 2 (pv 2)) (dx_v (de_op op_addA os_add (dx_s 4 (pv 4)) (dx_v de_int))))))) (da_cons (dx_v (de_op op_addA os_add (dx_v (de_op op_addA os_add (dx_v (de_slHi (dx_s 2 (pv 2)) (dx_s 4 (pv 4)))) (dx_v (de_tup (da_cons (dx_v (de_v 5 (pv 5))) da_nil))))) (dx_v (de_slLo (dx_s 2 (pv 2)) (dx_v (de_op op_addA os_add (dx_s 4 (pv 4)) (dx_v de_int))))))) da_nil)))))) nx_set)
    (dss_one (ds_ret (de_op op_addA os_add (dx_s 3 (pv 3)) (dx_v (de_lst (da_cons (dx_v (de_revA (dx_s 2 (pv 2)))) (da_cons (dx_v (de_op op_addA os_add (dx_s 2 (pv 2)) (dx_s 2 (pv 2)))) (da_cons (dx_v (de_slLo (dx_s 2 (pv 2)) (dx_s 4 (pv 4)))) (da_cons (dx_v (de_slHi (dx_s 2 (pv 2)) (dx_s 4 (pv 4)))) (da_cons (dx_v (de_op op_addA os_add (dx_v (de_slLo (dx_s 2 (pv 2)) (dx_v de_int))) (dx_v (de_slHi (dx_s 2 (pv 2)) (dx_v de_int))))) da_nil))))))))))))
abbrev s__law_many : Stmt := topS 52
theorem sc__law_many : FnScope ["_law_written_here", "_law_found", "_law_one", "_law_part"] ["_law_written_here"] (defScope s__law_many) := ⟨rfl, rfl, rfl, by decide +kernel, rfl, by decide +kernel, by decide +kernel⟩
theorem ok__law_many {f : Addr} {fd : FuncData} {k : Nat} (F : Fun K "_law_many" "_law_many" s__law_many f fd) (hm : mg "_law_many" = some (.ref f)) (hb : Binds K fd ["_law_written_here"] []) (z_sum : mg "sum" = none) : CallOk P w K mg T (k + 1) "_law_many" ["_law_written_here"] M__law_many_2 :=
  callOk_of F hm hb fun base => fnD F sc__law_many rfl rfl (by decide) fun cdv A outer s H qv E hgd hr => (dss_cons (ds_set (i := 1) sc__law_many.nd rfl (by first | exact .inl rfl | exact .inr rfl) (np1 rfl) (de_lst da_nil))
    (dss_cons (ds_wp [0, 2] (ds_for (npn rfl) (passes_of rfl) rfl (di_seq (dx_v (de_v 0 (pv 0)))) (pg_name (i := 2) sc__law_many.nd rfl (by first | exact .inl rfl | exact .inr rfl)) (dss_one (ds_wp [2] (ds_app (pv 1) (de_op op_addA os_add (dx_v de_int) (dx_v (de_callB (cr_sum rfl) os_sum rfl z_sum bt_sum (da_cons (dx_v (de_lc (own := [("_law_part", 3)]) (npn rfl) (by decide) rfl sc__law_many.nd (di_seq (dx_v (de_slLo (dx_s 2 (pv 2)) (dx_v de_int)))) (blkOk_by (N := ["_law_written_here", "_law_found", "_law_one", "_law_part"]) (sc := defScope s__law_many) (own := [("_law_part", 3)]) (by decide +kernel)) (fun _ _ _ _ _ => (pg_name (i := 3) sc__law_many.nd rfl (by first | exact .inl rfl | exact .inr rfl))) (fun _ _ _ _ _ => pts_yes) (fun _ _ _ _ _ => (de_ix (ixD (ru65 hr)) os_ix (dx_s 1 (pv 1)) (dx_s 3 (pv 3)) (fun _ _ => rfl))))) da_nil)))))))))
    (dss_one (ds_ret (de_ix (ixD (ru65 hr)) os_ix (dx_s 1 (pv 1)) (dx_v (de_un un_neg os_neg (dx_v de_int))) (fun _ _ => rfl))))))
abbrev s__law_spell : Stmt := topS 53
theorem sc__law_spell : FnScope ["_law_written_here", "_law_at", "_law_found", "_law_part"] ["_law_written_here", "_law_at"] (defScope s__law_spell) := ⟨rfl, rfl, rfl, by decide +kernel, rfl, by decide +kernel, by decide +kernel⟩
theorem okS__law_spell {f : Addr} {fd : FuncData} {k : Nat} (F : Fun K "_law_spell" "_law_spell" s__law_spell f fd) (hm : mg "_law_spell" = some (.ref f)) (hb : Binds K fd ["_law_written_here", "_law_at"] []) {R__law_spell : Fn} (c__law_spell : CallOk P w K mg T k "_law_spell" ["_law_written_here", "_law_at"] R__law_spell)  : CallOk P w K mg T (k + 1) "_law_spell" ["_law_written_here", "_law_at"] (fnM 2 4 [] (b__law_spell R__law_spell)) :=
  callOk_of F hm hb fun base => fnD F sc__law_spell rfl rfl (by decide) fun cdv A outer s H qv E hgd hr => (dss_cons (ds_set (i := 2) sc__law_spell.nd rfl (by first | exact .inl rfl | exact .inr rfl) (np1 rfl) (de_lst (da_cons (dx_v (de_ix (ixD (ru65 hr)) os_ix (dx_v (de_ix (ixD (ru65 hr)) os_ix (dx_s 0 (pv 0)) (dx_s 1 (pv 1)) (fun _ _ => rfl))) (dx_v de_int) (fun _ _ => rfl))) da_nil)))
    (dss_cons (ds_wp [0, 1, 3] (ds_for (npn rfl) (passes_of rfl) rfl (di_seq (dx_v (de_slLo (dx_v (de_ix (ixD (ru65 hr)) os_ix (dx_s 0 (pv 0)) (dx_s 1 (pv 1)) (fun _ _ => rfl))) (dx_v de_int)))) (pg_name (i := 3) sc__law_spell.nd rfl (by first | exact .inl rfl | exact .inr rfl)) (dss_one (ds_wp [3] (ds_ext (pv 2) (dcall c__law_spell hgd hr rfl (passes_call (takes_of rfl rfl rfl rfl) (fun _ _ _ _ h => h)) (da_cons (dx_v (de_v 0 (pv 0))) (da_cons (dx_v (de_v 3 (pv 3))) da_nil))))))))
    (dss_one (ds_ret (de_m 2 (pv 2))))))
theorem ok__law_spell {f : Addr} {fd : FuncData} {k : Nat} (F : Fun K "_law_spell" "_law_spell" s__law_spell f fd) (hm : mg "_law_spell" = some (.ref f)) (hb : Binds K fd ["_law_written_here", "_law_at"] [])  : (m : Nat) → CallOk P w K mg T (k + m) "_law_spell" ["_law_written_here", "_law_at"] (M__law_spell m)
  | 0 => callNo F hm hb
  | m + 1 => okS__law_spell F hm hb (ok__law_spell F hm hb  m) 
abbrev s__law_unspell : Stmt := topS 54
theorem sc__law_unspell : FnScope ["_law_arities_here", "_law_row", "_law_parts", "_law_one", "_law_turn", "_law_found", "_law_ends", "_law_inner", "_law_ahead", "_law_its", "_law_at"] ["_law_arities_here", "_law_row"] (defScope s__law_unspell) := ⟨rfl, rfl, rfl, by decide +kernel, rfl, by decide +kernel, by decide +kernel⟩
theorem ok__law_unspell {f : Addr} {fd : FuncData} {k : Nat} (F : Fun K "_law_unspell" "_law_unspell" s__law_unspell f fd) (hm : mg "_law_unspell" = some (.ref f)) (hb : Binds K fd ["_law_arities_here", "_law_row"] []) (z_len : mg "len" = none) (z_range : mg "range" = none) (z_tuple : mg "tuple" = none) : CallOk P w K mg T (k + 1) "_law_unspell" ["_law_arities_here", "_law_row"] M__law_unspell :=
  callOk_of F hm hb fun base => fnD F sc__law_unspell rfl rfl (by decide) fun cdv A outer s H qv E hgd hr => (dss_cons (ds_set (i := 2) sc__law_unspell.nd rfl (by first | exact .inl rfl | exact .inr rfl) (np1 rfl) (de_lst da_nil))
    (dss_cons (ds_wp [0, 1, 3, 4, 5, 6, 7, 8] (ds_for (npn rfl) (passes_of rfl) rfl (di_seq (dx_v (de_revA (dx_s 1 (pv 1))))) (pg_name (i := 3) sc__law_unspell.nd rfl (by first | exact .inl rfl | exact .inr rfl)) (dss_cons (ds_if (dt_cmp op_lt os_cmI (dx_v (de_callB call_lenA os_len rfl z_len bt_len (da_cons (dx_s 2 (pv 2)) da_nil))) (dx_v (de_ix (ixD (ru65 hr)) os_ix (dx_s 0 (pv 0)) (dx_s 3 (pv 3)) (fun _ _ => rfl))) (nomark _)) (dss_one (ds_ret de_non)) dss_nil)
    (dss_cons (ds_fz [5] (ds_par (i := 5) (j := 6) (np1 rfl) (np1 rfl) rfl sc__law_unspell.nd rfl rfl (by decide) rfl rfl (de_lst da_nil) (de_lst da_nil)) nx_par)
    (dss_cons (ds_wp [4, 7, 8] (ds_for (npn rfl) (passes_of rfl) rfl (di_r1 rfl z_range (da_cons (dx_v (de_ix (ixD (ru65 hr)) os_ix (dx_s 0 (pv 0)) (dx_s 3 (pv 3)) (fun _ _ => rfl))) da_nil)) (pg_name (i := 4) sc__law_unspell.nd rfl (by first | exact .inl rfl | exact .inr rfl)) (dss_cons (ds_set (i := 7) sc__law_unspell.nd rfl (by first | exact .inl rfl | exact .inr rfl) (np1 rfl) (de_pop (pv 2)))
    (dss_cons (ds_app (pv 6) (de_op op_sub os_sub (dx_v (de_op op_addA os_add (dx_v (de_callB call_lenA os_len rfl z_len bt_len (da_cons (dx_s 5 (pv 5)) da_nil))) (dx_v (de_callB call_lenA os_len rfl z_len bt_len (da_cons (dx_s 7 (pv 7)) da_nil))))) (dx_v de_int)))
    (dss_cons (ds_set (i := 8) sc__law_unspell.nd rfl (by first | exact .inl rfl | exact .inr rfl) (np1 rfl) (de_callB call_lenA os_len rfl z_len bt_len (da_cons (dx_s 5 (pv 5)) da_nil)))
    (dss_one (ds_wp [4, 7, 8] (ds_fz [5] (ds_set (i := 5) sc__law_unspell.nd rfl (by first | exact .inl rfl | exact .inr rfl) (np1 rfl) (de_op op_addA os_add (dx_s 5 (pv 5)) (dx_v (de_lc (own := [("_law_its", 9)]) (npn rfl) (by decide) rfl sc__law_unspell.nd (di_seq (dx_v (de_v 7 (pv 7)))) (blkOk_by (N := ["_law_arities_here", "_law_row", "_law_parts", "_law_one", "_law_turn", "_law_found", "_law_ends", "_law_inner", "_law_ahead", "_law_its", "_law_at"]) (sc := defScope s__law_unspell) (own := [("_law_its", 9)]) (by decide +kernel)) (fun _ _ _ _ _ => (pg_name (i := 9) sc__law_unspell.nd rfl (by first | exact .inl rfl | exact .inr rfl))) (fun _ _ _ _ _ => pts_yes) (fun _ _ _ _ _ => (de_op op_addA os_add (dx_v (de_tup (da_cons (dx_v (de_ix (ixD (ru65 hr)) os_ix (dx_s 9 (pv 9)) (dx_v de_int) (fun _ _ => rfl))) da_nil))) (dx_v (de_callTy call_tuple_of os_tuple rfl z_tuple bt_tuple (da_cons (dx_v (de_lc (own := [("_law_at", 10)]) (npn rfl) (by decide) rfl sc__law_unspell.nd (di_seq (dx_v (de_slLo (dx_s 9 (pv 9)) (dx_v de_int)))) (blkOk_by (own := [("_law_at", 10)]) (by kernel_rfl)) (fun _ _ _ _ _ => (pg_name (i := 10) sc__law_unspell.nd rfl (by first | exact .inl rfl | exact .inr rfl))) (fun _ _ _ _ _ => pts_yes) (fun _ _ _ _ _ => (de_op op_addA os_add (dx_s 8 (pv 8)) (dx_s 10 (pv 10)))))) da_nil))))))))) nx_set))))))))
    (dss_one (ds_wp [3, 5, 6] (ds_app (pv 2) (de_op op_addA os_add (dx_s 5 (pv 5)) (dx_v (de_lst (da_cons (dx_v (de_op op_addA os_add (dx_v (de_tup (da_cons (dx_v (de_v 3 (pv 3))) da_nil))) (dx_v (de_callTy call_tuple_of os_tuple rfl z_tuple bt_tuple (da_cons (dx_s 6 (pv 6)) da_nil))))) da_nil))))))))))))
    (dss_one (ds_ret (de_if (dt_cmp (op_eqA (ru64 hr)) os_eq (dx_v (de_callB call_lenA os_len rfl z_len bt_len (da_cons (dx_s 2 (pv 2)) da_nil))) (dx_v de_int) (nomark _)) (de_callTy call_tuple_of os_tuple rfl z_tuple bt_tuple (da_cons (dx_v (de_ix (ixD (ru65 hr)) os_ix (dx_s 2 (pv 2)) (dx_v de_int) (fun _ _ => rfl))) da_nil)) de_non)))))
abbrev s__law_row_right : Stmt := topS 55
theorem sc__law_row_right : FnScope ["_law_arities_here", "_law_row", "_law_told", "_law_due", "_law_kept"] ["_law_arities_here", "_law_row"] (defScope s__law_row_right) := ⟨rfl, rfl, rfl, by decide +kernel, rfl, by decide +kernel, by decide +kernel⟩
theorem ok__law_row_right {f : Addr} {fd : FuncData} {k : Nat} (F : Fun K "_law_row_right" "_law_row_right" s__law_row_right f fd) {base : Heap} (hm : mg "_law_row_right" = some (.ref f)) (hb : Binds K fd ["_law_arities_here", "_law_row"] []) (c__law_unspell : CallOk P w K mg T k "_law_unspell" ["_law_arities_here", "_law_row"] M__law_unspell) (c_spelled : CallOk P w K mg T k "spelled" ["arities", "tree"] M_spelled_3) (c_unspelled : CallOk P w K mg T k "unspelled" ["arities", "operators"] M_unspelled_2) (z_ValueError : mg "ValueError" = none) (z_isinstance : mg "isinstance" = none) (z_repr : mg "repr" = none) {PEa : Addr} (XS : ExcSet K mg ["NoArities", "NoTree", "Unspelled"] ["NoMachine", "NoArities", "NoTree", "Unspelled", "NoOperator", "NoPrices", "NoStates", "NoForm", "NoCover", "NoNumber", "NoNumbers", "NoPrice", "ManyForms", "Endless", "OtherArities", "NoContext", "NoNodes", "NoArguments", "NothingRead", "NothingDone", "NoPlace", "NoText", "BadLine", "TooMany"] "PickError" PEa) (TM : TmSet P w K mg ["NoMachine", "NoArities", "NoTree", "Unspelled", "NoOperator", "NoPrices", "NoStates", "NoForm", "NoCover", "NoNumber", "NoNumbers", "NoPrice", "ManyForms", "Endless", "OtherArities", "NoContext", "NoNodes", "NoArguments", "NothingRead", "NothingDone", "NoPlace", "NoText", "BadLine", "TooMany"] "TooMany" PEa " are more than ") {f_law_said : Addr} {fd_law_said : FuncData} (F__law_said : Fun K "_law_said" "_law_said" s__law_said f_law_said fd_law_said) (m__law_said : mg "_law_said" = some (.ref f_law_said)) (bn__law_said : Binds K fd_law_said ["_law_call"] []) {f_law_kind : Addr} {fd_law_kind : FuncData} (F__law_kind : Fun K "_law_kind" "_law_kind" s__law_kind f_law_kind fd_law_kind) (m__law_kind : mg "_law_kind" = some (.ref f_law_kind)) (bn__law_kind : Binds K fd_law_kind ["_law_error"] []) {ca Pt : Addr} (TB : LamX.TabB base mg ca Pt) (hca : fd.code = .ref ca) (hmT : (Pt, lamN "_law_row_right") ∈ T) (hu : ∀ p ∈ T, p.1 = Pt → p.2 = lamN "_law_row_right") : CallB P w K mg base T (k + 3) "_law_row_right" ["_law_arities_here", "_law_row"] M__law_row_right :=
  callB_of F hm hb (fnDc F sc__law_row_right rfl rfl (by decide) fun cdv hcv A outer s H qv E hgd hr => have hcd := hcv.symm.trans hca; (dss_cons (ds_par (i := 3) (j := 4) (np1 rfl) (np1 rfl) rfl sc__law_row_right.nd rfl rfl (by decide) rfl rfl (dcall (c__law_unspell.mono (Nat.le_add_right _ 2)) hgd hr rfl (passes_call (takes_of rfl rfl rfl rfl) (fun _ _ _ _ h => h)) (da_cons (dx_v (de_v 0 (pv 0))) (da_cons (dx_v (de_v 1 (pv 1))) da_nil))) (de_callB (cr_repr hgd hr) os_repr rfl z_repr bt_repr (da_cons (dx_s 1 (pv 1)) da_nil)))
    (dss_cons (ds_fz [2] (ds_set (i := 2) sc__law_row_right.nd rfl (by first | exact .inl rfl | exact .inr rfl) (np1 rfl) (de_saidT (xs := "_law_said") (aN := "_law_call") (n := "_law_error") (ex := "PickError") (gS := f_law_said) (c := ca) (P := Pt) (PE := PEa) (fd := fd_law_said) (st := s__law_said) (Ng := ["_law_call", "_law_error", "_law_word"]) (k := k) (L := ["NoArities", "NoTree", "Unspelled"]) (LT := ["TooMany"]) (caps := [0, 1]) (ws := [2, 3, 4]) (i := 1) (fb := F1__law_row_right) (h := b__law_said_2) rfl m__law_said F__law_said.kp F__law_said bn__law_said sc__law_said rfl rfl (.inl rfl) rfl rfl rfl rfl z_repr XS.pe TB hcd hmT hu hgd hr (LamX.lamS_by (sc := defScope s__law_row_right) (by decide +kernel)) rfl (fun _ _ _ _ _ => rfl) (fun y hy => let ⟨C, _, _, t, _⟩ := XS.ok y hy; ⟨C, t⟩) (fun y hy => tm_try TM hy) (fun A outer s H E f c' hgd hr => (dcall c_unspelled hgd hr rfl (passes_call (takes_of rfl rfl rfl rfl) (fun _ _ _ _ h => h)) (da_cons (dx_v (de_v 0 (pv 0))) (da_cons (dx_v (de_v 1 (pv 1))) da_nil)))) (su__law_said (k := k) F__law_kind m__law_kind bn__law_kind XS TM z_ValueError z_isinstance z_repr) (suT__law_said (k := k) F__law_kind m__law_kind bn__law_kind XS TM z_ValueError z_isinstance z_repr))) nx_set)
    (dss_cons (ds_if (dw_t (dw_or (dt_cmp (op_neA (ru64 hr)) os_ne (dx_s 2 (pv 2)) (dx_v (de_if (dt_cmp op_isN os_is (dx_s 3 (pv 3)) (dx_v de_non) (nomark _)) de_str (de_callB (cr_repr hgd hr) os_repr rfl z_repr bt_repr (da_cons (dx_s 3 (pv 3)) da_nil)))) (nomark _)) (dw_or1 (dt_cmp (op_neA (ru64 hr)) os_ne (dx_v (de_callB (cr_repr hgd hr) os_repr rfl z_repr bt_repr (da_cons (dx_s 1 (pv 1)) da_nil))) (dx_s 4 (pv 4)) (nomark _))))) (dss_one (ds_ret de_bl)) dss_nil)
    (dss_one (ds_ret (de_or (de_cmp op_isN os_is (dx_s 3 (pv 3)) (dx_v de_non) (nomark _)) (de_one (de_cmp (op_eqA (ru64 hr)) os_eq (dx_v (dcall (c_spelled.mono (Nat.le_add_right _ 2)) hgd hr rfl (passes_call (takes_of rfl rfl rfl rfl) (fun _ _ _ _ h => h)) (da_cons (dx_v (de_v 0 (pv 0))) (da_cons (dx_v (de_v 3 (pv 3))) da_nil)))) (dx_s 1 (pv 1)) (nomark _))))))))))
abbrev s__law_tree_right : Stmt := topS 57
theorem sc__law_tree_right : FnScope ["_law_pen_here", "_law_arities_here", "_law_written_here", "_law_told", "_law_row", "_law_one", "_law_many_here", "_law_kept"] ["_law_pen_here", "_law_arities_here", "_law_written_here"] (defScope s__law_tree_right) := ⟨rfl, rfl, rfl, by decide +kernel, rfl, by decide +kernel, by decide +kernel⟩
theorem ok__law_tree_right {f : Addr} {fd : FuncData} {k : Nat} (F : Fun K "_law_tree_right" "_law_tree_right" s__law_tree_right f fd) {base : Heap} (hm : mg "_law_tree_right" = some (.ref f)) (hb : Binds K fd ["_law_pen_here", "_law_arities_here", "_law_written_here"] []) (c__law_many : CallOk P w K mg T k "_law_many" ["_law_written_here"] M__law_many_2) (c__law_row_right : CallB P w K mg base T k "_law_row_right" ["_law_arities_here", "_law_row"] M__law_row_right) (c__law_rows : CallOk P w K mg T k "_law_rows" ["_law_pen_here", "_law_arities_here", "_law_row"] M__law_rows) (c__law_spell : CallOk P w K mg T k "_law_spell" ["_law_written_here", "_law_at"] (M__law_spell 20)) (c_spelled : CallOk P w K mg T k "spelled" ["arities", "tree"] M_spelled_3) (z_ValueError : mg "ValueError" = none) (z_isinstance : mg "isinstance" = none) (z_len : mg "len" = none) (z_repr : mg "repr" = none) (z_tuple : mg "tuple" = none) {PEa : Addr} (XS : ExcSet K mg ["NoArities", "NoTree", "Unspelled"] ["NoMachine", "NoArities", "NoTree", "Unspelled", "NoOperator", "NoPrices", "NoStates", "NoForm", "NoCover", "NoNumber", "NoNumbers", "NoPrice", "ManyForms", "Endless", "OtherArities", "NoContext", "NoNodes", "NoArguments", "NothingRead", "NothingDone", "NoPlace", "NoText", "BadLine", "TooMany"] "PickError" PEa) (TM : TmSet P w K mg ["NoMachine", "NoArities", "NoTree", "Unspelled", "NoOperator", "NoPrices", "NoStates", "NoForm", "NoCover", "NoNumber", "NoNumbers", "NoPrice", "ManyForms", "Endless", "OtherArities", "NoContext", "NoNodes", "NoArguments", "NothingRead", "NothingDone", "NoPlace", "NoText", "BadLine", "TooMany"] "TooMany" PEa " are more than ") {f_law_said : Addr} {fd_law_said : FuncData} (F__law_said : Fun K "_law_said" "_law_said" s__law_said f_law_said fd_law_said) (m__law_said : mg "_law_said" = some (.ref f_law_said)) (bn__law_said : Binds K fd_law_said ["_law_call"] []) {f_law_kind : Addr} {fd_law_kind : FuncData} (F__law_kind : Fun K "_law_kind" "_law_kind" s__law_kind f_law_kind fd_law_kind) (m__law_kind : mg "_law_kind" = some (.ref f_law_kind)) (bn__law_kind : Binds K fd_law_kind ["_law_error"] []) {ca Pt : Addr} (TB : LamX.TabB base mg ca Pt) (hca : fd.code = .ref ca) (hmT : (Pt, lamN "_law_tree_right") ∈ T) (hu : ∀ p ∈ T, p.1 = Pt → p.2 = lamN "_law_tree_right") : CallB P w K mg base T (k + 3) "_law_tree_right" ["_law_pen_here", "_law_arities_here", "_law_written_here"] M__law_tree_right_2 :=
  callB_of F hm hb (fnDc F sc__law_tree_right rfl rfl (by decide) fun cdv hcv A outer s H qv E hgd hr => have hcd := hcv.symm.trans hca; (dss_cons (ds_par (i := 6) (j := 7) (np1 rfl) (np1 rfl) rfl sc__law_tree_right.nd rfl rfl (by decide) rfl rfl (dcall (c__law_many.mono (Nat.le_add_right _ 2)) hgd hr rfl (passes_call (takes_of rfl rfl rfl rfl) (fun _ _ _ _ h => h)) (da_cons (dx_v (de_v 2 (pv 2))) da_nil)) (de_callB (cr_repr hgd hr) os_repr rfl z_repr bt_repr (da_cons (dx_s 2 (pv 2)) da_nil)))
    (dss_cons (ds_fz [3] (ds_set (i := 3) sc__law_tree_right.nd rfl (by first | exact .inl rfl | exact .inr rfl) (np1 rfl) (de_saidT (xs := "_law_said") (aN := "_law_call") (n := "_law_error") (ex := "PickError") (gS := f_law_said) (c := ca) (P := Pt) (PE := PEa) (fd := fd_law_said) (st := s__law_said) (Ng := ["_law_call", "_law_error", "_law_word"]) (k := k) (L := ["NoArities", "NoTree", "Unspelled"]) (LT := ["TooMany"]) (caps := [1, 2]) (ws := [0, 3, 4, 5, 6, 7]) (i := 1) (fb := F1__law_tree_right_2) (h := b__law_said_2) rfl m__law_said F__law_said.kp F__law_said bn__law_said sc__law_said rfl rfl (.inl rfl) rfl rfl rfl rfl z_repr XS.pe TB hcd hmT hu hgd hr (LamX.lamS_by (sc := defScope s__law_tree_right) (by decide +kernel)) rfl (fun _ _ _ _ _ => rfl) (fun y hy => let ⟨C, _, _, t, _⟩ := XS.ok y hy; ⟨C, t⟩) (fun y hy => tm_try TM hy) (fun A outer s H E f c' hgd hr => (dcall c_spelled hgd hr rfl (passes_call (takes_of rfl rfl rfl rfl) (fun _ _ _ _ h => h)) (da_cons (dx_v (de_v 1 (pv 1))) (da_cons (dx_v (de_v 2 (pv 2))) da_nil)))) (su__law_said (k := k) F__law_kind m__law_kind bn__law_kind XS TM z_ValueError z_isinstance z_repr) (suT__law_said (k := k) F__law_kind m__law_kind bn__law_kind XS TM z_ValueError z_isinstance z_repr))) nx_set)
    (dss_cons (ds_if (dt_cmp (op_neA (ru64 hr)) os_ne (dx_v (de_callB (cr_repr hgd hr) os_repr rfl z_repr bt_repr (da_cons (dx_s 2 (pv 2)) da_nil))) (dx_s 7 (pv 7)) (nomark _)) (dss_one (ds_ret de_bl)) dss_nil)
    (dss_cons (ds_if (dt_cmp op_gt os_cmI (dx_s 6 (pv 6)) (dx_v de_int) (nomark _)) (dss_one (ds_ret (de_cmp (op_eqA (ru64 hr)) os_eq (dx_s 3 (pv 3)) (dx_v (de_op op_addA os_add (dx_v de_str) (dx_v (de_callB (cr_repr hgd hr) os_repr rfl z_repr bt_repr (da_cons (dx_v (de_tup (da_cons (dx_v (de_v 6 (pv 6))) (da_cons (dx_v de_int) da_nil)))) da_nil))))) (nomark _)))) dss_nil)
    (dss_cons (ds_set (i := 4) sc__law_tree_right.nd rfl (by first | exact .inl rfl | exact .inr rfl) (np1 rfl) (de_callTy call_tuple_of os_tuple rfl z_tuple bt_tuple (da_cons (dx_v (dcall (c__law_spell.mono (Nat.le_add_right _ 2)) hgd hr rfl (passes_call (takes_of rfl rfl rfl rfl) (fun _ _ _ _ h => h)) (da_cons (dx_v (de_v 2 (pv 2))) (da_cons (dx_v (de_op op_sub os_sub (dx_v (de_callB call_lenA os_len rfl z_len bt_len (da_cons (dx_s 2 (pv 2)) da_nil))) (dx_v de_int))) da_nil)))) da_nil)))
    (dss_cons (ds_wp [2, 3, 6, 7] (ds_if (dt_cmp (op_neA (ru64 hr)) os_ne (dx_s 3 (pv 3)) (dx_v (de_callB (cr_repr hgd hr) os_repr rfl z_repr bt_repr (da_cons (dx_s 4 (pv 4)) da_nil))) (nomark _)) (dss_one (ds_ret de_bl)) dss_nil))
    (dss_cons (ds_wp [1, 4, 5] (ds_for (npn rfl) (passes_of rfl) rfl (di_seq (dx_v (dcall (c__law_rows.mono (Nat.le_add_right _ 2)) hgd hr rfl (passes_call (takes_of rfl rfl rfl rfl) (fun _ _ _ _ h => h)) (da_cons (dx_s 0 (pv 0)) (da_cons (dx_v (de_v 1 (pv 1))) (da_cons (dx_v (de_v 4 (pv 4))) da_nil)))))) (pg_name (i := 5) sc__law_tree_right.nd rfl (by first | exact .inl rfl | exact .inr rfl)) (dss_one (ds_wp [5] (ds_if (dw_t (dw_and (dt_cmp op_lt os_cmI (dx_v (de_callB call_lenA os_len rfl z_len bt_len (da_cons (dx_s 5 (pv 5)) da_nil))) (dx_v de_int) (nomark _)) (dw_and1 (dt_not (dt_val (dcallB (c__law_row_right.mono (Nat.le_add_right _ 2)) hgd hr rfl (passes_call (takes_of rfl rfl rfl rfl) (fun _ _ _ _ h => h)) (da_cons (dx_v (de_v 1 (pv 1))) (da_cons (dx_v (de_v 5 (pv 5))) da_nil)))))))) (dss_one (ds_ret de_bl)) dss_nil)))))
    (dss_one (ds_ret de_bl))))))))))
abbrev s__law_written : Stmt := topS 49
theorem sc__law_written : FnScope ["_law_pen_here", "_law_arities_here", "_law_upto", "_law_leaves", "_law_found", "_law_turn", "_law_one", "_law_near", "_law_parts", "_law_arity", "_law_lap"] ["_law_pen_here", "_law_arities_here", "_law_upto"] (defScope s__law_written) := ⟨rfl, rfl, rfl, by decide +kernel, rfl, by decide +kernel, by decide +kernel⟩
theorem ok__law_written {f : Addr} {fd : FuncData} {k : Nat} (F : Fun K "_law_written" "_law_written" s__law_written f fd) (hm : mg "_law_written" = some (.ref f)) (hb : Binds K fd ["_law_pen_here", "_law_arities_here", "_law_upto"] []) (c__law_draw : CallOk P w K mg T k "_law_draw" ["_law_pen_here", "_law_many_here"] M__law_draw_2) (c__law_pick : CallOk P w K mg T k "_law_pick" ["_law_pen_here", "_law_some"] M__law_pick_2) (z_enumerate : mg "enumerate" = none) (z_len : mg "len" = none) (z_max : mg "max" = none) (z_range : mg "range" = none) (z_tuple : mg "tuple" = none) : CallOk P w K mg T (k + 1) "_law_written" ["_law_pen_here", "_law_arities_here", "_law_upto"] M__law_written :=
  callOk_of F hm hb fun base => fnD F sc__law_written rfl rfl (by decide) fun cdv A outer s H qv E hgd hr => (dss_cons (ds_fz [3] (ds_setLc (i := 3) (own := [("_law_one", 6), ("_law_arity", 9)]) (np1 rfl) (npn rfl) (by decide) rfl sc__law_written.nd rfl rfl (sw_true rfl rfl rfl (by decide +kernel)) (di_en rfl z_enumerate (da_cons (dx_v (de_v 1 (pv 1))) da_nil)) (blkOk_by (N := ["_law_pen_here", "_law_arities_here", "_law_upto", "_law_leaves", "_law_found", "_law_turn", "_law_one", "_law_near", "_law_parts", "_law_arity", "_law_lap"]) (sc := defScope s__law_written) (own := [("_law_one", 6), ("_law_arity", 9)]) (by decide +kernel)) (fun _ _ _ _ _ => (pg_tup rfl (pgs_cons (pg_name (i := 6) sc__law_written.nd rfl (by first | exact .inl rfl | exact .inr rfl)) (pgs_cons (pg_name (i := 9) sc__law_written.nd rfl (by first | exact .inl rfl | exact .inr rfl)) pgs_nil)))) (fun _ _ _ _ _ => (pts_one (dt_cmp (op_eqA (ru64 hr)) os_eq (dx_s 9 (pv 9)) (dx_v de_int) (nomark _)))) (fun _ _ _ _ _ => (de_v 6 (pv 6)))) nx_set)
    (dss_cons (ds_if (dt_cmp (op_eqA (ru64 hr)) os_eq (dx_s 3 (pv 3)) (dx_v (de_lst da_nil)) (nomark _)) (dss_one (ds_ret de_non)) dss_nil)
    (dss_cons (ds_wp [3] (ds_set (i := 4) sc__law_written.nd rfl (by first | exact .inl rfl | exact .inr rfl) (np1 rfl) (de_lst (da_cons (dx_v (de_tup (da_cons (dx_v (dcall c__law_pick hgd hr rfl (passes_call (takes_of rfl rfl rfl rfl) (fun _ _ _ _ h => h)) (da_cons (dx_s 0 (pv 0)) (da_cons (dx_v (de_v 3 (pv 3))) da_nil)))) da_nil))) da_nil))))
    (dss_cons (ds_wp [1, 2, 5, 6, 7, 8] (ds_for (npn rfl) (passes_of rfl) rfl (di_r1 rfl z_range (da_cons (dx_v (dcall c__law_draw hgd hr rfl (passes_call (takes_of rfl rfl rfl rfl) (fun _ _ _ _ h => h)) (da_cons (dx_s 0 (pv 0)) (da_cons (dx_v (de_v 2 (pv 2))) da_nil)))) da_nil)) (pg_name (i := 5) sc__law_written.nd rfl (by first | exact .inl rfl | exact .inr rfl)) (dss_cons (ds_set (i := 6) sc__law_written.nd rfl (by first | exact .inl rfl | exact .inr rfl) (np1 rfl) (dcall c__law_draw hgd hr rfl (passes_call (takes_of rfl rfl rfl rfl) (fun _ _ _ _ h => h)) (da_cons (dx_s 0 (pv 0)) (da_cons (dx_v (de_callB call_lenA os_len rfl z_len bt_len (da_cons (dx_s 1 (pv 1)) da_nil))) da_nil))))
    (dss_cons (ds_set (i := 7) sc__law_written.nd rfl (by first | exact .inl rfl | exact .inr rfl) (np1 rfl) (de_callB (cl_max rfl) os_max rfl z_max bt_max (da_cons (dx_v de_int) (da_cons (dx_v (de_op op_sub os_sub (dx_v (de_op op_sub os_sub (dx_v (de_callB call_lenA os_len rfl z_len bt_len (da_cons (dx_s 4 (pv 4)) da_nil))) (dx_v de_int))) (dx_v (dcall c__law_draw hgd hr rfl (passes_call (takes_of rfl rfl rfl rfl) (fun _ _ _ _ h => h)) (da_cons (dx_s 0 (pv 0)) (da_cons (dx_v de_int) da_nil)))))) da_nil))))
    (dss_cons (ds_fz [8] (ds_setLc (i := 8) (own := [("_law_lap", 10)]) (np1 rfl) (npn rfl) (by decide) rfl sc__law_written.nd rfl rfl (sw_true rfl rfl rfl (by decide +kernel)) (di_r1 rfl z_range (da_cons (dx_v de_int) da_nil)) (blkOk_by (N := ["_law_pen_here", "_law_arities_here", "_law_upto", "_law_leaves", "_law_found", "_law_turn", "_law_one", "_law_near", "_law_parts", "_law_arity", "_law_lap"]) (sc := defScope s__law_written) (own := [("_law_lap", 10)]) (by decide +kernel)) (fun _ _ _ _ _ => (pg_name (i := 10) sc__law_written.nd rfl (by first | exact .inl rfl | exact .inr rfl))) (fun _ _ _ _ _ => pts_yes) (fun _ _ _ _ _ => (de_ix (ixD (ru65 hr)) os_ix (dx_v (de_lst (da_cons (dx_v (de_v 7 (pv 7))) (da_cons (dx_v (de_op op_sub os_sub (dx_v (de_callB call_lenA os_len rfl z_len bt_len (da_cons (dx_s 4 (pv 4)) da_nil))) (dx_v de_int))) (da_cons (dx_v (dcall c__law_draw hgd hr rfl passL (da_cons (dx_s 0 (pv 0)) (da_cons (dx_v (de_callB call_lenA os_len rfl z_len bt_len (da_cons (dx_s 4 (pv 4)) da_nil))) da_nil)))) da_nil))))) (dx_v (dcall c__law_draw hgd hr rfl passL (da_cons (dx_s 0 (pv 0)) (da_cons (dx_v de_int) da_nil)))) (fun _ _ => rfl)))) nx_set)
    (dss_one (ds_wp [5, 6, 7, 8] (ds_app (pv 4) (de_op op_addA os_add (dx_v (de_tup (da_cons (dx_v (de_v 6 (pv 6))) da_nil))) (dx_v (de_callTy call_tuple_of os_tuple rfl z_tuple bt_tuple (da_cons (dx_v (de_slHi (dx_s 8 (pv 8)) (dx_v (de_ix (ixD (ru65 hr)) os_ix (dx_s 1 (pv 1)) (dx_s 6 (pv 6)) (fun _ _ => rfl))))) da_nil))))))))))))
    (dss_one (ds_ret (de_callTy call_tuple_of os_tuple rfl z_tuple bt_tuple (da_cons (dx_s 4 (pv 4)) da_nil))))))))
abbrev s_law : Stmt := topS 58
theorem sc_law : FnScope ["_law_script", "_law_long", "_law_bad", "_law_chain", "_law_k", "_law_pen_here", "_law_lap", "_law_arities_here", "_law_at"] ["_law_script"] (defScope s_law) := ⟨rfl, rfl, rfl, by decide +kernel, rfl, by decide +kernel, by decide +kernel⟩
theorem fn_law {f : Addr} {fd : FuncData} {k : Nat} (F : Fun K "law" "law" s_law f fd) {base : Heap} (c__law_arities : CallOk P w K mg T k "_law_arities" ["_law_pen_here"] M__law_arities_2) (c__law_cell : CallOk P w K mg T k "_law_cell" ["_law_script", "_law_k"] M__law_cell) (c__law_pen : CallOk P w K mg T k "_law_pen" ["_law_cell_here"] M__law_pen_2) (c__law_tree_right : CallB P w K mg base T k "_law_tree_right" ["_law_pen_here", "_law_arities_here", "_law_written_here"] M__law_tree_right_2) (c__law_written : CallOk P w K mg T k "_law_written" ["_law_pen_here", "_law_arities_here", "_law_upto"] M__law_written) (c_spelled : CallOk P w K mg T k "spelled" ["arities", "tree"] M_spelled_3) (c_unspelled : CallOk P w K mg T k "unspelled" ["arities", "operators"] M_unspelled_2) (z_ValueError : mg "ValueError" = none) (z_isinstance : mg "isinstance" = none) (z_len : mg "len" = none) (z_max : mg "max" = none) (z_min : mg "min" = none) (z_range : mg "range" = none) (z_repr : mg "repr" = none) (z_tuple : mg "tuple" = none) {PEa : Addr} (XS : ExcSet K mg ["NoArities", "NoTree", "Unspelled"] ["NoMachine", "NoArities", "NoTree", "Unspelled", "NoOperator", "NoPrices", "NoStates", "NoForm", "NoCover", "NoNumber", "NoNumbers", "NoPrice", "ManyForms", "Endless", "OtherArities", "NoContext", "NoNodes", "NoArguments", "NothingRead", "NothingDone", "NoPlace", "NoText", "BadLine", "TooMany"] "PickError" PEa) (TM : TmSet P w K mg ["NoMachine", "NoArities", "NoTree", "Unspelled", "NoOperator", "NoPrices", "NoStates", "NoForm", "NoCover", "NoNumber", "NoNumbers", "NoPrice", "ManyForms", "Endless", "OtherArities", "NoContext", "NoNodes", "NoArguments", "NothingRead", "NothingDone", "NoPlace", "NoText", "BadLine", "TooMany"] "TooMany" PEa " are more than ") {f_law_said : Addr} {fd_law_said : FuncData} (F__law_said : Fun K "_law_said" "_law_said" s__law_said f_law_said fd_law_said) (m__law_said : mg "_law_said" = some (.ref f_law_said)) (bn__law_said : Binds K fd_law_said ["_law_call"] []) {f_law_kind : Addr} {fd_law_kind : FuncData} (F__law_kind : Fun K "_law_kind" "_law_kind" s__law_kind f_law_kind fd_law_kind) (m__law_kind : mg "_law_kind" = some (.ref f_law_kind)) (bn__law_kind : Binds K fd_law_kind ["_law_error"] []) {ca Pt : Addr} (TB : LamX.TabB base mg ca Pt) (hca : fd.code = .ref ca) (hmT : (Pt, lamN "law") ∈ T) (hu : ∀ p ∈ T, p.1 = Pt → p.2 = lamN "law") : FnG P w K mg base (k + 3) f fd ["_law_script"] (spD K mg T M_law_25) :=
  fnDc F sc_law rfl rfl (by decide) fun cdv hcv A outer s H qv E hgd hr => have hcd := hcv.symm.trans hca; (dss_cons (ds_set (i := 1) sc_law.nd rfl (by first | exact .inl rfl | exact .inr rfl) (np1 rfl) (de_op op_addA os_add (dx_v (de_op op_mulB os_mulB (dx_v (de_tup (da_cons (dx_v de_int) da_nil))) (dx_v de_int))) (dx_v (de_tup (da_cons (dx_v de_int) da_nil)))))
    (dss_cons (ds_if (dw_t (dw_or (dt_cmp (op_neA (ru64 hr)) os_ne (dx_v (de_callB call_lenA os_len rfl z_len bt_len (da_cons (dx_v (dcall (c_unspelled.mono (Nat.le_add_right _ 2)) hgd hr rfl (passes_call (takes_of rfl rfl rfl rfl) (fun _ _ _ _ h => h)) (da_cons (dx_v (de_tup (da_cons (dx_v de_int) (da_cons (dx_v de_int) da_nil)))) (da_cons (dx_v (de_v 1 (pv 1))) da_nil)))) da_nil))) (dx_v de_int) (nomark _)) (dw_or1 (dt_cmp (op_neA (ru64 hr)) os_ne (dx_v (de_saidT (xs := "_law_said") (aN := "_law_call") (n := "_law_error") (ex := "PickError") (gS := f_law_said) (c := ca) (P := Pt) (PE := PEa) (fd := fd_law_said) (st := s__law_said) (Ng := ["_law_call", "_law_error", "_law_word"]) (k := k) (L := ["NoArities", "NoTree", "Unspelled"]) (LT := ["TooMany"]) (caps := [1]) (ws := [0, 2, 3, 4, 5, 6, 7, 8]) (i := 1) (fb := F1_law_25) (h := b__law_said_2) rfl m__law_said F__law_said.kp F__law_said bn__law_said sc__law_said rfl rfl (.inl rfl) rfl rfl rfl rfl z_repr XS.pe TB hcd hmT hu hgd hr (LamX.lamS_by (sc := defScope s_law) (by decide +kernel)) rfl (fun _ _ _ _ _ => rfl) (fun y hy => let ⟨C, _, _, t, _⟩ := XS.ok y hy; ⟨C, t⟩) (fun y hy => tm_try TM hy) (fun A outer s H E f c' hgd hr => (dcall c_unspelled hgd hr rfl (passes_call (takes_of rfl rfl rfl rfl) (fun _ _ _ _ h => h)) (da_cons (dx_v (de_tup (da_cons (dx_v de_int) (da_cons (dx_v de_int) da_nil)))) (da_cons (dx_v (de_op op_addA os_add (dx_v (de_tup (da_cons (dx_v de_int) da_nil))) (dx_s 1 (pv 1)))) da_nil)))) (su__law_said (k := k) F__law_kind m__law_kind bn__law_kind XS TM z_ValueError z_isinstance z_repr) (suT__law_said (k := k) F__law_kind m__law_kind bn__law_kind XS TM z_ValueError z_isinstance z_repr))) (dx_v de_str) (nomark _))))) (dss_one (ds_ret de_bl)) dss_nil)
    (dss_cons (ds_wp [2] (ds_for (npn rfl) (passes_of rfl) rfl (di_seq (dx_v (de_lst (da_cons (dx_v de_non) (da_cons (dx_v (de_lst (da_cons (dx_v de_int) da_nil))) (da_cons (dx_v (de_tup da_nil)) (da_cons (dx_v de_int) (da_cons (dx_v de_str) (da_cons (dx_v (de_tup (da_cons (dx_v de_int) da_nil))) (da_cons (dx_v (de_tup (da_cons (dx_v de_int) da_nil))) (da_cons (dx_v (de_tup (da_cons (dx_v (de_un un_neg os_neg (dx_v de_int))) da_nil))) (da_cons (dx_v (de_tup (da_cons (dx_v de_bl) da_nil))) (da_cons (dx_v (de_tup (da_cons (dx_v de_int) (da_cons (dx_v de_int) da_nil)))) (da_cons (dx_v (de_tup (da_cons (dx_v (de_tup (da_cons (dx_v de_int) da_nil))) da_nil))) (da_cons (dx_v (de_tup (da_cons (dx_v de_non) da_nil))) (da_cons (dx_v de_dnew) da_nil)))))))))))))))) (pg_name (i := 2) sc_law.nd rfl (by first | exact .inl rfl | exact .inr rfl)) (dss_one (ds_wp [2] (ds_if (dt_cmp (op_neA (ru64 hr)) os_ne (dx_v (de_saidT (xs := "_law_said") (aN := "_law_call") (n := "_law_error") (ex := "PickError") (gS := f_law_said) (c := ca) (P := Pt) (PE := PEa) (fd := fd_law_said) (st := s__law_said) (Ng := ["_law_call", "_law_error", "_law_word"]) (k := k) (L := ["NoArities", "NoTree", "Unspelled"]) (LT := ["TooMany"]) (caps := [2]) (ws := [0, 1, 3, 4, 5, 6, 7, 8]) (i := 1) (fb := F2_law_25) (h := b__law_said_2) rfl m__law_said F__law_said.kp F__law_said bn__law_said sc__law_said rfl rfl (.inl rfl) rfl rfl rfl rfl z_repr XS.pe TB hcd hmT hu hgd hr (LamX.lamS_by (sc := defScope s_law) (by decide +kernel)) rfl (fun _ _ _ _ _ => rfl) (fun y hy => let ⟨C, _, _, t, _⟩ := XS.ok y hy; ⟨C, t⟩) (fun y hy => tm_try TM hy) (fun A outer s H E f c' hgd hr => (dcall c_unspelled hgd hr rfl (passes_call (takes_of rfl rfl rfl rfl) (fun _ _ _ _ h => h)) (da_cons (dx_v (de_tup (da_cons (dx_v de_int) (da_cons (dx_v de_int) da_nil)))) (da_cons (dx_v (de_v 2 (pv 2))) da_nil)))) (su__law_said (k := k) F__law_kind m__law_kind bn__law_kind XS TM z_ValueError z_isinstance z_repr) (suT__law_said (k := k) F__law_kind m__law_kind bn__law_kind XS TM z_ValueError z_isinstance z_repr))) (dx_v de_str) (nomark _)) (dss_one (ds_ret de_bl)) dss_nil)))))
    (dss_cons (ds_set (i := 3) sc_law.nd rfl (by first | exact .inl rfl | exact .inr rfl) (np1 rfl) (de_op op_addA os_add (dx_v (de_tup (da_cons (dx_v (de_tup (da_cons (dx_v de_int) da_nil))) da_nil))) (dx_v (de_callTy call_tuple_of os_tuple rfl z_tuple bt_tuple (da_cons (dx_v (de_lc (own := [("_law_at", 8)]) (npn rfl) (by decide) rfl sc_law.nd (di_r1 rfl z_range (da_cons (dx_v de_int) da_nil)) (blkOk_by (N := ["_law_script", "_law_long", "_law_bad", "_law_chain", "_law_k", "_law_pen_here", "_law_lap", "_law_arities_here", "_law_at"]) (sc := defScope s_law) (own := [("_law_at", 8)]) (by decide +kernel)) (fun _ _ _ _ _ => (pg_name (i := 8) sc_law.nd rfl (by first | exact .inl rfl | exact .inr rfl))) (fun _ _ _ _ _ => pts_yes) (fun _ _ _ _ _ => (de_tup (da_cons (dx_v de_int) (da_cons (dx_v (de_v 8 (pv 8))) da_nil)))))) da_nil)))))
    (dss_cons (ds_wp [1, 3] (ds_if (dw_t (dw_or (dt_cmp (op_neA (ru64 hr)) os_ne (dx_v (dcall (c_spelled.mono (Nat.le_add_right _ 2)) hgd hr rfl (passes_call (takes_of rfl rfl rfl rfl) (fun _ _ _ _ h => h)) (da_cons (dx_v (de_tup (da_cons (dx_v de_int) (da_cons (dx_v de_int) da_nil)))) (da_cons (dx_v (de_slHi (dx_s 3 (pv 3)) (dx_v de_int))) da_nil)))) (dx_s 1 (pv 1)) (nomark _)) (dw_or1 (dt_cmp (op_neA (ru64 hr)) os_ne (dx_v (de_saidT (xs := "_law_said") (aN := "_law_call") (n := "_law_error") (ex := "PickError") (gS := f_law_said) (c := ca) (P := Pt) (PE := PEa) (fd := fd_law_said) (st := s__law_said) (Ng := ["_law_call", "_law_error", "_law_word"]) (k := k) (L := ["NoArities", "NoTree", "Unspelled"]) (LT := ["TooMany"]) (caps := [3]) (ws := [0, 1, 2, 4, 5, 6, 7, 8]) (i := 1) (fb := F3_law_25) (h := b__law_said_2) rfl m__law_said F__law_said.kp F__law_said bn__law_said sc__law_said rfl rfl (.inl rfl) rfl rfl rfl rfl z_repr XS.pe TB hcd hmT hu hgd hr (LamX.lamS_by (sc := defScope s_law) (by decide +kernel)) rfl (fun _ _ _ _ _ => rfl) (fun y hy => let ⟨C, _, _, t, _⟩ := XS.ok y hy; ⟨C, t⟩) (fun y hy => tm_try TM hy) (fun A outer s H E f c' hgd hr => (dcall c_spelled hgd hr rfl (passes_call (takes_of rfl rfl rfl rfl) (fun _ _ _ _ h => h)) (da_cons (dx_v (de_tup (da_cons (dx_v de_int) (da_cons (dx_v de_int) da_nil)))) (da_cons (dx_v (de_v 3 (pv 3))) da_nil)))) (su__law_said (k := k) F__law_kind m__law_kind bn__law_kind XS TM z_ValueError z_isinstance z_repr) (suT__law_said (k := k) F__law_kind m__law_kind bn__law_kind XS TM z_ValueError z_isinstance z_repr))) (dx_v de_str) (nomark _))))) (dss_one (ds_ret de_bl)) dss_nil))
    (dss_cons (ds_wp [0, 4, 5, 6, 7] (ds_for (npn rfl) (passes_of rfl) rfl (di_r1 rfl z_range (da_cons (dx_v (de_callB (cl_max rfl) os_max rfl z_max bt_max (da_cons (dx_v de_int) (da_cons (dx_v (de_callB (cl_min rfl) os_min rfl z_min bt_min (da_cons (dx_v (de_callB call_lenA os_len rfl z_len bt_len (da_cons (dx_s 0 (pv 0)) da_nil))) (da_cons (dx_v de_int) da_nil)))) da_nil)))) da_nil)) (pg_name (i := 4) sc_law.nd rfl (by first | exact .inl rfl | exact .inr rfl)) (dss_cons (ds_wp [4] (ds_set (i := 5) sc_law.nd rfl (by first | exact .inl rfl | exact .inr rfl) (np1 rfl) (dcall (c__law_pen.mono (Nat.le_add_right _ 2)) hgd hr rfl (passes_call (takes_of rfl rfl rfl rfl) (fun _ _ _ _ h => h)) (da_cons (dx_v (dcall (c__law_cell.mono (Nat.le_add_right _ 2)) hgd hr rfl (passes_call (takes_of rfl rfl rfl rfl) (fun _ _ _ _ h => h)) (da_cons (dx_v (de_v 0 (pv 0))) (da_cons (dx_v (de_v 4 (pv 4))) da_nil)))) da_nil))))
    (dss_one (ds_wp [5, 6, 7] (ds_for (npn rfl) (passes_of rfl) rfl (di_r1 rfl z_range (da_cons (dx_v de_int) da_nil)) (pg_name (i := 6) sc_law.nd rfl (by first | exact .inl rfl | exact .inr rfl)) (dss_cons (ds_set (i := 7) sc_law.nd rfl (by first | exact .inl rfl | exact .inr rfl) (np1 rfl) (dcall (c__law_arities.mono (Nat.le_add_right _ 2)) hgd hr rfl (passes_call (takes_of rfl rfl rfl rfl) (fun _ _ _ _ h => h)) (da_cons (dx_s 5 (pv 5)) da_nil)))
    (dss_one (ds_wp [6, 7] (ds_if (dt_not (dt_val (dcallB (c__law_tree_right.mono (Nat.le_add_right _ 2)) hgd hr rfl (passes_call (takes_of rfl rfl rfl rfl) (fun _ _ _ _ h => h)) (da_cons (dx_s 5 (pv 5)) (da_cons (dx_v (de_v 7 (pv 7))) (da_cons (dx_v (dcall (c__law_written.mono (Nat.le_add_right _ 2)) hgd hr rfl (passes_call (takes_of rfl rfl rfl rfl) (fun _ _ _ _ h => h)) (da_cons (dx_s 5 (pv 5)) (da_cons (dx_v (de_v 7 (pv 7))) (da_cons (dx_v (de_ix (ixD (ru65 hr)) os_ix (dx_v (de_lst (da_cons (dx_v de_int) (da_cons (dx_v de_int) (da_cons (dx_v de_int) da_nil))))) (dx_v (de_op op_mod os_mod (dx_s 6 (pv 6)) (dx_v de_int))) (fun _ _ => rfl))) da_nil))))) da_nil)))))) (dss_one (ds_ret de_bl)) dss_nil))))))))))
    (dss_one (ds_ret de_bl))))))))
end
abbrev PW : Program := PySem.Challenge.rw_codepick_k05_spelled_there_and_back.prog
abbrev s_TM : Stmt := inCls (topS 25) 0
def tv : FnT := some ("__init__", "TooMany.__init__", defArgs s_TM, FuncBody.stmts (defBody s_TM), defScope s_TM, mainGlobals, [("__class__" : Str)], builtinsNs)
theorem sc_TM : SScope tmN (defScope s_TM) := ⟨rfl, rfl, rfl, by decide +kernel, by decide +kernel, by decide +kernel, fun x h => tm_free (l := (defScope s_TM).names) (by decide +kernel) h⟩
theorem tm_law {w : World} {K : PySem.W.Frag} {h : Heap} {mg : Str → Option Value} (X : K.In h) (G : h.Ns mainGlobals mg) (e : fnT K ("TooMany", some "__init__") = tv) (b : tmB PW.main.file "TooMany.__init__" ["NoMachine", "NoArities", "NoTree", "Unspelled", "NoOperator", "NoPrices", "NoStates", "NoForm", "NoCover", "NoNumber", "NoNumbers", "NoPrice", "ManyForms", "Endless", "OtherArities", "NoContext", "NoNodes", "NoArguments", "NothingRead", "NothingDone", "NoPlace", "NoText", "BadLine", "TooMany"] "TooMany" "PickError" K = true) : TmSet PW w K mg ["NoMachine", "NoArities", "NoTree", "Unspelled", "NoOperator", "NoPrices", "NoStates", "NoForm", "NoCover", "NoNumber", "NoNumbers", "NoPrice", "ManyForms", "Endless", "OtherArities", "NoContext", "NoNodes", "NoArguments", "NothingRead", "NothingDone", "NoPlace", "NoText", "BadLine", "TooMany"] "TooMany" (He.ga K "PickError") " are more than " :=
  tm_of X G e b sc_TM (fun _ _ _ _ _ _ _ us hl => match us, hl with | [_, _, _], _ => rfl) (beq_self_eq_true _) rfl rfl rfl rfl (by decide +kernel) (by decide +kernel) (fun _ _ _ _ => rfl) (fun _ _ _ _ => rfl)
def D0 : He.DefD := ⟨("_law_pen", none), "_law_pen", "_law_pen", defArgs s__law_pen, defBody s__law_pen, defScope s__law_pen, [], []⟩
def D1 : He.DefD := ⟨("_law_kind", none), "_law_kind", "_law_kind", defArgs s__law_kind, defBody s__law_kind, defScope s__law_kind, [], []⟩
def D2 : He.DefD := ⟨("_law_said", none), "_law_said", "_law_said", defArgs s__law_said, defBody s__law_said, defScope s__law_said, [], []⟩
def D3 : He.DefD := ⟨("is_between", none), "is_between", "is_between", defArgs s_is_between, defBody s_is_between, defScope s_is_between, [], []⟩
def D4 : He.DefD := ⟨("is_arities", none), "is_arities", "is_arities", defArgs s_is_arities, defBody s_is_arities, defScope s_is_arities, [], []⟩
def D5 : He.DefD := ⟨("need_arities", none), "need_arities", "need_arities", defArgs s_need_arities, defBody s_need_arities, defScope s_need_arities, [], []⟩
def D6 : He.DefD := ⟨("is_node", none), "is_node", "is_node", defArgs s_is_node, defBody s_is_node, defScope s_is_node, [], []⟩
def D7 : He.DefD := ⟨("is_written", none), "is_written", "is_written", defArgs s_is_written, defBody s_is_written, defScope s_is_written, [], []⟩
def D8 : He.DefD := ⟨("need_tree", none), "need_tree", "need_tree", defArgs s_need_tree, defBody s_need_tree, defScope s_need_tree, [], []⟩
def D9 : He.DefD := ⟨("need_both", none), "need_both", "need_both", defArgs s_need_both, defBody s_need_both, defScope s_need_both, [], []⟩
def D10 : He.DefD := ⟨("spelled_of", none), "spelled_of", "spelled_of", defArgs s_spelled_of, defBody s_spelled_of, defScope s_spelled_of, [], []⟩
def D11 : He.DefD := ⟨("amounts", none), "amounts", "amounts", defArgs s_amounts, defBody s_amounts, defScope s_amounts, [], []⟩
def D12 : He.DefD := ⟨("spelled", none), "spelled", "spelled", defArgs s_spelled, defBody s_spelled, defScope s_spelled, [], []⟩
def D13 : He.DefD := ⟨("_law_cell", none), "_law_cell", "_law_cell", defArgs s__law_cell, defBody s__law_cell, defScope s__law_cell, [], []⟩
def D14 : He.DefD := ⟨("_law_draw", none), "_law_draw", "_law_draw", defArgs s__law_draw, defBody s__law_draw, defScope s__law_draw, [], []⟩
def D15 : He.DefD := ⟨("_law_pick", none), "_law_pick", "_law_pick", defArgs s__law_pick, defBody s__law_pick, defScope s__law_pick, [], []⟩
def D16 : He.DefD := ⟨("_law_arities", none), "_law_arities", "_law_arities", defArgs s__law_arities, defBody s__law_arities, defScope s__law_arities, [], []⟩
def D17 : He.DefD := ⟨("built", none), "built", "built", defArgs s_built, defBody s_built, defScope s_built, [], []⟩
def D18 : He.DefD := ⟨("unspelled", none), "unspelled", "unspelled", defArgs s_unspelled, defBody s_unspelled, defScope s_unspelled, [], []⟩
def D19 : He.DefD := ⟨("_law_rows", none), "_law_rows", "_law_rows", defArgs s__law_rows, defBody s__law_rows, defScope s__law_rows, [], []⟩
def D20 : He.DefD := ⟨("_law_many", none), "_law_many", "_law_many", defArgs s__law_many, defBody s__law_many, defScope s__law_many, [], []⟩
def D21 : He.DefD := ⟨("_law_spell", none), "_law_spell", "_law_spell", defArgs s__law_spell, defBody s__law_spell, defScope s__law_spell, [], []⟩
def D22 : He.DefD := ⟨("_law_unspell", none), "_law_unspell", "_law_unspell", defArgs s__law_unspell, defBody s__law_unspell, defScope s__law_unspell, [], []⟩
def D23 : He.DefD := ⟨("_law_row_right", none), "_law_row_right", "_law_row_right", defArgs s__law_row_right, defBody s__law_row_right, defScope s__law_row_right, [], []⟩
def D24 : He.DefD := ⟨("_law_tree_right", none), "_law_tree_right", "_law_tree_right", defArgs s__law_tree_right, defBody s__law_tree_right, defScope s__law_tree_right, [], []⟩
def D25 : He.DefD := ⟨("_law_written", none), "_law_written", "_law_written", defArgs s__law_written, defBody s__law_written, defScope s__law_written, [], []⟩
def D26 : He.DefD := ⟨("law", none), "law", "law", defArgs s_law, defBody s_law, defScope s_law, [], []⟩
def FA0 : List He.Fa := [.glo "_law_pen", .glo "_law_kind", .glo "_law_said", .glo "is_between", .glo "is_arities", .glo "need_arities", .glo "is_node", .glo "is_written", .glo "need_tree", .glo "need_both", .glo "spelled_of", .glo "amounts", .glo "spelled", .glo "_law_cell", .glo "_law_draw", .glo "_law_pick", .glo "_law_arities", .glo "built", .glo "unspelled", .glo "_law_rows", .glo "_law_many", .glo "_law_spell", .glo "_law_unspell", .glo "_law_row_right", .glo "_law_tree_right", .glo "_law_written", .glo "law", .free "ValueError", .free "all", .free "bool"]
def FA1 : List He.Fa := [.free "enumerate", .free "int", .free "isinstance", .free "len", .free "list", .free "max", .free "min", .free "range", .free "repr", .free "sum", .free "tuple", .int "MOST_ARITY" 2, .int "MOST_OPERATORS" 6, .int "MOST_SPELLED" 200]
def FA : List He.Fa := FA0 ++ FA1
def FN : List He.DefD := [D0, D1, D2, D3, D4, D5, D6, D7, D8, D9, D10, D11, D12, D13, D14, D15, D16, D17, D18, D19, D20, D21, D22, D23, D24, D25, D26]
def TF : List He.Defn := [("_law_row_right", none), ("_law_tree_right", none), ("law", none)]
def EX (K : PySem.W.Frag) : Bool := setB ["NoArities", "NoTree", "Unspelled"] ["NoMachine", "NoArities", "NoTree", "Unspelled", "NoOperator", "NoPrices", "NoStates", "NoForm", "NoCover", "NoNumber", "NoNumbers", "NoPrice", "ManyForms", "Endless", "OtherArities", "NoContext", "NoNodes", "NoArguments", "NothingRead", "NothingDone", "NoPlace", "NoText", "BadLine", "TooMany"] "PickError" K && (ndB TF K && tmB PW.main.file "TooMany.__init__" ["NoMachine", "NoArities", "NoTree", "Unspelled", "NoOperator", "NoPrices", "NoStates", "NoForm", "NoCover", "NoNumber", "NoNumbers", "NoPrice", "ManyForms", "Endless", "OtherArities", "NoContext", "NoNodes", "NoArguments", "NothingRead", "NothingDone", "NoPlace", "NoText", "BadLine", "TooMany"] "TooMany" "PickError" K)
theorem law_at {w : World} {K : PySem.W.Frag} {h : Heap} {mg : Str → Option Value} {fa : Addr} (X : K.In h) (G : h.Ns mainGlobals mg) (hfa : mg "law" = some (.ref fa)) (SY : He.SaysX FA FN [] TF EX w h K ∧ fnT K ("TooMany", some "__init__") = tv) (lt : ∀ ns : List Int, ns.length ≤ 63 → ∃ os, M_law_25 [.fr (.list (ns.map PyData.int))] = .ok (.fr (.bool true), os)) : LawAtT PySem.Challenge.rw_codepick_k05_spelled_there_and_back w K 26 63 "_law_script" mg fa h := by
  obtain ⟨S, eT⟩ := SY
  have D := S.t.d
  obtain ⟨XB, nd⟩ := He.ba S.more
  have XS := setB_ok X G XB
  obtain ⟨nd, XT⟩ := He.ba nd
  have TM : TmSet PySem.Challenge.rw_codepick_k05_spelled_there_and_back.prog w K mg ["NoMachine", "NoArities", "NoTree", "Unspelled", "NoOperator", "NoPrices", "NoStates", "NoForm", "NoCover", "NoNumber", "NoNumbers", "NoPrice", "ManyForms", "Endless", "OtherArities", "NoContext", "NoNodes", "NoArguments", "NothingRead", "NothingDone", "NoPlace", "NoText", "BadLine", "TooMany"] "TooMany" (He.ga K "PickError") " are more than " := tm_law X G eT XT
  have m0 := He.glo_ok X G (D.fact 0 (f := .glo "_law_pen") rfl)
  have m1 := He.glo_ok X G (D.fact 1 (f := .glo "_law_kind") rfl)
  have m2 := He.glo_ok X G (D.fact 2 (f := .glo "_law_said") rfl)
  have m3 := He.glo_ok X G (D.fact 3 (f := .glo "is_between") rfl)
  have m4 := He.glo_ok X G (D.fact 4 (f := .glo "is_arities") rfl)
  have m5 := He.glo_ok X G (D.fact 5 (f := .glo "need_arities") rfl)
  have m6 := He.glo_ok X G (D.fact 6 (f := .glo "is_node") rfl)
  have m7 := He.glo_ok X G (D.fact 7 (f := .glo "is_written") rfl)
  have m8 := He.glo_ok X G (D.fact 8 (f := .glo "need_tree") rfl)
  have m9 := He.glo_ok X G (D.fact 9 (f := .glo "need_both") rfl)
  have m10 := He.glo_ok X G (D.fact 10 (f := .glo "spelled_of") rfl)
  have m11 := He.glo_ok X G (D.fact 11 (f := .glo "amounts") rfl)
  have m12 := He.glo_ok X G (D.fact 12 (f := .glo "spelled") rfl)
  have m13 := He.glo_ok X G (D.fact 13 (f := .glo "_law_cell") rfl)
  have m14 := He.glo_ok X G (D.fact 14 (f := .glo "_law_draw") rfl)
  have m15 := He.glo_ok X G (D.fact 15 (f := .glo "_law_pick") rfl)
  have m16 := He.glo_ok X G (D.fact 16 (f := .glo "_law_arities") rfl)
  have m17 := He.glo_ok X G (D.fact 17 (f := .glo "built") rfl)
  have m18 := He.glo_ok X G (D.fact 18 (f := .glo "unspelled") rfl)
  have m19 := He.glo_ok X G (D.fact 19 (f := .glo "_law_rows") rfl)
  have m20 := He.glo_ok X G (D.fact 20 (f := .glo "_law_many") rfl)
  have m21 := He.glo_ok X G (D.fact 21 (f := .glo "_law_spell") rfl)
  have m22 := He.glo_ok X G (D.fact 22 (f := .glo "_law_unspell") rfl)
  have m23 := He.glo_ok X G (D.fact 23 (f := .glo "_law_row_right") rfl)
  have m24 := He.glo_ok X G (D.fact 24 (f := .glo "_law_tree_right") rfl)
  have m25 := He.glo_ok X G (D.fact 25 (f := .glo "_law_written") rfl)
  have m26 := He.glo_ok X G (D.fact 26 (f := .glo "law") rfl)
  have z_ValueError := He.free_ok X G (D.fact 27 (f := .free "ValueError") rfl)
  have z_all := He.free_ok X G (D.fact 28 (f := .free "all") rfl)
  have z_bool := He.free_ok X G (D.fact 29 (f := .free "bool") rfl)
  have z_enumerate := He.free_ok X G (D.fact 30 (f := .free "enumerate") rfl)
  have z_int := He.free_ok X G (D.fact 31 (f := .free "int") rfl)
  have z_isinstance := He.free_ok X G (D.fact 32 (f := .free "isinstance") rfl)
  have z_len := He.free_ok X G (D.fact 33 (f := .free "len") rfl)
  have z_list := He.free_ok X G (D.fact 34 (f := .free "list") rfl)
  have z_max := He.free_ok X G (D.fact 35 (f := .free "max") rfl)
  have z_min := He.free_ok X G (D.fact 36 (f := .free "min") rfl)
  have z_range := He.free_ok X G (D.fact 37 (f := .free "range") rfl)
  have z_repr := He.free_ok X G (D.fact 38 (f := .free "repr") rfl)
  have z_sum := He.free_ok X G (D.fact 39 (f := .free "sum") rfl)
  have z_tuple := He.free_ok X G (D.fact 40 (f := .free "tuple") rfl)
  obtain ⟨_, g_MOST_ARITY⟩ := He.int_ok X G (D.fact 41 (f := .int "MOST_ARITY" 2) rfl)
  obtain ⟨_, g_MOST_OPERATORS⟩ := He.int_ok X G (D.fact 42 (f := .int "MOST_OPERATORS" 6) rfl)
  obtain ⟨_, g_MOST_SPELLED⟩ := He.int_ok X G (D.fact 43 (f := .int "MOST_SPELLED" 200) rfl)
  obtain ⟨fd0, F00⟩ := D.def_ 0 (d := D0) rfl
  have F0 : Fun K "_law_pen" "_law_pen" s__law_pen (He.fAd K ("_law_pen", none)) fd0 := fun_of (st := s__law_pen) F00
  have bn0 := F0.binds (ps := ["_law_cell_here"]) fun _ _ _ _ _ _ us hl => match us, hl with | [_], _ => rfl
  obtain ⟨fd1, F10⟩ := D.def_ 1 (d := D1) rfl
  have F1 : Fun K "_law_kind" "_law_kind" s__law_kind (He.fAd K ("_law_kind", none)) fd1 := fun_of (st := s__law_kind) F10
  have bn1 := F1.binds (ps := ["_law_error"]) fun _ _ _ _ _ _ us hl => match us, hl with | [_], _ => rfl
  obtain ⟨fd2, F20⟩ := D.def_ 2 (d := D2) rfl
  have F2 : Fun K "_law_said" "_law_said" s__law_said (He.fAd K ("_law_said", none)) fd2 := fun_of (st := s__law_said) F20
  have bn2 := F2.binds (ps := ["_law_call"]) fun _ _ _ _ _ _ us hl => match us, hl with | [_], _ => rfl
  obtain ⟨fd3, F30⟩ := D.def_ 3 (d := D3) rfl
  have F3 : Fun K "is_between" "is_between" s_is_between (He.fAd K ("is_between", none)) fd3 := fun_of (st := s_is_between) F30
  have bn3 := F3.binds (ps := ["thing", "low", "high"]) fun _ _ _ _ _ _ us hl => match us, hl with | [_, _, _], _ => rfl
  obtain ⟨fd4, F40⟩ := D.def_ 4 (d := D4) rfl
  have F4 : Fun K "is_arities" "is_arities" s_is_arities (He.fAd K ("is_arities", none)) fd4 := fun_of (st := s_is_arities) F40
  have bn4 := F4.binds (ps := ["thing"]) fun _ _ _ _ _ _ us hl => match us, hl with | [_], _ => rfl
  obtain ⟨fd5, F50⟩ := D.def_ 5 (d := D5) rfl
  have F5 : Fun K "need_arities" "need_arities" s_need_arities (He.fAd K ("need_arities", none)) fd5 := fun_of (st := s_need_arities) F50
  have bn5 := F5.binds (ps := ["thing"]) fun _ _ _ _ _ _ us hl => match us, hl with | [_], _ => rfl
  obtain ⟨fd6, F60⟩ := D.def_ 6 (d := D6) rfl
  have F6 : Fun K "is_node" "is_node" s_is_node (He.fAd K ("is_node", none)) fd6 := fun_of (st := s_is_node) F60
  have bn6 := F6.binds (ps := ["arities", "thing", "before"]) fun _ _ _ _ _ _ us hl => match us, hl with | [_, _, _], _ => rfl
  obtain ⟨fd7, F70⟩ := D.def_ 7 (d := D7) rfl
  have F7 : Fun K "is_written" "is_written" s_is_written (He.fAd K ("is_written", none)) fd7 := fun_of (st := s_is_written) F70
  have bn7 := F7.binds (ps := ["arities", "thing"]) fun _ _ _ _ _ _ us hl => match us, hl with | [_, _], _ => rfl
  obtain ⟨fd8, F80⟩ := D.def_ 8 (d := D8) rfl
  have F8 : Fun K "need_tree" "need_tree" s_need_tree (He.fAd K ("need_tree", none)) fd8 := fun_of (st := s_need_tree) F80
  have bn8 := F8.binds (ps := ["arities", "thing"]) fun _ _ _ _ _ _ us hl => match us, hl with | [_, _], _ => rfl
  obtain ⟨fd9, F90⟩ := D.def_ 9 (d := D9) rfl
  have F9 : Fun K "need_both" "need_both" s_need_both (He.fAd K ("need_both", none)) fd9 := fun_of (st := s_need_both) F90
  have bn9 := F9.binds (ps := ["arities", "tree"]) fun _ _ _ _ _ _ us hl => match us, hl with | [_, _], _ => rfl
  obtain ⟨fd10, F100⟩ := D.def_ 10 (d := D10) rfl
  have F10 : Fun K "spelled_of" "spelled_of" s_spelled_of (He.fAd K ("spelled_of", none)) fd10 := fun_of (st := s_spelled_of) F100
  have bn10 := F10.binds (ps := ["tree"]) fun _ _ _ _ _ _ us hl => match us, hl with | [_], _ => rfl
  obtain ⟨fd11, F110⟩ := D.def_ 11 (d := D11) rfl
  have F11 : Fun K "amounts" "amounts" s_amounts (He.fAd K ("amounts", none)) fd11 := fun_of (st := s_amounts) F110
  have bn11 := F11.binds (ps := ["tree"]) fun _ _ _ _ _ _ us hl => match us, hl with | [_], _ => rfl
  obtain ⟨fd12, F120⟩ := D.def_ 12 (d := D12) rfl
  have F12 : Fun K "spelled" "spelled" s_spelled (He.fAd K ("spelled", none)) fd12 := fun_of (st := s_spelled) F120
  have bn12 := F12.binds (ps := ["arities", "tree"]) fun _ _ _ _ _ _ us hl => match us, hl with | [_, _], _ => rfl
  obtain ⟨fd13, F130⟩ := D.def_ 13 (d := D13) rfl
  have F13 : Fun K "_law_cell" "_law_cell" s__law_cell (He.fAd K ("_law_cell", none)) fd13 := fun_of (st := s__law_cell) F130
  have bn13 := F13.binds (ps := ["_law_script", "_law_k"]) fun _ _ _ _ _ _ us hl => match us, hl with | [_, _], _ => rfl
  obtain ⟨fd14, F140⟩ := D.def_ 14 (d := D14) rfl
  have F14 : Fun K "_law_draw" "_law_draw" s__law_draw (He.fAd K ("_law_draw", none)) fd14 := fun_of (st := s__law_draw) F140
  have bn14 := F14.binds (ps := ["_law_pen_here", "_law_many_here"]) fun _ _ _ _ _ _ us hl => match us, hl with | [_, _], _ => rfl
  obtain ⟨fd15, F150⟩ := D.def_ 15 (d := D15) rfl
  have F15 : Fun K "_law_pick" "_law_pick" s__law_pick (He.fAd K ("_law_pick", none)) fd15 := fun_of (st := s__law_pick) F150
  have bn15 := F15.binds (ps := ["_law_pen_here", "_law_some"]) fun _ _ _ _ _ _ us hl => match us, hl with | [_, _], _ => rfl
  obtain ⟨fd16, F160⟩ := D.def_ 16 (d := D16) rfl
  have F16 : Fun K "_law_arities" "_law_arities" s__law_arities (He.fAd K ("_law_arities", none)) fd16 := fun_of (st := s__law_arities) F160
  have bn16 := F16.binds (ps := ["_law_pen_here"]) fun _ _ _ _ _ _ us hl => match us, hl with | [_], _ => rfl
  obtain ⟨fd17, F170⟩ := D.def_ 17 (d := D17) rfl
  have F17 : Fun K "built" "built" s_built (He.fAd K ("built", none)) fd17 := fun_of (st := s_built) F170
  have bn17 := F17.binds (ps := ["arities", "operators"]) fun _ _ _ _ _ _ us hl => match us, hl with | [_, _], _ => rfl
  obtain ⟨fd18, F180⟩ := D.def_ 18 (d := D18) rfl
  have F18 : Fun K "unspelled" "unspelled" s_unspelled (He.fAd K ("unspelled", none)) fd18 := fun_of (st := s_unspelled) F180
  have bn18 := F18.binds (ps := ["arities", "operators"]) fun _ _ _ _ _ _ us hl => match us, hl with | [_, _], _ => rfl
  obtain ⟨fd19, F190⟩ := D.def_ 19 (d := D19) rfl
  have F19 : Fun K "_law_rows" "_law_rows" s__law_rows (He.fAd K ("_law_rows", none)) fd19 := fun_of (st := s__law_rows) F190
  have bn19 := F19.binds (ps := ["_law_pen_here", "_law_arities_here", "_law_row"]) fun _ _ _ _ _ _ us hl => match us, hl with | [_, _, _], _ => rfl
  obtain ⟨fd20, F200⟩ := D.def_ 20 (d := D20) rfl
  have F20 : Fun K "_law_many" "_law_many" s__law_many (He.fAd K ("_law_many", none)) fd20 := fun_of (st := s__law_many) F200
  have bn20 := F20.binds (ps := ["_law_written_here"]) fun _ _ _ _ _ _ us hl => match us, hl with | [_], _ => rfl
  obtain ⟨fd21, F210⟩ := D.def_ 21 (d := D21) rfl
  have F21 : Fun K "_law_spell" "_law_spell" s__law_spell (He.fAd K ("_law_spell", none)) fd21 := fun_of (st := s__law_spell) F210
  have bn21 := F21.binds (ps := ["_law_written_here", "_law_at"]) fun _ _ _ _ _ _ us hl => match us, hl with | [_, _], _ => rfl
  obtain ⟨fd22, F220⟩ := D.def_ 22 (d := D22) rfl
  have F22 : Fun K "_law_unspell" "_law_unspell" s__law_unspell (He.fAd K ("_law_unspell", none)) fd22 := fun_of (st := s__law_unspell) F220
  have bn22 := F22.binds (ps := ["_law_arities_here", "_law_row"]) fun _ _ _ _ _ _ us hl => match us, hl with | [_, _], _ => rfl
  obtain ⟨fd23, F230⟩ := D.def_ 23 (d := D23) rfl
  have F23 : Fun K "_law_row_right" "_law_row_right" s__law_row_right (He.fAd K ("_law_row_right", none)) fd23 := fun_of (st := s__law_row_right) F230
  have bn23 := F23.binds (ps := ["_law_arities_here", "_law_row"]) fun _ _ _ _ _ _ us hl => match us, hl with | [_, _], _ => rfl
  obtain ⟨fd24, F240⟩ := D.def_ 24 (d := D24) rfl
  have F24 : Fun K "_law_tree_right" "_law_tree_right" s__law_tree_right (He.fAd K ("_law_tree_right", none)) fd24 := fun_of (st := s__law_tree_right) F240
  have bn24 := F24.binds (ps := ["_law_pen_here", "_law_arities_here", "_law_written_here"]) fun _ _ _ _ _ _ us hl => match us, hl with | [_, _, _], _ => rfl
  obtain ⟨fd25, F250⟩ := D.def_ 25 (d := D25) rfl
  have F25 : Fun K "_law_written" "_law_written" s__law_written (He.fAd K ("_law_written", none)) fd25 := fun_of (st := s__law_written) F250
  have bn25 := F25.binds (ps := ["_law_pen_here", "_law_arities_here", "_law_upto"]) fun _ _ _ _ _ _ us hl => match us, hl with | [_, _, _], _ => rfl
  obtain ⟨fd26, F260⟩ := D.def_ 26 (d := D26) rfl
  have F26 : Fun K "law" "law" s_law (He.fAd K ("law", none)) fd26 := fun_of (st := s_law) F260
  have bn26 := F26.binds (ps := ["_law_script"]) fun _ _ _ _ _ _ us hl => match us, hl with | [_], _ => rfl
  have e := hfa.symm.trans m26
  cases e
  have C__law_pen : CallOk PySem.Challenge.rw_codepick_k05_spelled_there_and_back.prog w K mg (TT K TF) 1 "_law_pen" ["_law_cell_here"] M__law_pen_2 := ok__law_pen (k := 0) F0 m0 bn0 z_max
  have C_is_between : CallOk PySem.Challenge.rw_codepick_k05_spelled_there_and_back.prog w K mg (TT K TF) 1 "is_between" ["thing", "low", "high"] M_is_between := ok_is_between (k := 0) F3 m3 bn3 z_bool z_int z_isinstance
  have C_is_arities : CallOk PySem.Challenge.rw_codepick_k05_spelled_there_and_back.prog w K mg (TT K TF) 2 "is_arities" ["thing"] M_is_arities := ok_is_arities (k := 1) F4 m4 bn4 (C_is_between.mono (by decide)) z_all z_isinstance z_len z_tuple g_MOST_ARITY g_MOST_OPERATORS
  have C_need_arities : CallOk PySem.Challenge.rw_codepick_k05_spelled_there_and_back.prog w K mg (TT K TF) 3 "need_arities" ["thing"] M_need_arities_2 := ok_need_arities (k := 2) F5 m5 bn5 (C_is_arities.mono (by decide)) XS TM
  have C_is_node : CallOk PySem.Challenge.rw_codepick_k05_spelled_there_and_back.prog w K mg (TT K TF) 2 "is_node" ["arities", "thing", "before"] M_is_node := ok_is_node (k := 1) F6 m6 bn6 (C_is_between.mono (by decide)) z_all z_isinstance z_len z_tuple
  have C_is_written : CallOk PySem.Challenge.rw_codepick_k05_spelled_there_and_back.prog w K mg (TT K TF) 3 "is_written" ["arities", "thing"] M_is_written := ok_is_written (k := 2) F7 m7 bn7 (C_is_node.mono (by decide)) z_all z_enumerate z_isinstance z_tuple
  have C_need_tree : CallOk PySem.Challenge.rw_codepick_k05_spelled_there_and_back.prog w K mg (TT K TF) 4 "need_tree" ["arities", "thing"] M_need_tree_2 := ok_need_tree (k := 3) F8 m8 bn8 (C_is_written.mono (by decide)) XS TM
  have C_need_both : CallOk PySem.Challenge.rw_codepick_k05_spelled_there_and_back.prog w K mg (TT K TF) 5 "need_both" ["arities", "tree"] M_need_both_2 := ok_need_both (k := 4) F9 m9 bn9 (C_need_arities.mono (by decide)) (C_need_tree.mono (by decide))
  have C_spelled_of : CallOk PySem.Challenge.rw_codepick_k05_spelled_there_and_back.prog w K mg (TT K TF) 1 "spelled_of" ["tree"] M_spelled_of := ok_spelled_of (k := 0) F10 m10 bn10 z_len z_list z_tuple
  have C_amounts : CallOk PySem.Challenge.rw_codepick_k05_spelled_there_and_back.prog w K mg (TT K TF) 1 "amounts" ["tree"] M_amounts := ok_amounts (k := 0) F11 m11 bn11 z_sum
  have C_spelled : CallOk PySem.Challenge.rw_codepick_k05_spelled_there_and_back.prog w K mg (TT K TF) 6 "spelled" ["arities", "tree"] M_spelled_3 := ok_spelled (k := 5) F12 m12 bn12 (C_amounts.mono (by decide)) (C_need_both.mono (by decide)) (C_spelled_of.mono (by decide)) g_MOST_SPELLED XS TM (by decide)
  have C__law_cell : CallOk PySem.Challenge.rw_codepick_k05_spelled_there_and_back.prog w K mg (TT K TF) 1 "_law_cell" ["_law_script", "_law_k"] M__law_cell := ok__law_cell (k := 0) F13 m13 bn13 z_len
  have C__law_draw : CallOk PySem.Challenge.rw_codepick_k05_spelled_there_and_back.prog w K mg (TT K TF) 1 "_law_draw" ["_law_pen_here", "_law_many_here"] M__law_draw_2 := ok__law_draw (k := 0) F14 m14 bn14 
  have C__law_pick : CallOk PySem.Challenge.rw_codepick_k05_spelled_there_and_back.prog w K mg (TT K TF) 2 "_law_pick" ["_law_pen_here", "_law_some"] M__law_pick_2 := ok__law_pick (k := 1) F15 m15 bn15 (C__law_draw.mono (by decide)) z_len
  have C__law_arities : CallOk PySem.Challenge.rw_codepick_k05_spelled_there_and_back.prog w K mg (TT K TF) 3 "_law_arities" ["_law_pen_here"] M__law_arities_2 := ok__law_arities (k := 2) F16 m16 bn16 (C__law_draw.mono (by decide)) (C__law_pick.mono (by decide)) z_range z_tuple
  have C_built : CallOk PySem.Challenge.rw_codepick_k05_spelled_there_and_back.prog w K mg (TT K TF) 1 "built" ["arities", "operators"] M_built := ok_built (k := 0) F17 m17 bn17 z_enumerate z_len z_tuple
  have C_unspelled : CallOk PySem.Challenge.rw_codepick_k05_spelled_there_and_back.prog w K mg (TT K TF) 4 "unspelled" ["arities", "operators"] M_unspelled_2 := ok_unspelled (k := 3) F18 m18 bn18 (C_built.mono (by decide)) (C_is_between.mono (by decide)) (C_need_arities.mono (by decide)) z_all z_isinstance z_len z_tuple g_MOST_SPELLED XS TM
  have C__law_rows : CallOk PySem.Challenge.rw_codepick_k05_spelled_there_and_back.prog w K mg (TT K TF) 2 "_law_rows" ["_law_pen_here", "_law_arities_here", "_law_row"] M__law_rows := ok__law_rows (k := 1) F19 m19 bn19 (C__law_draw.mono (by decide)) z_len
  have C__law_many : CallOk PySem.Challenge.rw_codepick_k05_spelled_there_and_back.prog w K mg (TT K TF) 1 "_law_many" ["_law_written_here"] M__law_many_2 := ok__law_many (k := 0) F20 m20 bn20 z_sum
  have C__law_spell : CallOk PySem.Challenge.rw_codepick_k05_spelled_there_and_back.prog w K mg (TT K TF) 20 "_law_spell" ["_law_written_here", "_law_at"] (M__law_spell 20) := ok__law_spell (k := 0) F21 m21 bn21  20
  have C__law_unspell : CallOk PySem.Challenge.rw_codepick_k05_spelled_there_and_back.prog w K mg (TT K TF) 1 "_law_unspell" ["_law_arities_here", "_law_row"] M__law_unspell := ok__law_unspell (k := 0) F22 m22 bn22 z_len z_range z_tuple
  have C__law_written : CallOk PySem.Challenge.rw_codepick_k05_spelled_there_and_back.prog w K mg (TT K TF) 3 "_law_written" ["_law_pen_here", "_law_arities_here", "_law_upto"] M__law_written := ok__law_written (k := 2) F25 m25 bn25 (C__law_draw.mono (by decide)) (C__law_pick.mono (by decide)) z_enumerate z_len z_max z_range z_tuple
  have bA := FunD.bindsA (ps := ["_law_script"]) F260 fun _ _ _ _ _ _ us hl => match us, hl with | [_], _ => rfl
  refine lawAt_of (x := "_law_script") X S (fun s v => bA s [v] rfl) lt fun base TB => ?_
  have C__law_row_right : CallB PySem.Challenge.rw_codepick_k05_spelled_there_and_back.prog w K mg base (TT K TF) 9 "_law_row_right" ["_law_arities_here", "_law_row"] M__law_row_right := ok__law_row_right (k := 6) F23 m23 bn23 (C__law_unspell.mono (by decide)) (C_spelled.mono (by decide)) (C_unspelled.mono (by decide)) z_ValueError z_isinstance z_repr XS TM F2 m2 bn2 F1 m1 bn1 (TB ("_law_row_right", none) (by decide +kernel)) (code_of F23) (hm_of (x := ("_law_row_right", none)) (by decide +kernel)) (hu_of nd (x := ("_law_row_right", none)) (by decide +kernel))
  have C__law_tree_right : CallB PySem.Challenge.rw_codepick_k05_spelled_there_and_back.prog w K mg base (TT K TF) 23 "_law_tree_right" ["_law_pen_here", "_law_arities_here", "_law_written_here"] M__law_tree_right_2 := ok__law_tree_right (k := 20) F24 m24 bn24 (C__law_many.mono (by decide)) (C__law_row_right.mono (by decide)) (C__law_rows.mono (by decide)) (C__law_spell.mono (by decide)) (C_spelled.mono (by decide)) z_ValueError z_isinstance z_len z_repr z_tuple XS TM F2 m2 bn2 F1 m1 bn1 (TB ("_law_tree_right", none) (by decide +kernel)) (code_of F24) (hm_of (x := ("_law_tree_right", none)) (by decide +kernel)) (hu_of nd (x := ("_law_tree_right", none)) (by decide +kernel))
  exact fn_law (k := 23) F26 (C__law_arities.mono (by decide)) (C__law_cell.mono (by decide)) (C__law_pen.mono (by decide)) (C__law_tree_right.mono (by decide)) (C__law_written.mono (by decide)) (C_spelled.mono (by decide)) (C_unspelled.mono (by decide)) z_ValueError z_isinstance z_len z_max z_min z_range z_repr z_tuple XS TM F2 m2 bn2 F1 m1 bn1 (TB ("law", none) (by decide +kernel)) (code_of F26) (hm_of (x := ("law", none)) (by decide +kernel)) (hu_of nd (x := ("law", none)) (by decide +kernel))
def LO0 : List Str := ["__name__", "PickError", "NoMachine", "NoArities", "NoTree", "Unspelled", "NoOperator", "NoPrices", "NoStates", "NoForm", "NoCover", "NoNumber", "NoNumbers", "NoPrice", "ManyForms", "Endless", "OtherArities", "NoContext", "NoNodes", "NoArguments", "NothingRead", "NothingDone", "NoPlace", "NoText", "BadLine", "TooMany", "MOST_OPERATORS", "MOST_ARITY", "is_between", "is_arities"]
def LO1 : List Str := ["need_arities", "MOST_SPELLED", "is_node", "is_written", "need_tree", "need_both", "amounts", "spelled_of", "spelled", "built", "unspelled", "_law_cell", "_law_pen", "_law_draw", "_law_pick", "_law_arities", "_law_written", "_law_kind", "_law_said", "_law_many", "_law_spell", "_law_unspell", "_law_row_right", "_law_rows", "_law_tree_right"]
def LO : List Str := LO0 ++ LO1
abbrev R : PySem.W.OpenRow := PySem.W.OpenLaw.row PySem.Challenge.rw_codepick_k05_spelled_there_and_back
abbrev hk : PySem.W.Hook := Dy.hookY 6 FA FN [] TF EX "TooMany" tv
def ob (s : PySem.W.SharedT) : Dy.AlY := Dy.obsY 6 FA FN [] TF EX "TooMany" (HandSHeadRun.getT s)
theorem ob_eq (s : PySem.W.SharedT) : ob s = hk.obs s.abs := Dy.obsY_eq (HandSHeadRun.getT_eq s)
theorem run (w : World) : HandSHeadRun.RunEq R (PySem.W.view R.prog [58]) hk ob 8000 LO w := by
  intro os
  kernel_rfl
end W05
open PySem PySem.W PySem.Calls PyProof.Rows
set_option maxHeartbeats 0 in
theorem PySem.Challenge.cw_codepick_k05_spelled_there_and_back_holds : PySem.Challenge.rw_codepick_k05_spelled_there_and_back.Holds := by
  w_on; o_law
  refine HandSHeadRun.head_any (r := OpenLaw.row PySem.Challenge.rw_codepick_k05_spelled_there_and_back) (q := view (OpenLaw.row PySem.Challenge.rw_codepick_k05_spelled_there_and_back).prog [58]) (H := W05.hk) (ob := W05.ob) (M := 8000) (loose := W05.LO) (d := HandSHeadRun.topDef (OpenLaw.row PySem.Challenge.rw_codepick_k05_spelled_there_and_back).prog 58) (kwd := []) W05.ob_eq
    (by kernel_rfl) (fun s => by kernel_rfl) W05.run (by kernel_rfl) (by kernel_rfl) (by kernel_rfl) (by rfl) (by first | assumption | decide +kernel) (by decide +kernel) ⟨rfl, rfl, rfl, rfl, rfl, by decide +kernel⟩ ?hw ?hc
  case hw => w_witness2
  case hc =>
    refine Dy.walkT (l := PySem.Challenge.rw_codepick_k05_spelled_there_and_back) (n := 63) (k := 26) (x := "_law_script") rfl (by decide) (by kernel_rfl) ⟨rfl, by decide, by decide⟩ ?F
    intro w mg fa h Y G hmg0
    obtain ⟨K, KX, c⟩ := Y
    have hmg : mg ("law" : PySem.Str) = some (.ref fa) := by
      have e : (HandSHeadRun.topDef (OpenLaw.row PySem.Challenge.rw_codepick_k05_spelled_there_and_back).prog 58).name = ("law" : PySem.Str) := by kernel_rfl
      rw [← e]
      exact hmg0
    exact ⟨K, KX, W05.law_at KX G hmg c Q.law_true_05⟩
