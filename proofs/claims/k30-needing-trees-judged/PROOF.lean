import PyProof.Rows.All
import Wide.All
import OpenK.AllK
import Wide.FinOn
import HandS.ForMost
import HandS.Star
import HandS.IsInst
import HandS.TupAny
import HandS.TupMul
import HandS.Wide
import HandS.Zip
import HandS.Style
import HandS.Flow
import HandS.Deep
import HandS.NoneIn
import HandS.More
import KE.KDictKeyed
import PyProof.ReprRoads
import HandS.Lambda
import HandS.ForExc
import HandS.EndBits
import KE.GoesEnum
import HandS.RevRange
import HandS.TupLen
import HandS.SetKeys
import HandS.FStrTup
import HandS.RaiseMore
import PyProof.ListMulRoad
import PyProof.FactsAll.tuple_2
import PyProof.Rows.IntBool
import PyProof.CallStr
import HandS.Exc
import HandS.ExcOwn
import HandS.ExcIs
import HandS.HeadHook1
import HandS.WordsExc
import HandS.HotCalls
import HandS.EndTab
import HandS.HeadWalk
import HandS.HeadHook4
import HandS.Head2
import HandS.HeadEnd
import HandS.Iter
import HandS.Conv
import PyProof.P3Eq
import PyProof.StrLawsRepr
import PySem.Challenge.RW_codepick_k30_needing_trees_judged
set_option Elab.async false
set_option linter.all false
set_option maxRecDepth 100000
set_option maxHeartbeats 4000000
namespace Dy
open PySem PySem.Spec PyProof.Rows L2
abbrev St := L2.St
structure Exn where
  cls : Str
  args : List PyData
inductive Res (α : Type) where
  | ok (a : α)
  | er (x : Exn)
  | no
def Res.bind {α β : Type} : Res α → (α → Res β) → Res β
  | .ok a, f => f a
  | .er x, _ => .er x
  | .no, _ => .no
instance : Monad Res where
  pure := .ok
  bind := Res.bind
def Res.post {α : Type} (P : α → Prop) (E : Exn → Prop) : Res α → Prop
  | .ok a => P a
  | .er x => E x
  | .no => False
@[simp] theorem bind_ok {α β : Type} (a : α) (f : α → Res β) : (Res.ok a >>= f) = f a := rfl
@[simp] theorem bind_er {α β : Type} (x : Exn) (f : α → Res β) : ((Res.er x : Res α) >>= f) = .er x := rfl
@[simp] theorem bind_no {α β : Type} (f : α → Res β) : ((Res.no : Res α) >>= f) = .no := rfl
@[simp] theorem pure_ok {α : Type} (a : α) : (pure a : Res α) = .ok a := rfl
def ofO {α : Type} : Option α → Res α
  | some a => .ok a
  | none => .no
inductive O where
  | fr (d : PyData)
  | ol (ds : List PyData)
  | oo (rs : List (List PyData))
  | od (es : List (PyData × PyData))
def O.data : O → PyData
  | .fr d => d
  | .ol ds => .list ds
  | .oo rs => .list (rs.map PyData.list)
  | .od es => .dict es
abbrev Env := List (Option O)
def kD : Key → PyData
  | .inl i => .int i
  | .inr x => .str x
mutual
/-- what may be a key of a dict of tuples: None, whole numbers, tuples of such -/
def keyOf : PyData → Option NestedKey
  | .none => some .none
  | .int i => some (.num i)
  | .tuple xs => (keysOf xs).map .tup
  | .bool _ | .str _ | .list _ | .dict _ => none
def keysOf : List PyData → Option (List NestedKey)
  | [] => some []
  | x :: xs => (keyOf x).bind fun k => (keysOf xs).map fun ks => k :: ks
end
/-- the pairs of a dict of tuples: the key, its value, the value there -/
abbrev TP := NestedKey × V × V
abbrev YP := NestedKey × Addr × Value
def PY : TP → YP → Prop := fun p q => p.1 = q.1 ∧ p.2.1 = V.ref q.2.1 ∧ RelV p.2.2 q.2.2
def isDN (h : Heap) (a : Addr) (ys : List YP) : Prop := ∃ o es ep, h.get? a = some o ∧ o.ExactDict ∧ o.data = .dict es ep ∧ (∀ w : World, es.toList = ys.map fun y => ⟨y.1.hash w, .ref y.2.1, y.2.2⟩) ∧ (ys.map (·.1)).Nodup
/-- a dict whose keys are tuples -/
def dN (a : Addr) (ts : List TP) : HO := .ext fun h => (a == sysModules) = false ∧ ts.length ≤ sizeLine ∧ ∃ ys : List YP, Paired PY ts ys ∧ isDN h a ys
/-- a list to be read, its object known in full -/
def LsL (K : PySem.W.Frag) (I : Hp) (a : Addr) (xs : List V) : Prop := Rd I a (.lst xs) ∨ ∃ (its : List Value) (n : Nat), K.lookup a = some { cls := .type "list", data := .seq its.toArray n } ∧ its.length ≤ sizeLine ∧ Vals xs its
theorem LsL.of {K : PySem.W.Frag} {I : Hp} {a : Addr} {xs : List V} (h : I a = some (.lst xs)) : LsL K I a xs := .inl (.inl h)
theorem LsL.sq {K : PySem.W.Frag} {I : Hp} {a : Addr} {xs : List V} (h : LsL K I a xs) : SqL K I a xs := by
  rcases h with h | ⟨its, n, h1, h2, h3⟩
  · exact .inl h
  · exact .inr ⟨_, its.toArray, n, h1, rfl, rfl, rfl, by simpa using h2, by simpa using h3⟩
theorem LsL.obj {X : Cx} {pins : List (Addr × Obj)} {σ : St} {H : Hp} {s : Shared} {a : Addr} {xs : List V} (J : Inv X pins σ H s) (h : LsL X.K H a xs) : xs.length ≤ sizeLine ∧ ∃ (its : List Value) (n : Nat), Vals xs its ∧ xs.length = its.length ∧ s.heap.get? a = some { cls := .type "list", data := .seq its.toArray n } := by
  rcases h with h | ⟨its, n, h1, h2, h3⟩
  · obtain ⟨z, its, n, r, e⟩ := h.ok J.hok
    exact ⟨z, its, n, r, r.length, e⟩
  · exact ⟨by rw [h3.length]; exact h2, its, n, h3, h3.length, J.kIn a _ h1⟩
mutual
inductive Rp (K : PySem.W.Frag) (I : Hp) : V → PyData → Prop
  | non : Rp K I .non .none
  | bl (b : Bool) : Rp K I (.bl b) (.bool b)
  | int (i : Int) : Rp K I (.int i) (.int i)
  | str (x : Str) : Rp K I (.str x) (.str x)
  | lst {a : Addr} {xs : List V} {ds : List PyData} : LsL K I a xs → RpAll K I xs ds → Rp K I (.ref a) (.list ds)
  | tup {a : Addr} {xs : List V} {ds : List PyData} : SqT K I a xs → RpAll K I xs ds → Rp K I (.ref a) (.tuple ds)
  | dic {a : Addr} {kvs : List (Key × V)} {es : List (PyData × PyData)} : I a = some (.dK kvs) → RpKv K I kvs es → Rp K I (.ref a) (.dict es)
  | dit {a : Addr} {ts : List TP} {es : List (PyData × PyData)} : I a = some (dN a ts) → RpKt K I ts es → Rp K I (.ref a) (.dict es)
inductive RpAll (K : PySem.W.Frag) (I : Hp) : List V → List PyData → Prop
  | nil : RpAll K I [] []
  | cons {v : V} {vs : List V} {d : PyData} {ds : List PyData} : Rp K I v d → RpAll K I vs ds → RpAll K I (v :: vs) (d :: ds)
inductive RpKv (K : PySem.W.Frag) (I : Hp) : List (Key × V) → List (PyData × PyData) → Prop
  | nil : RpKv K I [] []
  | cons {k : Key} {v : V} {kvs : List (Key × V)} {d : PyData} {es : List (PyData × PyData)} : Rp K I v d → RpKv K I kvs es → RpKv K I ((k, v) :: kvs) ((kD k, d) :: es)
inductive RpKt (K : PySem.W.Frag) (I : Hp) : List TP → List (PyData × PyData) → Prop
  | nil : RpKt K I [] []
  | cons {k : NestedKey} {kv v : V} {ts : List TP} {kd d : PyData} {es : List (PyData × PyData)} : keyOf kd = some k → k.depth ≤ 8 → Rp K I kv kd → Rp K I v d → RpKt K I ts es → RpKt K I ((k, kv, v) :: ts) ((kd, d) :: es)
end
section
variable {K : PySem.W.Frag} {I I' H H' : Hp}
theorem same_rd {a : Addr} {u : HO} (e : Same I I') (h : Rd I a u) : Rd I' a u := by
  rcases h with h | ⟨o, h⟩
  · exact .inl (e _ _ h)
  · exact .inr ⟨o, e _ _ h⟩
theorem same_t {a : Addr} {xs : List V} (e : Same I I') (h : SqT K I a xs) : SqT K I' a xs := by
  rcases h with h | h
  · exact .inl (same_rd e h)
  · exact .inr h
theorem LsL.mono {a : Addr} {xs : List V} (e : Same I I') (h : LsL K I a xs) : LsL K I' a xs := by
  rcases h with h | h
  · exact .inl (same_rd e h)
  · exact .inr h
mutual
theorem Rp.mono (e : Same I I') : ∀ {v : V} {d : PyData}, Rp K I v d → Rp K I' v d
  | _, _, .non => .non
  | _, _, .bl b => .bl b
  | _, _, .int i => .int i
  | _, _, .str x => .str x
  | _, _, .lst s a => .lst (LsL.mono e s) (RpAll.mono e a)
  | _, _, .tup s a => .tup (same_t e s) (RpAll.mono e a)
  | _, _, .dic s a => .dic (e _ _ s) (RpKv.mono e a)
  | _, _, .dit s a => .dit (e _ _ s) (RpKt.mono e a)
theorem RpAll.mono (e : Same I I') : ∀ {vs : List V} {ds : List PyData}, RpAll K I vs ds → RpAll K I' vs ds
  | _, _, .nil => .nil
  | _, _, .cons h t => .cons (Rp.mono e h) (RpAll.mono e t)
theorem RpKv.mono (e : Same I I') : ∀ {vs : List (Key × V)} {ds : List (PyData × PyData)}, RpKv K I vs ds → RpKv K I' vs ds
  | _, _, .nil => .nil
  | _, _, .cons h t => .cons (Rp.mono e h) (RpKv.mono e t)
theorem RpKt.mono (e : Same I I') : ∀ {vs : List TP} {ds : List (PyData × PyData)}, RpKt K I vs ds → RpKt K I' vs ds
  | _, _, .nil => .nil
  | _, _, .cons h1 h2 h3 h4 t => .cons h1 h2 (Rp.mono e h3) (Rp.mono e h4) (RpKt.mono e t)
end
theorem RpAll.length : ∀ {vs : List V} {ds : List PyData}, RpAll K I vs ds → vs.length = ds.length
  | _, _, .nil => rfl
  | _, _, .cons _ t => by simp [t.length]
theorem RpAll.get : ∀ {vs : List V} {ds : List PyData} {i : Nat} {d : PyData}, RpAll K I vs ds → ds[i]? = some d → ∃ v, vs[i]? = some v ∧ Rp K I v d
  | _, _, _, _, .nil, e => by simp at e
  | _, _, 0, _, .cons h _, e => by simp at e; subst e; exact ⟨_, rfl, h⟩
  | _, _, i + 1, d, .cons _ t, e => by
    obtain ⟨v, h1, h2⟩ := RpAll.get (i := i) (d := d) t (by simpa using e)
    exact ⟨v, by simpa using h1, h2⟩
theorem RpAll.app : ∀ {vs ws : List V} {ds es : List PyData}, RpAll K I vs ds → RpAll K I ws es → RpAll K I (vs ++ ws) (ds ++ es)
  | _, _, _, _, .nil, s => s
  | _, _, _, _, .cons h t, s => .cons h (t.app s)
theorem RpAll.takes : ∀ {vs : List V} {ds : List PyData} (n : Nat), RpAll K I vs ds → RpAll K I (vs.take n) (ds.take n)
  | _, _, 0, _ => .nil
  | _, _, _ + 1, .nil => .nil
  | _, _, n + 1, .cons h t => .cons h (t.takes n)
theorem RpAll.drops : ∀ {vs : List V} {ds : List PyData} (n : Nat), RpAll K I vs ds → RpAll K I (vs.drop n) (ds.drop n)
  | _, _, 0, h => h
  | _, _, _ + 1, .nil => .nil
  | _, _, n + 1, .cons _ t => t.drops n
theorem RpAll.rev : ∀ {vs : List V} {ds : List PyData}, RpAll K I vs ds → RpAll K I vs.reverse ds.reverse
  | _, _, .nil => .nil
  | _, _, .cons h t => by
    rw [List.reverse_cons, List.reverse_cons]
    exact t.rev.app (.cons h .nil)
theorem RpAll.sets : ∀ {vs : List V} {ds : List PyData} {v : V} {d : PyData} (i : Nat), RpAll K I vs ds → Rp K I v d → RpAll K I (vs.set i v) (ds.set i d)
  | _, _, _, _, _, .nil, _ => .nil
  | _, _, _, _, 0, .cons _ t, h => .cons h t
  | _, _, _, _, i + 1, .cons h0 t, h => .cons h0 (t.sets i h)
end
/-- no table of code objects -/
def NT (o : HO) : Prop := ∀ ps, o ≠ .tbl ps
theorem NT.lst {xs : List V} : NT (.lst xs) := fun _ h => by cases h
theorem NT.dK {xs : List (Key × V)} : NT (.dK xs) := fun _ h => by cases h
theorem NT.ext {φ : Heap → Prop} : NT (.ext φ) := fun _ h => by cases h
/-- the tables: what they tell are frozen code objects -/
def TabI (T : List (Addr × Str)) (I H : Hp) : Prop := ∀ p ∈ T, ∃ ps : Array Value, H p.1 = some (.tbl ps) ∧ I p.1 = none ∧ TriplesOk ps.toList ∧ ∀ (pos : Pos) (cv : Value), codeAmong pos ps.toList = some cv → ∃ c, cv = .ref c ∧ I c = some (LamX.CodeO c p.2)
theorem kt_upd {H : Hp} {a : Addr} {u o : HO} (h : H a = some u) (n : NT u) : ∀ b ps, H b = some (.tbl ps) → upd H a o b = some (.tbl ps) := fun b ps e => by
  rw [upd_ne (fun z => by subst z; rw [h] at e; cases e; exact n _ rfl)]; exact e
theorem kt_new {H : Hp} {a : Addr} {o : HO} (h : H a = none) : ∀ b ps, H b = some (.tbl ps) → upd H a o b = some (.tbl ps) := fun b ps e => by
  rw [upd_ne (fun z => by subst z; rw [h] at e; cases e)]; exact e
theorem TabI.mono {T : List (Addr × Str)} {I H I' H' : Hp} (t : TabI T I H) (e : Same I I') (k : ∀ a ps, H a = some (.tbl ps) → H' a = some (.tbl ps)) (ni : ∀ a ps, H a = some (.tbl ps) → I a = none → I' a = none) : TabI T I' H' := fun p hp => by
  obtain ⟨ps, h1, h0, h2, h3⟩ := t p hp
  refine ⟨ps, k _ _ h1, ni _ _ h1 h0, h2, fun pos cv hc => ?_⟩
  obtain ⟨c, e1, e2⟩ := h3 pos cv hc
  exact ⟨c, e1, e _ _ e2⟩
section
variable {K : PySem.W.Frag} {I I' H H' : Hp}
/-- the rows of an owned list of owned lists -/
inductive Rows (K : PySem.W.Frag) (I H : Hp) : List Addr → List (List PyData) → Prop
  | nil : Rows K I H [] []
  | cons {a : Addr} {as : List Addr} {us : List V} {r : List PyData} {rs : List (List PyData)} : H a = some (.lst us) → RpAll K I us r → Rows K I H as rs → Rows K I H (a :: as) (r :: rs)
def RepO (K : PySem.W.Frag) (I H : Hp) : O → V → List Addr → Prop
  | .fr d, v, F => F = [] ∧ Rp K I v d
  | .ol ds, v, F => ∃ a vs, v = .ref a ∧ F = [a] ∧ H a = some (.lst vs) ∧ RpAll K I vs ds
  | .oo rs, v, F => ∃ a as, v = .ref a ∧ F = a :: as ∧ (a :: as).Nodup ∧ H a = some (.lst (as.map V.ref)) ∧ Rows K I H as rs
  | .od es, v, F => ∃ a, v = .ref a ∧ F = [a] ∧ ((∃ kvs, H a = some (.dK kvs) ∧ RpKv K I kvs es) ∨ ∃ ts, H a = some (dN a ts) ∧ RpKt K I ts es)
theorem Rows.mono {as : List Addr} {rs : List (List PyData)} (e : Same I I') (h : Rows K I H as rs) (k : ∀ a ∈ as, H' a = H a) : Rows K I' H' as rs := by
  induction h with
  | nil => exact .nil
  | cons h1 h2 _ ih => exact .cons (by rw [k _ (by simp)]; exact h1) (h2.mono e) (ih fun a ha => k a (by simp [ha]))
theorem Rows.domN {as : List Addr} {rs : List (List PyData)} (h : Rows K I H as rs) : ∀ a ∈ as, ∃ o, H a = some o ∧ NT o := by
  induction h with
  | nil => intro a ha; cases ha
  | cons h1 _ _ ih =>
    intro a ha
    rcases List.mem_cons.mp ha with rfl | ha
    · exact ⟨_, h1, NT.lst⟩
    · exact ih a ha
theorem Rows.frz {as : List Addr} {rs : List (List PyData)} (e : Same I I') (h : Rows K I H as rs) (k : ∀ a ∈ as, I' a = H a) : RpAll K I' (as.map V.ref) (rs.map PyData.list) := by
  induction h with
  | nil => exact .nil
  | cons h1 h2 _ ih => exact .cons (.lst (LsL.of (by rw [k _ (by simp)]; exact h1)) (h2.mono e)) (ih fun a ha => k a (by simp [ha]))
theorem RepO.mono {o : O} {v : V} {F : List Addr} (h : RepO K I H o v F) (e : Same I I') (k : ∀ a ∈ F, H' a = H a) : RepO K I' H' o v F := by
  cases o with
  | fr d => exact ⟨h.1, h.2.mono e⟩
  | ol ds =>
    obtain ⟨a, vs, rfl, rfl, h1, h2⟩ := h
    exact ⟨a, vs, rfl, rfl, by rw [k a (by simp)]; exact h1, h2.mono e⟩
  | oo rs =>
    obtain ⟨a, as, rfl, rfl, nd, h1, h2⟩ := h
    exact ⟨a, as, rfl, rfl, nd, by rw [k a (by simp)]; exact h1, h2.mono e fun b hb => k b (by simp [hb])⟩
  | od es =>
    obtain ⟨a, rfl, rfl, h⟩ := h
    refine ⟨a, rfl, rfl, ?_⟩
    rw [k a (by simp)]
    rcases h with ⟨kvs, h1, h2⟩ | ⟨ts, h1, h2⟩
    · exact .inl ⟨kvs, h1, h2.mono e⟩
    · exact .inr ⟨ts, h1, h2.mono e⟩
theorem RepO.domN {o : O} {v : V} {F : List Addr} (h : RepO K I H o v F) : ∀ a ∈ F, ∃ u, H a = some u ∧ NT u := by
  cases o with
  | fr d => intro a ha; rw [h.1] at ha; cases ha
  | ol ds =>
    obtain ⟨a, vs, rfl, rfl, h1, h2⟩ := h
    intro b hb
    simp at hb; subst hb
    exact ⟨_, h1, NT.lst⟩
  | oo rs =>
    obtain ⟨a, as, rfl, rfl, nd, h1, h2⟩ := h
    intro b hb
    rcases List.mem_cons.mp hb with rfl | hb
    · exact ⟨_, h1, NT.lst⟩
    · exact h2.domN b hb
  | od es =>
    obtain ⟨a, rfl, rfl, h⟩ := h
    intro b hb
    simp at hb; subst hb
    rcases h with ⟨kvs, h1, h2⟩ | ⟨ts, h1, h2⟩
    · exact ⟨_, h1, NT.dK⟩
    · exact ⟨_, h1, NT.ext⟩
theorem Rows.dom {as : List Addr} {rs : List (List PyData)} (h : Rows K I H as rs) : ∀ a ∈ as, ∃ o, H a = some o := fun a ha => let ⟨o, e, _⟩ := h.domN a ha; ⟨o, e⟩
theorem RepO.dom {o : O} {v : V} {F : List Addr} (h : RepO K I H o v F) : ∀ a ∈ F, ∃ u, H a = some u := fun a ha => let ⟨o, e, _⟩ := h.domN a ha; ⟨o, e⟩
/-- the heap with F frozen -/
def frz (I H : Hp) (F : List Addr) : Hp := fun a => if a ∈ F then H a else I a
theorem frz_same {F : List Addr} (d : ∀ a ∈ F, I a = none) : Same I (frz I H F) := fun a o e => by
  unfold frz
  rw [if_neg (fun h => by rw [d a h] at e; cases e)]
  exact e
theorem frz_ni {o : O} {v : V} {F : List Addr} {a : Addr} {ps : Array Value} (r : RepO K I H o v F) (h : H a = some (.tbl ps)) (h2 : I a = none) : frz I H F a = none := by
  unfold frz
  rw [if_neg (fun z => ?_)]
  · exact h2
  · obtain ⟨u, e, n⟩ := r.domN a z
    rw [h] at e; cases e; exact n _ rfl
theorem frz_sub {F : List Addr} (s : Same I H) : Same (frz I H F) H := fun a o e => by
  unfold frz at e
  split at e
  · exact e
  · exact s _ _ e
theorem RepO.frz {o : O} {v : V} {F : List Addr} (h : RepO K I H o v F) (d : ∀ a ∈ F, I a = none) : Rp K (frz I H F) v o.data := by
  have e := frz_same (H := H) d
  cases o with
  | fr d => exact h.2.mono e
  | ol ds =>
    obtain ⟨a, vs, rfl, rfl, h1, h2⟩ := h
    exact .lst (LsL.of (by unfold Dy.frz; rw [if_pos (by simp)]; exact h1)) (h2.mono e)
  | oo rs =>
    obtain ⟨a, as, rfl, rfl, nd, h1, h2⟩ := h
    refine .lst (LsL.of (by unfold Dy.frz; rw [if_pos (by simp)]; exact h1)) (h2.frz e fun b hb => ?_)
    unfold Dy.frz; rw [if_pos (by simp [hb])]
  | od es =>
    obtain ⟨a, rfl, rfl, h⟩ := h
    have z : Dy.frz I H [a] a = H a := by unfold Dy.frz; rw [if_pos (by simp)]
    rcases h with ⟨kvs, h1, h2⟩ | ⟨ts, h1, h2⟩
    · exact .dic (z.trans h1) (h2.mono e)
    · exact .dit (z.trans h1) (h2.mono e)
end
structure Step (I H : Hp) (S : Addr → Prop) (I' H' : Hp) (S' : Addr → Prop) : Prop where
  i1 : Same I I'
  fr : ∀ a o, H a = some o → ¬ S a → NT o → H' a = some o
  th : ∀ a o, H a = some o → ¬ S a → ∃ o', H' a = some o'
  s' : ∀ a, S' a → S a ∨ H a = none
  i' : ∀ a o, I' a = some o → I a = some o ∨ S a ∨ H a = none
section
variable {I H I1 H1 I2 H2 : Hp} {S S1 S2 : Addr → Prop}
theorem Step.of4 (i1 : Same I I1) (fr : ∀ a o, H a = some o → ¬ S a → H1 a = some o) (s' : ∀ a, S1 a → S a ∨ H a = none) (i' : ∀ a o, I1 a = some o → I a = some o ∨ S a ∨ H a = none) : Step I H S I1 H1 S1 :=
  ⟨i1, fun a o h n _ => fr a o h n, fun a o h n => ⟨o, fr a o h n⟩, s', i'⟩
theorem Step.refl : Step I H S I H S := ⟨Same.refl _, fun _ _ h _ _ => h, fun _ o h _ => ⟨o, h⟩, fun _ h => .inl h, fun _ _ h => .inl h⟩
theorem Step.back (a : Step I H S I1 H1 S1) {x : Addr} (h : S1 x ∨ H1 x = none) : S x ∨ H x = none := by
  rcases h with h | h
  · exact a.s' x h
  · cases q : H x with
    | none => exact .inr rfl
    | some o =>
      by_cases hs : S x
      · exact .inl hs
      · by_cases nt : NT o
        · rw [a.fr x o q hs nt] at h; cases h
        · obtain ⟨u, hu⟩ := a.th x o q hs
          rw [hu] at h; cases h
theorem Step.trans (a : Step I H S I1 H1 S1) (b : Step I1 H1 S1 I2 H2 S2) : Step I H S I2 H2 S2 := by
  have ns : ∀ x o, H x = some o → ¬ S x → ¬ S1 x := fun x o h hs h1 => by
    rcases a.s' x h1 with z | z
    · exact hs z
    · rw [h] at z; cases z
  refine ⟨a.i1.trans b.i1, fun x o h hs nt => ?_, fun x o h hs => ?_, fun x h => a.back (b.s' x h), fun x o h => ?_⟩
  · exact b.fr x o (a.fr x o h hs nt) (ns x o h hs) nt
  · obtain ⟨o1, h1⟩ := a.th x o h hs
    exact b.th x o1 h1 (ns x o h hs)
  · rcases b.i' x o h with z | z
    · exact a.i' x o z
    · exact .inr (a.back z)
/-- less is owned behind it -/
theorem Step.less (a : Step I H S I1 H1 S1) (h : ∀ x, S2 x → S1 x) : Step I H S I1 H1 S2 := ⟨a.i1, a.fr, a.th, fun x q => a.s' x (h x q), a.i'⟩
/-- something owned stands aside -/
theorem Step.aside (a : Step I H S I1 H1 S1) (T : Addr → Prop) (ht : ∀ x, T x → ∃ o, H x = some o) (hd : ∀ x, T x → ¬ S x) : Step I H (fun x => S x ∨ T x) I1 H1 (fun x => S1 x ∨ T x) := by
  refine ⟨a.i1, fun x o h hs => a.fr x o h fun z => hs (.inl z), fun x o h hs => a.th x o h fun z => hs (.inl z), fun x h => ?_, fun x o h => ?_⟩
  · rcases h with h | h
    · rcases a.s' x h with z | z
      · exact .inl (.inl z)
      · exact .inr z
    · exact .inl (.inr h)
  · rcases a.i' x o h with z | z | z
    · exact .inl z
    · exact .inr (.inl (.inl z))
    · exact .inr (.inr z)
end
/-- what is owned aside stays as it is -/
theorem Step.keeps {I H I1 H1 : Hp} {S S1 : Addr → Prop} (a : Step I H S I1 H1 S1) {F : List Addr} (hd : ∀ x ∈ F, ∃ o, H x = some o ∧ NT o) (hn : ∀ x ∈ F, ¬ S x) : ∀ x ∈ F, H1 x = H x := fun x hx => by
  obtain ⟨o, h, nt⟩ := hd x hx
  rw [h, a.fr x o h (hn x hx) nt]
/-- the slots that hold what they held at the entry, and that -/
abbrev Pn := List Nat × (Nat → V) × List (Addr × Str)
def Ow (F : Nat → List Addr) : Addr → Prop := fun a => ∃ i, a ∈ F i
structure Sim (K : PySem.W.Frag) (π : Pn) (I H : Hp) (σ : St) (env : Env) (F : Nat → List Addr) : Prop where
  len : env.length = σ.length
  rep : ∀ (i : Nat) (o : O), env[i]? = some (some o) → ∃ v, σ[i]? = some (some v) ∧ RepO K I H o v (F i)
  out : ∀ i : Nat, (∀ o, env[i]? ≠ some (some o)) → F i = []
  dis : ∀ (i j : Nat) (a : Addr), a ∈ F i → a ∈ F j → i = j
  djI : ∀ (i : Nat) (a : Addr), a ∈ F i → I a = none
  sub : Same I H
  pin : ∀ i ∈ π.1, σ[i]? = some (some (π.2.1 i))
  tab : TabI π.2.2 I H
section
variable {K : PySem.W.Frag} {π : Pn} {I H I' H' : Hp} {σ : St} {env : Env} {F : Nat → List Addr}
theorem Sim.domN (s : Sim K π I H σ env F) {i : Nat} {a : Addr} (h : a ∈ F i) : ∃ o, H a = some o ∧ NT o := by
  by_cases q : ∃ o, env[i]? = some (some o)
  · obtain ⟨o, q⟩ := q
    obtain ⟨v, _, r⟩ := s.rep i o q
    exact r.domN a h
  · rw [s.out i fun o e => q ⟨o, e⟩] at h; cases h
theorem Sim.dom (s : Sim K π I H σ env F) {i : Nat} {a : Addr} (h : a ∈ F i) : ∃ o, H a = some o := let ⟨o, e, _⟩ := s.domN h; ⟨o, e⟩
theorem Sim.domO (s : Sim K π I H σ env F) {a : Addr} (h : Ow F a) : ∃ o, H a = some o := let ⟨_, q⟩ := h; s.dom q
theorem Sim.ktO (s : Sim K π I H σ env F) {i : Nat} {a : Addr} {o : HO} (h : a ∈ F i) : ∀ b ps, H b = some (.tbl ps) → upd H a o b = some (.tbl ps) := by
  obtain ⟨u, e, n⟩ := s.domN h
  exact kt_upd e n
/-- a slot is changed -/
def upF (F : Nat → List Addr) (i : Nat) (R : List Addr) : Nat → List Addr := fun j => if j = i then R else F j
theorem upF_same {i : Nat} {R : List Addr} : upF F i R i = R := if_pos rfl
theorem upF_ne {i j : Nat} {R : List Addr} (h : j ≠ i) : upF F i R j = F j := if_neg h
/-- the frame over a greater frozen heap, the other slots' things untouched -/
theorem Sim.put (s : Sim K π I H σ env F) {i : Nat} {x : Option O} {sv : Option V} {R : List Addr} (hi : i < env.length) (e : Same I I') (sub : Same I' H')
    (k : ∀ j, j ≠ i → ∀ a ∈ F j, H' a = H a) (nI : ∀ j, j ≠ i → ∀ a ∈ F j, I' a = none) (nR : ∀ a ∈ R, I' a = none) (dR : ∀ j, j ≠ i → ∀ a ∈ F j, a ∉ R)
    (hx : ∀ o, x = some o → ∃ v, sv = some v ∧ RepO K I' H' o v R) (hn : x = none → R = []) (hp : i ∈ π.1 → sv = some (π.2.1 i)) (kt : ∀ a ps, H a = some (.tbl ps) → H' a = some (.tbl ps) := by exact fun _ _ h => h) (ni : ∀ a ps, H a = some (.tbl ps) → I a = none → I' a = none := by exact fun _ _ _ h => h) : Sim K π I' H' (σ.set i sv) (env.set i x) (upF F i R) := by
  refine ⟨by simp [s.len], fun j o q => ?_, fun j q => ?_, fun j l a h1 h2 => ?_, fun j a h => ?_, sub, fun p hp' => ?_, s.tab.mono e kt ni⟩
  · by_cases hj : j = i
    · subst hj
      rw [List.getElem?_set_self hi] at q
      obtain ⟨v, e1, r⟩ := hx o (Option.some.inj q)
      exact ⟨v, by rw [List.getElem?_set_self (by rw [← s.len]; exact hi), e1], by rw [upF_same]; exact r⟩
    · rw [List.getElem?_set_ne (Ne.symm hj)] at q
      obtain ⟨v, e1, r⟩ := s.rep j o q
      exact ⟨v, by rw [List.getElem?_set_ne (Ne.symm hj)]; exact e1, by rw [upF_ne hj]; exact r.mono e (k j hj)⟩
  · by_cases hj : j = i
    · subst hj
      rw [upF_same]
      cases x with
      | none => exact hn rfl
      | some o => exact absurd (List.getElem?_set_self hi) (q o)
    · rw [upF_ne hj]
      exact s.out j fun o z => q o (by rw [List.getElem?_set_ne (Ne.symm hj)]; exact z)
  · by_cases hj : j = i
    · by_cases hl : l = i
      · rw [hj, hl]
      · subst hj
        rw [upF_same] at h1
        rw [upF_ne hl] at h2
        exact absurd h1 (dR l hl a h2)
    · by_cases hl : l = i
      · subst hl
        rw [upF_same] at h2
        rw [upF_ne hj] at h1
        exact absurd h2 (dR j hj a h1)
      · rw [upF_ne hj] at h1
        rw [upF_ne hl] at h2
        exact s.dis j l a h1 h2
  · by_cases hj : j = i
    · subst hj; rw [upF_same] at h; exact nR a h
    · rw [upF_ne hj] at h; exact nI j hj a h
  · by_cases hj : p = i
    · subst hj
      rw [List.getElem?_set_self (by rw [← s.len]; exact hi), hp hp']
    · rw [List.getElem?_set_ne (Ne.symm hj)]; exact s.pin p hp'
/-- the frame as it is, over another heap -/
theorem Sim.heap (s : Sim K π I H σ env F) (e : Same I I') (sub : Same I' H') (k : ∀ a, Ow F a → H' a = H a) (nI : ∀ a, Ow F a → I' a = none) (kt : ∀ a ps, H a = some (.tbl ps) → H' a = some (.tbl ps) := by exact fun _ _ h => h) (ni : ∀ a ps, H a = some (.tbl ps) → I a = none → I' a = none := by exact fun _ _ _ h => h) : Sim K π I' H' σ env F :=
  ⟨s.len, fun i o q => let ⟨v, e1, r⟩ := s.rep i o q; ⟨v, e1, r.mono e fun a ha => k a ⟨i, ha⟩⟩, s.out, s.dis, fun i a h => nI a ⟨i, h⟩, sub, s.pin, s.tab.mono e kt ni⟩
theorem set_same {α : Type} : ∀ {l : List α} {i : Nat} {x : α}, l[i]? = some x → l.set i x = l
  | [], _, _, h => by simp at h
  | a :: l, 0, x, h => by simp at h; subst h; rfl
  | a :: l, i + 1, x, h => by
    rw [List.set_cons_succ, set_same (by simpa using h)]
end
/-- its value is o at v; R: what o owns -/
def Aft (K : PySem.W.Frag) (π : Pn) (I H : Hp) (F : Nat → List Addr) (σ : St) (env' : Env) (o : O) (v : V) (H' : Hp) : Prop :=
  ∃ I' F' R, RepO K I' H' o v R ∧ Sim K π I' H' σ env' F' ∧ (∀ a ∈ R, I' a = none) ∧ (∀ a, Ow F' a → a ∉ R) ∧ Step I H (Ow F) I' H' (fun a => Ow F' a ∨ a ∈ R)
/-- its value is the data d at v -/
def AftD (K : PySem.W.Frag) (π : Pn) (I H : Hp) (F : Nat → List Addr) (σ : St) (env' : Env) (d : PyData) (v : V) (H' : Hp) : Prop :=
  ∃ I' F', Rp K I' v d ∧ Sim K π I' H' σ env' F' ∧ Step I H (Ow F) I' H' (Ow F')
/-- behind a statement -/
def AftS (K : PySem.W.Frag) (π : Pn) (I H : Hp) (F : Nat → List Addr) (σ' : St) (env' : Env) (H' : Hp) : Prop :=
  ∃ I' F', Sim K π I' H' σ' env' F' ∧ Step I H (Ow F) I' H' (Ow F')
/-- an exception has come -/
def Err (T : List (Addr × Str)) (I H : Hp) (S : Addr → Prop) (H' : Hp) : Prop := ∃ I', Same I' H' ∧ TabI T I' H' ∧ Step I H S I' H' (fun _ => False)
section
variable {K : PySem.W.Frag} {π : Pn} {I H I1 H1 H2 : Hp} {σ σ' : St} {env : Env} {F F1 : Nat → List Addr} {o : O} {d : PyData} {v : V}
theorem Aft.frz (h : Aft K π I H F σ env o v H1) : AftD K π I H F σ env o.data v H1 := by
  obtain ⟨I', F', R, r, s, nR, dR, st⟩ := h
  have e : Same I' (Dy.frz I' H1 R) := frz_same nR
  refine ⟨Dy.frz I' H1 R, F', r.frz nR, s.heap e (frz_sub s.sub) (fun _ _ => rfl) (fun a ha => ?_) (fun _ _ h => h) (fun a ps h1 h2 => frz_ni r h1 h2), ⟨st.i1.trans e, st.fr, st.th, fun a ha => st.s' a (.inl ha), fun a u q => ?_⟩⟩
  · unfold Dy.frz; rw [if_neg (dR a ha)]; obtain ⟨i, hi⟩ := ha; exact s.djI i a hi
  · unfold Dy.frz at q
    split at q
    · exact .inr (st.s' a (.inr (by assumption)))
    · exact st.i' a u q
theorem AftD.toS (h : AftD K π I H F σ env d v H1) : AftS K π I H F σ env H1 := let ⟨I', F', _, s, st⟩ := h; ⟨I', F', s, st⟩
theorem AftD.aft (h : AftD K π I H F σ env d v H1) : Aft K π I H F σ env (.fr d) v H1 := by
  obtain ⟨I', F', r, s, st⟩ := h
  exact ⟨I', F', [], ⟨rfl, r⟩, s, fun a ha => (nomatch ha), fun a _ ha => (nomatch ha), st.less fun a ha => Or.elim ha id fun z => (nomatch z)⟩
theorem AftS.trans (st : Step I H (Ow F) I1 H1 (Ow F1)) (h : AftS K π I1 H1 F1 σ env H2) : AftS K π I H F σ env H2 := let ⟨I', F', s, t⟩ := h; ⟨I', F', s, st.trans t⟩
theorem AftD.trans (st : Step I H (Ow F) I1 H1 (Ow F1)) (h : AftD K π I1 H1 F1 σ env d v H2) : AftD K π I H F σ env d v H2 := let ⟨I', F', r, s, t⟩ := h; ⟨I', F', r, s, st.trans t⟩
theorem Aft.trans (st : Step I H (Ow F) I1 H1 (Ow F1)) (h : Aft K π I1 H1 F1 σ env o v H2) : Aft K π I H F σ env o v H2 := let ⟨I', F', R, r, s, a, b, t⟩ := h; ⟨I', F', R, r, s, a, b, st.trans t⟩
theorem Err.trans {T : List (Addr × Str)} {S S1 : Addr → Prop} (st : Step I H S I1 H1 S1) (h : Err T I1 H1 S1 H2) : Err T I H S H2 := by
  obtain ⟨I', s, t, k⟩ := h
  exact ⟨I', s, t, st.trans k⟩
theorem Err.of {T : List (Addr × Str)} {S S1 : Addr → Prop} (st : Step I H S I1 H1 S1) (s : Same I1 H1) (t : TabI T I1 H1) : Err T I H S H1 := ⟨I1, s, t, st.less fun _ z => z.elim⟩
end
end Dy
namespace Dy
open PySem PySem.Spec PyProof.Rows L2
/-- an exception of the program as HandS tells it: its class's address, its own dict -/
def XR (mg : Str → Option Value) (x : Exn) (c : Value) (d : Option Addr) (_H : Hp) : Prop := ∃ a, mg x.cls = some (.ref a) ∧ c = .ref a ∧ (x.args = [] → d = none)
/-- what is carried: the written part, the module's names, the pinned slots, the wish about exceptions -/
structure G where
  K : PySem.W.Frag
  mg : Str → Option Value
  pn : Pn
  E : XK
def G.err (g : G) (I H : Hp) (F : Nat → List Addr) (x : Exn) : Prop := ∀ H' c d, Err g.pn.2.2 I H (Ow F) H' → XR g.mg x c d H' → g.E c d H'
abbrev EF := Env → Res (O × Env)
abbrev TF := Env → Res (Bool × Env)
inductive Fl where
  | nx | bk | ct
  | rt (o : O)
abbrev SF := Env → Res (Fl × Env)
def tD (g : G) (f : EF) : TE := fun σ H Q => ∃ I env F, Sim g.K g.pn I H σ env F ∧ (f env).post (fun r => ∀ v H', Aft g.K g.pn I H F σ r.2 r.1 v H' → Q v H') (g.err I H F)
def tT (g : G) (f : TF) : TT := fun σ H Q => ∃ I env F, Sim g.K g.pn I H σ env F ∧ (f env).post (fun r => ∀ H', AftS g.K g.pn I H F σ r.2 H' → Q r.1 H') (g.err I H F)
def FlP (g : G) (D : Ends) (I H : Hp) (F : Nat → List Addr) : Fl × Env → Prop
  | (.nx, e) => ∀ σ' H', AftS g.K g.pn I H F σ' e H' → D.nx σ' H'
  | (.bk, e) => ∀ σ' H', AftS g.K g.pn I H F σ' e H' → D.bk σ' H'
  | (.ct, e) => ∀ σ' H', AftS g.K g.pn I H F σ' e H' → D.ct σ' H'
  | (.rt o, e) => ∀ v σ' H', Aft g.K g.pn I H F σ' e o v H' → D.rt v H'
def tS (g : G) (f : SF) : TS := fun D σ H => ∃ I env F, Sim g.K g.pn I H σ env F ∧ (f env).post (FlP g D I H F) (g.err I H F)
inductive AF where
  | v (f : EF)
  | s (i : Nat)
inductive AV where
  | d (x : PyData)
  | s (i : Nat)
def evA : List AF → Env → Res (List AV × Env)
  | [], e => .ok ([], e)
  | .v f :: as, e => f e >>= fun r => evA as r.2 >>= fun q => .ok (.d r.1.data :: q.1, q.2)
  | .s i :: as, e => match e[i]? with
    | some (some _) => evA as e >>= fun q => .ok (.s i :: q.1, q.2)
    | _ => .no
inductive RepAV (K : PySem.W.Frag) (I : Hp) (σ : St) : List AV → List V → Prop
  | nil : RepAV K I σ [] []
  | d {x : PyData} {v : V} {as : List AV} {vs : List V} : Rp K I v x → RepAV K I σ as vs → RepAV K I σ (.d x :: as) (v :: vs)
  | s {i : Nat} {v : V} {as : List AV} {vs : List V} : σ[i]? = some (some v) → RepAV K I σ as vs → RepAV K I σ (.s i :: as) (v :: vs)
def tArg (g : G) : AF → TE
  | .v f => tD g f
  | .s i => tVar i
def tA (g : G) (as : List AF) : TA := fun σ H Q => ∃ I env F, Sim g.K g.pn I H σ env F ∧
  (evA as env).post (fun r => ∀ vs H' I' F', Sim g.K g.pn I' H' σ r.2 F' → Step I H (Ow F) I' H' (Ow F') → RepAV g.K I' σ r.1 vs → Q vs H') (g.err I H F)
section
variable {g : G} {σ : St} {H : Hp}
theorem err_step {I I1 H1 : Hp} {F F1 : Nat → List Addr} {x : Exn} (st : Step I H (Ow F) I1 H1 (Ow F1)) (h : g.err I H F x) : g.err I1 H1 F1 x := fun H' c d e r => h H' c d (Err.trans st e) r
theorem tA_nil {Q : List V → Hp → Prop} (h : tA g [] σ H Q) : Q [] H := by
  obtain ⟨I, env, F, s, p⟩ := h
  exact p [] H I F s Step.refl .nil
theorem tA_cons {a : AF} {as : List AF} {Q : List V → Hp → Prop} (h : tA g (a :: as) σ H Q) : tArg g a σ H fun x H1 => tA g as σ H1 fun xs H2 => Q (x :: xs) H2 := by
  obtain ⟨I, env, F, s, p⟩ := h
  cases a with
  | v f =>
    refine ⟨I, env, F, s, ?_⟩
    unfold evA at p
    cases q : f env with
    | no => rw [q] at p; exact p
    | er x => rw [q] at p; exact p
    | ok r =>
      rw [q] at p
      intro v H1 af
      obtain ⟨I1, F1, rp, s1, st1⟩ := af.frz
      refine ⟨I1, r.2, F1, s1, ?_⟩
      rw [bind_ok] at p
      cases q2 : evA as r.2 with
      | no => rw [q2] at p; exact p
      | er x => rw [q2] at p; exact err_step st1 p
      | ok r2 =>
        rw [q2] at p
        intro vs H2 I2 F2 s2 st2 av
        exact p (v :: vs) H2 I2 F2 s2 (st1.trans st2) (.d (rp.mono st2.i1) av)
  | s i =>
    unfold evA at p
    cases q0 : env[i]? with
    | none => rw [q0] at p; exact p.elim
    | some y =>
      cases y with
      | none => rw [q0] at p; exact p.elim
      | some o =>
        rw [q0] at p
        obtain ⟨v, hv, _⟩ := s.rep i o q0
        refine ⟨v, hv, I, env, F, s, ?_⟩
        cases q2 : evA as env with
        | no => simp only [q2] at p; exact p
        | er x => simp only [q2] at p; exact p
        | ok r2 =>
          simp only [q2] at p
          intro vs H2 I2 F2 s2 st2 av
          exact p (v :: vs) H2 I2 F2 s2 st2 (.s hv av)
end
theorem PE.imp {X : Cx} {e : Expr} {t u : TE} (h : PE X e t) (i : ∀ σ H Q, u σ H Q → t σ H Q) : PE X e u := ⟨fun pins s σ H Q I q => h.run pins s σ H Q I (i σ H Q q)⟩
theorem PT.imp {X : Cx} {e : Expr} {t u : TT} (h : PT X e t) (i : ∀ σ H Q, u σ H Q → t σ H Q) : PT X e u := ⟨fun pins s σ H Q I q => h.run pins s σ H Q I (i σ H Q q)⟩
theorem PW.imp {X : Cx} {e : Expr} {t u : TT} (h : PW X e t) (i : ∀ σ H Q, u σ H Q → t σ H Q) : PW X e u := ⟨fun wh pins s σ H Q I q => h.run wh pins s σ H Q I (i σ H Q q)⟩
theorem PA.imp {X : Cx} {e : List Expr} {t u : TA} (h : PA X e t) (i : ∀ σ H Q, u σ H Q → t σ H Q) : PA X e u := ⟨fun ps pins s σ H Q I q => h.run ps pins s σ H Q I (i σ H Q q)⟩
theorem PS.imp {X : Cx} {e : Stmt} {t u : TS} (h : PS X e t) (i : ∀ D σ H, u D σ H → t D σ H) : PS X e u := ⟨fun pins s σ H D I q => h.run pins s σ H D I (i D σ H q)⟩
theorem PSs.imp {X : Cx} {e : List Stmt} {t u : TS} (h : PSs X e t) (i : ∀ D σ H, u D σ H → t D σ H) : PSs X e u := ⟨fun pins s σ H D I q => h.run pins s σ H D I (i D σ H q)⟩
theorem PI.imp {X : Cx} {tg e : Expr} {t u : TI} (h : PI X tg e t) (i : ∀ σ H Q, u σ H Q → t σ H Q) : PI X tg e u := ⟨fun pins s σ H Q I q => h.run pins s σ H Q I (i σ H Q q)⟩
theorem PG.imp {X : Cx} {e : Expr} {t u : TG} (h : PG X e t) (i : ∀ v σ H Q, u v σ H Q → t v σ H Q) : PG X e u := ⟨fun pins s σ H v w Q I r q => h.run pins s σ H v w Q I r (i v σ H Q q)⟩
def DE (g : G) (X : Cx) (e : Expr) (f : EF) : Prop := PE X e (tD g f)
def DX (g : G) (X : Cx) (e : Expr) (a : AF) : Prop := PE X e (tArg g a)
def DA (g : G) (X : Cx) (es : List Expr) (as : List AF) : Prop := PA X es (tA g as)
def DT (g : G) (X : Cx) (e : Expr) (f : TF) : Prop := PT X e (tT g f)
def DW (g : G) (X : Cx) (e : Expr) (f : TF) : Prop := PW X e (tT g f)
def DS (g : G) (X : Cx) (st : Stmt) (f : SF) : Prop := PS X st (tS g f)
def DSs (g : G) (X : Cx) (st : List Stmt) (f : SF) : Prop := PSs X st (tS g f)
section
variable {g : G} {X : Cx} {e : Expr} {es : List Expr}
theorem dx_v {f : EF} (h : DE g X e f) : DX g X e (.v f) := h
theorem dx_s {x : Str} {pos : Pos} (i : Nat) (h : PE X (.Name x pos) (tVar i)) : DX g X (.Name x pos) (.s i) := h
theorem da_nil : DA g X [] [] := PA.imp pa_nil fun σ H Q h => tA_nil h
theorem da_cons {a : AF} {as : List AF} (h : DX g X e a) (hr : DA g X es as) (hs : starEach (e :: es) X.env = (false, eval e X.env) :: starEach es X.env := by rfl) : DA g X (e :: es) (a :: as) :=
  PA.imp (pa_cons h hr hs) fun σ H Q h => tA_cons h
def fC (d : PyData) : EF := fun env => .ok (.fr d, env)
theorem aftC {I H : Hp} {F : Nat → List Addr} {σ : St} {env : Env} {d : PyData} {v : V} (s : Sim g.K g.pn I H σ env F) (r : Rp g.K I v d) : Aft g.K g.pn I H F σ env (.fr d) v H :=
  AftD.aft ⟨I, F, r, s, Step.refl⟩
theorem de_c {v : V} {d : PyData} (h : PE X e (tC v)) (r : ∀ I, Rp g.K I v d) : DE g X e (fC d) := PE.imp h fun σ H Q q => by
  obtain ⟨I, env, F, s, p⟩ := q
  exact p v H (aftC s (r I))
theorem de_int {i j pos} : DE g X (.Constant (.int i) j pos) (fC (.int i)) := de_c pe_int fun _ => .int i
theorem de_bl {b j pos} : DE g X (.Constant (.bool b) j pos) (fC (.bool b)) := de_c pe_bl fun _ => .bl b
theorem de_non {j pos} : DE g X (.Constant .none j pos) (fC .none) := de_c pe_non fun _ => .non
theorem de_str {x j pos} : DE g X (.Constant (.str x) j pos) (fC (.str x)) := de_c pe_str fun _ => .str x
/-- a module's int -/
theorem de_gint {x : Str} {i : Int} {t : Tok} {pos : Pos} (hg : Gl X x) (hm : X.mg x = some (.int i t)) (hd : (x == ("__debug__" : Str)) = false := by decide) : DE g X (.Name x pos) (fC (.int i)) :=
  de_c (v := .int i) (pe_glob hg hm ⟨t, rfl⟩ hd) fun _ => .int i
/-- a name, its value frozen -/
def fV (i : Nat) : EF := fun env => match env[i]? with
  | some (some (.fr d)) => .ok (.fr d, env)
  | some (some o) => .ok (.fr o.data, env.set i (some (.fr o.data)))
  | _ => .no
theorem sim_frz {I H : Hp} {F : Nat → List Addr} {σ : St} {env : Env} {i : Nat} {o : O} (s : Sim g.K g.pn I H σ env F) (q : env[i]? = some (some o)) :
    ∃ v I', σ[i]? = some (some v) ∧ Rp g.K I' v o.data ∧ Sim g.K g.pn I' H σ (env.set i (some (.fr o.data))) (upF F i []) ∧ Step I H (Ow F) I' H (Ow (upF F i [])) := by
  obtain ⟨v, e1, r⟩ := s.rep i o q
  have nI : ∀ a ∈ F i, I a = none := fun a ha => s.djI i a ha
  have hi : i < env.length := by
    cases Nat.lt_or_ge i env.length with
    | inl h => exact h
    | inr h => rw [List.getElem?_eq_none h] at q; cases q
  have sm := frz_same (H := H) nI
  have rp := r.frz nI
  refine ⟨v, Dy.frz I H (F i), e1, rp, ?_, ?_⟩
  · have := s.put (i := i) (x := some (.fr o.data)) (sv := some v) (R := []) hi sm (frz_sub s.sub) (fun _ _ _ _ => rfl) (fun j hj a ha => ?_) (fun a ha => nomatch ha) (fun _ _ _ _ h => nomatch h) (fun o' e => ?_) (fun e => by cases e) (fun hp => ?_) (fun _ _ h => h) (fun a ps h1 h2 => frz_ni r h1 h2)
    · rw [set_same e1] at this; exact this
    · unfold Dy.frz; rw [if_neg (fun h => hj (s.dis j i a ha h))]; exact s.djI j a ha
    · cases e; exact ⟨v, rfl, rfl, rp⟩
    · have := s.pin i hp; rw [e1] at this; exact Option.some.inj this
  · refine Step.of4 sm (fun _ _ h _ => h) (fun a ⟨j, ha⟩ => ?_) (fun a u h => ?_)
    · by_cases hj : j = i
      · subst hj; rw [upF_same] at ha; cases ha
      · rw [upF_ne hj] at ha; exact .inl ⟨j, ha⟩
    · unfold Dy.frz at h
      split at h
      · exact .inr (.inl ⟨i, by assumption⟩)
      · exact .inl h
theorem de_v {x : Str} {pos : Pos} (i : Nat) (h : PE X (.Name x pos) (tVar i)) : DE g X (.Name x pos) (fV i) := PE.imp h fun σ H Q q => by
  obtain ⟨I, env, F, s, p⟩ := q
  unfold fV at p
  cases q : env[i]? with
  | none => rw [q] at p; exact p.elim
  | some y =>
    cases y with
    | none => rw [q] at p; exact p.elim
    | some o =>
      have key : (match o with | .fr d => Res.ok (O.fr d, env) | o => .ok (O.fr o.data, env.set i (some (.fr o.data)))) = .ok (O.fr o.data, env.set i (some (.fr o.data))) := by
        cases o with
        | fr d => show Res.ok (O.fr d, env) = Res.ok (O.fr d, env.set i (some (O.fr d))); rw [set_same q]
        | ol _ => rfl
        | oo _ => rfl
        | od _ => rfl
      rw [q] at p
      have p : (Res.ok (O.fr o.data, env.set i (some (.fr o.data)))).post (fun r => ∀ v H', Aft g.K g.pn I H F σ r.2 r.1 v H' → Q v H') (g.err I H F) := by
        rw [← key]; cases o <;> exact p
      obtain ⟨v, I', e1, rp, s', st⟩ := sim_frz s q
      exact ⟨v, e1, p v H (AftD.aft ⟨I', _, rp, s', st⟩)⟩
/-- a name whose thing goes out of the def -/
def fM (i : Nat) : EF := fun env => match env[i]? with
  | some (some o) => .ok (o, env.set i none)
  | _ => .no
theorem de_m {x : Str} {pos : Pos} (i : Nat) (h : PE X (.Name x pos) (tVar i)) : DE g X (.Name x pos) (fM i) := PE.imp h fun σ H Q q => by
  obtain ⟨I, env, F, s, p⟩ := q
  unfold fM at p
  cases q : env[i]? with
  | none => rw [q] at p; exact p.elim
  | some y =>
    cases y with
    | none => rw [q] at p; exact p.elim
    | some o =>
      rw [q] at p
      obtain ⟨v, e1, r⟩ := s.rep i o q
      have hi : i < env.length := by
        cases Nat.lt_or_ge i env.length with
        | inl h => exact h
        | inr h => rw [List.getElem?_eq_none h] at q; cases q
      refine ⟨v, e1, p v H ⟨I, upF F i [], F i, r, ?_, fun a ha => s.djI i a ha, fun a ⟨j, hj⟩ ha => ?_, ?_⟩⟩
      · have := s.put (i := i) (x := none) (sv := some v) (R := []) hi (Same.refl _) s.sub (fun _ _ _ _ => rfl) (fun j _ a ha => s.djI j a ha) (fun a ha => nomatch ha) (fun _ _ _ _ h => nomatch h) (fun o' e => by cases e) (fun _ => rfl) (fun hp => ?_)
        · rw [set_same e1] at this; exact this
        · have := s.pin i hp; rw [e1] at this; exact Option.some.inj this
      · by_cases h : j = i
        · subst h; rw [upF_same] at hj; cases hj
        · rw [upF_ne h] at hj; exact h (s.dis j i a hj ha)
      · refine Step.of4 (Same.refl _) (fun _ _ h _ => h) (fun a ha => .inl ?_) (fun _ _ h => .inl h)
        rcases ha with ⟨j, hj⟩ | ha
        · by_cases h : j = i
          · subst h; rw [upF_same] at hj; cases hj
          · rw [upF_ne h] at hj; exact ⟨j, hj⟩
        · exact ⟨i, ha⟩
end
/-- an argument that is read: data, or an owned list of data -/
def DiO (K : PySem.W.Frag) (I H : Hp) (a : Addr) (es : List (PyData × PyData)) : Prop := (∃ kvs, H a = some (.dK kvs) ∧ RpKv K I kvs es) ∨ ∃ ts, H a = some (dN a ts) ∧ RpKt K I ts es
def RpS (K : PySem.W.Frag) (I H : Hp) (v : V) (d : PyData) : Prop := Rp K I v d ∨ (∃ a vs ds, v = .ref a ∧ d = .list ds ∧ H a = some (.lst vs) ∧ RpAll K I vs ds) ∨ ∃ a es, v = .ref a ∧ d = .dict es ∧ DiO K I H a es
inductive RpSs (K : PySem.W.Frag) (I H : Hp) : List V → List PyData → Prop
  | nil : RpSs K I H [] []
  | cons {v : V} {d : PyData} {vs : List V} {ds : List PyData} : RpS K I H v d → RpSs K I H vs ds → RpSs K I H (v :: vs) (d :: ds)
def rsv (env : Env) : AV → Option PyData
  | .d x => some x
  | .s i => match env[i]? with
    | some (some (.fr d)) => some d
    | some (some (.ol ds)) => some (.list ds)
    | some (some (.od es)) => some (.dict es)
    | _ => none
def rsvs (env : Env) : List AV → Option (List PyData)
  | [] => some []
  | a :: as => match rsv env a, rsvs env as with
    | some d, some ds => some (d :: ds)
    | _, _ => none
theorem rsvs_rep {K : PySem.W.Frag} {π : Pn} {I H : Hp} {σ : St} {env : Env} {F : Nat → List Addr} (s : Sim K π I H σ env F) : ∀ {as : List AV} {vs : List V} {ds : List PyData}, RepAV K I σ as vs → rsvs env as = some ds → RpSs K I H vs ds
  | _, _, ds, .nil, h => by cases h; exact .nil
  | _, _, ds, .d (as := as) r t, h => by
    unfold rsvs at h
    cases q : rsvs env as with
    | none => rw [q] at h; cases h
    | some es => rw [q] at h; cases h; exact .cons (.inl r) (rsvs_rep s t q)
  | _, _, ds, .s (i := i) (as := as) r t, h => by
    unfold rsvs at h
    cases q : rsvs env as with
    | none => rw [q] at h; cases q9 : rsv env (.s i) <;> (rw [q9] at h; cases h)
    | some es =>
      rw [q] at h
      cases q2 : rsv env (.s i) with
      | none => rw [q2] at h; cases h
      | some d =>
        rw [q2] at h; cases h
        refine .cons ?_ (rsvs_rep s t q)
        simp only [rsv] at q2
        cases q3 : env[i]? with
        | none => rw [q3] at q2; cases q2
        | some y =>
          cases y with
          | none => rw [q3] at q2; cases q2
          | some o =>
            obtain ⟨w, e1, rp⟩ := s.rep i o q3
            rw [r] at e1; cases e1
            rw [q3] at q2
            cases o with
            | fr x => cases q2; exact .inl rp.2
            | ol xs =>
              cases q2
              obtain ⟨a, us, rfl, _, h1, h2⟩ := rp
              exact .inr (.inl ⟨a, us, xs, rfl, rfl, h1, h2⟩)
            | oo _ => cases q2
            | od es =>
              cases q2
              obtain ⟨a, rfl, _, h1⟩ := rp
              exact .inr (.inr ⟨a, es, rfl, rfl, h1⟩)
/-- what a new value adds -/
structure Grow (K : PySem.W.Frag) (I H I' H' : Hp) (o : O) (v : V) (R : List Addr) : Prop where
  rep : RepO K I' H' o v R
  i1 : Same I I'
  h1 : Same H H'
  sub : Same I' H'
  fresh : ∀ a ∈ R, H a = none
  nI : ∀ a ∈ R, I' a = none
  i' : ∀ a o, I' a = some o → I a = some o ∨ H a = none
theorem Grow.val {K : PySem.W.Frag} {I H : Hp} {d : PyData} {v : V} (s : Same I H) (r : Rp K I v d) : Grow K I H I H (.fr d) v [] :=
  ⟨⟨rfl, r⟩, Same.refl _, Same.refl _, s, fun _ h => (nomatch h), fun _ h => (nomatch h), fun _ _ h => .inl h⟩
theorem same_new {H : Hp} {p : Addr} {o : HO} (h : H p = none) : Same H (upd H p o) := fun b x e => by
  rw [upd_ne (ne_of_none e h)]; exact e
theorem none_of_same {I H : Hp} (s : Same I H) {a : Addr} (h : H a = none) : I a = none := by
  cases q : I a with
  | none => rfl
  | some o => rw [s a o q] at h; cases h
/-- a new list of its own -/
theorem Grow.lst {K : PySem.W.Frag} {I H : Hp} {ds : List PyData} {vs : List V} {p : Addr} (s : Same I H) (n : H p = none) (r : RpAll K I vs ds) : Grow K I H I (upd H p (.lst vs)) (.ol ds) (.ref p) [p] :=
  ⟨⟨p, vs, rfl, rfl, upd_same, r⟩, Same.refl _, same_new n, s.trans (same_new n), fun a h => by simp at h; subst h; exact n, fun a h => by simp at h; subst h; exact none_of_same s n, fun _ _ h => .inl h⟩
/-- a new tuple -/
theorem Grow.tup {K : PySem.W.Frag} {I H : Hp} {ds : List PyData} {vs : List V} {p : Addr} (s : Same I H) (n : H p = none) (r : RpAll K I vs ds) : Grow K I H (upd I p (.tup vs)) (upd H p (.tup vs)) (.fr (.tuple ds)) (.ref p) [] := by
  have nI := none_of_same s n
  have e : Same I (upd I p (.tup vs)) := same_new nI
  refine ⟨⟨rfl, .tup (SqT.of upd_same) (r.mono e)⟩, e, same_new n, fun b x q => ?_, fun _ h => (nomatch h), fun _ h => (nomatch h), fun a o q => ?_⟩
  · by_cases h : b = p
    · subst h; rw [upd_same] at q ⊢; exact q
    · rw [upd_ne h] at q ⊢; exact s b x q
  · by_cases h : a = p
    · subst h; exact .inr n
    · rw [upd_ne h] at q; exact .inl q
theorem Grow.aft {K : PySem.W.Frag} {π : Pn} {I H I' H' : Hp} {o : O} {v : V} {R : List Addr} {σ : St} {env : Env} {F : Nat → List Addr} (g : Grow K I H I' H' o v R) (s : Sim K π I H σ env F) : Aft K π I H F σ env o v H' := by
  have nF : ∀ a, Ow F a → I' a = none := fun a ⟨i, ha⟩ => by
    cases q : I' a with
    | none => rfl
    | some u =>
      rcases g.i' a u q with z | z
      · rw [s.djI i a ha] at z; cases z
      · obtain ⟨w, hw⟩ := s.dom ha; rw [z] at hw; cases hw
  refine ⟨I', F, R, g.rep, s.heap g.i1 g.sub (fun a ha => ?_) nF (fun a ps h => g.h1 a _ h) (fun a ps h1 h2 => by
    cases q : I' a with
    | none => rfl
    | some u =>
      rcases g.i' a u q with z | z
      · rw [h2] at z; cases z
      · rw [h1] at z; cases z), g.nI, fun a ha hr => ?_, Step.of4 g.i1 (fun a u h _ => g.h1 a u h) (fun a h => ?_) (fun a u h => ?_)⟩
  · obtain ⟨w, hw⟩ := s.domO ha; rw [hw, g.h1 a w hw]
  · obtain ⟨w, hw⟩ := s.domO ha; rw [g.fresh a hr] at hw; cases hw
  · rcases h with h | h
    · exact .inl h
    · exact .inr (g.fresh a h)
  · rcases g.i' a u h with z | z
    · exact .inl z
    · exact .inr (.inr z)
/-- the operation r of HandS does on data what f tells -/
def OpS (K : PySem.W.Frag) (r : List V → Hp → VK → Prop) (f : List PyData → Option O) : Prop :=
  ∀ (vs : List V) (ds : List PyData) (I H : Hp) (Q : VK) (o : O), Same I H → RpSs K I H vs ds → f ds = some o → (∀ v H' I' R, Grow K I H I' H' o v R → Q v H') → r vs H Q
def fOp (f : List PyData → Option O) (as : List AF) : EF := fun env => evA as env >>= fun r => match rsvs r.2 r.1 with
  | none => .no
  | some ds => match f ds with
    | none => .no
    | some o => .ok (o, r.2)
end Dy
namespace Dy
open PySem PySem.Spec PyProof.Rows L2
section
variable {g : G} {X : Cx} {a b c e : Expr} {es : List Expr} {pos : Pos}
theorem op_key {r : List V → Hp → VK → Prop} {f : List PyData → Option O} {as : List AF} {σ : St} {H : Hp} {Q : VK} (ops : OpS g.K r f) (h : tD g (fOp f as) σ H Q) : tA g as σ H fun vs H' => r vs H' Q := by
  obtain ⟨I, env, F, s, p⟩ := h
  refine ⟨I, env, F, s, ?_⟩
  unfold fOp at p
  cases q : evA as env with
  | no => rw [q] at p; exact p
  | er x => rw [q] at p; exact p
  | ok y =>
    rw [q, bind_ok] at p
    cases q2 : rsvs y.2 y.1 with
    | none => rw [q2] at p; exact p.elim
    | some ds =>
      cases q3 : f ds with
      | none => simp only [q2, q3] at p; exact p.elim
      | some o =>
        simp only [q2, q3] at p
        intro vs H' I' F' s' st av
        exact ops vs ds I' H' Q o s'.sub (rsvs_rep s' av q2) q3 fun v H'' I'' R gr => p v H'' (Aft.trans st (gr.aft s'))
def one (r : V → Hp → VK → Prop) : List V → Hp → VK → Prop
  | [x], H, Q => r x H Q
  | _, _, _ => False
def two (r : R2) : List V → Hp → VK → Prop
  | [x, y], H, Q => r x y H Q
  | _, _, _ => False
theorem tA2 {x y : AF} {σ : St} {H : Hp} {R : List V → Hp → Prop} (h : tA g [x, y] σ H R) : tArg g x σ H fun v H1 => tArg g y σ H1 fun u H2 => R [v, u] H2 := by
  have := tA_cons h
  cases x with
  | v f =>
    obtain ⟨I, env, F, s, p⟩ := this
    refine ⟨I, env, F, s, ?_⟩
    cases q : f env with
    | no => rw [q] at p; exact p
    | er x => rw [q] at p; exact p
    | ok r =>
      rw [q] at p
      intro v H1 af
      have p2 := tA_cons (p v H1 af)
      cases y with
      | v f2 =>
        obtain ⟨I2, env2, F2, s2, p3⟩ := p2
        refine ⟨I2, env2, F2, s2, ?_⟩
        cases q2 : f2 env2 with
        | no => rw [q2] at p3; exact p3
        | er x => rw [q2] at p3; exact p3
        | ok r2 => rw [q2] at p3; intro v2 H2 af2; exact tA_nil (p3 v2 H2 af2)
      | s j =>
        obtain ⟨u, hu, p3⟩ := p2
        exact ⟨u, hu, tA_nil p3⟩
  | s i =>
    obtain ⟨v, hv, p⟩ := this
    refine ⟨v, hv, ?_⟩
    have p2 := tA_cons p
    cases y with
    | v f2 =>
      obtain ⟨I2, env2, F2, s2, p3⟩ := p2
      refine ⟨I2, env2, F2, s2, ?_⟩
      cases q2 : f2 env2 with
      | no => rw [q2] at p3; exact p3
      | er x => rw [q2] at p3; exact p3
      | ok r2 => rw [q2] at p3; intro v2 H2 af2; exact tA_nil (p3 v2 H2 af2)
    | s j =>
      obtain ⟨u, hu, p3⟩ := p2
      exact ⟨u, hu, tA_nil p3⟩
theorem tArg_mono {x : AF} {σ : St} {H : Hp} {Q Q' : VK} (h : tArg g x σ H Q) (i : ∀ v H', Q v H' → Q' v H') : tArg g x σ H Q' := by
  cases x with
  | v f =>
    obtain ⟨I, env, F, s, p⟩ := h
    refine ⟨I, env, F, s, ?_⟩
    cases q : f env with
    | no => rw [q] at p; exact p
    | er x => rw [q] at p; exact p
    | ok r => rw [q] at p; exact fun v H' af => i _ _ (p v H' af)
  | s j =>
    obtain ⟨v, hv, q⟩ := h
    exact ⟨v, hv, i _ _ q⟩
theorem tA1 {x : AF} {σ : St} {H : Hp} {R : List V → Hp → Prop} (h : tA g [x] σ H R) : tArg g x σ H fun v H1 => R [v] H1 := tArg_mono (tA_cons h) fun _ _ q => tA_nil q
/-- a built-in function, a built-in type called -/
theorem de_callB {id : String} {x : Str} {p : Pos} {r : List V → Hp → VK → Prop} {f : List PyData → Option O} {as : List AF} (hc : CallR X (.builtin id) r) (ops : OpS g.K r f) (hg : Gl X x) (hm : X.mg x = none) (hv : bootBuiltins x = some (.builtin id)) (ha : DA g X (e :: es) as)
    (hn : x ≠ "__name__" := by decide) (hdb : (x == ("__debug__" : Str)) = false := by decide) (he : starEach (e :: es) X.env = (false, eval e X.env) :: starEach es X.env := by rfl) (hpl : (backTo pos (starEach es X.env)).any (·.1) = false := by rfl) :
    DE g X (.Call (.Name x p) (e :: es) [] pos) (fOp f as) := PE.imp (pe_callB hc hg hm hv ha hn hdb he hpl) fun σ H Q h => op_key ops h
theorem de_callTy {T : String} {x : Str} {p : Pos} {r : List V → Hp → VK → Prop} {f : List PyData → Option O} {as : List AF} (hc : CallR X (.type T) r) (ops : OpS g.K r f) (hg : Gl X x) (hm : X.mg x = none) (hv : bootBuiltins x = some (.type T)) (ha : DA g X (e :: es) as)
    (hn : x ≠ "__name__" := by decide) (hdb : (x == ("__debug__" : Str)) = false := by decide) (he : starEach (e :: es) X.env = (false, eval e X.env) :: starEach es X.env := by rfl) (hpl : (backTo pos (starEach es X.env)).any (·.1) = false := by rfl) :
    DE g X (.Call (.Name x p) (e :: es) [] pos) (fOp f as) := PE.imp (pe_callTy hc hg hm hv ha hn hdb he hpl) fun σ H Q h => op_key ops h
/-- a op b; a cmp b; a[b]; op a -/
theorem de_op {op : Operator} {r : R2} {f : List PyData → Option O} {x y : AF} (ho : OpR X (binaryOp op) r) (ops : OpS g.K (two r) f) (ha : DX g X a x) (hb : DX g X b y) : DE g X (.BinOp a op b pos) (fOp f [x, y]) :=
  PE.imp (pe_op ho ha hb) fun σ H Q h => tA2 (op_key ops h)
theorem de_cmp {op : CmpOp} {r : R2} {f : List PyData → Option O} {x y : AF} (ho : OpR X (compareOp op) r) (ops : OpS g.K (two r) f) (ha : DX g X a x) (hb : DX g X b y) (hm : behindInMarks op b = false) : DE g X (.Compare a [op] [b] pos) (fOp f [x, y]) :=
  PE.imp (pe_cmpR ho ha hb hm) fun σ H Q h => tA2 (op_key ops h)
theorem de_ix {r : R2} {f : List PyData → Option O} {x y : AF} (ho : IxR X r) (ops : OpS g.K (two r) f) (ha : DX g X a x) (hb : DX g X b y) (hs : PlainIx b) : DE g X (.Subscript a b pos) (fOp f [x, y]) :=
  PE.imp (pe_ix ho ha hb hs) fun σ H Q h => tA2 (op_key ops h)
theorem de_un {op : UnaryOp} {r : V → Hp → VK → Prop} {f : List PyData → Option O} {x : AF} (ho : UnR X (unaryOp op) r) (ops : OpS g.K (one r) f) (ha : DX g X a x) : DE g X (.UnaryOp op a pos) (fOp f [x]) :=
  PE.imp (pe_un ho ha) fun σ H Q h => tA1 (op_key ops h)
/-- arguments that are all data -/
def dvs : List AV → Option (List PyData)
  | [] => some []
  | .d x :: as => (dvs as).map (x :: ·)
  | .s _ :: _ => none
theorem dvs_rep {K : PySem.W.Frag} {I : Hp} {σ : St} : ∀ {as : List AV} {vs : List V} {ds : List PyData}, RepAV K I σ as vs → dvs as = some ds → RpAll K I vs ds
  | _, _, _, .nil, h => by cases h; exact .nil
  | _, _, _, .d (as := as) r t, h => by
    unfold dvs at h
    cases q : dvs as with
    | none => rw [q] at h; cases h
    | some es => rw [q] at h; cases h; exact .cons r (dvs_rep t q)
  | _, _, _, .s _ _, h => by cases h
def OpV (K : PySem.W.Frag) (r : List V → Hp → VK → Prop) (f : List PyData → Option O) : Prop :=
  ∀ (vs : List V) (ds : List PyData) (I H : Hp) (Q : VK) (o : O), Same I H → RpAll K I vs ds → f ds = some o → (∀ v H' I' R, Grow K I H I' H' o v R → Q v H') → r vs H Q
def fOv (f : List PyData → Option O) (as : List AF) : EF := fun env => evA as env >>= fun r => match dvs r.1 with
  | none => .no
  | some ds => match f ds with
    | none => .no
    | some o => .ok (o, r.2)
theorem ov_key {r : List V → Hp → VK → Prop} {f : List PyData → Option O} {as : List AF} {σ : St} {H : Hp} {Q : VK} (ops : OpV g.K r f) (h : tD g (fOv f as) σ H Q) : tA g as σ H fun vs H' => r vs H' Q := by
  obtain ⟨I, env, F, s, p⟩ := h
  refine ⟨I, env, F, s, ?_⟩
  unfold fOv at p
  cases q : evA as env with
  | no => rw [q] at p; exact p
  | er x => rw [q] at p; exact p
  | ok y =>
    rw [q, bind_ok] at p
    cases q2 : dvs y.1 with
    | none => rw [q2] at p; exact p.elim
    | some ds =>
      cases q3 : f ds with
      | none => simp only [q2, q3] at p; exact p.elim
      | some o =>
        simp only [q2, q3] at p
        intro vs H' I' F' s' st av
        exact ops vs ds I' H' Q o s'.sub (dvs_rep av q2) q3 fun v H'' I'' R gr => p v H'' (Aft.trans st (gr.aft s'))
/-- displays -/
def pTup (ds : List PyData) : Option O := if ds.length ≤ 100000 then some (.fr (.tuple ds)) else none
def pLst (ds : List PyData) : Option O := if ds.length ≤ 100000 then some (.ol ds) else none
theorem ov_tup {K : PySem.W.Frag} : OpV K (fun xs H1 Q => xs.length ≤ sizeLine ∧ ∀ p, H1 p = none → Q (.ref p) (upd H1 p (.tup xs))) pTup := fun vs ds I H Q o s r e k => by
  unfold pTup at e
  by_cases hz : ds.length ≤ 100000
  · rw [if_pos hz] at e; cases e
    exact ⟨by rw [r.length]; exact Nat.le_trans hz (by decide), fun p np => k _ _ _ _ (Grow.tup s np r)⟩
  · rw [if_neg hz] at e; cases e
theorem ov_lst {K : PySem.W.Frag} : OpV K (fun xs H1 Q => xs.length ≤ sizeLine ∧ ∀ p, H1 p = none → Q (.ref p) (upd H1 p (.lst xs))) pLst := fun vs ds I H Q o s r e k => by
  unfold pLst at e
  by_cases hz : ds.length ≤ 100000
  · rw [if_pos hz] at e; cases e
    exact ⟨by rw [r.length]; exact Nat.le_trans hz (by decide), fun p np => k _ _ _ _ (Grow.lst s np r)⟩
  · rw [if_neg hz] at e; cases e
theorem de_tup {x1} {as : List AF} (h : DA g X es as) : DE g X (.Tuple es x1 pos) (fOv pTup as) := PE.imp (pe_tup h) fun σ H Q q => ov_key ov_tup q
theorem de_lst {as : List AF} (h : DA g X es as) : DE g X (.List es pos) (fOv pLst as) := PE.imp (pe_lst h) fun σ H Q q => ov_key ov_lst q
/-- (a, *b) -/
def seqOf : PyData → Option (List PyData)
  | .list xs => some xs
  | .tuple xs => some xs
  | _ => none
def on1 (f : PyData → Option O) : List PyData → Option O
  | [a] => f a
  | _ => none
def on2 (f : PyData → PyData → Option O) : List PyData → Option O
  | [a, b] => f a b
  | _ => none
theorem ops1 {K : PySem.W.Frag} {r : V → Hp → VK → Prop} {f : PyData → Option O} (h : ∀ (v : V) (d : PyData) (I H : Hp) (Q : VK) (o : O), Same I H → RpS K I H v d → f d = some o → (∀ v H' I' R, Grow K I H I' H' o v R → Q v H') → r v H Q) : OpS K (one r) (on1 f) := by
  intro vs ds I H Q o s q e k
  match vs, ds, q with
  | _, _, .nil => simp [on1] at e
  | _, _, .cons q1 .nil => exact h _ _ I H Q o s q1 e k
  | _, _, .cons _ (.cons _ _) => simp [on1] at e
theorem ops2 {K : PySem.W.Frag} {r : R2} {f : PyData → PyData → Option O} (h : ∀ (v u : V) (d e : PyData) (I H : Hp) (Q : VK) (o : O), Same I H → RpS K I H v d → RpS K I H u e → f d e = some o → (∀ v H' I' R, Grow K I H I' H' o v R → Q v H') → r v u H Q) : OpS K (two r) (on2 f) := by
  intro vs ds I H Q o s q e k
  match vs, ds, q with
  | _, _, .nil => simp [on2] at e
  | _, _, .cons _ .nil => simp [on2] at e
  | _, _, .cons q1 (.cons q2 .nil) => exact h _ _ _ _ I H Q o s q1 q2 e k
  | _, _, .cons _ (.cons _ (.cons _ _)) => simp [on2] at e
def isL : PyData → Bool
  | .list _ => true
  | .dict _ => true
  | _ => false
def pStar (d x : PyData) : Option O := if isL d then none else match seqOf x with
  | some xs => if xs.length < 100000 then some (.fr (.tuple (d :: xs))) else none
  | none => none
theorem rps_rp {K : PySem.W.Frag} {I H : Hp} {v : V} {d : PyData} (h : RpS K I H v d) (n : isL d = false) : Rp K I v d := by
  rcases h with h | ⟨a, vs, ds, rfl, rfl, h1, h2⟩ | ⟨a, es, rfl, rfl, h1⟩
  · exact h
  · cases n
  · cases n
theorem rps_seq {K : PySem.W.Frag} {I H : Hp} {v : V} {d : PyData} {xs : List PyData} (s : Same I H) (h : RpS K I H v d) (e : seqOf d = some xs) : ∃ p vs, v = .ref p ∧ (SqT K H p vs ∨ SqL K H p vs) ∧ RpAll K I vs xs := by
  rcases h with h | ⟨a, vs, ds, rfl, rfl, h1, h2⟩ | ⟨a, es, rfl, rfl, h1⟩
  · cases h with
    | lst h1 h2 => cases e; exact ⟨_, _, rfl, .inr (h1.mono s).sq, h2⟩
    | tup h1 h2 => cases e; exact ⟨_, _, rfl, .inl (same_t s h1), h2⟩
    | non => cases e
    | bl => cases e
    | int => cases e
    | str => cases e
    | dic => cases e
    | dit => cases e
  · cases e; exact ⟨_, _, rfl, .inr (SqL.of h1), h2⟩
  · cases e
end
end Dy
namespace Dy
open PySem PySem.Spec PyProof.Rows L2
theorem post_bind {α β : Type} {r : Res α} {k : α → Res β} {P : β → Prop} {E : Exn → Prop} : (r >>= k).post P E ↔ r.post (fun a => (k a).post P E) E := by
  cases r <;> exact Iff.rfl
theorem post_mono {α : Type} {r : Res α} {P P' : α → Prop} {E E' : Exn → Prop} (h : r.post P E) (hp : ∀ a, P a → P' a) (he : ∀ x, E x → E' x) : r.post P' E' := by
  cases r with
  | ok a => exact hp a h
  | er x => exact he x h
  | no => exact h
section
variable {g : G} {X : Cx} {a b c e : Expr} {es : List Expr} {pos : Pos} {σ : St} {H I : Hp} {env : Env} {F : Nat → List Addr}
theorem tD_seq {f : EF} {β : Type} {k : O × Env → Res β} {P : β → Prop} {Q : VK} (s : Sim g.K g.pn I H σ env F) (p : (f env >>= k).post P (g.err I H F))
    (h : ∀ r v H1, Aft g.K g.pn I H F σ r.2 r.1 v H1 → (k r).post P (g.err I H F) → Q v H1) : tD g f σ H Q :=
  ⟨I, env, F, s, post_mono (post_bind.mp p) (fun r q v H1 af => h r v H1 af q) fun _ z => z⟩
theorem tT_seq {f : TF} {β : Type} {k : Bool × Env → Res β} {P : β → Prop} {Q : Bool → Hp → Prop} (s : Sim g.K g.pn I H σ env F) (p : (f env >>= k).post P (g.err I H F))
    (h : ∀ r H1, AftS g.K g.pn I H F σ r.2 H1 → (k r).post P (g.err I H F) → Q r.1 H1) : tT g f σ H Q :=
  ⟨I, env, F, s, post_mono (post_bind.mp p) (fun r q H1 af => h r H1 af q) fun _ z => z⟩
def fB (f : EF) : TF := fun env => f env >>= fun r => match r.1 with
  | .fr (.bool b) => .ok (b, r.2)
  | _ => .no
theorem tB_key {f : EF} {Q : Bool → Hp → Prop} (h : tT g (fB f) σ H Q) : tD g f σ H fun x H1 => ∃ k, x = .bl k ∧ Q k H1 := by
  obtain ⟨I, env, F, s, p⟩ := h
  refine tD_seq s p fun r v H1 af q => ?_
  obtain ⟨o, e⟩ := r
  cases o with
  | ol _ => exact q.elim
  | oo _ => exact q.elim
  | od _ => exact q.elim
  | fr d =>
    cases d with
    | bool b =>
      obtain ⟨I', F', rp, s', st⟩ := af.frz
      cases rp
      exact ⟨b, rfl, q H1 ⟨I', F', s', st⟩⟩
    | _ => exact q.elim
theorem dt_val {f : EF} (h : DE g X e f) (he : ∀ whole, isTrue e X.env whole = (do let v ← whole; standAt e.pos; holding [v] (truthy v)) := by intro _; rfl) : DT g X e (fB f) :=
  PT.imp (pt_val h he) fun σ H Q q => tB_key q
theorem dt_cmp {op : CmpOp} {r : R2} {f : List PyData → Option O} {x y : AF} (ho : OpR X (compareOp op) r) (ops : OpS g.K (two r) f) (ha : DX g X a x) (hb : DX g X b y) (hm : behindInMarks op b = false) : DT g X (.Compare a [op] [b] pos) (fB (fOp f [x, y])) :=
  PT.imp (pt_cmpR ho ha hb hm) fun σ H Q h => tA2 (op_key ops (tB_key h))
def fNot (t : TF) : TF := fun env => t env >>= fun r => .ok (!r.1, r.2)
theorem dt_not {t : TF} (h : DT g X a t) : DT g X (.UnaryOp .Not a pos) (fNot t) := PT.imp (pt_not h) fun σ H Q q => by
  obtain ⟨I, env, F, s, p⟩ := q
  exact tT_seq s p fun r H1 af q => q H1 af
def fAndT (t u : TF) : TF := fun env => t env >>= fun r => if r.1 = true then u r.2 else .ok (false, r.2)
def fOrT (t u : TF) : TF := fun env => t env >>= fun r => if r.1 = true then .ok (true, r.2) else u r.2
theorem AftS.go {P : Prop} {H1 : Hp} {env' : Env} (af : AftS g.K g.pn I H F σ env' H1) (h : ∀ I1 F1, Sim g.K g.pn I1 H1 σ env' F1 → Step I H (Ow F) I1 H1 (Ow F1) → P) : P := let ⟨I1, F1, s, st⟩ := af; h I1 F1 s st
theorem dw_and1 {t : TF} (h : DT g X a t) : DW g X (.BoolOp .And [a] pos) t := pw_and1 h
theorem dw_or1 {t : TF} (h : DT g X a t) : DW g X (.BoolOp .Or [a] pos) t := pw_or1 h
theorem tT_again {u : TF} {Q : Bool → Hp → Prop} {H1 : Hp} {env' : Env} (af : AftS g.K g.pn I H F σ env' H1) (p : (u env').post (fun r => ∀ H', AftS g.K g.pn I H F σ r.2 H' → Q r.1 H') (g.err I H F)) : tT g u σ H1 Q :=
  af.go fun I1 F1 s1 st => ⟨I1, env', F1, s1, post_mono p (fun r q H' af' => q H' (AftS.trans st af')) fun x z => err_step st z⟩
theorem tD_again {f : EF} {Q : VK} {H1 : Hp} {env' : Env} (af : AftS g.K g.pn I H F σ env' H1) (p : (f env').post (fun r => ∀ v H', Aft g.K g.pn I H F σ r.2 r.1 v H' → Q v H') (g.err I H F)) : tD g f σ H1 Q :=
  af.go fun I1 F1 s1 st => ⟨I1, env', F1, s1, post_mono p (fun r q v H' af' => q v H' (Aft.trans st af')) fun x z => err_step st z⟩
theorem dw_and {t u : TF} (ha : DT g X a t) (hb : DW g X (.BoolOp .And (b :: es) pos) u) : DW g X (.BoolOp .And (a :: b :: es) pos) (fAndT t u) := PW.imp (pw_and ha hb) fun σ H Q h => by
  obtain ⟨I, env, F, s, p⟩ := h
  refine tT_seq s p fun r H1 af q => ?_
  by_cases hr : r.1 = true
  · rw [if_pos hr] at q ⊢; exact tT_again af q
  · rw [if_neg hr] at q ⊢; exact q H1 af
theorem dw_or {t u : TF} (ha : DT g X a t) (hb : DW g X (.BoolOp .Or (b :: es) pos) u) : DW g X (.BoolOp .Or (a :: b :: es) pos) (fOrT t u) := PW.imp (pw_or ha hb) fun σ H Q h => by
  obtain ⟨I, env, F, s, p⟩ := h
  refine tT_seq s p fun r H1 af q => ?_
  by_cases hr : r.1 = true
  · rw [if_pos hr] at q ⊢; exact q H1 af
  · rw [if_neg hr] at q ⊢; exact tT_again af q
theorem dw_t {t : TF} (h : DW g X e t) : DT g X e t := PW.pt h
def fAnd (f k : EF) : EF := fun env => fB f env >>= fun r => if r.1 = true then k r.2 else .ok (.fr (.bool false), r.2)
def fOr (f k : EF) : EF := fun env => fB f env >>= fun r => if r.1 = true then .ok (.fr (.bool true), r.2) else k r.2
theorem de_one {op} {f : EF} (h : DE g X a f) : DE g X (.BoolOp op [a] pos) f := pe_one h
theorem tB_seq {f : EF} {β : Type} {k : Bool × Env → Res β} {P : β → Prop} {Q : VK} (s : Sim g.K g.pn I H σ env F) (p : (fB f env >>= k).post P (g.err I H F))
    (h : ∀ r H1, AftS g.K g.pn I H F σ r.2 H1 → (k r).post P (g.err I H F) → Q (.bl r.1) H1) : tD g f σ H Q := by
  refine tD_seq (k := fun r => (match r.1 with | .fr (.bool b) => Res.ok (b, r.2) | _ => .no) >>= k) s (by
    unfold fB at p
    rw [post_bind] at p ⊢
    rw [post_bind] at p
    exact post_mono p (fun r q => post_bind.mpr q) fun _ z => z) fun r v H1 af q => ?_
  obtain ⟨o, e⟩ := r
  cases o with
  | ol _ => exact q.elim
  | oo _ => exact q.elim
  | od _ => exact q.elim
  | fr d =>
    cases d with
    | bool b =>
      obtain ⟨I', F', rp, s', st⟩ := af.frz
      cases rp
      exact h (b, e) H1 ⟨I', F', s', st⟩ q
    | _ => exact q.elim
theorem rbl {K : PySem.W.Frag} {I : Hp} {b : Bool} : Rp K I (.bl b) (.bool b) := .bl b
theorem AftS.val {H1 : Hp} {env' : Env} {d : PyData} {v : V} (af : AftS g.K g.pn I H F σ env' H1) (r : ∀ I, Rp g.K I v d) : Aft g.K g.pn I H F σ env' (.fr d) v H1 :=
  af.go fun I1 F1 s1 st => AftD.aft ⟨I1, F1, r I1, s1, st⟩
theorem de_and {f k : EF} (ha : DE g X a f) (hb : DE g X (.BoolOp .And (b :: es) pos) k) : DE g X (.BoolOp .And (a :: b :: es) pos) (fAnd f k) := PE.imp (pe_and ha hb) fun σ H Q h => by
  obtain ⟨I, env, F, s, p⟩ := h
  refine tB_seq s p fun r H1 af q => ⟨r.1, rfl, ?_⟩
  by_cases hr : r.1 = true
  · rw [if_pos hr] at q ⊢; exact tD_again af q
  · rw [if_neg hr] at q ⊢; exact q _ H1 (af.val fun _ => rbl)
def fNotV (f : EF) : EF := fun env => fB f env >>= fun r => .ok (.fr (.bool (!r.1)), r.2)
theorem de_not {f : EF} (ha : DE g X a f) : DE g X (.UnaryOp .Not a pos) (fNotV f) := PE.imp (pe_not ha) fun σ H Q h => by
  obtain ⟨I, env, F, s, p⟩ := h
  exact tB_seq s p fun r H1 af q => ⟨r.1, rfl, q _ H1 (af.val fun _ => rbl)⟩
def fIf (t : TF) (f k : EF) : EF := fun env => t env >>= fun r => if r.1 = true then f r.2 else k r.2
theorem de_if {t : TF} {f k : EF} (hc : DT g X c t) (ha : DE g X a f) (hb : DE g X b k) : DE g X (.IfExp c a b pos) (fIf t f k) := PE.imp (pe_ifExp hc ha hb) fun σ H Q h => by
  obtain ⟨I, env, F, s, p⟩ := h
  refine tT_seq s p fun r H1 af q => ?_
  by_cases hr : r.1 = true
  · rw [if_pos hr] at q ⊢; exact tD_again af q
  · rw [if_neg hr] at q ⊢; exact tD_again af q
/-- a < b < c of ints -/
def ints2 : Option (List PyData) → Option (Int × Int)
  | some [.int i, .int j] => some (i, j)
  | _ => none
def ints1 : Option (List PyData) → Option Int
  | some [.int i] => some i
  | _ => none
theorem ints2_inv {x : Option (List PyData)} {i j : Int} (h : ints2 x = some (i, j)) : x = some [.int i, .int j] := by
  unfold ints2 at h
  split at h
  · cases h; rfl
  · cases h
theorem ints1_inv {x : Option (List PyData)} {i : Int} (h : ints1 x = some i) : x = some [.int i] := by
  unfold ints1 at h
  split at h
  · cases h; rfl
  · cases h
def fChI (c1 c2 : Int → Int → Bool) (x y z : AF) : EF := fun env => evA [x, y] env >>= fun r => match ints2 (rsvs r.2 r.1) with
  | some ij => if c1 ij.1 ij.2 = true then evA [z] r.2 >>= fun q => match ints1 (rsvs q.2 q.1) with
      | some k => .ok (.fr (.bool (c2 ij.2 k)), q.2)
      | none => .no
    else .ok (.fr (.bool false), r.2)
  | none => .no
theorem rpss_int {K : PySem.W.Frag} {I H : Hp} {v : V} {i : Int} (h : RpS K I H v (.int i)) : v = .int i := by
  rcases h with h | ⟨_, _, _, _, e, _⟩ | ⟨_, _, _, e, _⟩
  · cases h; rfl
  · cases e
  · cases e
theorem ch_key {c1 c2 : Int → Int → Bool} {x y z : AF} {Q : VK} (h : tD g (fChI c1 c2 x y z) σ H Q) : tArg g x σ H fun v H1 => tArg g y σ H1 fun u H2 => rI0 (fun i j => .bl (c1 i j)) v u H2 fun w H3 => ∃ k, w = .bl k ∧
    (if k = true then tArg g z σ H3 fun w' H4 => rI0 (fun i j => .bl (c2 i j)) u w' H4 Q else Q (.bl false) H3) := by
  obtain ⟨I, env, F, s, p⟩ := h
  have key : tA g [x, y] σ H (fun vs H2 => ∃ v u, vs = [v, u] ∧ rI0 (fun i j => .bl (c1 i j)) v u H2 fun w H3 => ∃ k, w = .bl k ∧ (if k = true then tArg g z σ H3 fun w' H4 => rI0 (fun i j => .bl (c2 i j)) u w' H4 Q else Q (.bl false) H3)) := by
    refine ⟨I, env, F, s, post_mono (post_bind.mp p) (fun r q vs H' I' F' s' st av => ?_) fun _ z => z⟩
    cases q2 : ints2 (rsvs r.2 r.1) with
    | none => simp only [q2] at q; exact q.elim
    | some ij =>
      obtain ⟨i, j⟩ := ij
      simp only [q2] at q
      have rr := rsvs_rep s' av (ints2_inv q2)
      match vs, rr with
      | _, .cons r1 (.cons r2 .nil) =>
        cases rpss_int r1
        cases rpss_int r2
        refine ⟨_, _, rfl, i, j, rfl, rfl, c1 i j, rfl, ?_⟩
        by_cases hc : c1 i j = true
        · rw [if_pos hc] at q ⊢
          refine tArg_mono (tA1 (R := fun vs H4 => ∃ w', vs = [w'] ∧ rI0 (fun i j => .bl (c2 i j)) (V.int j) w' H4 Q) ⟨I', r.2, F', s', post_mono (post_bind.mp q) (fun r3 q3 vs3 H3 I3 F3 s3 st3 av3 => ?_) fun x zz => err_step st zz⟩) fun w' H4 ⟨_, e4, q4⟩ => by cases e4; exact q4
          cases q5 : ints1 (rsvs r3.2 r3.1) with
          | none => simp only [q5] at q3; exact q3.elim
          | some k =>
            simp only [q5] at q3
            have rr3 := rsvs_rep s3 av3 (ints1_inv q5)
            match vs3, rr3 with
            | _, .cons r1 .nil =>
              cases rpss_int r1
              exact ⟨_, rfl, j, k, rfl, rfl, q3 _ H3 (AftS.val ⟨I3, F3, s3, st.trans st3⟩ fun _ => rbl)⟩
        · rw [if_neg hc] at q ⊢
          exact q _ H' (AftS.val ⟨I', F', s', st⟩ fun _ => rbl)
  refine tArg_mono (tA2 key) fun v H1 q => tArg_mono q fun u H2 q => ?_
  obtain ⟨v', u', e, q⟩ := q
  cases e
  exact q
theorem de_chI {op op' : CmpOp} {c1 c2 : Int → Int → Bool} {x y z : AF} (ho : OpR X (compareOp op) (rI0 fun i j => .bl (c1 i j))) (ho' : OpR X (compareOp op') (rI0 fun i j => .bl (c2 i j))) (h : ∀ {ta tb tc : TE}, PE X a ta → PE X b tb → PE X c tc → PE X e (tChain (rI0 fun i j => .bl (c1 i j)) (rI0 fun i j => .bl (c2 i j)) ta tb tc))
    (ha : DX g X a x) (hb : DX g X b y) (hc : DX g X c z) : DE g X e (fChI c1 c2 x y z) := PE.imp (h ha hb hc) fun σ H Q q => ch_key q
theorem dt_chI {c1 c2 : Int → Int → Bool} {x y z : AF} (h : ∀ {ta tb tc : TE}, PE X a ta → PE X b tb → PE X c tc → PT X e (tTest (tChain (rI0 fun i j => .bl (c1 i j)) (rI0 fun i j => .bl (c2 i j)) ta tb tc)))
    (ha : DX g X a x) (hb : DX g X b y) (hc : DX g X c z) : DT g X e (fB (fChI c1 c2 x y z)) := PT.imp (h ha hb hc) fun σ H Q q => ch_key (tB_key q)
variable {st : Stmt} {rest : List Stmt} {D : Ends}
theorem FlP_step {I1 H1 : Hp} {F1 : Nat → List Addr} {r : Fl × Env} (st : Step I H (Ow F) I1 H1 (Ow F1)) (h : FlP g D I H F r) : FlP g D I1 H1 F1 r := by
  obtain ⟨fl, e⟩ := r
  cases fl with
  | nx => exact fun σ' H' af => h σ' H' (AftS.trans st af)
  | bk => exact fun σ' H' af => h σ' H' (AftS.trans st af)
  | ct => exact fun σ' H' af => h σ' H' (AftS.trans st af)
  | rt o => exact fun v σ' H' af => h v σ' H' (Aft.trans st af)
def fSeq (s t : SF) : SF := fun env => s env >>= fun r => match r.1 with
  | .nx => t r.2
  | _ => .ok r
def fSkip : SF := fun env => .ok (.nx, env)
def fNo : SF := fun _ => .no
theorem dss_nil : DSs g X [] fSkip := PSs.imp pss_nil fun D σ H h => by
  obtain ⟨I, env, F, s, p⟩ := h
  exact p σ H ⟨I, F, s, Step.refl⟩
theorem dss_one {f : SF} (h : DS g X st f) : DSs g X [st] f := pss_one h
theorem tS_again {f : SF} {σ' : St} {H1 : Hp} {env' : Env} (af : AftS g.K g.pn I H F σ' env' H1) (p : (f env').post (FlP g D I H F) (g.err I H F)) : tS g f D σ' H1 := by
  obtain ⟨I1, F1, s, st⟩ := af
  exact ⟨I1, env', F1, s, post_mono p (fun r q => FlP_step st q) fun x z => err_step st z⟩
theorem dss_cons {f k : SF} (h1 : DS g X st f) (h2 : DSs g X rest k) : DSs g X (st :: rest) (fSeq f k) := PSs.imp (pss_cons h1 h2) fun D σ H h => by
  obtain ⟨I, env, F, s, p⟩ := h
  refine ⟨I, env, F, s, post_mono (post_bind.mp p) (fun r q => ?_) fun _ z => z⟩
  obtain ⟨fl, e⟩ := r
  cases fl with
  | nx => exact fun σ' H' af => tS_again af q
  | bk => exact q
  | ct => exact q
  | rt o => exact q
theorem ds_never : DS g X st fNo := PS.imp ps_never fun D σ H h => let ⟨_, _, _, _, p⟩ := h; p
def fRet (f : EF) : SF := fun env => f env >>= fun r => .ok (.rt r.1, r.2)
theorem ds_ret {f : EF} (h : DE g X e f) : DS g X (.Return (some e) pos) (fRet f) := PS.imp (ps_ret h) fun D σ H h => by
  obtain ⟨I, env, F, s, p⟩ := h
  exact tD_seq s p fun r v H1 af q => q v σ H1 af
def fEx (f : EF) : SF := fun env => f env >>= fun r => .ok (.nx, r.2)
theorem ds_expr {f : EF} (h : DE g X e f) (hs : swapsWith e none pos.line X.env = pure false := by rfl) : DS g X (.Expr e pos) (fEx f) := PS.imp (ps_expr h hs) fun D σ H h => by
  obtain ⟨I, env, F, s, p⟩ := h
  exact tD_seq s p fun r v H1 af q => q σ H1 af.frz.toS
def fIfS (t : TF) (f k : SF) : SF := fun env => t env >>= fun r => if r.1 = true then f r.2 else k r.2
theorem ds_if {t : TF} {f k : SF} {s1 s2 : List Stmt} (hc : DT g X c t) (ha : DSs g X s1 f) (hb : DSs g X s2 k) : DS g X (.If c s1 s2 pos) (fIfS t f k) := PS.imp (ps_if hc ha hb) fun D σ H h => by
  obtain ⟨I, env, F, s, p⟩ := h
  refine tT_seq s p fun r H1 af q => ?_
  by_cases hr : r.1 = true
  · rw [if_pos hr] at q ⊢; exact tS_again af q
  · rw [if_neg hr] at q ⊢; exact tS_again af q
theorem ow_up {i : Nat} {R : List Addr} {x : Addr} (h : Ow (upF F i R) x) : Ow F x ∨ x ∈ R := by
  obtain ⟨j, hj⟩ := h
  by_cases e : j = i
  · subst e; rw [upF_same] at hj; exact .inr hj
  · rw [upF_ne e] at hj; exact .inl ⟨j, hj⟩
/-- what an expression gave is stored in slot i -/
theorem Aft.store {i : Nat} {o : O} {v : V} {H1 : Hp} {env' : Env} (hi : i < env'.length) (hp : i ∉ g.pn.1) (af : Aft g.K g.pn I H F σ env' o v H1) : AftS g.K g.pn I H F (σ.set i (some v)) (env'.set i (some o)) H1 := by
  obtain ⟨I', F', R, r, s, nR, dR, st⟩ := af
  refine ⟨I', upF F' i R, s.put hi (Same.refl _) s.sub (fun _ _ _ _ => rfl) (fun j _ a ha => s.djI j a ha) nR (fun j _ a ha => dR a ⟨j, ha⟩) (fun o' e => ?_) (fun e => by cases e) (fun h => absurd h hp), st.less fun a ha => ow_up ha⟩
  cases e; exact ⟨v, rfl, r⟩
def fSet (i : Nat) (f : EF) : SF := fun env => f env >>= fun r => if i < r.2.length then .ok (.nx, r.2.set i (some r.1)) else .no
theorem set_key {i : Nat} {f : EF} (hp : i ∉ g.pn.1) (h : tS g (fSet i f) D σ H) : tAsg (tD g f) (gName i) D σ H := by
  obtain ⟨I, env, F, s, p⟩ := h
  refine tD_seq s p fun r v H1 af q => ?_
  by_cases hi : i < r.2.length
  · rw [if_pos hi] at q; exact q _ _ (af.store hi hp)
  · rw [if_neg hi] at q; exact q.elim
theorem ds_set {i : Nat} {x : Str} {f : EF} {pos' : Pos} (hN : X.N.Nodup) (hi : X.N[i]? = some x) (hx : Loc X.env.scope x) (hp : i ∉ g.pn.1) (he : DE g X e f) (hs : swapsWith e (some (.Name x pos')) pos.line X.env = pure false := by rfl)
    (hf : X.fn x = true ∨ X.env.scope.names.lookup x = some .local := by first | exact .inl rfl | exact .inr rfl | assumption) : DS g X (.Assign [.Name x pos'] e pos) (fSet i f) := PS.imp (ps_set hN hi hx he hs hf) fun D σ H h => set_key hp h
inductive T1 where
  | n (i : Nat)
  | t (is : List Nat)
def T1.slots : T1 → List Nat
  | .n i => [i]
  | .t is => is
inductive Tg where
  | nm (i : Nat)
  | tu (is : List Nat)
  | tl (is : List Nat)
  | tw (ts : List T1)
def gNames : List Nat → TGs
  | [] => gNil
  | i :: is => gCons (gName i) (gNames is)
def gW (K : PySem.W.Frag) : List T1 → TGs
  | [] => gNil
  | .n i :: ts => gCons (gName i) (gW K ts)
  | .t is :: ts => gCons (gTup K is.length (gNames is)) (gW K ts)
def rdT (K : PySem.W.Frag) : Tg → TG
  | .nm i => gName i
  | .tu is => gTup K is.length (gNames is)
  | .tl is => gUnl K is.length (gNames is)
  | .tw ts => gTup K ts.length (gW K ts)
def Tg.slots : Tg → List Nat
  | .nm i => [i]
  | .tu is => is
  | .tl is => is
  | .tw ts => ts.flatMap T1.slots
def setAll : List Nat → List PyData → Env → Option Env
  | [], [], e => some e
  | i :: is, d :: ds, e => if i < e.length then setAll is ds (e.set i (some (.fr d))) else none
  | _, _, _ => none
def setW : List T1 → List PyData → Env → Option Env
  | [], [], e => some e
  | .n i :: ts, d :: ds, e => if i < e.length then setW ts ds (e.set i (some (.fr d))) else none
  | .t is :: ts, .tuple xs :: ds, e => match setAll is xs e with
    | some e' => setW ts ds e'
    | none => none
  | _, _, _ => none
def asT : Tg → PyData → Env → Res Env
  | .nm i, d, e => ofO (setAll [i] [d] e)
  | .tu is, .tuple ds, e => ofO (setAll is ds e)
  | .tl is, .list ds, e => ofO (setAll is ds e)
  | .tw ts, .tuple ds, e => ofO (setW ts ds e)
  | _, _, _ => .no
/-- σ' is σ but for some slots -/
def Only' (is : List Nat) (σ σ' : St) : Prop := σ'.length = σ.length ∧ ∀ i, i ∉ is → σ'[i]? = σ[i]?
theorem names_key : ∀ (is : List Nat) {vs : List V} {ds : List PyData} {σ : St} {env env' : Env} {F : Nat → List Addr} {I H : Hp} {Q : St → Hp → Prop}, (∀ i ∈ is, i ∉ g.pn.1) → Sim g.K g.pn I H σ env F → RpAll g.K I vs ds → setAll is ds env = some env' →
    (∀ σ' F', Only' is σ σ' → Sim g.K g.pn I H σ' env' F' → (∀ a, Ow F' a → Ow F a) → Q σ' H) → gNames is vs σ H Q
  | [], _, _, σ, env, env', F, I, H, Q, _, s, .nil, e, k => by cases e; exact ⟨rfl, k σ F ⟨rfl, fun _ _ => rfl⟩ s fun _ z => z⟩
  | [], _, _, _, _, _, _, _, _, _, _, _, .cons _ _, e, _ => by cases e
  | _ :: _, _, _, _, _, _, _, _, _, _, _, _, .nil, e, _ => by cases e
  | i :: is, _, _, σ, env, env', F, I, H, Q, hp, s, .cons (v := v) (d := d) r t, e, k => by
    unfold setAll at e
    by_cases hi : i < env.length
    · rw [if_pos hi] at e
      refine ⟨v, _, rfl, ?_⟩
      have s1 : Sim g.K g.pn I H (σ.set i (some v)) (env.set i (some (.fr d))) (upF F i []) := s.put hi (Same.refl _) s.sub (fun _ _ _ _ => rfl) (fun j _ a ha => s.djI j a ha) (fun _ h => nomatch h) (fun _ _ _ _ h => nomatch h) (fun o e => by cases e; exact ⟨v, rfl, rfl, r⟩) (fun e => by cases e) (fun h => absurd h (hp i (by simp)))
      refine names_key is (fun j hj => hp j (by simp [hj])) s1 t e fun σ' F' ho s' hF => k σ' F' ⟨by rw [ho.1, List.length_set], fun j hj => ?_⟩ s' fun a ha => ?_
      · simp only [List.mem_cons, not_or] at hj
        rw [ho.2 j hj.2, List.getElem?_set_ne (Ne.symm hj.1)]
      · rcases ow_up (hF a ha) with z | z
        · exact z
        · cases z
    · rw [if_neg hi] at e; cases e
theorem setAll_len : ∀ (is : List Nat) (ds : List PyData) (a b : Env), setAll is ds a = some b → ds.length = is.length := by
  intro is
  induction is with
  | nil => intro ds a b h; cases ds <;> simp [setAll] at h ⊢
  | cons i is ih =>
    intro ds a b h
    cases ds with
    | nil => simp [setAll] at h
    | cons d ds =>
      unfold setAll at h
      split at h
      · simp [ih _ _ _ h]
      · cases h
theorem setW_len : ∀ (ts : List T1) (ds : List PyData) (a b : Env), setW ts ds a = some b → ds.length = ts.length
  | [], [], _, _, _ => rfl
  | [], _ :: _, _, _, h => by simp [setW] at h
  | .n i :: ts, [], _, _, h => by simp [setW] at h
  | .t is :: ts, [], _, _, h => by simp [setW] at h
  | .n i :: ts, d :: ds, a, b, h => by
    unfold setW at h
    split at h
    · simp [setW_len ts ds _ _ h]
    · cases h
  | .t is :: ts, d :: ds, a, b, h => by
    cases d with
    | tuple xs =>
      simp only [setW] at h
      split at h
      · simp [setW_len ts ds _ _ h]
      · cases h
    | _ => simp [setW] at h
theorem w_key : ∀ (ts : List T1) {vs : List V} {ds : List PyData} {σ : St} {env env' : Env} {F : Nat → List Addr} {I H : Hp} {Q : St → Hp → Prop}, (∀ i ∈ ts.flatMap T1.slots, i ∉ g.pn.1) → Sim g.K g.pn I H σ env F → RpAll g.K I vs ds → setW ts ds env = some env' →
    (∀ σ' F', Only' (ts.flatMap T1.slots) σ σ' → Sim g.K g.pn I H σ' env' F' → (∀ a, Ow F' a → Ow F a) → Q σ' H) → gW g.K ts vs σ H Q
  | [], _, _, σ, env, env', F, I, H, Q, _, s, .nil, e, k => by cases e; exact ⟨rfl, k σ F ⟨rfl, fun _ _ => rfl⟩ s fun _ z => z⟩
  | [], _, _, _, _, _, _, _, _, _, _, _, .cons _ _, e, _ => by cases e
  | .n _ :: _, _, _, _, _, _, _, _, _, _, _, _, .nil, e, _ => by cases e
  | .t _ :: _, _, _, _, _, _, _, _, _, _, _, _, .nil, e, _ => by cases e
  | .n i :: ts, _, _, σ, env, env', F, I, H, Q, hp, s, .cons (v := v) (d := d) r t, e, k => by
    unfold setW at e
    by_cases hi : i < env.length
    · rw [if_pos hi] at e
      refine ⟨v, _, rfl, ?_⟩
      have s1 : Sim g.K g.pn I H (σ.set i (some v)) (env.set i (some (.fr d))) (upF F i []) := s.put hi (Same.refl _) s.sub (fun _ _ _ _ => rfl) (fun j _ a ha => s.djI j a ha) (fun _ h => nomatch h) (fun _ _ _ _ h => nomatch h) (fun o e => by cases e; exact ⟨v, rfl, rfl, r⟩) (fun e => by cases e) (fun h => absurd h (hp i (by simp [T1.slots])))
      refine w_key ts (fun j hj => hp j (by rw [List.flatMap_cons]; exact List.mem_append_right _ hj)) s1 t e fun σ' F' ho s' hF => k σ' F' ⟨by rw [ho.1, List.length_set], fun j hj => ?_⟩ s' fun a ha => ?_
      · rw [List.flatMap_cons] at hj
        have h1 : j ≠ i := fun z => hj (List.mem_append_left _ (by simp [T1.slots, z]))
        rw [ho.2 j fun z => hj (List.mem_append_right _ z), List.getElem?_set_ne (Ne.symm h1)]
      · rcases ow_up (hF a ha) with z | z
        · exact z
        · cases z
    · rw [if_neg hi] at e; cases e
  | .t is :: ts, _, _, σ, env, env', F, I, H, Q, hp, s, .cons (v := v) (d := d) r t, e, k => by
    cases d with
    | tuple xs =>
      simp only [setW] at e
      cases q : setAll is xs env with
      | none => rw [q] at e; cases e
      | some e1 =>
        rw [q] at e
        cases r with
        | tup h1 h2 =>
          refine ⟨_, _, rfl, _, _, rfl, same_t s.sub h1, by rw [h2.length]; exact setAll_len _ _ _ _ q, names_key is (fun j hj => hp j (by rw [List.flatMap_cons]; exact List.mem_append_left _ hj)) s h2 q fun σ1 F1 ho1 s1 hF1 => ?_⟩
          refine w_key ts (fun j hj => hp j (by rw [List.flatMap_cons]; exact List.mem_append_right _ hj)) s1 t e fun σ' F' ho s' hF => k σ' F' ⟨by rw [ho.1, ho1.1], fun j hj => ?_⟩ s' fun a ha => hF1 a (hF a ha)
          rw [List.flatMap_cons] at hj
          rw [ho.2 j fun z => hj (List.mem_append_right _ z), ho1.2 j fun z => hj (List.mem_append_left _ z)]
    | _ => simp [setW] at e
theorem tg_key {t : Tg} {v : V} {d : PyData} {env' : Env} {Q : St → Hp → Prop} (hp : ∀ i ∈ t.slots, i ∉ g.pn.1) (s : Sim g.K g.pn I H σ env F) (r : Rp g.K I v d) (e : asT t d env = .ok env')
    (k : ∀ σ' F', Only' t.slots σ σ' → Sim g.K g.pn I H σ' env' F' → (∀ a, Ow F' a → Ow F a) → Q σ' H) : rdT g.K t v σ H Q := by
  have ofs : ∀ {x : Option Env}, ofO x = .ok env' → x = some env' := fun {x} h => by cases x <;> cases h; rfl
  cases t with
  | nm i =>
    have := names_key [i] hp s (.cons r .nil) (ofs e) k
    obtain ⟨v', r', e1, q⟩ := this
    cases e1
    exact q.2
  | tu is =>
    cases r with
    | tup h1 h2 =>
      have e := ofs e
      have hl : ∀ (is : List Nat) (ds : List PyData) (a b : Env), setAll is ds a = some b → ds.length = is.length := by
        intro is
        induction is with
        | nil => intro ds a b h; cases ds <;> simp [setAll] at h ⊢
        | cons i is ih =>
          intro ds a b h
          cases ds with
          | nil => simp [setAll] at h
          | cons d ds =>
            unfold setAll at h
            split at h
            · simp [ih _ _ _ h]
            · cases h
      exact ⟨_, _, rfl, same_t s.sub h1, by rw [h2.length]; exact hl _ _ _ _ e, names_key is hp s h2 e k⟩
    | _ => cases e
  | tl is =>
    cases r with
    | lst h1 h2 =>
      have e := ofs e
      have hl : ∀ (is : List Nat) (ds : List PyData) (a b : Env), setAll is ds a = some b → ds.length = is.length := by
        intro is
        induction is with
        | nil => intro ds a b h; cases ds <;> simp [setAll] at h ⊢
        | cons i is ih =>
          intro ds a b h
          cases ds with
          | nil => simp [setAll] at h
          | cons d ds =>
            unfold setAll at h
            split at h
            · simp [ih _ _ _ h]
            · cases h
      exact ⟨_, _, rfl, (h1.mono s.sub).sq, by rw [h2.length]; exact hl _ _ _ _ e, names_key is hp s h2 e k⟩
    | _ => cases e
  | tw ts =>
    cases r with
    | tup h1 h2 =>
      have e := ofs e
      exact ⟨_, _, rfl, same_t s.sub h1, by rw [h2.length]; exact setW_len _ _ _ _ e, w_key ts hp s h2 e k⟩
    | _ => cases e
/-- a, b = e -/
def fAsT (t : Tg) (f : EF) : SF := fun env => f env >>= fun r => asT t r.1.data r.2 >>= fun e => .ok (.nx, e)
theorem ds_asT {t : Tg} {f : EF} {tg : Expr} (hp : ∀ i ∈ t.slots, i ∉ g.pn.1) (he : DE g X e f) (hg : PG X tg (rdT g.K t)) (hs : swapsWithSole [tg] e pos.line X.env = pure false := by rfl) (hw : swappedStores [tg] e X.env = pure none := by rfl)
    (h1 : (assignEach [tg] X.env).map (·.2) = [assign tg X.env] := by rfl) : DS g X (.Assign [tg] e pos) (fAsT t f) := PS.imp (ps_asg he hg hs hw h1) fun D σ H h => by
  obtain ⟨I, env, F, s, p⟩ := h
  refine tD_seq s p fun r v H1 af q => ?_
  obtain ⟨I', F', rp, s', st⟩ := af.frz
  cases q2 : asT t r.1.data r.2 with
  | no => rw [q2] at q; exact q.elim
  | er x => exfalso; revert q2; unfold asT ofO; split <;> (try split) <;> exact fun h => by cases h
  | ok e' =>
    rw [q2] at q
    exact tg_key hp s' rp q2 fun σ' F'' _ s'' hF => q σ' H1 ⟨I', F'', s'', st.less hF⟩
def ItOk (K : PySem.W.Frag) (I0 : Hp) (J : It) (ds : List PyData) : Prop := ∀ (I H : Hp) (i : Nat), Same I0 I → Same I H →
  (∀ d, ds[i]? = some d → J.go i H ∧ ∀ x H', J.yld i H x H' → ∃ I', Grow K I H I' H' (.fr d) x []) ∧ (ds.length = i → J.stop i H)
abbrev IF := Env → Res (List PyData × Env)
def tI (g : G) (f : IF) : TI := fun σ H R => ∃ I env F, Sim g.K g.pn I H σ env F ∧ (f env).post (fun r => ∀ J H' I' F', Sim g.K g.pn I' H' σ r.2 F' → Step I H (Ow F) I' H' (Ow F') → ItOk g.K I' J r.1 → R J H') (g.err I H F)
def DI (g : G) (X : Cx) (tg iter : Expr) (f : IF) : Prop := PI X tg iter (tI g f)
def fFor (t : Tg) (body : SF) : List PyData → SF
  | [], env => .ok (.nx, env)
  | d :: ds, env => asT t d env >>= fun e => body e >>= fun r => match r.1 with
    | .nx => fFor t body ds r.2
    | .ct => fFor t body ds r.2
    | .bk => .ok (.nx, r.2)
    | .rt o => .ok (.rt o, r.2)
def fForS (f : IF) (t : Tg) (body : SF) : SF := fun env => f env >>= fun r => fFor t body r.1 r.2
theorem asT_er {t : Tg} {d : PyData} {x : Exn} : asT t d env ≠ .er x := by
  unfold asT ofO
  split <;> (try split) <;> exact fun h => by cases h
theorem for_key {J : It} {ds : List PyData} {t : Tg} {body : SF} (hp : ∀ i ∈ t.slots, i ∉ g.pn.1) (s : Sim g.K g.pn I H σ env F) (ok : ItOk g.K I J ds) (p : (fFor t body ds env).post (FlP g D I H F) (g.err I H F)) :
    ∃ W : Nat → Nat → St → Hp → Prop, (∃ m, W 0 m σ H) ∧ ∀ i m σ H, W i m σ H →
      (J.stop i H ∧ D.nx σ H) ∨ (J.go i H ∧ ∃ N : St → Hp → Prop, (∀ σ' H', N σ' H' → ∃ m', m' < m ∧ W (i + 1) m' σ' H') ∧ ∀ x H', J.yld i H x H' → rdT g.K t x σ H' fun σ2 H2 => tS g body { D with nx := N, ct := N, bk := D.nx } σ2 H2) := by
  let L : List PyData → St → Hp → Prop := fun ds' σ H => ∃ I1 env F, Sim g.K g.pn I1 H σ env F ∧ Same I I1 ∧ (fFor t body ds' env).post (FlP g D I1 H F) (g.err I1 H F)
  refine ⟨fun i m σ H => m = ds.length - i ∧ i ≤ ds.length ∧ L (ds.drop i) σ H, ⟨ds.length, by simp, Nat.zero_le _, I, env, F, s, Same.refl _, p⟩, ?_⟩
  rintro i m σ H ⟨rfl, hi, I1, env, F, s, sm, p⟩
  by_cases hlt : i < ds.length
  · have hd : ds[i]? = some ds[i] := List.getElem?_eq_getElem hlt
    have dr : ds.drop i = ds[i] :: ds.drop (i + 1) := List.drop_eq_getElem_cons hlt
    rw [dr] at p
    have ok1 := (ok I1 H i sm s.sub).1 _ hd
    refine .inr ⟨ok1.1, L (ds.drop (i + 1)), fun σ' H' n => ⟨ds.length - (i + 1), by omega, rfl, hlt, n⟩, fun x H' y => ?_⟩
    obtain ⟨I2, gr⟩ := ok1.2 x H' y
    have p2 := post_bind.mp p
    cases q2 : asT t ds[i] env with
    | no => rw [q2] at p2; exact p2.elim
    | er x => exact absurd q2 asT_er
    | ok e' =>
      rw [q2] at p2
      obtain ⟨I3, F3, rp, s3, st3⟩ := (gr.aft s).frz
      refine tg_key hp s3 rp q2 fun σ' F'' _ s'' hF => ?_
      have st4 := st3.less hF
      refine ⟨I3, e', F'', s'', post_mono (post_bind.mp p2) (fun r q => ?_) fun x z => err_step st4 z⟩
      obtain ⟨fl, e⟩ := r
      have nxt : (fFor t body (ds.drop (i + 1)) e).post (FlP g D I1 H F) (g.err I1 H F) → ∀ σ5 H5, AftS g.K g.pn I3 H' F'' σ5 e H5 → L (ds.drop (i + 1)) σ5 H5 := fun q σ5 H5 af => by
        obtain ⟨I5, F5, s5, st5⟩ := af
        have st6 := st4.trans st5
        exact ⟨I5, e, F5, s5, sm.trans st6.i1, post_mono q (fun r z => FlP_step st6 z) fun x z => err_step st6 z⟩
      cases fl with
      | nx => exact fun σ5 H5 af => nxt q σ5 H5 af
      | ct => exact fun σ5 H5 af => nxt q σ5 H5 af
      | bk => exact fun σ5 H5 af => q σ5 H5 (AftS.trans st4 af)
      | rt o => exact fun v σ5 H5 af => q v σ5 H5 (Aft.trans st4 af)
  · have e : i = ds.length := by omega
    subst e
    rw [List.drop_length] at p
    exact .inl ⟨(ok I1 H _ sm s.sub).2 rfl, p σ H ⟨I1, F, s, Step.refl⟩⟩
theorem ds_for {f : IF} {t : Tg} {body : SF} {tg iter : Expr} {sb : List Stmt} (hp : ∀ i ∈ t.slots, i ∉ g.pn.1) (hps : PassesOwn (model X.prog X.w) X.A X.env X.xe) (hc : X.calm = true) (hi : DI g X tg iter f) (hg : PG X tg (rdT g.K t)) (hb : DSs g X sb body)
    (hs : ∀ x, foldedSetIterable iter X.env x = pure x := by intro _; rfl) : DS g X (.For tg iter sb [] pos) (fForS f t body) := PS.imp (ps_for hps hc hi hg hb hs) fun D σ H h => by
  obtain ⟨I, env, F, s, p⟩ := h
  refine ⟨I, env, F, s, post_mono (post_bind.mp p) (fun r q J H' I' F' s' st ok => ?_) fun _ z => z⟩
  exact for_key hp s' ok (post_mono q (fun r z => FlP_step st z) fun x z => err_step st z)
end
end Dy
namespace Dy
open PySem PySem.Spec PyProof.Rows L2
def wipeE (env : Env) : List Nat → Env
  | [] => env
  | v :: vs => (wipeE env vs).set v none
theorem wipe_get {α : Type} (w : List (Option α) → List Nat → List (Option α)) (h0 : ∀ l, w l [] = l) (h1 : ∀ l v vs, w l (v :: vs) = (w l vs).set v none) (l : List (Option α)) : ∀ (vs : List Nat) (i : Nat), (w l vs)[i]? = if i ∈ vs then (if i < l.length then some none else none) else l[i]? := by
  have hl : ∀ vs, (w l vs).length = l.length := by
    intro vs
    induction vs with
    | nil => rw [h0]
    | cons v vs ih => rw [h1, List.length_set, ih]
  intro vs
  induction vs with
  | nil => intro i; rw [h0, if_neg (by simp)]
  | cons v vs ih =>
    intro i
    rw [h1]
    by_cases hv : v = i
    · subst hv
      rw [if_pos (by simp)]
      by_cases hi : v < l.length
      · rw [if_pos hi, List.getElem?_set_self (by rw [hl]; exact hi)]
      · rw [if_neg hi, List.getElem?_eq_none (by rw [List.length_set, hl]; omega)]
    · rw [List.getElem?_set_ne hv, ih i]
      by_cases hi : i ∈ vs
      · rw [if_pos hi, if_pos (List.mem_cons_of_mem _ hi)]
      · rw [if_neg hi, if_neg (by simp only [List.mem_cons, not_or]; exact ⟨fun e => hv e.symm, hi⟩)]
theorem wipe_at (σ : St) (vs : List Nat) (i : Nat) : (wipe σ vs)[i]? = if i ∈ vs then (if i < σ.length then some none else none) else σ[i]? := wipe_get wipe (fun _ => rfl) (fun _ _ _ => rfl) σ vs i
theorem wipeE_at (e : Env) (vs : List Nat) (i : Nat) : (wipeE e vs)[i]? = if i ∈ vs then (if i < e.length then some none else none) else e[i]? := wipe_get wipeE (fun _ => rfl) (fun _ _ _ => rfl) e vs i
theorem wipeE_length (e : Env) : ∀ vs : List Nat, (wipeE e vs).length = e.length
  | [] => rfl
  | v :: vs => by unfold wipeE; rw [List.length_set, wipeE_length e vs]
theorem wipe_only {vs is : List Nat} {σ σ2 : St} (hs : ∀ i ∈ is, i ∈ vs) (h : Only' is (wipe σ vs) σ2) : wipe σ2 vs = wipe σ vs := by
  have hl : σ2.length = σ.length := by rw [h.1, wipe_length]
  refine List.ext_getElem? fun i => ?_
  rw [wipe_at, wipe_at, hl]
  by_cases hi : i ∈ vs
  · rw [if_pos hi, if_pos hi]
  · rw [if_neg hi, if_neg hi, h.2 i fun z => hi (hs i z), wipe_at, if_neg hi]
def clF (F : Nat → List Addr) (vs : List Nat) : Nat → List Addr := fun i => if i ∈ vs then [] else F i
theorem clF_ow {F : Nat → List Addr} {vs : List Nat} {a : Addr} (h : Ow (clF F vs) a) : Ow F a := by
  obtain ⟨i, hi⟩ := h
  unfold clF at hi
  split at hi
  · cases hi
  · exact ⟨i, hi⟩
section
variable {K : PySem.W.Frag} {π : Pn} {I H I' H' : Hp} {σ : St} {env e : Env} {F F' : Nat → List Addr}
theorem Sim.wipe (s : Sim K π I H σ env F) {vs : List Nat} (hp : ∀ i ∈ vs, i ∉ π.1) : Sim K π I H (L2.wipe σ vs) (wipeE env vs) (clF F vs) := by
  refine ⟨by rw [wipeE_length, wipe_length, s.len], fun i o q => ?_, fun i q => ?_, fun i j a h1 h2 => ?_, fun i a h => ?_, s.sub, fun i hi => ?_, s.tab⟩
  · rw [wipeE_at] at q
    by_cases h : i ∈ vs
    · rw [if_pos h] at q; split at q <;> cases q
    · rw [if_neg h] at q
      obtain ⟨v, e1, r⟩ := s.rep i o q
      exact ⟨v, by rw [wipe_at, if_neg h]; exact e1, by unfold clF; rw [if_neg h]; exact r⟩
  · unfold clF
    by_cases h : i ∈ vs
    · rw [if_pos h]
    · rw [if_neg h]; exact s.out i fun o z => q o (by rw [wipeE_at, if_neg h]; exact z)
  · unfold clF at h1 h2
    split at h1
    · cases h1
    · split at h2
      · cases h2
      · exact s.dis i j a h1 h2
  · unfold clF at h
    split at h
    · cases h
    · exact s.djI i a h
  · rw [wipe_at, if_neg fun z => hp i z hi]; exact s.pin i hi
/-- behind the block: its own slots as they were, where they held data -/
def frO : Option (Option O) → Option O
  | some (some (.fr d)) => some (.fr d)
  | _ => none
def unw (env e : Env) : List Nat → Env
  | [] => e
  | v :: vs => (unw env e vs).set v (frO env[v]?)
theorem unw_length (env e : Env) : ∀ vs : List Nat, (unw env e vs).length = e.length
  | [] => rfl
  | v :: vs => by unfold unw; rw [List.length_set, unw_length env e vs]
theorem unw_at (env e : Env) : ∀ (vs : List Nat) (i : Nat), (unw env e vs)[i]? = if i ∈ vs then (if i < e.length then some (frO env[i]?) else none) else e[i]?
  | [], i => by rw [if_neg (by simp)]; rfl
  | v :: vs, i => by
    unfold unw
    by_cases hv : v = i
    · subst hv
      rw [if_pos (by simp)]
      by_cases hi : v < e.length
      · rw [if_pos hi, List.getElem?_set_self (by rw [unw_length]; exact hi)]
      · rw [if_neg hi, List.getElem?_eq_none (by rw [List.length_set, unw_length]; omega)]
    · rw [List.getElem?_set_ne hv, unw_at env e vs i]
      by_cases hi : i ∈ vs
      · rw [if_pos hi, if_pos (List.mem_cons_of_mem _ hi)]
      · rw [if_neg hi, if_neg (by simp only [List.mem_cons, not_or]; exact ⟨fun e => hv e.symm, hi⟩)]
theorem Sim.unwipe (s0 : Sim K π I H σ env F) (sm : Same I I') {vs : List Nat} (hp : ∀ i ∈ vs, i ∉ π.1) (s : Sim K π I' H' (L2.wipe σ vs) e F') : Sim K π I' H' σ (unw env e vs) (clF F' vs) := by
  have hl : e.length = σ.length := by rw [s.len, wipe_length]
  refine ⟨by rw [unw_length, hl], fun i o q => ?_, fun i q => ?_, fun i j a h1 h2 => ?_, fun i a h => ?_, s.sub, fun i hi => s0.pin i hi, s.tab⟩
  · rw [unw_at] at q
    by_cases h : i ∈ vs
    · rw [if_pos h] at q
      by_cases hi : i < e.length
      · rw [if_pos hi] at q
        have q := Option.some.inj q
        unfold frO at q
        cases q3 : env[i]? with
        | none => rw [q3] at q; cases q
        | some y =>
          cases y with
          | none => rw [q3] at q; cases q
          | some o' =>
            rw [q3] at q
            cases o' with
            | fr d =>
              cases q
              obtain ⟨v, e1, r⟩ := s0.rep i _ q3
              exact ⟨v, e1, by unfold clF; rw [if_pos h]; exact ⟨rfl, r.2.mono sm⟩⟩
            | ol _ => cases q
            | oo _ => cases q
            | od _ => cases q
      · rw [if_neg hi] at q; cases q
    · rw [if_neg h] at q
      obtain ⟨v, e1, r⟩ := s.rep i o q
      rw [wipe_at, if_neg h] at e1
      exact ⟨v, e1, by unfold clF; rw [if_neg h]; exact r⟩
  · unfold clF
    by_cases h : i ∈ vs
    · rw [if_pos h]
    · rw [if_neg h]; exact s.out i fun o z => q o (by rw [unw_at, if_neg h]; exact z)
  · unfold clF at h1 h2
    split at h1
    · cases h1
    · split at h2
      · cases h2
      · exact s.dis i j a h1 h2
  · unfold clF at h
    split at h
    · cases h
    · exact s.djI i a h
end
theorem Step.one {I H I1 H1 : Hp} {S S1 : Addr → Prop} (a : Step I H S I1 H1 S1) {D : Addr} {o : HO} (h : H D = some o) (n : ¬ S D) (i : I D = none) (nt : NT o := by exact NT.lst) : H1 D = some o ∧ ¬ S1 D ∧ I1 D = none := by
  refine ⟨a.fr D o h n nt, fun z => ?_, ?_⟩
  · rcases a.s' D z with y | y
    · exact n y
    · rw [h] at y; cases y
  · cases q : I1 D with
    | none => rfl
    | some u =>
      rcases a.i' D u q with y | y | y
      · rw [i] at y; cases y
      · exact (n y).elim
      · rw [h] at y; cases y
def nE {α : Type} : Res α → Res α
  | .er _ => .no
  | x => x
theorem nE_post {α : Type} {r : Res α} {P : α → Prop} {E E' : Exn → Prop} (h : (nE r).post P E) : r.post P E' := by
  cases r with
  | ok a => exact h
  | er x => exact h.elim
  | no => exact h
def lcL (vs : List Nat) (t : Tg) (test : TF) (elt : EF) : List PyData → Env → List PyData → Res (List PyData × Env)
  | [], e, acc => .ok (acc, e)
  | d :: ds, e, acc => asT t d e >>= fun e1 => nE (test e1) >>= fun b => if b.1 = true then nE (elt b.2) >>= fun r => if acc.length < 100000 then lcL vs t test elt ds (wipeE r.2 vs) (acc ++ [r.1.data]) else .no
    else lcL vs t test elt ds (wipeE b.2 vs) acc
def fLc (fi : IF) (vs : List Nat) (t : Tg) (test : TF) (elt : EF) : EF := fun env => fi env >>= fun r => lcL vs t test elt r.1 (wipeE r.2 vs) [] >>= fun q => .ok (.ol q.1, unw r.2 q.2 vs)
def fYes : TF := fun env => .ok (true, env)
def G.nox (g : G) : G := { g with E := fun _ _ _ => False }
section
variable {g : G} {X : Cx} {a b c e : Expr} {es : List Expr} {pos : Pos} {σ : St} {H I : Hp} {env : Env} {F : Nat → List Addr}
theorem lcL_er {vs : List Nat} {t : Tg} {test : TF} {elt : EF} : ∀ {ds : List PyData} {e : Env} {acc : List PyData} {x : Exn}, lcL vs t test elt ds e acc ≠ .er x
  | [], _, _, _ => fun h => by cases h
  | d :: ds, e, acc, x => fun h => by
    unfold lcL at h
    cases q : asT t d e with
    | no => rw [q] at h; cases h
    | er y => exact asT_er q
    | ok e1 =>
      rw [q, bind_ok] at h
      cases q2 : test e1 with
      | no => rw [q2] at h; cases h
      | er y => rw [q2] at h; cases h
      | ok b =>
        rw [q2] at h
        have h : (if b.1 = true then nE (elt b.2) >>= fun r => if acc.length < 100000 then lcL vs t test elt ds (wipeE r.2 vs) (acc ++ [r.1.data]) else .no else lcL vs t test elt ds (wipeE b.2 vs) acc) = .er x := h
        by_cases hb : b.1 = true
        · rw [if_pos hb] at h
          cases q3 : elt b.2 with
          | no => rw [q3] at h; cases h
          | er y => rw [q3] at h; cases h
          | ok r =>
            rw [q3] at h
            have h : (if acc.length < 100000 then lcL vs t test elt ds (wipeE r.2 vs) (acc ++ [r.1.data]) else .no) = .er x := h
            split at h
            · exact lcL_er h
            · cases h
        · rw [if_neg hb] at h; exact lcL_er h
theorem lc_key {fi : IF} {vs : List Nat} {t : Tg} {test : TF} {elt : EF} {Q : VK} (hp : ∀ i ∈ vs, i ∉ g.pn.1) (hv : ∀ i ∈ t.slots, i ∈ vs) (h : tD g (fLc fi vs t test elt) σ H Q) : tLc (tI g fi) (rdT g.K t) (tT g.nox test) (tD g.nox elt) vs σ H Q := by
  obtain ⟨I, env, F, s, p⟩ := h
  refine ⟨I, env, F, s, post_mono (post_bind.mp p) (fun r q J H1 I1 F1 s1 st1 ok D nD => ?_) fun _ z => z⟩
  have nI : I1 D = none := none_of_same s1.sub nD
  have nF : ∀ {F2 : Nat → List Addr}, F2 = F1 → ¬ Ow F2 D := fun e z => by subst e; obtain ⟨o, ho⟩ := s1.domO z; rw [nD] at ho; cases ho
  let PP : List PyData × Env → Prop := fun q => ∀ v H', Aft g.K g.pn I H F σ (unw r.2 q.2 vs) (.ol q.1) v H' → Q v H'
  let L : List PyData → Hp → Prop := fun ds H2 => ∃ I2 e F2 acc us, Sim g.K g.pn I2 H2 (wipe σ vs) e F2 ∧ H2 D = some (.lst us) ∧ RpAll g.K I2 us acc ∧ I2 D = none ∧ ¬ Ow F2 D ∧ Step I1 H1 (Ow F1) I2 H2 (fun a => Ow F2 a ∨ a = D) ∧
    (lcL vs t test elt ds e acc).post PP (fun _ => False)
  have q0 : (lcL vs t test elt r.1 (wipeE r.2 vs) []).post PP (fun _ => False) := by
    have q := post_bind.mp q
    cases z : lcL vs t test elt r.1 (wipeE r.2 vs) [] with
    | no => rw [z] at q; exact q
    | er x => exact absurd z lcL_er
    | ok y => rw [z] at q; exact q
  refine ⟨fun i m H2 => m = r.1.length - i ∧ i ≤ r.1.length ∧ L (r.1.drop i) H2, ⟨r.1.length, by simp, Nat.zero_le _, I1, wipeE r.2 vs, clF F1 vs, [], [], ?_, upd_same, .nil, nI, fun z => nF rfl (clF_ow z), ?_, q0⟩, ?_⟩
  · refine (s1.wipe hp).heap (Same.refl _) (s1.sub.trans (same_new nD)) (fun a ha => ?_) (fun a ⟨i, hi⟩ => (s1.wipe hp).djI i a hi) (kt_new nD)
    rw [upd_ne]; intro z; subst z; exact nF rfl (clF_ow ha)
  · refine Step.of4 (Same.refl _) (fun a o h _ => same_new nD a o h) (fun a h => ?_) (fun a o h => .inl h)
    rcases h with h | h
    · exact .inl (clF_ow h)
    · subst h; exact .inr nD
  · rintro i m H2 ⟨rfl, hi, I2, e, F2, acc, us, s2, hD, ra, iD, oD, st2, p2⟩
    have sm : Same I1 I2 := st2.i1
    by_cases hlt : i < r.1.length
    · have hd : r.1[i]? = some r.1[i] := List.getElem?_eq_getElem hlt
      have dr : r.1.drop i = r.1[i] :: r.1.drop (i + 1) := List.drop_eq_getElem_cons hlt
      rw [dr] at p2
      have ok1 := (ok I2 H2 i sm s2.sub).1 _ hd
      refine .inr ⟨ok1.1, L (r.1.drop (i + 1)), fun H' n => ⟨r.1.length - (i + 1), by omega, rfl, hlt, n⟩, fun x H3 y => ?_⟩
      obtain ⟨I3, gr⟩ := ok1.2 x H3 y
      obtain ⟨I4, F4, rp, s4, st4⟩ := (gr.aft s2).frz
      have p3 := post_bind.mp p2
      cases q2 : asT t r.1[i] e with
      | no => rw [q2] at p3; exact p3.elim
      | er x => exact absurd q2 asT_er
      | ok e1 =>
        rw [q2] at p3
        refine tg_key (fun j hj => hp j (hv j hj)) s4 rp q2 fun σ2 F5 ho s5 hF => ?_
        have wσ := wipe_only hv ho
        refine ⟨wσ, ?_⟩
        have st5 := st4.less hF
        obtain ⟨d1, d2, d3⟩ := st5.one hD oD iD
        have TD : ∀ x, x = D → ∃ o, H2 x = some o := fun x e => by subst e; exact ⟨_, hD⟩
        have TN : ∀ x, x = D → ¬ Ow F2 x := fun x e => by subst e; exact oD
        refine ⟨I4, e1, F5, s5, post_mono (nE_post (post_bind.mp p3)) (fun b pb H6 af => ?_) fun _ z => z⟩
        obtain ⟨I6, F6, s6, st6⟩ := af
        have st56 := st5.trans st6
        obtain ⟨b1, b2, b3⟩ := st56.one hD oD iD
        by_cases hb : b.1 = true
        · rw [if_pos hb] at pb ⊢
          refine ⟨I6, b.2, F6, s6, post_mono (nE_post (post_bind.mp pb)) (fun r7 p7 v7 H7 af7 => ?_) fun _ z => z⟩
          obtain ⟨I8, F8, rp8, s8, st8⟩ := af7.frz
          have st58 := st56.trans st8
          obtain ⟨c1, c2, c3⟩ := st58.one hD oD iD
          by_cases hz : acc.length < 100000
          · rw [if_pos hz] at p7
            refine ⟨us, c1, by rw [ra.length]; exact Nat.lt_of_lt_of_le hz (by decide), I8, wipeE r7.2 vs, clF F8 vs, acc ++ [r7.1.data], us ++ [v7], ?_, upd_same, (ra.mono st58.i1).app (.cons rp8 .nil), c3, fun z => c2 (clF_ow z), ?_, p7⟩
            · rw [← wσ]
              refine (s8.wipe hp).heap (Same.refl _) (fun a o h => ?_) (fun a ha => ?_) (fun a ⟨j, hj⟩ => (s8.wipe hp).djI j a hj) (kt_upd c1 NT.lst)
              · rw [upd_ne (fun z => by subst z; rw [c3] at h; cases h)]; exact s8.sub a o h
              · rw [upd_ne]; intro z; subst z; exact c2 (clF_ow ha)
            · refine st2.trans ((st58.aside (fun x => x = D) TD TN).trans (Step.of4 (Same.refl _) (fun a o h n => ?_) (fun a h => ?_) (fun a o h => .inl h)))
              · rw [upd_ne fun z => n (.inr z)]; exact h
              · rcases h with h | h
                · exact .inl (.inl (clF_ow h))
                · exact .inl (.inr h)
          · rw [if_neg hz] at p7; exact p7.elim
        · rw [if_neg hb] at pb ⊢
          refine ⟨I6, wipeE b.2 vs, clF F6 vs, acc, us, ?_, b1, ra.mono st56.i1, b3, fun z => b2 (clF_ow z), ?_, pb⟩
          · rw [← wσ]; exact s6.wipe hp
          · refine st2.trans ((st56.aside (fun x => x = D) TD TN).less fun a h => ?_)
            rcases h with h | h
            · exact .inl (clF_ow h)
            · exact .inr h
    · have e0 : i = r.1.length := by omega
      subst e0
      rw [List.drop_length] at p2
      refine .inl ⟨(ok I2 H2 _ sm s2.sub).2 rfl, p2 _ _ ⟨I2, clF F2 vs, [D], ⟨D, us, rfl, rfl, hD, ra⟩, s1.unwipe sm hp s2, fun a ha => ?_, fun a ha hr => ?_, ?_⟩⟩
      · simp at ha; subst ha; exact iD
      · simp at hr; subst hr; exact oD (clF_ow ha)
      · refine st1.trans (st2.less fun a h => ?_)
        rcases h with h | h
        · exact .inl (clF_ow h)
        · simp at h; exact .inr h
theorem pts_yes : PTs X [] (tT g fYes) := ⟨fun pins s σ H Q I h => pts_nil.run pins s σ H Q I (by
  obtain ⟨I, env, F, s, p⟩ := h
  exact p H ⟨I, F, s, Step.refl⟩)⟩
theorem de_lc {elt tg iter : Expr} {ifs : List Expr} {scope : Scope} {own : List (Str × Nat)} {fi : IF} {t : Tg} {test : TF} {fe : EF} (hp : ∀ i ∈ own.map (·.2), i ∉ g.pn.1) (hv : ∀ i ∈ t.slots, i ∈ own.map (·.2)) (hc : X.calm = true) (hN : X.N.Nodup) (hi : DI g X tg iter fi) (ok : BlkOk X.N X.env.scope scope own)
    (hg : ∀ (s : Shared) (H : Hp) (C : Addr) (cl : List (Str × Addr)) (fp : List Addr), PG (X.blk s H scope (compEnvC scope cl C X.env) fp) tg (rdT g.K t)) (ht : ∀ (s : Shared) (H : Hp) (C : Addr) (cl : List (Str × Addr)) (fp : List Addr), PTs (X.blk s H scope (compEnvC scope cl C X.env) fp) ifs (tT g.nox test))
    (he : ∀ (s : Shared) (H : Hp) (C : Addr) (cl : List (Str × Addr)) (fp : List Addr), DE g.nox (X.blk s H scope (compEnvC scope cl C X.env) fp) elt fe) (hs : ∀ x, foldedSetIterable iter X.env x = pure x := by intro _; rfl) :
    DE g X (.ListComp elt [⟨tg, iter, ifs, 0⟩] scope pos) (fLc fi (own.map (·.2)) t test fe) := PE.imp (pe_lc hc hN hi ok hg ht he hs) fun σ H Q h => lc_key hp hv h
/-- y = [..] -/
theorem ds_setLc {i : Nat} {y : Str} {py : Pos} {elt tg iter : Expr} {ifs : List Expr} {scope : Scope} {own : List (Str × Nat)} {spos : Pos} {fi : IF} {t : Tg} {test : TF} {fe : EF} (hpi : i ∉ g.pn.1) (hp : ∀ i ∈ own.map (·.2), i ∉ g.pn.1) (hv : ∀ i ∈ t.slots, i ∈ own.map (·.2)) (hc : X.calm = true) (hN : X.N.Nodup) (hy : X.N[i]? = some y) (hyl : X.env.scope.names.lookup y = some .local)
    (hsw : swapsWith (.ListComp elt [⟨tg, iter, ifs, 0⟩] scope pos) (some (.Name y py)) spos.line X.env = pure true) (hi : DI g X tg iter fi) (ok : BlkOk X.N X.env.scope scope own)
    (hg : ∀ (s : Shared) (H : Hp) (C : Addr) (cl : List (Str × Addr)) (fp : List Addr), PG (X.blk s H scope (compEnvC scope cl C X.env) fp) tg (rdT g.K t)) (ht : ∀ (s : Shared) (H : Hp) (C : Addr) (cl : List (Str × Addr)) (fp : List Addr), PTs (X.blk s H scope (compEnvC scope cl C X.env) fp) ifs (tT g.nox test))
    (he : ∀ (s : Shared) (H : Hp) (C : Addr) (cl : List (Str × Addr)) (fp : List Addr), DE g.nox (X.blk s H scope (compEnvC scope cl C X.env) fp) elt fe) (hs : ∀ x, foldedSetIterable iter X.env x = pure x := by intro _; rfl) :
    DS g X (.Assign [.Name y py] (.ListComp elt [⟨tg, iter, ifs, 0⟩] scope pos) spos) (fSet i (fLc fi (own.map (·.2)) t test fe)) := PS.imp (ps_setLc hc hN hy hyl hsw hi ok hg ht he hs) fun D σ H h => by
  have := set_key hpi h
  exact lc_key hp hv this
end
end Dy
namespace Dy
open PySem PySem.Spec PyProof.Rows L2
structure FnG (P : Program) (w : World) (K : PySem.W.Frag) (mg : Str → Option Value) (base : Heap) (k : Nat) (f : Addr) (fd : FuncData) (ps : List Str) (sp : Sp) : Prop where
  len : ∀ vs H Q E, sp vs H Q E → vs.length = ps.length
  run : ∀ (A : Around) (outer : List PySem.Env) (s : Shared) (H : Hp) (args : Args) (us : List Value) (vs : List V) (Q : VK) (E : XK), A.guards = some [] → Room k A → L2.Env0 P w K mg base A outer s H → BindsTo s fd args (ps.zip us) → Vals vs us →
    sp vs H Q E → codeAny (model P w) A (.call (.ref f) args) (CR (L2.CX P w) outer P w H s Q E) s
end Dy
namespace Dy
open PySem PySem.Spec PyProof.Rows L2
theorem FnG.mono {P : Program} {w : World} {K : PySem.W.Frag} {mg : Str → Option Value} {base : Heap} {j k : Nat} {f : Addr} {fd : FuncData} {ps : List Str} {sp : Sp} (F : FnG P w K mg base j f fd ps sp) (h : j ≤ k) : FnG P w K mg base k f fd ps sp :=
  ⟨F.len, fun A outer s H args us vs Q E hg hr => F.run A outer s H args us vs Q E hg (hr.mono h)⟩
theorem FnG.imp {P : Program} {w : World} {K : PySem.W.Frag} {mg : Str → Option Value} {base : Heap} {k : Nat} {f : Addr} {fd : FuncData} {ps : List Str} {sp sp' : Sp} (F : FnG P w K mg base k f fd ps sp) (h : ∀ vs H Q E, sp' vs H Q E → sp vs H Q E) : FnG P w K mg base k f fd ps sp' :=
  ⟨fun vs H Q E q => F.len vs H Q E (h _ _ _ _ q), fun A outer s H args us vs Q E hg hr he hb hv hs => F.run A outer s H args us vs Q E hg hr he hb hv (h _ _ _ _ hs)⟩
/-- by its body -/
theorem fnG_ofc {P : Program} {w : World} {K : PySem.W.Frag} {mg : Str → Option Value} {base : Heap} {k : Nat} {x qual : Str} {st : Stmt} {f : Addr} {fd : FuncData} {N ps : List Str} {sp : Sp} (F : Fun K x qual st f fd) (S : FnScope N ps (defScope st))
    (len : ∀ vs H Q E, sp vs H Q E → vs.length = ps.length)
    (body : ∀ (cdv : Value) (hcv : fd.code = cdv) (A : Around) (outer : List PySem.Env) (s : Shared) (H : Hp) (vs : List V) (Q : VK) (E : XK), (A.deeper (envOfC qual (defScope st) s.heap.objs.size f cdv)).guards = some [] → Room k (A.deeper (envOfC qual (defScope st) s.heap.objs.size f cdv)) → sp vs H Q E →
      ∃ t, PSs (cxOf (L2.CX P w) P w K mg base N qual (defScope st) f cdv A outer s H E) (defBody st) t ∧ t { nx := fun _ H' => Q .non H', rt := Q } (L2.start N vs) H) : FnG P w K mg base (k + 1) f fd ps sp := by
  obtain ⟨oc, od, kV, doc, pm, an, cdv, ct, osl, rfl, lk, hcd⟩ := F.ex
  refine ⟨len, ?_⟩
  intro A outer s H args us vs Q E hg hr e0 hb r hsp
  have KX : K.In s.heap := e0.mod.kin.keeps (fun b o e => (e0.bs b o e).1)
  have lim : s.heap.NoLimit := e0.mod.nolimit.keeps (fun b o e => (e0.bs b o e).1)
  have hk : ∀ y ∈ ps.zip us, (defScope st).names.lookup y.1 = some .local ∨ ((defScope st).names.lookup y.1 = some .cell ∧ ((cellsFrom (s.heap.objs.size + 1) (defScope st).names []).lookup y.1).isSome = true) := by
    intro y hy
    rcases S.par y.1 (List.of_mem_zip hy).1 with q | q
    · exact Or.inl q
    · exact Or.inr ⟨q, PySem.W.cellsFrom_some _ _ _ (Or.inl q)⟩
  refine codeAny_call_function hr.depth (KX f _ lk) rfl S.co S.gen rfl (PySem.W.codeRec_of KX hcd) (hb _ _ _ _ ?_)
  refine wpAny_newFunctionEnv_cells S.kind hk (fun env he s1 hc => ?_)
  subst he
  refine ⟨lim.keeps hc.toInCall.keep, codeAny_func ?_⟩
  obtain ⟨t, ht, hq⟩ := body cdv rfl A outer s H vs Q E hg (hr.deeper _) hsp
  have J : Inv (cxOf (L2.CX P w) P w K mg base N qual (defScope st) f cdv A outer s H E) [] (L2.start N vs) H s1 := inv_start S hr.hd e0 (len vs H Q E hsp) r hc
  refine wpAny_mono (ht.run [] s1 (L2.start N vs) H _ J hq) (fun fl s' hs => ?_) (fun e s' hs => hs)
  cases fl with
  | ret u =>
    obtain ⟨v, σ', H', J', rv, q⟩ := hs
    exact ⟨v, H', J'.os, J'.bare, J'.base, J'.hok, rv, q⟩
  | next =>
    obtain ⟨σ', H', J', q⟩ := hs
    exact ⟨.non, H', J'.os, J'.bare, J'.base, J'.hok, rfl, q⟩
  | brk =>
    obtain ⟨_, _, _, q⟩ := hs
    exact q.elim
  | cont =>
    obtain ⟨_, _, _, q⟩ := hs
    exact q.elim
section
variable {X : Cx} {k : Nat} {f : Addr} {fd : FuncData} {ps : List Str} {sp : Sp} {E : XK} {x : Str} {p pos : Pos} {e : Expr} {es : List Expr} {t : TA}
theorem runG {pins : List (Addr × Obj)} {σ : St} {H : Hp} {s : Shared} {Q : VK} {us : List Value} {vs : List V} (F : FnG X.prog X.w X.K X.mg X.base k f fd ps sp) (hg : X.A.guards = some []) (hr : Room k X.A) (hb : Binds X.K fd ps []) (hx : Passes (L2.CX X.prog X.w) X E)
    (J : Inv X pins σ H s) (r : Vals vs us) (h : sp vs H Q E) : wpAny (model X.prog X.w) X.A (call (.ref f) us) (EP X pins σ Q) X.xe s := by
  have hl : (us ++ []).length = ps.length := by rw [List.append_nil, ← r.length]; exact F.len _ _ _ _ h
  have hb' := hb s us J.kIn hl
  rw [List.append_nil] at hb'
  refine wpAny_call (codeAny_mono (F.run X.A X.stack s H ⟨us, []⟩ us vs Q E hg hr J.env0 hb' r h) (fun y s' hq => ?_))
  cases y with
  | error u => exact hx pins σ H s u s' J hq
  | ok fl =>
    cases fl with
    | ret u => exact J.after hq
    | next => exact hq.elim
    | brk => exact hq.elim
    | cont => exact hq.elim
theorem peG (F : FnG X.prog X.w X.K X.mg X.base k f fd ps sp) (hgd : X.A.guards = some []) (hr : Room k X.A) (hg : Gl X x) (hm : X.mg x = some (.ref f)) (hk : PySem.W.keepIn X.K (.ref f) = true) (hb : Binds X.K fd ps []) (hx : Passes (L2.CX X.prog X.w) X E)
    (ha : PA X (e :: es) t) (hdb : (x == ("__debug__" : Str)) = false := by decide) (he : starEach (e :: es) X.env = (false, eval e X.env) :: starEach es X.env := by rfl) (hpl : (backTo pos (starEach es X.env)).any (·.1) = false := by rfl) :
    PE X (.Call (.Name x p) (e :: es) [] pos) (fun σ H Q => t σ H fun vs H1 => sp vs H1 Q E) := by
  refine ⟨fun pins s σ H Q J h => wpAny_Call_Name_kw (ld_glob J hg hm ?_ hdb)⟩
  refine PySem.W.callWith_K (h₀ := X.base) J.ok.mod.kin hk (thn (ha.run pos pins s σ H _ J h) ?_) he hpl
  rintro us s1 ⟨vs, H1, J1, r, q⟩
  exact ⟨J1.kIn, runG F hgd hr hb hx J1 r q⟩
end
abbrev Fn := List O → Res (O × List O)
def p0 (T : List (Addr × Str)) : Pn := ([], fun _ => .non, T)
def spD (K : PySem.W.Frag) (mg : Str → Option Value) (T : List (Addr × Str)) (m : Fn) : Sp := fun vs H Q E => ∃ I os F, Sim K (p0 T) I H (vs.map some) (os.map some) F ∧
  (m os).post (fun r => ∀ v H', Aft K (p0 T) I H F (vs.map some) (r.2.map some) r.1 v H' → Q v H') (fun x => ∀ H' c d, Err T I H (Ow F) H' → XR mg x c d H' → E c d H')
def isFr : O → Bool
  | .fr _ => true
  | _ => false
def okA (rp : List Nat) : Nat → List O → Bool
  | _, [] => true
  | k, o :: os => (rp.contains k || isFr o) && okA rp (k + 1) os
def bkA (rp : List Nat) (e : Env) : Nat → List O → Option (List O)
  | _, [] => some []
  | k, o :: os => match (if rp.contains k then (e[k]?).join else some o), bkA rp e (k + 1) os with
    | some o', some os' => some (o' :: os')
    | _, _ => none
def fnM (n N : Nat) (rp : List Nat) (body : SF) : Fn := fun os => if os.length = n ∧ okA rp 0 os = true then
    body (os.map some ++ List.replicate (N - n) none) >>= fun r => match bkA rp r.2 0 os with
      | none => .no
      | some os' => match r.1 with
        | .rt o => .ok (o, os')
        | .nx => .ok (.fr .none, os')
        | _ => .no
  else .no
theorem okA_at {rp : List Nat} : ∀ {os : List O} {k i : Nat} {o : O}, okA rp k os = true → os[i]? = some o → k + i ∉ rp → isFr o = true
  | [], _, _, _, _, h, _ => by simp at h
  | o :: os, k, 0, _, h, e, n => by
    simp at e; subst e
    unfold okA at h
    simp only [Bool.and_eq_true, Bool.or_eq_true, List.contains_iff_mem] at h
    rcases h.1 with z | z
    · exact absurd z n
    · exact z
  | o :: os, k, i + 1, _, h, e, n => by
    unfold okA at h
    simp only [Bool.and_eq_true] at h
    exact okA_at (k := k + 1) (i := i) h.2 (by simpa using e) (by rwa [Nat.add_right_comm k 1 i, Nat.add_assoc])
theorem bkA_at {rp : List Nat} {e : Env} : ∀ {os os' : List O} {k i : Nat} {o' : O}, bkA rp e k os = some os' → os'[i]? = some o' → (k + i ∈ rp ∧ e[k + i]? = some (some o')) ∨ (k + i ∉ rp ∧ os[i]? = some o')
  | [], _, _, _, _, h, e1 => by cases h; simp at e1
  | o :: os, os', k, i, o', h, e1 => by
    unfold bkA at h
    cases q1 : (if rp.contains k then (e[k]?).join else some o) with
    | none => rw [q1] at h; cases h
    | some y =>
      cases q2 : bkA rp e (k + 1) os with
      | none => rw [q1, q2] at h; cases h
      | some ys =>
        rw [q1, q2] at h; cases h
        cases i with
        | zero =>
          simp at e1; subst e1
          by_cases hk : k ∈ rp
          · left
            refine ⟨hk, ?_⟩
            rw [if_pos (by simpa using hk)] at q1
            rw [Nat.add_zero]
            cases z : e[k]? with
            | none => rw [z] at q1; cases q1
            | some w => rw [z] at q1; cases w <;> cases q1; rfl
          · right
            refine ⟨hk, ?_⟩
            rw [if_neg (by simpa using hk)] at q1
            simpa using q1
        | succ i =>
          rcases bkA_at q2 (i := i) (o' := o') (by simpa using e1) with ⟨a, b⟩ | ⟨a, b⟩
          · exact .inl ⟨by rwa [Nat.add_right_comm k 1 i, Nat.add_assoc] at a, by rwa [Nat.add_right_comm k 1 i, Nat.add_assoc] at b⟩
          · exact .inr ⟨by rwa [Nat.add_right_comm k 1 i, Nat.add_assoc] at a, by simpa using b⟩
theorem bkA_len {rp : List Nat} {e : Env} : ∀ {os os' : List O} {k : Nat}, bkA rp e k os = some os' → os'.length = os.length
  | [], _, _, h => by cases h; rfl
  | o :: os, os', k, h => by
    unfold bkA at h
    cases q1 : (if rp.contains k then (e[k]?).join else some o) with
    | none => rw [q1] at h; cases h
    | some y =>
      cases q2 : bkA rp e (k + 1) os with
      | none => rw [q1, q2] at h; cases h
      | some ys => rw [q1, q2] at h; cases h; simp [bkA_len q2]
theorem getm {α : Type} {l : List α} {i : Nat} {x : α} (h : (l.map some)[i]? = some (some x)) : l[i]? = some x := by
  rw [List.getElem?_map] at h
  cases q : l[i]? with
  | none => rw [q] at h; cases h
  | some y => rw [q] at h; cases h; rfl
theorem putm {α : Type} {l : List α} {i : Nat} {x : α} (h : l[i]? = some x) : (l.map some)[i]? = some (some x) := by rw [List.getElem?_map, h]; rfl
/-- back in the caller: the arguments behind the body -/
theorem back_args {T : List (Addr × Str)} {K : PySem.W.Frag} {I H : Hp} {F : Nat → List Addr} {vs : List V} {os os' : List O} {rp : List Nat} {π : Pn} {σ' : St} {e : Env} {o : O} {v : V} {H' : Hp} (s0 : Sim K (p0 T) I H (vs.map some) (os.map some) F) (hπ : π.1 = rp) (hT : π.2.2 = T) (hv : ∀ i ∈ rp, vs[i]? = some (π.2.1 i))
    (hok : okA rp 0 os = true) (hb : bkA rp e 0 os = some os') (af : Aft K π I H F σ' e o v H') : Aft K (p0 T) I H F (vs.map some) (os'.map some) o v H' := by
  obtain ⟨I', F', R, r, s, nR, dR, st⟩ := af
  have hl : os'.length = vs.length := by
    have h1 := bkA_len hb
    have h2 := s0.len
    simp only [List.length_map] at h2
    omega
  let F2 : Nat → List Addr := fun i => if i ∈ rp then F' i else []
  have ow : ∀ a, Ow F2 a → Ow F' a := fun a ⟨i, hi⟩ => by
    by_cases h : i ∈ rp
    · exact ⟨i, by simpa [F2, h] using hi⟩
    · simp [F2, h] at hi
  refine ⟨I', F2, R, r, ⟨by simp [hl], fun i y q => ?_, fun i q => ?_, fun i j a h1 h2 => ?_, fun i a h => ?_, s.sub, (fun i hi => by cases hi), (by rw [← hT] at *; exact s.tab)⟩, nR, fun a ha => dR a (ow a ha), st.less fun a h => h.elim (fun z => .inl (ow a z)) .inr⟩
  · have q := getm q
    rcases bkA_at hb q with ⟨h1, h2⟩ | ⟨h1, h2⟩
    · rw [Nat.zero_add] at h1 h2
      obtain ⟨u, e1, rr⟩ := s.rep i y h2
      have e2 := s.pin i (by rw [hπ]; exact h1)
      rw [e1] at e2; cases e2
      exact ⟨_, putm (hv i h1), by simpa [F2, h1] using rr⟩
    · rw [Nat.zero_add] at h1
      have fr := okA_at hok h2 (by rw [Nat.zero_add]; exact h1)
      cases y with
      | fr d =>
        obtain ⟨u, e1, rr⟩ := s0.rep i _ (putm h2)
        exact ⟨u, e1, by simp [F2, h1, RepO]; exact rr.2.mono st.i1⟩
      | ol _ => cases fr
      | oo _ => cases fr
      | od _ => cases fr
  · by_cases h : i ∈ rp
    · have h1 := hv i h
      have hi : i < os'.length := by
        rw [hl]
        cases Nat.lt_or_ge i vs.length with
        | inl z => exact z
        | inr z => rw [List.getElem?_eq_none z] at h1; cases h1
      exact absurd (putm (List.getElem?_eq_getElem hi)) (q _)
    · simp [F2, h]
  · by_cases h : i ∈ rp
    · by_cases h' : j ∈ rp
      · exact s.dis i j a (by simpa [F2, h] using h1) (by simpa [F2, h'] using h2)
      · simp [F2, h'] at h2
    · simp [F2, h] at h1
  · by_cases h' : i ∈ rp
    · exact s.djI i a (by simpa [F2, h'] using h)
    · simp [F2, h'] at h
theorem sim_start {T : List (Addr × Str)} {K : PySem.W.Frag} {I H : Hp} {F : Nat → List Addr} {vs : List V} {os : List O} {N : List Str} {rp : List Nat} {n : Nat} (s0 : Sim K (p0 T) I H (vs.map some) (os.map some) F) (hv : vs.length = n) (hrp : ∀ i ∈ rp, i < n) :
    Sim K (rp, (fun i => vs.getD i .non), T) I H (L2.start N vs) (os.map some ++ List.replicate (N.length - n) none) F := by
  have hl := s0.len
  simp only [List.length_map] at hl
  have low : ∀ i, i < vs.length → (L2.start N vs)[i]? = (vs.map some)[i]? := fun i h => by unfold L2.start; rw [List.getElem?_append_left (by simpa using h)]
  have env : ∀ i o, (os.map some ++ List.replicate (N.length - n) none)[i]? = some (some o) → (os.map some)[i]? = some (some o) := fun i o q => by
    by_cases h : i < os.length
    · rwa [List.getElem?_append_left (by simpa using h)] at q
    · rw [List.getElem?_append_right (by simpa using h), List.getElem?_replicate] at q
      split at q <;> cases q
  refine ⟨by unfold L2.start; simp [hl, hv], fun i o q => ?_, fun i q => s0.out i fun o z => q o ?_, s0.dis, s0.djI, s0.sub, fun i hi => ?_, s0.tab⟩
  · have q := env i o q
    obtain ⟨v, e1, r⟩ := s0.rep i o q
    refine ⟨v, ?_, r⟩
    rw [low i (by
      cases Nat.lt_or_ge i vs.length with
      | inl z => exact z
      | inr z => rw [List.getElem?_eq_none (by simpa using z)] at e1; cases e1)]
    exact e1
  · rw [List.getElem?_append_left (by
      cases Nat.lt_or_ge i os.length with
      | inl h => simpa using h
      | inr h => rw [List.getElem?_eq_none (by simpa using h)] at z; cases z)]
    exact z
  · have h := hrp i hi
    rw [low i (by omega), List.getElem?_map]
    show Option.map some vs[i]? = some (some (vs.getD i .non))
    rw [List.getD_eq_getElem?_getD, List.getElem?_eq_getElem (by omega)]
    rfl
/-- THE RULE for a def -/
theorem fnDc {T : List (Addr × Str)} {P : Program} {w : World} {K : PySem.W.Frag} {mg : Str → Option Value} {base : Heap} {k : Nat} {x qual : Str} {st : Stmt} {f : Addr} {fd : FuncData} {N ps : List Str} {n nN : Nat} {rp : List Nat} {m : SF} (F : Fun K x qual st f fd) (S : FnScope N ps (defScope st)) (hn : ps.length = n) (hN : N.length = nN) (hrp : ∀ i ∈ rp, i < n)
    (body : ∀ (cdv : Value) (hcv : fd.code = cdv) (A : Around) (outer : List PySem.Env) (s : Shared) (H : Hp) (pv : Nat → V) (E : XK), (A.deeper (envOfC qual (defScope st) s.heap.objs.size f cdv)).guards = some [] → Room k (A.deeper (envOfC qual (defScope st) s.heap.objs.size f cdv)) →
      DSs ⟨K, mg, (rp, pv, T), E⟩ (cxOf (L2.CX P w) P w K mg base N qual (defScope st) f cdv A outer s H E) (defBody st) m) : FnG P w K mg base (k + 1) f fd ps (spD K mg T (fnM n nN rp m)) := by
  have ln : ∀ {vs : List V} {H : Hp} {Q : VK} {E : XK}, spD K mg T (fnM n nN rp m) vs H Q E → ∃ I os F, Sim K (p0 T) I H (vs.map some) (os.map some) F ∧ os.length = n ∧ okA rp 0 os = true ∧ vs.length = n ∧
      (m (os.map some ++ List.replicate (nN - n) none) >>= fun r => match bkA rp r.2 0 os with
      | none => .no
      | some os' => match r.1 with
        | .rt o => .ok (o, os')
        | .nx => .ok (.fr .none, os')
        | _ => .no).post (fun r => ∀ v H', Aft K (p0 T) I H F (vs.map some) (r.2.map some) r.1 v H' → Q v H') (fun x => ∀ H' c d, Err T I H (Ow F) H' → XR mg x c d H' → E c d H') := by
    rintro vs H Q E ⟨I, os, F, s, p⟩
    unfold fnM at p
    by_cases h : os.length = n ∧ okA rp 0 os = true
    · rw [if_pos h] at p
      have hl := s.len
      simp only [List.length_map] at hl
      exact ⟨I, os, F, s, h.1, h.2, by omega, p⟩
    · rw [if_neg h] at p; exact p.elim
  refine fnG_ofc F S (fun vs H Q E h => ?_) fun cdv hcv A outer s H vs Q E hg hr h => ?_
  · obtain ⟨_, _, _, _, _, _, h, _⟩ := ln h
    rw [hn, h]
  · obtain ⟨I, os, F, sim, h1, h2, h3, p⟩ := ln h
    refine ⟨_, body cdv hcv A outer s H (fun i => vs.getD i .non) E hg hr, I, _, F, sim_start (N := N) sim h3 hrp, ?_⟩
    rw [hN]
    refine post_mono (post_bind.mp p) (fun r q => ?_) fun x z => z
    obtain ⟨fl, e⟩ := r
    have hv : ∀ i ∈ rp, vs[i]? = some (vs.getD i .non) := fun i hi => by
      have := hrp i hi
      rw [List.getD_eq_getElem?_getD, List.getElem?_eq_getElem (by omega)]; rfl
    cases qb : bkA rp e 0 os with
    | none => simp only [qb] at q; exact q.elim
    | some os' =>
      simp only [qb] at q
      cases fl with
      | rt o => exact fun v σ' H' af => q v H' (back_args sim rfl rfl hv h2 qb af)
      | nx => exact fun σ' H' ⟨I', F', s', st'⟩ => q .non H' (back_args sim rfl rfl hv h2 qb (AftD.aft ⟨I', F', .non, s', st'⟩))
      | bk => exact q.elim
      | ct => exact q.elim
theorem fnD {T : List (Addr × Str)} {P : Program} {w : World} {K : PySem.W.Frag} {mg : Str → Option Value} {base : Heap} {k : Nat} {x qual : Str} {st : Stmt} {f : Addr} {fd : FuncData} {N ps : List Str} {n nN : Nat} {rp : List Nat} {m : SF} (F : Fun K x qual st f fd) (S : FnScope N ps (defScope st)) (hn : ps.length = n) (hN : N.length = nN) (hrp : ∀ i ∈ rp, i < n)
    (body : ∀ (cdv : Value) (A : Around) (outer : List PySem.Env) (s : Shared) (H : Hp) (pv : Nat → V) (E : XK), (A.deeper (envOfC qual (defScope st) s.heap.objs.size f cdv)).guards = some [] → Room k (A.deeper (envOfC qual (defScope st) s.heap.objs.size f cdv)) →
      DSs ⟨K, mg, (rp, pv, T), E⟩ (cxOf (L2.CX P w) P w K mg base N qual (defScope st) f cdv A outer s H E) (defBody st) m) : FnG P w K mg base (k + 1) f fd ps (spD K mg T (fnM n nN rp m)) :=
  fnDc F S hn hN hrp fun cdv _ => body cdv
def sl : List AV → Nat → Option Nat
  | [], _ => none
  | .s j :: as, i => if j = i then some 0 else (sl as i).map (· + 1)
  | .d _ :: as, i => (sl as i).map (· + 1)
def ndS : List AV → Bool
  | [] => true
  | .d _ :: as => ndS as
  | .s i :: as => (sl as i).isNone && ndS as
def rsO (env : Env) : List AV → Option (List O)
  | [] => some []
  | .d x :: as => (rsO env as).map (.fr x :: ·)
  | .s i :: as => match (env[i]?).join, rsO env as with
    | some o, some os => some (o :: os)
    | _, _ => none
def putB : List AV → List O → Env → Env
  | .d _ :: as, _ :: os, e => putB as os e
  | .s i :: as, o :: os, e => putB as os (e.set i (some o))
  | _, _, e => e
def fCall (m : Fn) (as : List AF) : EF := fun env => evA as env >>= fun r => match rsO r.2 r.1 with
  | none => .no
  | some os => if ndS r.1 = true then m os >>= fun q => .ok (q.1, putB r.1 q.2 r.2) else .no
theorem sl_some : ∀ {as : List AV} {i k : Nat}, sl as i = some k → as[k]? = some (.s i)
  | [], _, _, h => by cases h
  | .s j :: as, i, k, h => by
    unfold sl at h
    by_cases e : j = i
    · rw [if_pos e] at h; cases h; subst e; rfl
    · rw [if_neg e] at h
      cases q : sl as i with
      | none => rw [q] at h; cases h
      | some k' => rw [q] at h; cases h; simpa using sl_some q
  | .d _ :: as, i, k, h => by
    unfold sl at h
    cases q : sl as i with
    | none => rw [q] at h; cases h
    | some k' => rw [q] at h; cases h; simpa using sl_some q
theorem sl_of : ∀ {as : List AV} {i k : Nat}, ndS as = true → as[k]? = some (.s i) → sl as i = some k
  | [], _, _, _, h => by simp at h
  | .s j :: as, i, 0, n, h => by
    simp at h; subst h
    unfold sl; rw [if_pos rfl]
  | .s j :: as, i, k + 1, n, h => by
    unfold ndS at n
    simp only [Bool.and_eq_true] at n
    have q := sl_of (k := k) n.2 (by simpa using h)
    have hj : j ≠ i := fun e => by subst e; rw [q] at n; exact absurd n.1 (by simp)
    unfold sl; rw [if_neg hj, q]; rfl
  | .d _ :: as, i, 0, n, h => by simp at h
  | .d _ :: as, i, k + 1, n, h => by
    have q : sl as i = some k := sl_of (as := as) (k := k) n (by simpa using h)
    unfold sl; rw [q]; rfl
theorem putB_len : ∀ {as : List AV} {os : List O} {e : Env}, (putB as os e).length = e.length
  | [], _, _ => rfl
  | .d _ :: _, [], _ => rfl
  | .s _ :: _, [], _ => rfl
  | .d _ :: as, _ :: os, e => by unfold putB; exact putB_len
  | .s i :: as, o :: os, e => by unfold putB; rw [putB_len, List.length_set]
theorem putB_at : ∀ {as : List AV} {os : List O} {e : Env} {i : Nat}, ndS as = true → os.length = as.length → (∀ j, (sl as j).isSome = true → j < e.length) → (putB as os e)[i]? = match sl as i with
    | some k => (os[k]?).map some
    | none => e[i]?
  | [], _, _, _, _, _, _ => rfl
  | .d _ :: as, [], _, _, _, h, _ => by cases h
  | .s _ :: as, [], _, _, _, h, _ => by cases h
  | .d _ :: as, o :: os, e, i, n, h, b => by
    unfold putB sl
    rw [putB_at (as := as) (i := i) n (by simpa using h) fun j hj => b j (by unfold sl; cases q : sl as j <;> simp [q] at hj ⊢)]
    cases sl as i <;> rfl
  | .s j :: as, o :: os, e, i, n, h, b => by
    unfold ndS at n
    simp only [Bool.and_eq_true] at n
    unfold putB sl
    rw [putB_at (i := i) n.2 (by simpa using h) fun j' hj => by
      rw [List.length_set]
      refine b j' ?_
      unfold sl
      split
      · rfl
      · cases q : sl as j' <;> simp [q] at hj ⊢]
    by_cases e1 : j = i
    · subst e1
      rw [if_pos rfl]
      cases q : sl as j with
      | some k => rw [q] at n; exact absurd n.1 (by simp)
      | none =>
        show (e.set j (some o))[j]? = _
        rw [List.getElem?_set_self (b j (by unfold sl; rw [if_pos rfl]; rfl))]; rfl
    · rw [if_neg e1]
      cases q : sl as i with
      | none =>
        show (e.set j (some o))[i]? = _
        rw [List.getElem?_set_ne e1]; rfl
      | some k => rfl
theorem rsO_len {env : Env} : ∀ {as : List AV} {os : List O}, rsO env as = some os → os.length = as.length
  | [], _, h => by cases h; rfl
  | .d x :: as, os, h => by
    unfold rsO at h
    cases q : rsO env as with
    | none => rw [q] at h; cases h
    | some y => rw [q] at h; cases h; simp [rsO_len q]
  | .s i :: as, os, h => by
    unfold rsO at h
    cases q1 : (env[i]?).join with
    | none => rw [q1] at h; cases h
    | some o =>
      cases q : rsO env as with
      | none => rw [q1, q] at h; cases h
      | some y => rw [q1, q] at h; cases h; simp [rsO_len q]
theorem rsO_at {env : Env} : ∀ {as : List AV} {os : List O} {k : Nat} {o : O}, rsO env as = some os → os[k]? = some o → (∃ x, as[k]? = some (.d x) ∧ o = .fr x) ∨ (∃ i, as[k]? = some (.s i) ∧ env[i]? = some (some o))
  | [], _, _, _, h, e => by cases h; simp at e
  | .d x :: as, os, k, o, h, e => by
    unfold rsO at h
    cases q : rsO env as with
    | none => rw [q] at h; cases h
    | some y =>
      rw [q] at h; cases h
      cases k with
      | zero => simp at e; subst e; exact .inl ⟨x, rfl, rfl⟩
      | succ k => rcases rsO_at (k := k) q (by simpa using e) with ⟨x, a, b⟩ | ⟨i, a, b⟩
                  · exact .inl ⟨x, by simpa using a, b⟩
                  · exact .inr ⟨i, by simpa using a, b⟩
  | .s i :: as, os, k, o, h, e => by
    unfold rsO at h
    cases q1 : (env[i]?).join with
    | none => rw [q1] at h; cases h
    | some o1 =>
      cases q : rsO env as with
      | none => rw [q1, q] at h; cases h
      | some y =>
        rw [q1, q] at h; cases h
        cases k with
        | zero =>
          simp at e; subst e
          refine .inr ⟨i, rfl, ?_⟩
          cases z : env[i]? with
          | none => rw [z] at q1; cases q1
          | some w => rw [z] at q1; cases w <;> cases q1; rfl
        | succ k => rcases rsO_at (k := k) q (by simpa using e) with ⟨x, a, b⟩ | ⟨i, a, b⟩
                    · exact .inl ⟨x, by simpa using a, b⟩
                    · exact .inr ⟨i, by simpa using a, b⟩
theorem av_len {K : PySem.W.Frag} {I : Hp} {σ : St} : ∀ {as : List AV} {vs : List V}, RepAV K I σ as vs → vs.length = as.length
  | _, _, .nil => rfl
  | _, _, .d _ t => by simp [av_len t]
  | _, _, .s _ t => by simp [av_len t]
theorem av_at {K : PySem.W.Frag} {I : Hp} {σ : St} : ∀ {as : List AV} {vs : List V} {k : Nat} {a : AV}, RepAV K I σ as vs → as[k]? = some a → ∃ v, vs[k]? = some v ∧ (match a with | .d x => Rp K I v x | .s i => σ[i]? = some (some v))
  | _, _, _, _, .nil, h => by simp at h
  | _, _, 0, _, .d r t, h => by simp at h; subst h; exact ⟨_, rfl, r⟩
  | _, _, 0, _, .s r t, h => by simp at h; subst h; exact ⟨_, rfl, r⟩
  | _, _, k + 1, a, .d r t, h => by obtain ⟨v, h1, h2⟩ := av_at (k := k) t (by simpa using h); exact ⟨v, by simpa using h1, h2⟩
  | _, _, k + 1, a, .s r t, h => by obtain ⟨v, h1, h2⟩ := av_at (k := k) t (by simpa using h); exact ⟨v, by simpa using h1, h2⟩
section
variable {g : G} {σ : St} {I H : Hp} {env : Env} {F : Nat → List Addr}
/-- the caller's frame lends some of its slots -/
def lend (as : List AV) (F : Nat → List Addr) : Nat → List Addr := fun k => match as[k]? with
  | some (.s i) => F i
  | _ => []
theorem sim_lend {K : PySem.W.Frag} {π : Pn} {as : List AV} {vs : List V} {os : List O} (s : Sim K π I H σ env F) (nd : ndS as = true) (av : RepAV K I σ as vs) (ro : rsO env as = some os) : Sim K (p0 π.2.2) I H (vs.map some) (os.map some) (lend as F) := by
  refine ⟨by simp [rsO_len ro, av_len av], fun k o q => ?_, fun k q => ?_, fun k l a h1 h2 => ?_, fun k a h => ?_, s.sub, (fun i hi => by cases hi), s.tab⟩
  · rcases rsO_at ro (getm q) with ⟨x, h1, rfl⟩ | ⟨i, h1, h2⟩
    · obtain ⟨v, e1, r⟩ := av_at av h1
      exact ⟨v, putm e1, by unfold lend; rw [h1]; exact ⟨rfl, r⟩⟩
    · obtain ⟨v, e1, r⟩ := av_at av h1
      obtain ⟨v', e2, r'⟩ := s.rep i o h2
      have r : σ[i]? = some (some v) := r
      rw [r] at e2; cases e2
      exact ⟨v, putm e1, by unfold lend; rw [h1]; exact r'⟩
  · unfold lend
    cases z : as[k]? with
    | none => rfl
    | some y =>
      cases y with
      | d x => rfl
      | s i =>
        have hk : k < os.length := by
          rw [rsO_len ro]
          cases Nat.lt_or_ge k as.length with
          | inl h => exact h
          | inr h => rw [List.getElem?_eq_none h] at z; cases z
        exact absurd (putm (List.getElem?_eq_getElem hk)) (q _)
  · unfold lend at h1 h2
    cases z1 : as[k]? with
    | none => rw [z1] at h1; cases h1
    | some y1 =>
      cases z2 : as[l]? with
      | none => rw [z2] at h2; cases h2
      | some y2 =>
        rw [z1] at h1; rw [z2] at h2
        cases y1 with
        | d _ => cases h1
        | s i =>
          cases y2 with
          | d _ => cases h2
          | s j =>
            have e := s.dis i j a h1 h2
            subst e
            have e1 := sl_of nd z1
            rw [sl_of nd z2] at e1
            exact (Option.some.inj e1).symm
  · unfold lend at h
    cases z1 : as[k]? with
    | none => rw [z1] at h; cases h
    | some y =>
      rw [z1] at h
      cases y with
      | d _ => cases h
      | s i => exact s.djI i a h
theorem lend_ow {as : List AV} {a : Addr} (h : Ow (lend as F) a) : ∃ (k i : Nat), as[k]? = some (AV.s i) ∧ a ∈ F i := by
  obtain ⟨k, hk⟩ := h
  unfold lend at hk
  cases z : as[k]? with
  | none => rw [z] at hk; cases hk
  | some y =>
    rw [z] at hk
    cases y with
    | d _ => cases hk
    | s i => exact ⟨k, i, z, hk⟩
theorem back_call {K : PySem.W.Frag} {π : Pn} {as : List AV} {vs : List V} {os os' : List O} {o : O} {v : V} {H' : Hp} (s : Sim K π I H σ env F) (nd : ndS as = true) (av : RepAV K I σ as vs) (ro : rsO env as = some os)
    (af : Aft K (p0 π.2.2) I H (lend as F) (vs.map some) (os'.map some) o v H') : Aft K π I H F σ (putB as os' env) o v H' := by
  obtain ⟨I', FA, R, r, sA, nR, dR, st⟩ := af
  have hlo : os'.length = as.length := by
    have := sA.len
    simp only [List.length_map] at this
    rw [this, av_len av]
  have hin : ∀ j, (sl as j).isSome = true → j < env.length := fun j hj => by
    cases q : sl as j with
    | none => rw [q] at hj; cases hj
    | some k =>
      obtain ⟨w, _, e1⟩ := av_at av (sl_some q)
      have e1 : σ[j]? = some (some w) := e1
      rw [s.len]
      cases Nat.lt_or_ge j σ.length with
      | inl h => exact h
      | inr h => rw [List.getElem?_eq_none h] at e1; cases e1
  let F2 : Nat → List Addr := fun i => match sl as i with
    | some k => FA k
    | none => F i
  have notL : ∀ i, sl as i = none → ∀ a ∈ F i, ¬ Ow (lend as F) a := fun i hn a ha h => by
    obtain ⟨k, j, e1, e2⟩ := lend_ow h
    have e := s.dis i j a ha e2
    subst e
    rw [sl_of nd e1] at hn; cases hn
  have F2s : ∀ {i k}, sl as i = some k → F2 i = FA k := fun {i k} h => by show (match sl as i with | some k => FA k | none => F i) = _; rw [h]
  have F2n : ∀ {i}, sl as i = none → F2 i = F i := fun {i} h => by show (match sl as i with | some k => FA k | none => F i) = _; rw [h]
  have keepH : ∀ i, sl as i = none → ∀ a ∈ F i, H' a = H a := fun i hn a ha => by
    obtain ⟨u, hu, nu⟩ := s.domN ha
    rw [hu, st.fr a u hu (notL i hn a ha) nu]
  have nA : ∀ i, sl as i = none → ∀ a ∈ F i, ∀ k, a ∉ FA k := fun i hn a ha k hk => by
    obtain ⟨u, hu⟩ := s.dom ha
    rcases st.s' a (.inl ⟨k, hk⟩) with z | z
    · exact notL i hn a ha z
    · rw [hu] at z; cases z
  have ow : ∀ a, Ow F2 a → Ow FA a ∨ ∃ i, sl as i = none ∧ a ∈ F i := fun a ⟨i, hi⟩ => by
    cases q : sl as i with
    | some k => rw [F2s q] at hi; exact .inl ⟨k, hi⟩
    | none => rw [F2n q] at hi; exact .inr ⟨i, q, hi⟩
  refine ⟨I', F2, R, r, ⟨by rw [putB_len, s.len], fun i y q => ?_, fun i q => ?_, fun i j a h1 h2 => ?_, fun i a h => ?_, sA.sub, s.pin, sA.tab⟩, nR, fun a ha hr => ?_, ⟨st.i1, fun a u h n nt => ?_, fun a u h n => ?_, fun a h => ?_, fun a u h => ?_⟩⟩
  · rw [putB_at nd hlo hin] at q
    cases z : sl as i with
    | none =>
      rw [z] at q
      obtain ⟨w, e1, rr⟩ := s.rep i y q
      exact ⟨w, e1, by rw [F2n z]; exact rr.mono st.i1 (keepH i z)⟩
    | some k =>
      rw [z] at q
      have q : (os'[k]?).map some = some (some y) := q
      cases z2 : os'[k]? with
      | none => rw [z2] at q; cases q
      | some y' =>
        rw [z2] at q; cases q
        obtain ⟨w, e1, rr⟩ := sA.rep k y (putm z2)
        obtain ⟨w', e2, e3⟩ := av_at av (sl_some z)
        have e3 : σ[i]? = some (some w') := e3
        have := getm e1
        rw [e2] at this; cases this
        exact ⟨_, e3, by rw [F2s z]; exact rr⟩
  · cases z : sl as i with
    | none =>
      rw [F2n z]
      exact s.out i fun o hz => q o (by rw [putB_at nd hlo hin, z]; exact hz)
    | some k =>
      rw [F2s z]
      refine sA.out k fun o hz => q o ?_
      rw [putB_at nd hlo hin, z]
      show (os'[k]?).map some = some (some o)
      rw [getm hz]; rfl
  · cases z1 : sl as i with
    | none =>
      rw [F2n z1] at h1
      cases z2 : sl as j with
      | none => rw [F2n z2] at h2; exact s.dis i j a h1 h2
      | some l => rw [F2s z2] at h2; exact absurd h2 (nA i z1 a h1 l)
    | some k =>
      rw [F2s z1] at h1
      cases z2 : sl as j with
      | none => rw [F2n z2] at h2; exact absurd h1 (nA j z2 a h2 k)
      | some l =>
        rw [F2s z2] at h2
        have e := sA.dis k l a h1 h2
        subst e
        have := sl_some z1
        rw [sl_some z2] at this
        cases this; rfl
  · cases z1 : sl as i with
    | none =>
      rw [F2n z1] at h
      cases q : I' a with
      | none => rfl
      | some u =>
        rcases st.i' a u q with y | y | y
        · rw [s.djI i a h] at y; cases y
        · exact (notL i z1 a h y).elim
        · obtain ⟨w, hw⟩ := s.dom h; rw [y] at hw; cases hw
    | some k => rw [F2s z1] at h; exact sA.djI k a h
  · rcases ow a ha with z | ⟨i, hn, hi⟩
    · exact dR a z hr
    · obtain ⟨u, hu⟩ := s.dom hi
      rcases st.s' a (.inr hr) with z | z
      · exact notL i hn a hi z
      · rw [hu] at z; cases z
  · refine st.fr a u h (fun z => n ?_) nt
    obtain ⟨k, i, _, hi⟩ := lend_ow z
    exact ⟨i, hi⟩
  · refine st.th a u h fun z => n ?_
    obtain ⟨k, i, _, hi⟩ := lend_ow z
    exact ⟨i, hi⟩
  · have lo : ∀ a, Ow (lend as F) a → Ow F a := fun a z => by obtain ⟨k, i, _, hi⟩ := lend_ow z; exact ⟨i, hi⟩
    rcases h with h | h
    · rcases ow a h with z | ⟨i, _, hi⟩
      · rcases st.s' a (.inl z) with y | y
        · exact .inl (lo a y)
        · exact .inr y
      · exact .inl ⟨i, hi⟩
    · rcases st.s' a (.inr h) with y | y
      · exact .inl (lo a y)
      · exact .inr y
  · rcases st.i' a u h with z | z | z
    · exact .inl z
    · obtain ⟨k, i, _, hi⟩ := lend_ow z
      exact .inr (.inl ⟨i, hi⟩)
    · exact .inr (.inr z)
theorem call_key {m : Fn} {as : List AF} {Q : VK} (h : tD g (fCall m as) σ H Q) : tA g as σ H fun vs H1 => spD g.K g.mg g.pn.2.2 m vs H1 Q g.E := by
  obtain ⟨I, env, F, s, p⟩ := h
  refine ⟨I, env, F, s, post_mono (post_bind.mp p) (fun r q vs H' I' F' s' st av => ?_) fun _ z => z⟩
  cases qo : rsO r.2 r.1 with
  | none => simp only [qo] at q; exact q.elim
  | some os =>
    simp only [qo] at q
    by_cases nd : ndS r.1 = true
    · rw [if_pos nd] at q
      refine ⟨I', os, lend r.1 F', sim_lend s' nd av qo, post_mono (post_bind.mp q) (fun y z v H'' af => ?_) fun x z H'' c d er xr => ?_⟩
      · exact z v H'' (Aft.trans st (back_call s' nd av qo af))
      · refine z H'' c d (Err.trans st ?_) xr
        obtain ⟨I2, e1, e2, k⟩ := er
        have lo : ∀ a, Ow (lend r.1 F') a → Ow F' a := fun a z => by obtain ⟨_, i, _, hi⟩ := lend_ow z; exact ⟨i, hi⟩
        refine ⟨I2, e1, e2, k.i1, fun a u hu n => k.fr a u hu fun z => n (lo a z), fun a u hu n => k.th a u hu fun z => n (lo a z), fun a z => z.elim, fun a u z => ?_⟩
        rcases k.i' a u z with y | y | y
        · exact .inl y
        · exact .inr (.inl (lo a y))
        · exact .inr (.inr y)
    · rw [if_neg nd] at q; exact q.elim
end
section
variable {g : G} {X : Cx} {k : Nat} {f : Addr} {fd : FuncData} {ps : List Str} {m : Fn} {x : Str} {p pos : Pos} {e : Expr} {es : List Expr} {as : List AF}
theorem de_call (F : FnG X.prog X.w X.K X.mg X.base k f fd ps (spD g.K g.mg g.pn.2.2 m)) (hgd : X.A.guards = some []) (hr : Room k X.A) (hg : Gl X x) (hm : X.mg x = some (.ref f)) (hk : PySem.W.keepIn X.K (.ref f) = true) (hb : Binds X.K fd ps []) (hx : Passes (L2.CX X.prog X.w) X g.E)
    (ha : DA g X (e :: es) as) (hdb : (x == ("__debug__" : Str)) = false := by decide) (he : starEach (e :: es) X.env = (false, eval e X.env) :: starEach es X.env := by rfl) (hpl : (backTo pos (starEach es X.env)).any (·.1) = false := by rfl) :
    DE g X (.Call (.Name x p) (e :: es) [] pos) (fCall m as) := PE.imp (peG F hgd hr hg hm hk hb hx ha hdb he hpl) fun σ H Q h => call_key h
end
end Dy
namespace Dy
open PySem PySem.Spec PyProof.Rows L2
/-- the law is called where nothing is tracked but the script -/
theorem lawG {P : Program} {w : World} {K : PySem.W.Frag} {mg mb : Str → Option Value} {k : Nat} {fa a : Addr} {fd : FuncData} {x : Str} {sp : Sp} {s1 : Shared} {vs : List Value} {ns : List Int}
    (KX : K.In s1.heap) (hns : s1.heap.Ns mainGlobals mg) (hb : s1.heap.Ns builtinsNs mb) (hbb : ∀ x : Str, x ≠ "__name__" → mb x = bootBuiltins x) (hlim : s1.heap.NoLimit) (hgs : s1.gens = #[])
    (ha : s1.heap.get? a = some { cls := .type "list", data := .seq vs.toArray }) (hi : IntsAre vs ns) (hl : ns.length ≤ sizeLine) (hr : Room k callerA)
    (F : ∀ base : Heap, K.In base → base.Ns mainGlobals mg → FnG P w K mg base k fa fd [x] sp) (bind : ∀ (s : Shared) (u : Value), BindsTo s fd ⟨[u], []⟩ [(x, u)])
    (hsp : ∀ H : Hp, LsL K H a (ns.map V.int) → sp [.ref a] H (fun v _ => v = .bl true) fun _ _ _ => False) :
    codeAny (model P w) callerA (.call (.ref fa) ⟨[.ref a], []⟩) (fun r s' => r = .ok (.ret (.bool true)) ∧ OldK s1.heap s'.heap ∧ s'.os = s1.os ∧ AllBare s'.gens) s1 := by
  have rv := vals_ints hi
  have hlen := hi.length
  suffices core : ∀ H : Hp, (∀ b, H b = none ∨ ∃ o xs, H b = some (.frz o (.lst xs))) → LsL K H a (ns.map V.int) → HOk P w H s1.heap → (∀ b, H b ≠ none → b = a) → (H a ≠ none → K.lookup a = none) →
      codeAny (model P w) callerA (.call (.ref fa) ⟨[.ref a], []⟩) (fun r s' => r = .ok (.ret (.bool true)) ∧ OldK s1.heap s'.heap ∧ s'.os = s1.os ∧ AllBare s'.gens) s1 by
    cases hk : K.lookup a with
    | some o =>
      have e := KX a o hk
      rw [ha] at e
      cases e
      refine core (fun _ => none) (fun _ => Or.inl rfl) (Or.inr ⟨vs, _, hk, by rw [hlen]; exact hl, rv⟩) (fun b u z => ?_) (fun b z => (z rfl).elim) (fun z => (z rfl).elim)
      · exact absurd (show (none : Option HO) = some u from z) (by simp)
    | none =>
      let o1 : Obj := { cls := .type "list", data := .seq vs.toArray }
      refine core (fun b => if b = a then some (.frz o1 (.lst (ns.map V.int))) else none) (fun b => ?_) (Or.inl (Or.inr ⟨o1, if_pos rfl⟩)) (fun b u z => ?_) (fun b z => ?_) (fun _ => hk)
      · by_cases h : b = a
        · exact Or.inr ⟨o1, _, if_pos h⟩
        · exact Or.inl (if_neg h)
      · by_cases h : b = a
        · have z' := (if_pos h).symm.trans z
          cases z'
          rw [h]
          exact ⟨ha, by rw [List.length_map]; exact hl, vs, _, rv, ha⟩
        · have z' := (if_neg h).symm.trans z
          cases z'
      · by_cases h : b = a
        · exact h
        · exact (z (if_neg h)).elim
  intro H hO hS hok hA hK
  have up : ∀ {b : Addr} {o : Obj}, s1.heap.get? b = some o → H b = none → (hidT s1.heap H).get? b = some o := fun e n => hidT_get e n
  have free : ∀ {b : Addr} {o : Obj} {es : Array DictEntry} {ep : Nat}, s1.heap.get? b = some o → o.data = .dict es ep → H b = none := by
    intro b o es ep e d
    cases q : H b with
    | none => rfl
    | some u =>
      have z : b = a := hA b (by rw [q]; exact fun h => by cases h)
      rw [z, ha] at e
      cases e
      exact absurd (show Data.seq vs.toArray _ = Data.dict es ep from d) (by intro h; cases h)
  have ns' : ∀ {b : Addr} {m : Str → Option Value}, s1.heap.Ns b m → (hidT s1.heap H).Ns b m := by
    rintro b m ⟨o, es, ep, e, d, r⟩
    exact ⟨o, es, ep, up e (free e d), d, r⟩
  have kin : K.In (hidT s1.heap H) := by
    intro b o e
    refine up (KX b o e) ?_
    cases q : H b with
    | none => rfl
    | some u =>
      have z : b = a := hA b (by rw [q]; exact fun h => by cases h)
      subst z
      rw [hK (by rw [q]; exact fun h => by cases h)] at e
      cases e
  have hM : Mod K mg (hidT s1.heap H) := by
    refine ⟨kin, ns' hns, ⟨mb, ns' hb, hbb⟩, ?_⟩
    obtain ⟨mc, h1, h2⟩ := hlim
    exact ⟨mc, ns' h1, h2⟩
  have e0 : L2.Env0 P w K mg (hidT s1.heap H) callerA [] s1 H :=
    { frames := rfl, mod := hM, bs := fun b o e => of_hidT e, bsz := Nat.le_of_eq (hidT_size _ _), funs := trivial, frf := fun b z => (nomatch (show b ∈ ([] : List Addr) from z)), hok := hok, bare := .of_eq hgs }
  refine codeAny_mono ((F _ kin (ns' hns)).run callerA [] s1 H ⟨[.ref a], []⟩ [.ref a] [.ref a] _ _ rfl hr e0 (bind s1 (.ref a)) (.cons rfl .nil) (hsp H hS)) ?_
  intro r s' h
  cases r with
  | error e =>
    obtain ⟨_, _, _, _, _, _, _, _, _, _, _, _, z⟩ := h
    exact z.elim
  | ok fl =>
    cases fl with
    | next => exact h.elim
    | brk => exact h.elim
    | cont => exact h.elim
    | ret u =>
      obtain ⟨v, H', os, bare, un, hok', r', q⟩ := h
      have q : v = .bl true := q
      subst q
      cases (show u = Value.bool true from r')
      refine ⟨rfl, OldK.of_keep (fun b o e => ?_), os, bare⟩
      rcases hO b with z | ⟨ob, xs, z⟩
      · exact un.keep b o e z (fun h => by cases (show b ∈ ([] : List Addr) from h)) (by simp)
      · obtain ⟨e1, _⟩ := hok b _ z
        obtain ⟨e2, _⟩ := hok' b _ (un.frzs b ob _ z)
        rw [e] at e1; cases e1
        exact e2
/-- the goal behind k_head, k_fill -/
theorem walkG {l : PySem.W.OpenLaw} {n k : Nat} {q : Program} {loose : List Str} {XP : (Str → Option Value) → Heap → Prop} {YP : World → Heap → Prop} {d : DefRec} {K : Params → PySem.W.Frag} {sp : PySem.W.Frag → (Str → Option Value) → Sp} {x : Str}
    (hn : l.most = some n) (hn2 : n ≤ sizeLine) (hdf : d.params.defaults = []) (hr : Room k callerA) (hY : ∀ (w : World) (h : Heap), YP w h → (K w.params).In h)
    (F : ∀ (w : World) (mg : Str → Option Value) (fa : Addr) (h : Heap), (K w.params).In h → h.Ns mainGlobals mg → mg d.name = some (.ref fa) →
      ∃ fd : FuncData, (∀ (s : Shared) (u : Value), BindsTo s fd ⟨[u], []⟩ [(x, u)]) ∧ ∀ base : Heap, (K w.params).In base → base.Ns mainGlobals mg → FnG l.prog w (K w.params) mg base k fa fd [x] (sp (K w.params) mg))
    (hsp : ∀ (K : PySem.W.Frag) (mg : Str → Option Value) (H : Hp) (a : Addr) (ns : List Int), ns.length ≤ n → (∀ z ∈ ns, Builtin.Int.intBits z ≤ 1048576) → LsL K H a (ns.map V.int) → sp K mg [.ref a] H (fun v _ => v = .bl true) fun _ _ _ => False) :
    PySem.W.WalkO q loose XP YP l.row.toRowW d [] (fun f vs => PySem.call f vs) := by
  refine Att.attach_callB hn hdf ?_
  intro w s0 s1 mg mb fa o pm cd doc a vs ns G Y ho hd hcd hmg hobj hints hlen hbits hgs
  obtain ⟨fd, hb, hF⟩ := F w mg fa _ (hY w _ Y) G.T.g hmg
  exact lawG (hY w _ Y) G.T.g G.T.b G.T.builtins G.T.nolimit hgs hobj hints (Nat.le_trans hlen hn2) hr hF hb (fun H hS => hsp _ mg H a ns hlen hbits hS)
/-- the script's ints as data -/
theorem rp_ints {K : PySem.W.Frag} {I : Hp} : ∀ ns : List Int, RpAll K I (ns.map V.int) (ns.map PyData.int)
  | [] => .nil
  | n :: ns => .cons (.int n) (rp_ints ns)
/-- a law whose mirror says True at every script -/
theorem law_ok {K : PySem.W.Frag} {mg : Str → Option Value} {H : Hp} {a : Addr} {ns : List Int} {m : Fn} {os' : List O} (h : m [.fr (.list (ns.map PyData.int))] = .ok (.fr (.bool true), os')) (hS : LsL K H a (ns.map V.int)) :
    spD K mg [] m [.ref a] H (fun v _ => v = .bl true) fun _ _ _ => False := by
  refine ⟨H, [.fr (.list (ns.map PyData.int))], fun _ => [], ⟨rfl, fun i o q => ?_, fun _ _ => rfl, fun i j a h => (nomatch h), fun i a h => (nomatch h), Same.refl _, (fun i hi => (nomatch hi)), fun p hp => (nomatch hp)⟩, ?_⟩
  · cases i with
    | zero =>
      cases q
      exact ⟨_, rfl, rfl, .lst hS (rp_ints ns)⟩
    | succ i => simp at q
  · rw [h]
    intro v H' ⟨I', F', R, r, _⟩
    cases r.2
    rfl
end Dy
namespace Dy
open PySem PySem.Spec PyProof.Rows L2
open AutoSeq1 (wpAny_loadPart')
theorem meets_enum1 {v : Value} {o : Obj} {Hh : Heap → Prop} (B : Begins v o Hh) :
    Meets (Builtin.«enumerate.__new__» ⟨[.type "enumerate", v], []⟩) (fun _ R s => Hh s.heap ∧ R (.ok (.ret (.ref (s.heap.push o).objs.size))) { s with heap := (s.heap.push o).push { cls := .type "enumerate", data := .fields #[.none, .bool false, .ref s.heap.objs.size, rawInt 0, .none, .none] } }) :=
  .of_wp fun prog w A R s h => by
    obtain ⟨hp, gg, dd, tk, os⟩ := s
    obtain ⟨h1, h⟩ := h
    have hsub := sub_enumerate
    have q1 : ∀ {A' : Around} {E : Value → Shared → Prop} {Q : Value → Shared → Prop}, Q (.ref hp.objs.size) ⟨hp.push o, gg, dd, tk, os⟩ → wpAny (model prog w) A' (pyIter v) Q E ⟨hp, gg, dd, tk, os⟩ := by
      intro A' E Q q
      exact B.iter prog w _ _ ⟨hp, gg, dd, tk, os⟩ _ h1 q
    wp_walk using q1
    refine wpAny_stack_any fun stk => wpAny_pure ?_
    split
    · rename_i c _ _ _ _ _
      cases (c == Value.type "enumerate") <;> (wp_walk using q1; exact ⟨_, rfl, h⟩)
    · wp_walk using q1
      exact ⟨_, rfl, h⟩
theorem call_enum1 {prog : Program} {w : World} {A : Around} {E : Value → Shared → Prop} {s : Shared} {v : Value} {o : Obj} {Hh : Heap → Prop} {Q : Value → Shared → Prop} (B : Begins v o Hh) (h1 : Hh s.heap)
    (h : ∀ h', IsEnum h' (s.heap.objs.size + 1) s.heap.objs.size 0 .none → h'.get? s.heap.objs.size = some o → (∀ b o, s.heap.get? b = some o → h'.get? b = some o) → Q (.ref (s.heap.objs.size + 1)) { s with heap := h' }) :
    wpAny (model prog w) A (call (.type "enumerate") [v]) Q E s := by
  refine callType_new F.called_enumerate (by decide) (F.typeCall_enumerate_1 _) (F.newCall_enumerate_1 _) (fun obj => F.args_object_init_2 obj _) F.entry_enumerate_new (meets_enum1 B) ⟨h1, ?_⟩
  have hz : (s.heap.push o).objs.size = s.heap.objs.size + 1 := Heap.size_push ..
  let en : Obj := { cls := .type "enumerate", data := .fields #[.none, .bool false, .ref s.heap.objs.size, rawInt 0, .none, .none] }
  have he : IsEnum ((s.heap.push o).push en) (s.heap.objs.size + 1) s.heap.objs.size 0 .none := by
    have q := Heap.get?_push_size (s.heap.push o) (o := en) rfl
    rw [hz] at q
    exact q
  show _ ∧ _
  rw [hz]
  exact ⟨⟨_, he, rfl⟩, h _ he (Heap.get?_push_of_some _ (Heap.get?_push_size _ B.free)) fun b u x => Heap.get?_push_of_some _ (Heap.get?_push_of_some _ x)⟩
def SqX (t : Bool) (K : PySem.W.Frag) (H : Hp) (a : Addr) (xs : List V) : Prop := if t = true then SqT K H a xs else SqL K H a xs
def IsX (t : Bool) (h : Heap) (a : Addr) (items : Array Value) : Prop := if t = true then h.IsTuple a items else h.IsList a items
def ItX (t : Bool) (h : Heap) (it a : Addr) (i : Nat) : Prop := if t = true then h.IsTupleIter it a i else h.IsListIter it a i
def itO (t : Bool) (a : Addr) : Obj := if t = true then { cls := .type "tuple_iterator", data := .fields #[.ref a, .int 0 0] } else { cls := .type "list_iterator", data := .fields #[.ref a, .int 0 0] }
theorem begX (t : Bool) (a : Addr) (items : Array Value) : Begins (.ref a) (itO t a) fun h => IsX t h a items := by
  cases t
  · exact begins_list a items
  · exact begins_tuple a items
theorem itX_new {t : Bool} {h : Heap} {it a : Addr} (e : h.get? it = some (itO t a)) : ItX t h it a 0 := by
  cases t
  · exact ⟨_, e, rfl, rfl⟩
  · exact ⟨_, e, rfl, rfl⟩
theorem drX {prog : Program} {w : World} {A : Around} (hh : A.handled = none) (t : Bool) (it a : Addr) (hne : a ≠ it) (items : Array Value) : Draws prog w A it [it, a] items.size (fun i v => items[i]? = some v) (fun i h => ItX t h it a i ∧ IsX t h a items) := by
  cases t
  · exact Draws.list hh it a hne items
  · exact Draws.tuple hh it a hne items
theorem itX_obj {t : Bool} {h : Heap} {it a : Addr} {i : Nat} (x : ItX t h it a i) : ∃ o, h.get? it = some o ∧ ∀ v, o.data ≠ .cell v := by
  cases t
  · obtain ⟨o, e, _, d⟩ := x
    exact ⟨o, e, fun v z => by rw [d] at z; cases z⟩
  · obtain ⟨o, e, _, d⟩ := x
    exact ⟨o, e, fun v z => by rw [d] at z; cases z⟩
theorem itX_at {t : Bool} {h h' : Heap} {it a : Addr} {i : Nat} (x : ItX t h it a i) (k : ∀ o, h.get? it = some o → h'.get? it = some o) : ItX t h' it a i := by
  cases t
  · obtain ⟨o, e, r⟩ := x
    exact ⟨o, k o e, r⟩
  · obtain ⟨o, e, r⟩ := x
    exact ⟨o, k o e, r⟩
section
variable {X : Cx} {pins : List (Addr × Obj)} {σ : St} {H : Hp} {s : Shared} {a : Addr} {xs ys : List V} {t : Bool}
theorem invX (J : Inv X pins σ H s) (h : SqX t X.K H a xs) : ∃ its : List Value, Vals xs its ∧ IsX t s.heap a its.toArray ∧ a < s.heap.objs.size := by
  cases t
  · obtain ⟨its, r, p, _⟩ := J.list h
    exact ⟨its, r, p.isList, by obtain ⟨_, _, e, _⟩ := p; exact Heap.lt_size e⟩
  · obtain ⟨its, r, p, _⟩ := J.tuple h
    exact ⟨its, r, p, by obtain ⟨_, e, _⟩ := p; exact Heap.lt_size e⟩
theorem invX_inj (J : Inv X pins σ H s) (h : SqX t X.K H a xs) (h' : SqX t X.K H a ys) : xs = ys := by
  cases t
  · exact J.list_inj h h'
  · exact J.tuple_inj h h'
end
/-- enumerate -/
def ItEn (t : Bool) (K : PySem.W.Frag) (a : Addr) : It :=
  ⟨fun i H => ∃ (xs : List V) (x : V), SqX t K H a xs ∧ xs[i]? = some x, fun i H v H' => ∃ T x, v = .ref T ∧ H T = none ∧ H' = upd H T (.tup [.int (i : Nat), x]) ∧ ∀ xs, SqX t K H a xs → xs[i]? = some x, fun i H => ∃ xs : List V, SqX t K H a xs ∧ xs.length = i⟩
theorem turn_en {P : Program} {w : World} {K : PySem.W.Frag} {elts : List Expr} {kk : Nat} {tpos : Pos} (t : Bool) (a e it : Addr) (hai : a ≠ it) (hae : a ≠ e) :
    Turn P w K (.Tuple elts kk tpos) (ItEn t K a) [e, it] e (fun i h => (∃ old, IsEnum h e it ((i : Nat) : Int) old) ∧ ItX t h it a i ∧ e ≠ it) where
  mem := by simp
  obj := by
    rintro i h ⟨⟨old, he⟩, hx, _⟩ b hb
    simp only [List.mem_cons, List.not_mem_nil, or_false] at hb
    rcases hb with rfl | rfl
    · exact ⟨_, he, fun v q => nomatch q⟩
    · exact itX_obj hx
  keep := by
    rintro i h h' ⟨⟨old, he⟩, hx, hne⟩ k
    exact ⟨⟨old, k e (by simp) _ he⟩, itX_at hx fun o q => k it (by simp) o q, hne⟩
  item := by
    intro X hP hw hK hc i pins s σ H E J hf stt hg
    subst hP hw hK
    obtain ⟨⟨old, he⟩, hit, hne⟩ := stt
    obtain ⟨xs, x, hq, hx⟩ := hg
    obtain ⟨its, rv, p, _⟩ := invX J hq
    obtain ⟨u, hu, ru⟩ := rv.get hx
    have hel : e < s.heap.objs.size := Heap.lt_size he
    have hil : it < s.heap.objs.size := by obtain ⟨_, q, _⟩ := itX_obj hit; exact Heap.lt_size q
    have hi : i < its.toArray.size := by
      rw [List.size_toArray]
      cases Nat.lt_or_ge i its.length with
      | inl z => exact z
      | inr z => rw [List.getElem?_eq_none z] at hu; cases hu
    refine wpAny_pyNext_enum_itemD (drX (A := X.A.in1) (J.ok.hd hc) t it a hai its.toArray) he ⟨hit, p⟩ hi hne (by simp only [List.mem_cons, List.not_mem_nil, or_false, not_or]; exact ⟨hne, Ne.symm hae⟩) fun y h' tk hy ho hst hT hsz hk => ?_
    have ey : y = u := by
      have hy : its.toArray[i]? = some y := hy
      have : its[i]? = some y := by simpa using hy
      rw [hu] at this; exact (Option.some.inj this).symm
    subst ey
    refine ⟨_, rfl, wpAny_letOwnedTupleGo_enum (s := { s with heap := h', toks := tk + 1 }) ho fun h'' he' sb => ?_⟩
    have hT2 : h''.get? s.heap.objs.size = some { cls := .type "tuple", data := .seq #[.int i tk, y] } := (sb.2 _ (Nat.ne_of_gt hel)).trans hT
    have nw : ObjOk X.prog X.w (upd H s.heap.objs.size (.tup [.int (i : Nat), x])) h'' s.heap.objs.size (.tup [.int (i : Nat), x]) :=
      ⟨by show 2 ≤ sizeLine; decide, [.int i tk, y], .cons ⟨_, rfl⟩ (.cons ru .nil), ⟨_, hT2, rfl, _, rfl⟩⟩
    have J1 : Inv X pins σ (upd H s.heap.objs.size (.tup [.int (i : Nat), x])) { s with heap := h'', toks := tk + 1 } := by
      refine J.turnedNew (ch := [e, it]) (fun b ob hb q => ?_) hf (Nat.le_refl _) nw
      simp only [List.mem_cons, List.not_mem_nil, or_false, not_or] at hb
      exact (sb.2 b hb.1).trans (hk b ob hb.1 hb.2 q)
    refine ⟨.ref s.heap.objs.size, _, J1, rfl, ⟨_, x, rfl, J.hok.fresh (Nat.le_refl _), rfl, fun ys hy => by rw [invX_inj J hy hq]; exact hx⟩, ⟨⟨y, ?_⟩, itX_at hst.1 fun o q => (sb.2 it (Ne.symm hne)).trans q, hne⟩, fun b hb => ?_⟩
    · have e1 : ((i + 1 : Nat) : Int) = (i : Int) + 1 := by omega
      rw [e1]
      exact he'
    · simp only [List.mem_cons, List.not_mem_nil, or_false] at hb
      have hb' : b < s.heap.objs.size := by rcases hb with rfl | rfl <;> assumption
      rw [upd_ne (Nat.ne_of_lt hb')]
      exact (hf b (by simpa using hb)).1
  done := by
    intro X hP hw hK hc i pins s σ H E J hf stt hg
    subst hP hw hK
    obtain ⟨⟨old, he⟩, hit, hne⟩ := stt
    obtain ⟨xs, hq, hx⟩ := hg
    obtain ⟨its, rv, p, _⟩ := invX J hq
    obtain ⟨f0, f1, f2, f3, f4, f5⟩ := hf it (by simp)
    have hn : its.toArray.size = i := by rw [List.size_toArray, ← rv.length]; exact hx
    have D := drX (prog := X.prog) (w := X.w) (A := X.A.in1) (J.ok.hd hc) t it a hai its.toArray
    rw [hn] at D
    exact wpAny_pyNext_enum_endD D he ⟨hit, p⟩ fun h' eb => ⟨rfl, J.turned (t' := s.toks) (fun b o hb q => eb b o hb q) f0 f1 f3 f4 f5⟩
  self := by
    rintro A i s Q E ⟨⟨_, he⟩, _⟩ h
    exact wpAny_pyIter_enum he h
def iEn (K : PySem.W.Frag) (ta : TA) : TI := fun σ H R => ta σ H fun vs H1 => ∃ a t xs, vs = [.ref a] ∧ SqX t K H1 a xs ∧ R (ItEn t K a) H1
theorem pi_en {X : Cx} {e : Expr} {ta : TA} {p pos tpos : Pos} {elts : List Expr} {kk : Nat} (hg : Gl X "enumerate") (hm : X.mg "enumerate" = none) (ha : PA X [e] ta) (hs : starEach [e] X.env = [(false, eval e X.env)] := by rfl) :
    PI X (.Tuple elts kk tpos) (.Call (.Name "enumerate" p) [e] [] pos) (iEn X.K ta) := by
  refine ⟨fun pins s σ H R J h => ?_⟩
  refine Call_ (ld_blt J hg hm boot_enumerate (PyProof.Rows.callWith_type1 (thn (ha.run pos pins s σ H _ J h) ?_) hs rfl))
  rintro us s1 ⟨vs, H1, J1, r1, a, t, xs, rfl, hq, q⟩
  cases r1 with
  | cons r rr =>
    cases rr
    cases r
    obtain ⟨its, rv, p', hlt⟩ := invX J1 hq
    refine call_enum1 (begX t a its.toArray) p' fun h' he hit hk => wpAny_pyIter_enum he ?_
    have J2 : Inv X pins σ H1 { s1 with heap := h' } := J1.kept (t' := s1.toks) hk
    refine ⟨s1.heap.objs.size + 1, [s1.heap.objs.size + 1, s1.heap.objs.size], _, _, H1, rfl, J2, turn_en t a (s1.heap.objs.size + 1) s1.heap.objs.size (Nat.ne_of_lt hlt) (Nat.ne_of_lt (Nat.lt_succ_of_lt hlt)), ⟨⟨.none, he⟩, itX_new hit, Nat.succ_ne_self _⟩, fun b hb => ?_, q⟩
    have hle : s1.heap.objs.size ≤ b := by
      simp only [List.mem_cons, List.not_mem_nil, or_false] at hb
      rcases hb with z | z
      · rw [z]; exact Nat.le_succ _
      · rw [z]; exact Nat.le_refl _
    exact J1.fpOk hle (J1.hok.fresh hle)
/-- zip of two -/
def ItZp (t u : Bool) (K : PySem.W.Frag) (a b : Addr) : It :=
  ⟨fun i H => ∃ (xs ys : List V) (x y : V), SqX t K H a xs ∧ SqX u K H b ys ∧ xs[i]? = some x ∧ ys[i]? = some y,
    fun i H v H' => ∃ T x y, v = .ref T ∧ H T = none ∧ H' = upd H T (.tup [x, y]) ∧ (∀ xs, SqX t K H a xs → xs[i]? = some x) ∧ ∀ ys, SqX u K H b ys → ys[i]? = some y,
    fun i H => ∃ xs ys : List V, SqX t K H a xs ∧ SqX u K H b ys ∧ i ≤ xs.length ∧ i ≤ ys.length ∧ (i = xs.length ∨ i = ys.length)⟩
theorem turn_zp {P : Program} {w : World} {K : PySem.W.Frag} {elts : List Expr} {kk : Nat} {tpos : Pos} (t u : Bool) {a b z TI TO i1 i2 : Addr} (S : ZipSep2 z TI TO i1 i2 [i1, a] [i2, b]) (ha : a ≠ i1) (hb : b ≠ i2) :
    Turn P w K (.Tuple elts kk tpos) (ItZp t u K a b) [z, TI, TO, i1, i2] z (fun i h => IsZip h z TI TO .none ∧ IsTupOf2 h TI (.ref i1) (.ref i2) ∧ (∃ x y, IsTupOf2 h TO x y) ∧ ItX t h i1 a i ∧ ItX u h i2 b i) where
  mem := by simp
  obj := by
    rintro i h ⟨hz, hTI, ⟨x, y, hTO⟩, h1, h2⟩ c hc
    simp only [List.mem_cons, List.not_mem_nil, or_false] at hc
    rcases hc with rfl | rfl | rfl | rfl | rfl
    · exact ⟨_, hz, fun v q => nomatch q⟩
    · exact ⟨_, hTI, fun v q => nomatch q⟩
    · exact ⟨_, hTO, fun v q => nomatch q⟩
    · exact itX_obj h1
    · exact itX_obj h2
  keep := by
    rintro i h h' ⟨hz, hTI, ⟨x, y, hTO⟩, h1, h2⟩ k
    exact ⟨k z (by simp) _ hz, k TI (by simp) _ hTI, ⟨x, y, k TO (by simp) _ hTO⟩, itX_at h1 fun o q => k i1 (by simp) o q, itX_at h2 fun o q => k i2 (by simp) o q⟩
  item := by
    intro X hP hw hK hc i pins s σ H E J hf stt hg
    subst hP hw hK
    obtain ⟨hz, hTI, ⟨x0, y0, hTO⟩, h1, h2⟩ := stt
    obtain ⟨xs, ys, x, y, hqx, hqy, hx, hy⟩ := hg
    obtain ⟨its, rv, p, _⟩ := invX J hqx
    obtain ⟨its2, rv2, p2, _⟩ := invX J hqy
    obtain ⟨v1, hv1, r1⟩ := rv.get hx
    obtain ⟨v2, hv2, r2⟩ := rv2.get hy
    have lt : ∀ {l : List Value} {v : Value}, l[i]? = some v → i < l.toArray.size := fun {l v} q => by
      rw [List.size_toArray]
      cases Nat.lt_or_ge i l.length with
      | inl z => exact z
      | inr z => rw [List.getElem?_eq_none z] at q; cases q
    have hzl : z < s.heap.objs.size := Heap.lt_size hz
    have hh : X.A.in1.handled = none := J.ok.hd hc
    refine wpAny_pyNext_zipD2_item S (drX hh t i1 a ha its.toArray) (drX hh u i2 b hb its2.toArray) hz hTI hTO ⟨h1, p⟩ ⟨h2, p2⟩ (lt hv1) (lt hv2) fun w1 w2 h' tk e1 e2 z' TO' st1 st2 hT hsz hk => ?_
    have k1 : w1 = v1 := by
      have e1 : its.toArray[i]? = some w1 := e1
      have : its[i]? = some w1 := by simpa using e1
      rw [hv1] at this; exact (Option.some.inj this).symm
    have k2 : w2 = v2 := by
      have e2 : its2.toArray[i]? = some w2 := e2
      have : its2[i]? = some w2 := by simpa using e2
      rw [hv2] at this; exact (Option.some.inj this).symm
    subst k1 k2
    refine ⟨_, rfl, wpAny_letOwnedTupleGo_zip (s := { s with heap := h', toks := tk }) z' fun h'' z'' sb => ?_⟩
    have hT2 : h''.get? s.heap.objs.size = some { cls := .type "tuple", data := .seq #[w1, w2] } := (sb.2 _ (Nat.ne_of_gt hzl)).trans hT
    have nw : ObjOk X.prog X.w (upd H s.heap.objs.size (.tup [x, y])) h'' s.heap.objs.size (.tup [x, y]) :=
      ⟨by show 2 ≤ sizeLine; decide, [w1, w2], .cons r1 (.cons r2 .nil), ⟨_, hT2, rfl, _, rfl⟩⟩
    have J1 : Inv X pins σ (upd H s.heap.objs.size (.tup [x, y])) { s with heap := h'', toks := tk } := by
      refine J.turnedNew (ch := [z, TI, TO, i1, i2]) (fun c o hb q => ?_) hf (Nat.le_refl _) nw
      simp only [List.mem_cons, List.not_mem_nil, or_false, not_or] at hb
      exact (sb.2 c hb.1).trans (hk c o hb.1 hb.2.2.1 hb.2.2.2.1 hb.2.2.2.2 q)
    have hlt : ∀ c ∈ [z, TI, TO, i1, i2], c < s.heap.objs.size := fun c hcm => by
      simp only [List.mem_cons, List.not_mem_nil, or_false] at hcm
      rcases hcm with rfl | rfl | rfl | rfl | rfl
      · exact hzl
      · exact Heap.lt_size hTI
      · exact Heap.lt_size hTO
      · obtain ⟨_, q, _⟩ := itX_obj h1; exact Heap.lt_size q
      · obtain ⟨_, q, _⟩ := itX_obj h2; exact Heap.lt_size q
    refine ⟨.ref s.heap.objs.size, _, J1, rfl, ⟨_, x, y, rfl, J.hok.fresh (Nat.le_refl _), rfl, fun l hl => by rw [invX_inj J hl hqx]; exact hx, fun l hl => by rw [invX_inj J hl hqy]; exact hy⟩, ⟨z'', ?_, ⟨w1, w2, ?_⟩, ?_, ?_⟩, fun c hcm => ?_⟩
    · exact (sb.2 _ S.TIz).trans (hk _ _ S.TIz S.TITO S.TIi1 S.TIi2 hTI)
    · exact (sb.2 _ S.TOz).trans TO'
    · exact itX_at st1.1 fun o q => (sb.2 _ S.zi1.symm).trans q
    · exact itX_at st2.1 fun o q => (sb.2 _ S.zi2.symm).trans q
    · rw [upd_ne (Nat.ne_of_lt (hlt c hcm))]
      exact (hf c hcm).1
  done := by
    intro X hP hw hK hc i pins s σ H E J hf stt hg
    subst hP hw hK
    obtain ⟨hz, hTI, ⟨x0, y0, hTO⟩, h1, h2⟩ := stt
    obtain ⟨xs, ys, hqx, hqy, g1, g2, g3⟩ := hg
    obtain ⟨its, rv, p, _⟩ := invX J hqx
    obtain ⟨its2, rv2, p2, _⟩ := invX J hqy
    have e1 : its.toArray.size = xs.length := by rw [List.size_toArray, rv.length]
    have e2 : its2.toArray.size = ys.length := by rw [List.size_toArray, rv2.length]
    have hh : X.A.in1.handled = none := J.ok.hd hc
    refine wpAny_pyNext_zipD2_end S (drX hh t i1 a ha its.toArray) (drX hh u i2 b hb its2.toArray) hz hTI hTO ⟨h1, p⟩ ⟨h2, p2⟩ (by rw [e1]; exact g1) (by rw [e2]; exact g2) (by rw [e1, e2]; exact g3) fun h' tk hk => ⟨rfl, ?_⟩
    refine J.turnedL (ch := [z, TI, TO, i1, i2]) (fun c o hcn q => ?_) hf
    simp only [List.mem_cons, List.not_mem_nil, or_false, not_or] at hcn
    exact hk c o hcn.1 hcn.2.2.1 hcn.2.2.2.1 hcn.2.2.2.2 q
  self := by
    rintro A i s Q E ⟨hz, _⟩ h
    exact wpAny_pyIter_zip hz h
def iZp (K : PySem.W.Frag) (ta : TA) : TI := fun σ H R => ta σ H fun vs H1 => ∃ a b t u xs ys, vs = [.ref a, .ref b] ∧ SqX t K H1 a xs ∧ SqX u K H1 b ys ∧ R (ItZp t u K a b) H1
theorem pi_zp {X : Cx} {e e2 : Expr} {ta : TA} {p pos tpos : Pos} {elts : List Expr} {kk : Nat} (hg : Gl X "zip") (hm : X.mg "zip" = none) (ha : PA X [e, e2] ta) (hs : starEach [e, e2] X.env = (false, eval e X.env) :: starEach [e2] X.env := by rfl)
    (hpl : (backTo pos (starEach [e2] X.env)).any (·.1) = false := by rfl) : PI X (.Tuple elts kk tpos) (.Call (.Name "zip" p) [e, e2] [] pos) (iZp X.K ta) := by
  refine ⟨fun pins s σ H R J h => ?_⟩
  refine Call_ (ld_blt J hg hm PyProof.Rows.boot_zip (PyProof.Rows.callWith_type1 (thn (ha.run pos pins s σ H _ J h) ?_) hs hpl))
  rintro us s1 ⟨vs, H1, J1, r1, a, b, t, u, xs, ys, rfl, hqx, hqy, q⟩
  cases r1 with
  | cons r rr =>
    cases rr with
    | cons r' rr =>
      cases rr
      cases r
      cases r'
      obtain ⟨its, rv, p1, l1⟩ := invX J1 hqx
      obtain ⟨its2, rv2, p2, l2⟩ := invX J1 hqy
      refine zip_begins2 (begX t a its.toArray) (begX u b its2.toArray) p1 p2 fun h' hz hTI hTO h1 h2 hsz hk => wpAny_pyIter_zip hz ?_
      have J2 : Inv X pins σ H1 { s1 with heap := h' } := J1.kept (t' := s1.toks) hk
      refine ⟨s1.heap.objs.size + 4, [s1.heap.objs.size + 4, s1.heap.objs.size + 2, s1.heap.objs.size + 3, s1.heap.objs.size, s1.heap.objs.size + 1], _, _, H1, rfl, J2, turn_zp t u (zip_sep2 (N := s1.heap.objs.size) (fp1 := [a]) (fp2 := [b]) (by simpa using l1) (by simpa using l2)) (Nat.ne_of_lt l1) (Nat.ne_of_lt (Nat.lt_succ_of_lt l2)), ⟨hz, hTI, ⟨_, _, hTO⟩, itX_new h1, itX_new h2⟩, fun c hcm => ?_, q⟩
      have hle : s1.heap.objs.size ≤ c := by
        simp only [List.mem_cons, List.not_mem_nil, or_false] at hcm
        rcases hcm with z | z | z | z | z
        · rw [z]; exact Nat.le_add_right _ _
        · rw [z]; exact Nat.le_add_right _ _
        · rw [z]; exact Nat.le_add_right _ _
        · rw [z]; exact Nat.le_refl _
        · rw [z]; exact Nat.le_add_right _ _
      exact J1.fpOk hle (J1.hok.fresh hle)
end Dy
namespace Dy
open PySem PySem.Spec PyProof.Rows L2
def kindK : PyData → Option Bool
  | .int _ => some false
  | .str _ => some false
  | .tuple xs => match keysOf xs with
    | some ks => if NestedKey.depthAll ks ≤ 7 then some true else none
    | none => none
  | _ => none
def okK (es : List (PyData × PyData)) (k : PyData) : Bool := match kindK k with
  | none => false
  | some b => match es with
    | [] => true
    | e :: _ => decide (kindK e.1 = some b)
def dAt (es : List (PyData × PyData)) (k : PyData) : Option PyData := (es.find? fun e => PyData.eqv e.1 k).map (·.2)
def dPut (es : List (PyData × PyData)) (k v : PyData) : List (PyData × PyData) := if (dAt es k).isSome = true then es.map fun e => if PyData.eqv e.1 k = true then (e.1, v) else e else es ++ [(k, v)]
mutual
theorem key_eqv : ∀ {a b : PyData} {n m : NestedKey}, keyOf a = some n → keyOf b = some m → PyData.eqv a b = NestedKey.beq n m
  | .none, b, n, m, ha, hb => by
    simp only [keyOf, Option.some.injEq] at ha; subst ha
    cases b <;> simp only [keyOf, Option.some.injEq, Option.map_eq_some_iff, reduceCtorEq] at hb
    · subst hb; rfl
    · subst hb; rfl
    · obtain ⟨ks, _, rfl⟩ := hb; rfl
  | .int i, b, n, m, ha, hb => by
    simp only [keyOf, Option.some.injEq] at ha; subst ha
    cases b <;> simp only [keyOf, Option.some.injEq, Option.map_eq_some_iff, reduceCtorEq] at hb
    · subst hb; rfl
    · subst hb
      simp only [PyData.eqv, NestedKey.beq]
      by_cases h : i = ‹Int› <;> simp [h]
    · obtain ⟨ks, _, rfl⟩ := hb; rfl
  | .tuple xs, b, n, m, ha, hb => by
    simp only [keyOf, Option.map_eq_some_iff] at ha
    obtain ⟨ks, h1, rfl⟩ := ha
    cases b with
    | none => simp only [keyOf, Option.some.injEq] at hb; subst hb; rfl
    | int i => simp only [keyOf, Option.some.injEq] at hb; subst hb; rfl
    | tuple ys =>
      simp only [keyOf, Option.map_eq_some_iff] at hb
      obtain ⟨ls, h2, rfl⟩ := hb
      simp only [PyData.eqv, NestedKey.beq]
      exact keys_eqv h1 h2
    | bool _ => simp [keyOf] at hb
    | str _ => simp [keyOf] at hb
    | list _ => simp [keyOf] at hb
    | dict _ => simp [keyOf] at hb
  | .bool _, _, _, _, ha, _ => by simp [keyOf] at ha
  | .str _, _, _, _, ha, _ => by simp [keyOf] at ha
  | .list _, _, _, _, ha, _ => by simp [keyOf] at ha
  | .dict _, _, _, _, ha, _ => by simp [keyOf] at ha
theorem keys_eqv : ∀ {a b : List PyData} {n m : List NestedKey}, keysOf a = some n → keysOf b = some m → PyData.eqvAll a b = NestedKey.beqAll n m
  | [], b, n, m, ha, hb => by
    simp only [keysOf, Option.some.injEq] at ha; subst ha
    cases b with
    | nil => simp only [keysOf, Option.some.injEq] at hb; subst hb; rfl
    | cons y ys =>
      simp only [keysOf, Option.bind_eq_some_iff, Option.map_eq_some_iff] at hb
      obtain ⟨k, _, ks, _, rfl⟩ := hb; rfl
  | x :: xs, b, n, m, ha, hb => by
    simp only [keysOf, Option.bind_eq_some_iff, Option.map_eq_some_iff] at ha
    obtain ⟨k, h1, ks, h2, rfl⟩ := ha
    cases b with
    | nil => simp only [keysOf, Option.some.injEq] at hb; subst hb; rfl
    | cons y ys =>
      simp only [keysOf, Option.bind_eq_some_iff, Option.map_eq_some_iff] at hb
      obtain ⟨l, h3, ls, h4, rfl⟩ := hb
      simp only [PyData.eqvAll, NestedKey.beqAll]
      rw [key_eqv h1 h3, keys_eqv h2 h4]
end
theorem key_dec {a b : PyData} {n m : NestedKey} (ha : keyOf a = some n) (hb : keyOf b = some m) : PyData.eqv a b = decide (n = m) := by rw [NestedKey.decide_eq]; exact key_eqv ha hb
theorem kD_dec (a b : Key) : PyData.eqv (kD a) (kD b) = decide (a = b) := by
  cases a <;> cases b <;> simp [kD, PyData.eqv]
  · rename_i x y; by_cases h : x = y <;> simp [h]
  · rename_i x y; by_cases h : x = y <;> simp [h]
theorem kind_t {k : PyData} (h : kindK k = some true) : ∃ n, keyOf k = some n ∧ n.depth ≤ 8 ∧ ∃ xs, k = .tuple xs := by
  cases k <;> simp only [kindK, reduceCtorEq, Option.some.injEq] at h
  rename_i xs
  split at h
  · rename_i ks q
    split at h
    · rename_i hz
      exact ⟨.tup ks, by simp [keyOf, q], by simp only [NestedKey.depth]; omega, _, rfl⟩
    · cases h
  · cases h
theorem kind_of {k : PyData} {n : NestedKey} (h1 : keyOf k = some n) (h2 : n.depth ≤ 8) {xs : List PyData} (h3 : k = .tuple xs) : kindK k = some true := by
  subst h3
  simp only [keyOf, Option.map_eq_some_iff] at h1
  obtain ⟨ks, h1, rfl⟩ := h1
  simp only [NestedKey.depth] at h2
  simp only [kindK, h1]
  rw [if_pos (by omega)]
theorem kind_f {k : PyData} (h : kindK k = some false) : ∃ y : Key, k = kD y := by
  cases k <;> simp only [kindK, reduceCtorEq, Option.some.injEq] at h
  · exact ⟨.inl _, rfl⟩
  · exact ⟨.inr _, rfl⟩
  · split at h
    · split at h <;> cases h
    · cases h
theorem kind_kD (y : Key) : kindK (kD y) = some false := by cases y <;> rfl
inductive VN (K : PySem.W.Frag) (I : Hp) : List (PyData × PyData) → List YP → Prop
  | nil : VN K I [] []
  | cons {kd d : PyData} {k : NestedKey} {b : Addr} {v : V} {u : Value} {es : List (PyData × PyData)} {ys : List YP} : keyOf kd = some k → k.depth ≤ 8 → Rp K I (.ref b) kd → Rp K I v d → RelV v u → VN K I es ys → VN K I ((kd, d) :: es) ((k, b, u) :: ys)
inductive VKs (K : PySem.W.Frag) (I : Hp) : List (PyData × PyData) → List (Key × Value) → Prop
  | nil : VKs K I [] []
  | cons {k : Key} {d : PyData} {v : V} {u : Value} {es : List (PyData × PyData)} {vs : List (Key × Value)} : Rp K I v d → RelV v u → VKs K I es vs → VKs K I ((kD k, d) :: es) ((k, u) :: vs)
section
variable {K : PySem.W.Frag} {I : Hp}
theorem VN.of : ∀ {ts : List TP} {es : List (PyData × PyData)} {ys : List YP}, RpKt K I ts es → Paired PY ts ys → VN K I es ys
  | _, _, _, .nil, .nil => .nil
  | _, _, _, .cons (kd := kd) h1 h2 h3 h4 t, .cons (b := y) p q => by
    obtain ⟨k, b, u⟩ := y
    obtain ⟨e1, e2, e3⟩ := p
    dsimp only at e1 e2 e3
    subst e1 e2
    exact .cons h1 h2 h3 h4 e3 (VN.of t q)
theorem VN.length : ∀ {es : List (PyData × PyData)} {ys : List YP}, VN K I es ys → es.length = ys.length
  | _, _, .nil => rfl
  | _, _, .cons _ _ _ _ _ t => by simp [t.length]
theorem VKs.of : ∀ {kvs : List (Key × V)} {es : List (PyData × PyData)} {vs : List (Key × Value)}, RpKv K I kvs es → KV kvs vs → VKs K I es vs
  | _, _, _, .nil, .nil => .nil
  | _, _, _, .cons h t, .cons (b := y) p q => by
    obtain ⟨k, u⟩ := y
    obtain ⟨e1, e2⟩ := p
    dsimp only at e1 e2
    subst e1
    exact .cons h e2 (VKs.of t q)
theorem VKs.length : ∀ {es : List (PyData × PyData)} {ys : List (Key × Value)}, VKs K I es ys → es.length = ys.length
  | _, _, .nil => rfl
  | _, _, .cons _ _ t => by simp [t.length]
theorem VN.at {kd : PyData} {n : NestedKey} (hk : keyOf kd = some n) : ∀ {es : List (PyData × PyData)} {ys : List YP}, VN K I es ys → (atKey ys n = none ∧ dAt es kd = none) ∨ ∃ b u v d, atKey ys n = some (b, u) ∧ dAt es kd = some d ∧ Rp K I v d ∧ RelV v u
  | _, _, .nil => .inl ⟨rfl, rfl⟩
  | _, _, .cons (kd := kd') (k := k') (b := b') h1 h2 h3 h4 h5 t => by
    have e := key_dec h1 hk
    by_cases c : k' = n
    · subst c
      right
      refine ⟨b', _, _, _, ?_, ?_, h4, h5⟩
      · unfold atKey; rw [List.find?_cons_of_pos (by simp)]; rfl
      · unfold dAt; rw [List.find?_cons_of_pos (by simp [e])]; rfl
    · rcases VN.at hk t with ⟨a1, a2⟩ | ⟨b, u, v, d, a1, a2, a3⟩
      · left
        refine ⟨?_, ?_⟩
        · simpa [atKey, List.find?_cons, c] using a1
        · simpa [dAt, List.find?_cons, e, c] using a2
      · right
        refine ⟨b, u, v, d, ?_, ?_, a3⟩
        · simpa [atKey, List.find?_cons, c] using a1
        · simpa [dAt, List.find?_cons, e, c] using a2
theorem VKs.at (k : Key) : ∀ {es : List (PyData × PyData)} {ys : List (Key × Value)}, VKs K I es ys → (valueAt ys k = none ∧ dAt es (kD k) = none) ∨ ∃ u v d, valueAt ys k = some u ∧ dAt es (kD k) = some d ∧ Rp K I v d ∧ RelV v u
  | _, _, .nil => .inl ⟨rfl, rfl⟩
  | _, _, .cons (k := k') h4 h5 t => by
    have e := kD_dec k' k
    by_cases c : k' = k
    · subst c
      right
      refine ⟨_, _, _, ?_, ?_, h4, h5⟩
      · unfold valueAt; rw [List.find?_cons_of_pos (by simp)]; rfl
      · unfold dAt; rw [List.find?_cons_of_pos (by simp [e])]; rfl
    · rcases VKs.at k t with ⟨a1, a2⟩ | ⟨u, v, d, a1, a2, a3⟩
      · left
        refine ⟨?_, ?_⟩
        · simpa [valueAt, List.find?_cons, c] using a1
        · simpa [dAt, List.find?_cons, e, c] using a2
      · right
        refine ⟨u, v, d, ?_, ?_, a3⟩
        · simpa [valueAt, List.find?_cons, c] using a1
        · simpa [dAt, List.find?_cons, e, c] using a2
theorem VN.app : ∀ {es fs : List (PyData × PyData)} {ys zs : List YP}, VN K I es ys → VN K I fs zs → VN K I (es ++ fs) (ys ++ zs)
  | _, _, _, _, .nil, s => s
  | _, _, _, _, .cons h1 h2 h3 h4 h5 t, s => .cons h1 h2 h3 h4 h5 (t.app s)
theorem VKs.app : ∀ {es fs : List (PyData × PyData)} {ys zs : List (Key × Value)}, VKs K I es ys → VKs K I fs zs → VKs K I (es ++ fs) (ys ++ zs)
  | _, _, _, _, .nil, s => s
  | _, _, _, _, .cons h4 h5 t, s => .cons h4 h5 (t.app s)
theorem VN.upd {kd d : PyData} {n : NestedKey} {v : V} {u : Value} (hk : keyOf kd = some n) (rv : Rp K I v d) (ru : RelV v u) : ∀ {es : List (PyData × PyData)} {ys : List YP}, VN K I es ys →
    VN K I (es.map fun e => if PyData.eqv e.1 kd = true then (e.1, d) else e) (ys.map (putAt n u))
  | _, _, .nil => .nil
  | _, _, .cons (kd := kd') (k := k') h1 h2 h3 h4 h5 t => by
    have e := key_dec h1 hk
    have ih := VN.upd hk rv ru t
    simp only [List.map_cons]
    by_cases c : k' = n
    · simp only [e, c, decide_true, if_true, putAt]; exact .cons (c ▸ h1) (c ▸ h2) h3 rv ru ih
    · simp only [e, c, decide_false, Bool.false_eq_true, if_false, putAt]; exact .cons h1 h2 h3 h4 h5 ih
theorem VKs.upd {k : Key} {d : PyData} {v : V} {u : Value} (rv : Rp K I v d) (ru : RelV v u) : ∀ {es : List (PyData × PyData)} {ys : List (Key × Value)}, VKs K I es ys →
    VKs K I (es.map fun e => if PyData.eqv e.1 (kD k) = true then (e.1, d) else e) (ys.map fun kv => if kv.1 = k then (kv.1, u) else kv)
  | _, _, .nil => .nil
  | _, _, .cons (k := k') h4 h5 t => by
    have e := kD_dec k' k
    have ih := VKs.upd (k := k) rv ru t
    simp only [List.map_cons]
    by_cases c : k' = k
    · subst c; rw [if_pos (by rw [e]; simp), if_pos rfl]; exact .cons rv ru ih
    · rw [if_neg (by rw [e]; simp [c]), if_neg c]; exact .cons h4 h5 ih
theorem VN.put {kd d : PyData} {n : NestedKey} {b : Addr} {v : V} {u : Value} {es : List (PyData × PyData)} {ys : List YP} (hk : keyOf kd = some n) (h8 : n.depth ≤ 8) (rb : Rp K I (.ref b) kd) (rv : Rp K I v d) (ru : RelV v u) (h : VN K I es ys) :
    VN K I (dPut es kd d) (storedH ys n b u) := by
  unfold dPut storedH
  rcases h.at hk with ⟨a1, a2⟩ | ⟨b', u', v', d', a1, a2, _⟩
  · rw [a1, a2]; exact h.app (.cons hk h8 rb rv ru .nil)
  · rw [a1, a2]; exact h.upd hk rv ru
theorem VKs.put {k : Key} {d : PyData} {v : V} {u : Value} {es : List (PyData × PyData)} {ys : List (Key × Value)} (rv : Rp K I v d) (ru : RelV v u) (h : VKs K I es ys) : VKs K I (dPut es (kD k) d) (stored ys k u) := by
  have ea : (ys.any fun kv => decide (kv.1 = k)) = (valueAt ys k).isSome := by
    clear h
    induction ys with
    | nil => rfl
    | cons x xs ih => by_cases c : x.1 = k <;> simp [valueAt, List.find?_cons, c] <;> simpa [valueAt] using ih
  unfold dPut stored
  rw [ea]
  rcases h.at k with ⟨a1, a2⟩ | ⟨u', v', d', a1, a2, _⟩
  · rw [a1, a2]; exact h.app (.cons rv ru .nil)
  · rw [a1, a2]; exact h.upd rv ru
theorem VN.key : ∀ {es : List (PyData × PyData)} {ys : List YP}, VN K I es ys → ∀ y ∈ ys, ∃ kd, keyOf kd = some y.1 ∧ y.1.depth ≤ 8 ∧ Rp K I (.ref y.2.1) kd
  | _, _, .nil, y, hy => nomatch hy
  | _, _, .cons h1 h2 h3 _ _ t, y, hy => by
    rcases List.mem_cons.mp hy with rfl | hy
    · exact ⟨_, h1, h2, h3⟩
    · exact t.key y hy
end
section
variable {X : Cx} {pins : List (Addr × Obj)} {σ : St} {I H : Hp} {s : Shared} {a : Addr} {es : List (PyData × PyData)} {k : PyData}
mutual
theorem key_is (J : Inv X pins σ H s) (sm : Same I H) : ∀ {d : PyData} {v : V} {n : NestedKey} {u : Value}, Rp X.K I v d → keyOf d = some n → RelV v u → NestedIs s.heap n u
  | .none, v, n, u, r, h, ru => by cases r; simp only [keyOf, Option.some.injEq] at h; subst h; cases (show u = Value.none from ru); exact .none
  | .int i, v, n, u, r, h, ru => by cases r; simp only [keyOf, Option.some.injEq] at h; subst h; obtain ⟨t, rfl⟩ := ru; exact .int _ _
  | .tuple xs, v, n, u, r, h, ru => by
    simp only [keyOf, Option.map_eq_some_iff] at h
    obtain ⟨ks, h1, rfl⟩ := h
    cases r with
    | @tup a vs _ hs ha =>
      cases (show u = Value.ref a from ru)
      obtain ⟨its, rv, ⟨o, h2, h3, m, h4⟩, _⟩ := J.tuple (same_t sm hs)
      exact .tup h2 h3 h4 (by simpa using keys_are J sm ha h1 rv)
  | .bool _, _, _, _, _, h, _ => by simp [keyOf] at h
  | .str _, _, _, _, _, h, _ => by simp [keyOf] at h
  | .list _, _, _, _, _, h, _ => by simp [keyOf] at h
  | .dict _, _, _, _, _, h, _ => by simp [keyOf] at h
theorem keys_are (J : Inv X pins σ H s) (sm : Same I H) : ∀ {ds : List PyData} {vs : List V} {ns : List NestedKey} {us : List Value}, RpAll X.K I vs ds → keysOf ds = some ns → Vals vs us → NestedAll s.heap ns us
  | [], vs, ns, us, r, h, rv => by
    cases r; cases rv
    simp only [keysOf, Option.some.injEq] at h; subst h; exact .nil
  | d :: ds, vs, ns, us, r, h, rv => by
    simp only [keysOf, Option.bind_eq_some_iff, Option.map_eq_some_iff] at h
    obtain ⟨k, h1, ks, h2, rfl⟩ := h
    cases r with
    | cons r1 r2 =>
      cases rv with
      | cons v1 v2 => exact .cons (key_is J sm r1 h1 v1) (keys_are J sm r2 h2 v2)
end
theorem rp_tup_ref {K : PySem.W.Frag} {v : V} {xs : List PyData} (h : Rp K I v (.tuple xs)) : ∃ b, v = .ref b := by cases h; exact ⟨_, rfl⟩
theorem rpkt_kind {K : PySem.W.Frag} {ts : List TP} {ys : List YP} (h : RpKt K I ts es) (p : Paired PY ts ys) : ∀ e ∈ es, kindK e.1 = some true := by
  induction es generalizing ts ys with
  | nil => intro e he; cases he
  | cons x es ih =>
    cases h with
    | cons h1 h2 h3 h4 t =>
      cases p with
      | @cons _ y _ _ p q =>
        intro e he
        rcases List.mem_cons.mp he with he | he
        · subst he
          obtain ⟨_, e2, _⟩ := p
          dsimp only at e2 ⊢
          subst e2
          cases h3 with
          | tup a b => exact kind_of h1 h2 rfl
          | lst a b => simp [keyOf] at h1
          | dic a b => simp [keyOf] at h1
          | dit a b => simp [keyOf] at h1
        · exact ih t q e he
theorem viewT {ts : List TP} (J : Inv X pins σ H s) (sm : Same I H) (h1 : H a = some (dN a ts)) (h2 : RpKt X.K I ts es) :
    ∃ ys, VN X.K I es ys ∧ s.heap.DictOfH (nestedKind X.prog X.w) a ys ∧ es.length ≤ sizeLine ∧ (a == sysModules) = false := by
  obtain ⟨⟨hd, z, ys, py, o, es', ep, e1, e2, e3, e4, e5⟩, _⟩ := (show ObjOk X.prog X.w H s.heap a (dN a ts) from J.hok a _ h1)
  have vn := VN.of h2 py
  refine ⟨ys, vn, ⟨o, es', ep, e1, e2, e3, e4 X.w, fun y hy => ?_, e5⟩, by rw [vn.length, ← Paired.length py]; exact z, hd⟩
  obtain ⟨kd, q1, q2, q3⟩ := vn.key y hy
  exact ⟨key_is J sm q3 q1 rfl, q2⟩
/-- a dict with tuples for keys, or empty -/
theorem viewN (J : Inv X pins σ H s) (sm : Same I H) (h : DiO X.K I H a es) (ok : okK es k = true) (hk : kindK k = some true) :
    ∃ ys, VN X.K I es ys ∧ s.heap.DictOfH (nestedKind X.prog X.w) a ys ∧ es.length ≤ sizeLine ∧ (a == sysModules) = false := by
  rcases h with ⟨kvs, h1, h2⟩ | ⟨ts, h1, h2⟩
  · have : es = [] := by
      cases h2 with
      | nil => rfl
      | cons r t => unfold okK at ok; rw [hk] at ok; simp only [decide_eq_true_eq] at ok; rw [kind_kD] at ok; cases ok
    subst this
    cases h2
    obtain ⟨z, hd, vs, rel, o, es', ep, e1, e2, e3, e4, e5, e6⟩ := dk_of J.hok h1
    cases rel
    have e4' : es'.toList = [] := by
      have := e5
      cases q : es'.toList with
      | nil => rfl
      | cons x r => rw [q] at this; cases this
    exact ⟨[], .nil, ⟨o, es', ep, e1, e2, e3, e4', (fun x hx => by cases hx), List.nodup_nil⟩, Nat.zero_le _, hd⟩
  · exact viewT J sm h1 h2
theorem viewK {y : Key} (J : Inv X pins σ H s) (h : DiO X.K I H a es) (ok : okK es (kD y) = true) :
    ∃ vs, VKs X.K I es vs ∧ s.heap.DictOf (mixKind X.prog X.w) a vs ∧ es.length ≤ sizeLine ∧ (a == sysModules) = false := by
  rcases h with ⟨kvs, h1, h2⟩ | ⟨ts, h1, h2⟩
  · obtain ⟨z, hd, vs, rel, dd⟩ := dk_of J.hok h1
    have vk := VKs.of h2 rel
    exact ⟨vs, vk, dd, by rw [vk.length, ← rel.length]; exact z, hd⟩
  · obtain ⟨⟨hd, z, ys, py, o, es', ep, e1, e2, e3, e4, e5⟩, _⟩ := (show ObjOk X.prog X.w H s.heap a (dN a ts) from J.hok a _ h1)
    have : es = [] := by
      cases es with
      | nil => rfl
      | cons x r =>
        have := rpkt_kind h2 py x (by simp)
        unfold okK at ok; rw [kind_kD] at ok; simp only [decide_eq_true_eq] at ok
        rw [this] at ok; cases ok
    subst this
    cases h2; cases py
    have e4' : es' = #[] := by simpa using e4 X.w
    subst e4'
    exact ⟨[], .nil, ⟨o, #[], ep, e1, e2, e3, (fun e he => by simp at he), .nil, List.nodup_nil⟩, Nat.zero_le _, hd⟩
end
section
variable {P : Program} {w : World} {K : PySem.W.Frag} {I H : Hp} {h : Heap} {a : Addr} {es : List (PyData × PyData)}
end
/-- d[k] -/
def rDG (K : PySem.W.Frag) : R2 := fun x y H Q => ∃ a I es k d, x = .ref a ∧ Same I H ∧ DiO K I H a es ∧ Rp K I y k ∧ okK es k = true ∧ dAt es k = some d ∧ ∀ v, Rp K I v d → Q v H
/-- k in d -/
def rDI (K : PySem.W.Frag) (n : Bool) : R2 := fun y x H Q => ∃ a I es k, x = .ref a ∧ Same I H ∧ DiO K I H a es ∧ Rp K I y k ∧ okK es k = true ∧ Q (.bl (Bool.xor n (dAt es k).isSome)) H
/-- len(d) -/
def rDL (K : PySem.W.Frag) : List V → Hp → VK → Prop := fun xs H Q => ∃ a I es, xs = [.ref a] ∧ Same I H ∧ DiO K I H a es ∧ Q (.int ((es.length : Nat) : Int)) H
section
variable {X : Cx} {pins : List (Addr × Obj)} {σ : St} {I H : Hp} {s : Shared} {a : Addr} {es : List (PyData × PyData)} {k d : PyData} {y : V} {u : Value} {A : Around} {E : Value → Shared → Prop}
theorem kD_rel {k : Key} (r : Rp X.K I y (kD k)) : y = kV k := by
  cases k with
  | inl i => cases r; rfl
  | inr x => cases r; rfl
theorem okK_kind (h : okK es k = true) : kindK k = some true ∨ kindK k = some false := by
  unfold okK at h
  cases q : kindK k with
  | none => rw [q] at h; cases h
  | some b => cases b
              · exact .inr rfl
              · exact .inl rfl
theorem room8 {A : Around} (hu : A.units + 10 < cLine) : (nestedKind X.prog X.w).room A.in1 := by
  show A.in1.units + 8 < cLine
  have : A.in1.units = A.units + 1 := rfl
  omega
theorem di_typeIs (J : Inv X pins σ H s) (h : DiO X.K I H a es) : s.TypeIs (.ref a) "dict" ∧ (∀ b, Value.ref a = .ref b → ∃ ob, s.heap.get? b = some ob ∧ ob.dict = none) ∧ (a == sysModules) = false := by
  rcases h with ⟨kvs, h1, h2⟩ | ⟨ts, h1, h2⟩
  · exact isD_at J (.inl ⟨kvs, .inl h1⟩)
  · obtain ⟨⟨hd, z, ys, py, o, es', ep, e1, e2, e3, e4, e5⟩, _⟩ := (show ObjOk X.prog X.w H s.heap a (dN a ts) from J.hok a _ h1)
    exact ⟨⟨o, e1, e2.1⟩, fun b q => by cases q; exact ⟨o, e1, e2.2.1⟩, hd⟩
theorem dd_get {Q : Value → Shared → Prop} (hu : A.units + 10 < cLine) (J : Inv X pins σ H s) (sm : Same I H) (h : DiO X.K I H a es) (ry : Rp X.K I y k) (ru : RelV y u) (ok : okK es k = true) (hd : dAt es k = some d)
    (q : ∀ v w' s', Inv X pins σ H s' → Rp X.K I v d → RelV v w' → Q w' s') : wpAny (model X.prog X.w) A (getItem (.ref a) u) Q E s := by
  rcases okK_kind ok with hk | hk
  · obtain ⟨n, h1, h2, xs, rfl⟩ := kind_t hk
    obtain ⟨b, rfl⟩ := rp_tup_ref ry
    cases (show u = Value.ref b from ru)
    obtain ⟨ys, vn, dd, z, hs⟩ := viewN J sm h ok hk
    rcases vn.at h1 with ⟨_, e⟩ | ⟨b', u', v', d', e1, e2, e3, e4⟩
    · rw [e] at hd; cases hd
    · rw [e2] at hd; cases hd
      exact wpAny_getItem_heap (room8 hu) ⟨key_is J sm ry h1 rfl, h2⟩ dd e1 (q v' u' _ (J.tok _) e3 e4)
  · obtain ⟨k, rfl⟩ := kind_f hk
    obtain ⟨vs, vk, dd, z, hs⟩ := viewK J h ok
    have ey := kD_rel ry
    subst ey
    rcases vk.at k with ⟨_, e⟩ | ⟨u', v', d', e1, e2, e3, e4⟩
    · rw [e] at hd; cases hd
    · rw [e2] at hd; cases hd
      exact wpAny_getItem_of (kV_is ru) dd.mapOf e1 (q v' u' _ (J.tok _) e3 e4)
theorem ix_dict (hu : X.A.units + 10 < cLine) : IxR X (rDG X.K) := by
  intro value slice pins s σ H x y v u Q J rx ry h hs
  obtain ⟨a, I, es, k, d, rfl, sm, hd, rk, ok, e, q⟩ := h
  cases (show v = Value.ref a from rx)
  have hT := (di_typeIs J hd).1
  unfold subscriptTail
  refine wpAny_bind ?_
  rw [getitemInPython_of_ne hT.not_modules]
  refine wpAny_bind (wpAny_specialOf hT PySem.F.slot_dict_getitem.lookup ?_)
  have fin : wpAny (model X.prog X.w) X.A (subscripted slice false (.ref a) u) (fun r s₃ => wpAny (model X.prog X.w) X.A (letTemporaryGo value (.ref a) r >>= fun _ => pure r) (EP X pins σ Q) X.xe s₃) X.xe s := by
    rw [hs]
    exact wpAny_operating (dd_get hu J sm hd rk ry ok e fun v' w' s' J' r1 r2 => wpAny_bind (wpAny_letTemporaryGo (wpAny_pure ⟨v', H, J', r2, q v' r1⟩)))
  first
    | exact wpAny_pure (wpAny_bind fin)
    | exact wpAny_bind (wpAny_pure (wpAny_bind fin))
    | exact wpAny_bind fin
theorem dd_in {Q : Value → Shared → Prop} (hu : A.units + 10 < cLine) (J : Inv X pins σ H s) (sm : Same I H) (h : DiO X.K I H a es) (ry : Rp X.K I y k) (ru : RelV y u) (ok : okK es k = true)
    (q : ∀ s', Inv X pins σ H s' → Q (.bool (dAt es k).isSome) s') : wpAny (model X.prog X.w) A (compareOp .In u (.ref a)) Q E s := by
  rcases okK_kind ok with hk | hk
  · obtain ⟨n, h1, h2, xs, rfl⟩ := kind_t hk
    obtain ⟨b, rfl⟩ := rp_tup_ref ry
    cases (show u = Value.ref b from ru)
    obtain ⟨ys, vn, dd, z, hs⟩ := viewN J sm h ok hk
    refine wpAny_in_heap (room8 hu) ⟨key_is J sm ry h1 rfl, h2⟩ hs dd ?_
    have : (atKey ys n).isSome = (dAt es (.tuple xs)).isSome := by
      rcases vn.at h1 with ⟨e1, e2⟩ | ⟨b', u', v', d', e1, e2, _⟩ <;> rw [e1, e2] <;> rfl
    rw [this]; exact q _ (J.tok _)
  · obtain ⟨k, rfl⟩ := kind_f hk
    obtain ⟨vs, vk, dd, z, hs⟩ := viewK J h ok
    have ey := kD_rel ry
    subst ey
    refine wpAny_in_of (kV_is ru) hs dd.mapOf ?_
    have : (valueAt vs k).isSome = (dAt es (kD k)).isSome := by
      rcases vk.at k with ⟨e1, e2⟩ | ⟨u', v', d', e1, e2, _⟩ <;> rw [e1, e2] <;> rfl
    rw [this]; exact q _ (J.tok _)
theorem dd_nin {Q : Value → Shared → Prop} (hu : A.units + 10 < cLine) (J : Inv X pins σ H s) (sm : Same I H) (h : DiO X.K I H a es) (ry : Rp X.K I y k) (ru : RelV y u) (ok : okK es k = true)
    (q : ∀ s', Inv X pins σ H s' → Q (.bool (!(dAt es k).isSome)) s') : wpAny (model X.prog X.w) A (compareOp .NotIn u (.ref a)) Q E s := by
  rcases okK_kind ok with hk | hk
  · obtain ⟨n, h1, h2, xs, rfl⟩ := kind_t hk
    obtain ⟨b, rfl⟩ := rp_tup_ref ry
    cases (show u = Value.ref b from ru)
    obtain ⟨ys, vn, dd, z, hs⟩ := viewN J sm h ok hk
    refine wpAny_notIn_heap (room8 hu) ⟨key_is J sm ry h1 rfl, h2⟩ hs dd ?_
    have : (atKey ys n).isSome = (dAt es (.tuple xs)).isSome := by
      rcases vn.at h1 with ⟨e1, e2⟩ | ⟨b', u', v', d', e1, e2, _⟩ <;> rw [e1, e2] <;> rfl
    rw [this]; exact q _ (J.tok _)
  · obtain ⟨k, rfl⟩ := kind_f hk
    obtain ⟨vs, vk, dd, z, hs⟩ := viewK J h ok
    have ey := kD_rel ry
    subst ey
    refine wpAny_notIn_of (kV_is ru) hs dd.mapOf ?_
    have : (valueAt vs k).isSome = (dAt es (kD k)).isSome := by
      rcases vk.at k with ⟨e1, e2⟩ | ⟨u', v', d', e1, e2, _⟩ <;> rw [e1, e2] <;> rfl
    rw [this]; exact q _ (J.tok _)
theorem op_inDD (hu : X.A.units + 10 < cLine) : OpR X (compareOp .In) (rDI X.K false) := by
  intro pins s σ H x y v u Q J rx ry h
  obtain ⟨a, I, es, k, rfl, sm, hd, rk, ok, q⟩ := h
  cases (show u = Value.ref a from ry)
  exact dd_in hu J sm hd rk rx ok fun s' J' => ⟨.bl (dAt es k).isSome, H, J', rfl, by simpa using q⟩
theorem op_ninDD (hu : X.A.units + 10 < cLine) : OpR X (compareOp .NotIn) (rDI X.K true) := by
  intro pins s σ H x y v u Q J rx ry h
  obtain ⟨a, I, es, k, rfl, sm, hd, rk, ok, q⟩ := h
  cases (show u = Value.ref a from ry)
  exact dd_nin hu J sm hd rk rx ok fun s' J' => ⟨.bl (!(dAt es k).isSome), H, J', rfl, by simpa using q⟩
theorem rpkv_len {K : PySem.W.Frag} : ∀ {kvs : List (Key × V)} {es : List (PyData × PyData)}, RpKv K I kvs es → kvs.length = es.length
  | _, _, .nil => rfl
  | _, _, .cons _ t => by simp [rpkv_len t]
theorem call_lenDD : CallR X (.builtin "len") (rDL X.K) := by
  intro pins s σ H xs us Q J r h
  obtain ⟨a, I, es, rfl, sm, hd, q⟩ := h
  obtain ⟨u, rfl, rx⟩ := vals1 r
  cases (show u = Value.ref a from rx)
  rcases hd with ⟨kvs, h1, h2⟩ | ⟨ts, h1, h2⟩
  · refine d_len J (.inl h1) fun t s' J' => ?_
    rw [rpkv_len h2]
    exact ⟨.int _, H, J', ⟨t, rfl⟩, q⟩
  · obtain ⟨ys, vn, dd, z, hd⟩ := viewT J sm h1 h2
    refine call_len_dictH hd dd (by rw [← vn.length]; rw [sizeLine_eq] at z; omega) ?_
    rw [← vn.length]
    exact ⟨.int _, H, J.tok _, ⟨_, rfl⟩, q⟩
end
end Dy
namespace Dy
open PySem PySem.Spec PyProof.Rows L2
section
variable {K : PySem.W.Frag} {I H : Hp} {v u : V} {d e : PyData}
mutual
theorem Rp.dp (s : Same I H) : ∀ {v : V} {d : PyData}, Rp K I v d → d.canLay0 = true → Dp K H v d
  | _, _, .non, _ => .non
  | _, _, .bl b, _ => .bl b
  | _, _, .int i, _ => .int i
  | _, _, .str x, _ => .str x
  | _, _, .lst h a, c => .lst (h.mono s).sq (RpAll.dp s a (by simpa [PyData.canLay0] using c))
  | _, _, .tup h a, c => .tup (same_t s h) (RpAll.dp s a (by simpa [PyData.canLay0] using c))
  | _, _, .dic h a, c => by simp [PyData.canLay0] at c
  | _, _, .dit h a, c => by simp [PyData.canLay0] at c
theorem RpAll.dp (s : Same I H) : ∀ {vs : List V} {ds : List PyData}, RpAll K I vs ds → PyData.canLayAll0 ds = true → DpAll K H vs ds
  | _, _, .nil, _ => .nil
  | _, _, .cons h t, c => by
    simp only [PyData.canLayAll0, Bool.and_eq_true] at c
    exact .cons (Rp.dp s h c.1) (RpAll.dp s t c.2)
end
theorem RpS.dp (s : Same I H) (h : RpS K I H v d) (c : d.canLay0 = true) : Dp K H v d := by
  rcases h with h | ⟨a, vs, ds, rfl, rfl, h1, h2⟩ | ⟨a, es, rfl, rfl, h1⟩
  · exact h.dp s c
  · exact .lst (SqL.of h1) (h2.dp s (by simpa [PyData.canLay0] using c))
  · simp [PyData.canLay0] at c
theorem RpS.int {i : Int} (h : RpS K I H v (.int i)) : v = .int i := rpss_int h
theorem RpS.str {x : Str} (h : RpS K I H v (.str x)) : v = .str x := by
  rcases h with h | ⟨_, _, _, _, e, _⟩ | ⟨_, _, _, e, _⟩
  · cases h; rfl
  · cases e
  · cases e
theorem RpS.bl {x : Bool} (h : RpS K I H v (.bool x)) : v = .bl x := by
  rcases h with h | ⟨_, _, _, _, e, _⟩ | ⟨_, _, _, e, _⟩
  · cases h; rfl
  · cases e
  · cases e
theorem RpS.non (h : RpS K I H v .none) : v = .non := by
  rcases h with h | ⟨_, _, _, _, e, _⟩ | ⟨_, _, _, e, _⟩
  · cases h; rfl
  · cases e
  · cases e
theorem RpS.lst {ds : List PyData} (s : Same I H) (h : RpS K I H v (.list ds)) : ∃ a vs, v = .ref a ∧ LsL K H a vs ∧ RpAll K I vs ds := by
  rcases h with h | ⟨a, vs, ds, rfl, e, h1, h2⟩ | ⟨_, _, _, e, _⟩
  · cases h with
    | lst h1 h2 => exact ⟨_, _, rfl, h1.mono s, h2⟩
  · cases e; exact ⟨a, vs, rfl, .of h1, h2⟩
  · cases e
theorem RpS.tup {ds : List PyData} (s : Same I H) (h : RpS K I H v (.tuple ds)) : ∃ a vs, v = .ref a ∧ SqT K H a vs ∧ RpAll K I vs ds := by
  rcases h with h | ⟨_, _, _, _, e, _⟩ | ⟨_, _, _, e, _⟩
  · cases h with
    | tup h1 h2 => exact ⟨_, _, rfl, same_t s h1, h2⟩
  · cases e
  · cases e
theorem RpAll.ints : ∀ {vs : List V} {ns : List Int}, RpAll K I vs (ns.map PyData.int) → vs = ns.map V.int
  | _, [], h => by cases h; rfl
  | _, n :: ns, h => by
    cases h with
    | cons h t => cases h; rw [RpAll.ints t]; rfl
theorem RpAll.bools : ∀ {vs : List V} {ns : List Bool}, RpAll K I vs (ns.map PyData.bool) → vs = ns.map V.bl
  | _, [], h => by cases h; rfl
  | _, n :: ns, h => by
    cases h with
    | cons h t => cases h; rw [RpAll.bools t]; rfl
/-- all ints, all truths -/
def intsOf : List PyData → Option (List Int)
  | [] => some []
  | .int i :: ds => (intsOf ds).map (i :: ·)
  | _ => none
def boolsOf : List PyData → Option (List Bool)
  | [] => some []
  | .bool i :: ds => (boolsOf ds).map (i :: ·)
  | _ => none
theorem intsOf_inv : ∀ {ds : List PyData} {ns : List Int}, intsOf ds = some ns → ds = ns.map PyData.int
  | [], _, h => by cases h; rfl
  | .int i :: ds, ns, h => by
    unfold intsOf at h
    cases q : intsOf ds with
    | none => rw [q] at h; cases h
    | some ms => rw [q] at h; cases h; rw [intsOf_inv q]; rfl
  | .none :: _, _, h => by cases h
  | .bool _ :: _, _, h => by cases h
  | .str _ :: _, _, h => by cases h
  | .list _ :: _, _, h => by cases h
  | .tuple _ :: _, _, h => by cases h
  | .dict _ :: _, _, h => by cases h
theorem boolsOf_inv : ∀ {ds : List PyData} {ns : List Bool}, boolsOf ds = some ns → ds = ns.map PyData.bool
  | [], _, h => by cases h; rfl
  | .bool i :: ds, ns, h => by
    unfold boolsOf at h
    cases q : boolsOf ds with
    | none => rw [q] at h; cases h
    | some ms => rw [q] at h; cases h; rw [boolsOf_inv q]; rfl
  | .none :: _, _, h => by cases h
  | .int _ :: _, _, h => by cases h
  | .str _ :: _, _, h => by cases h
  | .list _ :: _, _, h => by cases h
  | .tuple _ :: _, _, h => by cases h
  | .dict _ :: _, _, h => by cases h
theorem intsOf_map (ns : List Int) : intsOf (ns.map PyData.int) = some ns := by
  induction ns with
  | nil => rfl
  | cons n ns ih => rw [List.map_cons, intsOf, ih]; rfl
theorem boolsOf_map (ns : List Bool) : boolsOf (ns.map PyData.bool) = some ns := by
  induction ns with
  | nil => rfl
  | cons n ns ih => rw [List.map_cons, boolsOf, ih]; rfl
end
theorem OpR.or {X : Cx} {f : Value → Value → Sem Value} {r r' : R2} (h : OpR X f r) (h' : OpR X f r') : OpR X f (fun x y H Q => r x y H Q ∨ r' x y H Q) := by
  intro pins s σ H x y v u Q J rx ry q
  rcases q with q | q
  · exact h pins s σ H x y v u Q J rx ry q
  · exact h' pins s σ H x y v u Q J rx ry q
section
variable {X : Cx} {K : PySem.W.Frag}
def rCatL (K : PySem.W.Frag) : R2 := fun x y H Q => ∃ l b xs zs, x = .ref l ∧ y = .ref b ∧ LsL K H l xs ∧ LsL K H b zs ∧ xs.length + zs.length ≤ sizeLine ∧ ∀ p, H p = none → Q (.ref p) (upd H p (.lst (xs ++ zs)))
theorem op_catL : OpR X (binaryOp .Add) (rCatL X.K) := by
  rintro pins s σ H x y v u Q J rx ry ⟨l, b, xs, zs, rfl, rfl, hl, hb, hz, q⟩
  cases rx
  cases ry
  obtain ⟨z, its, n, r, e0, e⟩ := hl.obj J
  obtain ⟨z2, its2, n2, r2, e20, e2⟩ := hb.obj J
  refine PySem.P.add_list e e2 ?_ (by rw [List.size_toArray, List.size_toArray, ← e0, ← e20]; exact hz)
  rw [show its.toArray ++ its2.toArray = (its ++ its2).toArray by simp]
  exact ⟨.ref _, _, J.lnew (t' := s.toks) (r.append r2) (by rw [List.length_append]; exact hz), rfl, q _ J.fresh⟩
def rAddS' : R2 := fun x y H Q => ∃ i j, x = .str i ∧ y = .str j ∧ i.length + j.length ≤ sizeLine ∧ Q (.str (i ++ j)) H
/-- + -/
def rAdd (K : PySem.W.Frag) : R2 := fun x y H Q => (rI0 (fun i j => .int (i + j)) x y H Q ∨ rCatL K x y H Q) ∨ (rCatA K x y H Q ∨ rAddS' x y H Q)
theorem op_addA : OpR X (binaryOp .Add) (rAdd X.K) := (op_add.or op_catL).or (op_catA.or op_add_str)
def pAdd : PyData → PyData → Option O
  | .int i, .int j => some (.fr (.int (i + j)))
  | .list xs, .list ys => if xs.length + ys.length ≤ 1000000 then some (.ol (xs ++ ys)) else none
  | .tuple xs, .tuple ys => if xs.length + ys.length ≤ 1000000 then some (.fr (.tuple (xs ++ ys))) else none
  | .str x, .str y => if x.length + y.length ≤ 1000000 then some (.fr (.str (x ++ y))) else none
  | _, _ => none
theorem six {n : Nat} (h : n ≤ 1000000) : n ≤ sizeLine := Nat.le_trans h (by decide)
theorem os_add : OpS K (two (rAdd K)) (on2 pAdd) := ops2 fun v u d e I H Q o s r1 r2 q k => by
  unfold pAdd at q
  split at q
  · cases q
    rw [r1.int, r2.int]
    exact .inl (.inl ⟨_, _, rfl, rfl, k _ _ _ _ (Grow.val s (.int _))⟩)
  · split at q
    · rename_i hz
      cases q
      obtain ⟨a, vs, rfl, h1, h2⟩ := r1.lst s
      obtain ⟨b, ws, rfl, h3, h4⟩ := r2.lst s
      exact .inl (.inr ⟨a, b, vs, ws, rfl, rfl, h1, h3, by rw [h2.length, h4.length]; exact six hz, fun p np => k _ _ _ _ (Grow.lst s np (h2.app h4))⟩)
    · cases q
  · split at q
    · rename_i hz
      cases q
      obtain ⟨a, vs, rfl, h1, h2⟩ := r1.tup s
      obtain ⟨b, ws, rfl, h3, h4⟩ := r2.tup s
      refine .inr (.inl ⟨a, b, vs, ws, rfl, rfl, h1, h3, by rw [h2.length, h4.length]; exact six hz, fun e => ?_, fun _ e => ?_, fun _ _ p np => k _ _ _ _ (Grow.tup s np (h2.app h4))⟩)
      · subst e
        cases h2
        exact k _ _ _ _ (Grow.val s (rps_rp r2 rfl))
      · subst e
        cases h4
        rw [List.append_nil] at k
        exact k _ _ _ _ (Grow.val s (rps_rp r1 rfl))
    · cases q
  · split at q
    · rename_i hz
      cases q
      rw [r1.str, r2.str]
      exact .inr (.inr ⟨_, _, rfl, rfl, six hz, k _ _ _ _ (Grow.val s (.str _))⟩)
    · cases q
  · cases q
def pSub : PyData → PyData → Option O
  | .int i, .int j => some (.fr (.int (i - j)))
  | _, _ => none
theorem os_sub : OpS K (two (rI0 fun i j => .int (i - j))) (on2 pSub) := ops2 fun v u d e I H Q o s r1 r2 q k => by
  unfold pSub at q
  split at q
  · cases q
    rw [r1.int, r2.int]
    exact ⟨_, _, rfl, rfl, k _ _ _ _ (Grow.val s (.int _))⟩
  · cases q
/-- * -/
def smI (i : Int) : Bool := decide (-(2 ^ 64) < i ∧ i < 2 ^ 64)
def muOk (i j : Int) : Bool := smI j || (smI i || decide (i.natAbs.log2 + j.natAbs.log2 < 1000000))
theorem muOk_ok {i j : Int} (h : muOk i j = true) : IntMulOk i j := by
  unfold muOk smI at h
  simp only [Bool.or_eq_true, decide_eq_true_eq] at h
  rcases h with h | h | h
  · exact CMul.ok (.inr h)
  · exact CMul.ok (.inl h)
  · exact CMulW.ok h
theorem op_mulM : OpR X (binaryOp .Mult) (rI (fun i j => muOk i j = true) fun i j => .int (i * j)) := opI fun _ _ _ _ _ _ _ hc q => mul_int q (muOk_ok hc)
def rRepL (K : PySem.W.Frag) : R2 := fun x y H Q => ∃ l k xs, x = .ref l ∧ y = .int k ∧ LsL K H l xs ∧ -(2 ^ 63) ≤ k ∧ k < 2 ^ 63 ∧ xs.length * k.toNat ≤ sizeLine ∧ ∀ p, H p = none → Q (.ref p) (upd H p (.lst (List.replicate k.toNat xs).flatten))
def pMul : PyData → PyData → Option O
  | .int i, .int j => if muOk i j = true then some (.fr (.int (i * j))) else none
  | .list xs, .int k => if k ≤ 100000 ∧ -100000 ≤ k ∧ xs.length * k.toNat ≤ 1000000 then some (.ol (List.replicate k.toNat xs).flatten) else none
  | .tuple xs, .int k => if xs.length ≤ 1000 ∧ 2 ≤ k ∧ k ≤ 1000 ∧ xs ≠ [] then some (.fr (.tuple (List.replicate k.toNat xs).flatten)) else none
  | _, _ => none
theorem RpAll.rep {I : Hp} {vs : List V} {ds : List PyData} (h : RpAll K I vs ds) : ∀ n : Nat, RpAll K I (List.replicate n vs).flatten (List.replicate n ds).flatten
  | 0 => .nil
  | n + 1 => by
    rw [List.replicate_succ, List.replicate_succ, List.flatten_cons, List.flatten_cons]
    exact h.app (h.rep n)
/-- // and % -/
def pDiv : PyData → PyData → Option O
  | .int i, .int j => if 0 < j ∧ j < 1073741824 then some (.fr (.int (i / j))) else none
  | _, _ => none
def pMod : PyData → PyData → Option O
  | .int i, .int j => if 0 < j then some (.fr (.int (i % j))) else none
  | _, _ => none
theorem os_mod : OpS K (two (rI (fun _ j => 0 < j) fun i j => .int (i % j))) (on2 pMod) := ops2 fun v u d e I H Q o s r1 r2 q k => by
  unfold pMod at q
  split at q
  · split at q
    · rename_i hc
      cases q
      rw [r1.int, r2.int]
      exact ⟨_, _, rfl, rfl, hc, k _ _ _ _ (Grow.val s (.int _))⟩
    · cases q
  · cases q
def pPow : PyData → PyData → Option O
  | .int i, .int j => if 0 ≤ j ∧ j ≤ 1000000 ∧ i.natAbs < 2 ^ 64 then some (.fr (.int (i ^ j.toNat))) else none
  | _, _ => none
theorem os_pow : OpS K (two (rI CPow fun i j => .int (i ^ j.toNat))) (on2 pPow) := ops2 fun v u d e I H Q o s r1 r2 q k => by
  unfold pPow at q
  split at q
  · split at q
    · rename_i hc
      cases q
      rw [r1.int, r2.int]
      exact ⟨_, _, rfl, rfl, hc, k _ _ _ _ (Grow.val s (.int _))⟩
    · cases q
  · cases q
def pNeg : PyData → Option O
  | .int i => some (.fr (.int (-i)))
  | _ => none
theorem os_neg : OpS K (one (rU fun i => .int (-i))) (on1 pNeg) := ops1 fun v d I H Q o s r1 q k => by
  unfold pNeg at q
  split at q
  · cases q
    rw [r1.int]
    exact ⟨_, rfl, k _ _ _ _ (Grow.val s (.int _))⟩
  · cases q
def cmI (c : Int → Int → Bool) : PyData → PyData → Option O
  | .int i, .int j => some (.fr (.bool (c i j)))
  | _, _ => none
theorem os_cmI {c : Int → Int → Bool} : OpS K (two (rI0 fun i j => .bl (c i j))) (on2 (cmI c)) := ops2 fun v u d e I H Q o s r1 r2 q k => by
  unfold cmI at q
  split at q
  · cases q
    rw [r1.int, r2.int]
    exact ⟨_, _, rfl, rfl, k _ _ _ _ (Grow.val s rbl)⟩
  · cases q
def shp (d : PyData) : Bool := SeqAt.shaped d
def pEq (d e : PyData) : Option O := match d, e with
  | .str a, .str b => some (.fr (.bool (decide (a = b))))
  | d, e => if shp d = true ∧ shp e = true then some (.fr (.bool (PyData.eqv d e))) else none
def pNe (d e : PyData) : Option O := match d, e with
  | .str a, .str b => some (.fr (.bool (!decide (a = b))))
  | d, e => if shp d = true ∧ shp e = true then some (.fr (.bool (!PyData.eqv d e))) else none
def rEqA (K : PySem.W.Frag) : R2 := fun x y H Q => rEqD K x y H Q ∨ rEq x y H Q
def rNeA (K : PySem.W.Frag) : R2 := fun x y H Q => rNeD K x y H Q ∨ rNe x y H Q
theorem op_eqA (hu : X.A.units + 64 < cLine) : OpR X (compareOp .Eq) (rEqA X.K) := (op_eqD hu).or op_eq
theorem op_neA (hu : X.A.units + 64 < cLine) : OpR X (compareOp .NotEq) (rNeA X.K) := (op_neD hu).or op_ne
theorem dec_str {a b : Str} : decide (V.str a = V.str b) = decide (a = b) := by
  by_cases h : a = b
  · subst h; simp
  · rw [decide_eq_false h, decide_eq_false fun z => h (V.str.inj z)]
theorem os_eq : OpS K (two (rEqA K)) (on2 pEq) := ops2 fun v u d e I H Q o s r1 r2 q k => by
  unfold pEq at q
  split at q
  · cases q
    rw [r1.str, r2.str]
    exact .inr ⟨rfl, by rw [dec_str]; exact k _ _ _ _ (Grow.val s rbl)⟩
  · split at q
    · rename_i hc
      cases q
      exact .inl ⟨_, _, r1.dp s (SeqAt.canLay_of_shaped hc.1), r2.dp s (SeqAt.canLay_of_shaped hc.2), hc.1, hc.2, k _ _ _ _ (Grow.val s rbl)⟩
    · cases q
theorem os_ne : OpS K (two (rNeA K)) (on2 pNe) := ops2 fun v u d e I H Q o s r1 r2 q k => by
  unfold pNe at q
  split at q
  · cases q
    rw [r1.str, r2.str]
    exact .inr ⟨rfl, by rw [dec_str]; exact k _ _ _ _ (Grow.val s rbl)⟩
  · split at q
    · rename_i hc
      cases q
      exact .inl ⟨_, _, r1.dp s (SeqAt.canLay_of_shaped hc.1), r2.dp s (SeqAt.canLay_of_shaped hc.2), hc.1, hc.2, k _ _ _ _ (Grow.val s rbl)⟩
    · cases q
def isN : PyData → Bool
  | .none => true
  | _ => false
def pIs (d e : PyData) : Option O := if isN e = true then some (.fr (.bool (isN d))) else none
def pIsn (d e : PyData) : Option O := if isN e = true then some (.fr (.bool (!isN d))) else none
theorem isN_rep {I H : Hp} {v : V} {d : PyData} (h : RpS K I H v d) : decide (v = .non) = isN d := by
  rcases h with h | ⟨_, _, _, rfl, rfl, _⟩ | ⟨_, _, rfl, rfl, _⟩
  · cases h <;> rfl
  · rfl
  · rfl
theorem os_is : OpS K (two fun x y H Q => y = .non ∧ Q (.bl (decide (x = .non))) H) (on2 pIs) := ops2 fun v u d e I H Q o s r1 r2 q k => by
  unfold pIs at q
  split at q
  · rename_i hc
    cases q
    have e1 := isN_rep r2
    rw [hc] at e1
    rw [isN_rep r1]
    exact ⟨of_decide_eq_true e1, k _ _ _ _ (Grow.val s rbl)⟩
  · cases q
theorem os_isn : OpS K (two fun x y H Q => y = .non ∧ Q (.bl (!decide (x = .non))) H) (on2 pIsn) := ops2 fun v u d e I H Q o s r1 r2 q k => by
  unfold pIsn at q
  split at q
  · rename_i hc
    cases q
    have e1 := isN_rep r2
    rw [hc] at e1
    rw [isN_rep r1]
    exact ⟨of_decide_eq_true e1, k _ _ _ _ (Grow.val s rbl)⟩
  · cases q
/-- in a list -/
def pIn : PyData → PyData → Option O
  | d, .list ds => if shp d = true ∧ shp (.list ds) = true then some (.fr (.bool (ds.any fun z => PyData.eqv z d))) else none
  | _, _ => none
def pNin : PyData → PyData → Option O
  | d, .list ds => if shp d = true ∧ shp (.list ds) = true then some (.fr (.bool (!ds.any fun z => PyData.eqv z d))) else none
  | _, _ => none
theorem os_in : OpS K (two (rInD K)) (on2 pIn) := ops2 fun v u d e I H Q o s r1 r2 q k => by
  unfold pIn at q
  split at q
  · split at q
    · rename_i hc
      cases q
      exact ⟨_, _, r1.dp s (SeqAt.canLay_of_shaped hc.1), r2.dp s (SeqAt.canLay_of_shaped hc.2), hc.1, hc.2, k _ _ _ _ (Grow.val s rbl)⟩
    · cases q
  · cases q
theorem os_nin : OpS K (two (rNotInD K)) (on2 pNin) := ops2 fun v u d e I H Q o s r1 r2 q k => by
  unfold pNin at q
  split at q
  · split at q
    · rename_i hc
      cases q
      exact ⟨_, _, r1.dp s (SeqAt.canLay_of_shaped hc.1), r2.dp s (SeqAt.canLay_of_shaped hc.2), hc.1, hc.2, k _ _ _ _ (Grow.val s rbl)⟩
    · cases q
  · cases q
def pIx : PyData → PyData → Option O
  | .list xs, .int i => (atI xs i).map .fr
  | .tuple xs, .int i => (atI xs i).map .fr
  | .str z, .int i => if z.length ≤ 1000000 then (atI z.cps.toList i).map fun c => .fr (.str ⟨#[c]⟩) else none
  | .dict es, k => if okK es k = true then (dAt es k).map .fr else none
  | _, _ => none
theorem okK_isL {es : List (PyData × PyData)} {k : PyData} (h : okK es k = true) : isL k = false := by
  cases k <;> first | rfl | (unfold okK kindK at h; cases h)
theorem rps_dict {I H : Hp} {v : V} {es : List (PyData × PyData)} (s : Same I H) (h : RpS K I H v (.dict es)) : ∃ a, v = .ref a ∧ DiO K I H a es := by
  rcases h with h | ⟨_, _, _, _, e, _⟩ | ⟨a, es', rfl, e, h⟩
  · cases h with
    | dic h1 h2 => exact ⟨_, rfl, .inl ⟨_, s _ _ h1, h2⟩⟩
    | dit h1 h2 => exact ⟨_, rfl, .inr ⟨_, s _ _ h1, h2⟩⟩
  · cases e
  · cases e; exact ⟨a, rfl, h⟩
def rIxD (K : PySem.W.Frag) : R2 := fun x y H Q => rIx K x y H Q ∨ rDG K x y H Q
theorem ixD {X : Cx} (hu : X.A.units + 65 < cLine) : IxR X (rIxD X.K) := ix_seq.or (ix_dict (by omega))
theorem atI_rep {I : Hp} {vs : List V} {ds : List PyData} {i : Int} {d : PyData} (r : RpAll K I vs ds) (h : atI ds i = some d) : ∃ v, atI vs i = some v ∧ Rp K I v d := by
  unfold atI at h ⊢
  rw [r.length]
  cases q : ixN ds.length i with
  | none => rw [q] at h; cases h
  | some j =>
    rw [q] at h
    exact r.get h
theorem os_ix : OpS K (two (rIxD K)) (on2 pIx) := ops2 fun v u d e I H Q o s r1 r2 q k => by
  unfold pIx at q
  split at q
  · rename_i xs i
    cases z : atI xs i with
    | none => rw [z] at q; cases q
    | some x =>
      rw [z] at q; cases q
      obtain ⟨a, vs, rfl, h1, h2⟩ := r1.lst s
      obtain ⟨y, h3, h4⟩ := atI_rep h2 z
      rw [r2.int]
      exact .inl (.inl ⟨a, vs, i, y, rfl, rfl, h1.sq, h3, k _ _ _ _ (Grow.val s h4)⟩)
  · rename_i xs i
    cases z : atI xs i with
    | none => rw [z] at q; cases q
    | some x =>
      rw [z] at q; cases q
      obtain ⟨a, vs, rfl, h1, h2⟩ := r1.tup s
      obtain ⟨y, h3, h4⟩ := atI_rep h2 z
      rw [r2.int]
      exact .inl (.inr (.inl ⟨a, vs, i, y, rfl, rfl, h1, h3, k _ _ _ _ (Grow.val s h4)⟩))
  · rename_i z i
    split at q
    · rename_i hz
      cases y : atI z.cps.toList i with
      | none => rw [y] at q; cases q
      | some c =>
        rw [y] at q; cases q
        rw [r1.str, r2.int]
        exact .inl (.inr (.inr ⟨z, i, c, rfl, rfl, six hz, y, k _ _ _ _ (Grow.val s (.str _))⟩))
    · cases q
  · rename_i es
    split at q
    · rename_i hc
      cases z : dAt es e with
      | none => rw [z] at q; cases q
      | some x =>
        rw [z] at q; cases q
        obtain ⟨a, rfl, h1⟩ := rps_dict s r1
        exact .inr ⟨a, I, es, e, x, rfl, s, h1, rps_rp r2 (okK_isL hc), hc, z, fun v r => k _ _ _ _ (Grow.val s r)⟩
    · cases q
  · cases q
def cutD {α : Type} (xs : List α) (lo hi : Option Int) : List α := (xs.drop (HT.sIx xs.length 0 lo)).take (HT.sIx xs.length xs.length hi - HT.sIx xs.length 0 lo)
theorem cut_rep {I : Hp} {vs : List V} {ds : List PyData} (r : RpAll K I vs ds) (lo hi : Option Int) : RpAll K I (cutV vs lo hi) (cutD ds lo hi) := by
  unfold cutV cutD
  rw [r.length]
  exact (r.drops _).takes _
def pSl (d : PyData) (lo hi : Option Int) : Option O := match d with
  | .list xs => some (.ol (cutD xs lo hi))
  | .tuple xs => some (.fr (.tuple (cutD xs lo hi)))
  | .str z => if z.length ≤ 1000000 then some (.fr (.str (cutS z lo hi))) else none
  | _ => none
def rSlX' (K : PySem.W.Frag) : V → Option Int → Option Int → Hp → VK → Prop := fun x lo hi H Q => (rSlL K x lo hi H Q ∨ rSlA K x lo hi H Q) ∨ rSlS x lo hi H Q
theorem sl_any : SlR X (rSlX' X.K) := (sl_list.or sl_tupA).or sl_str
theorem os_sl {v : V} {d : PyData} {lo hi : Option Int} {I H : Hp} {Q : VK} {o : O} (s : Same I H) (r1 : RpS K I H v d) (q : pSl d lo hi = some o) (k : ∀ v H' I' R, Grow K I H I' H' o v R → Q v H') : rSlX' K v lo hi H Q := by
  unfold pSl at q
  split at q
  · cases q
    obtain ⟨a, vs, rfl, h1, h2⟩ := r1.lst s
    exact .inl (.inl ⟨a, vs, rfl, h1.sq, fun p np => k _ _ _ _ (Grow.lst s np (cut_rep h2 lo hi))⟩)
  · cases q
    obtain ⟨a, vs, rfl, h1, h2⟩ := r1.tup s
    refine .inl (.inr ⟨a, vs, rfl, h1, fun e => ?_, fun _ p np => k _ _ _ _ (Grow.tup s np (cut_rep h2 lo hi))⟩)
    rename_i xs
    have ec : cutD xs lo hi = xs := by
      unfold cutD
      rw [← h2.length, e.1, e.2, List.drop_zero, Nat.sub_zero, h2.length, List.take_length]
    rw [ec] at k
    exact k _ _ _ _ (Grow.val s (rps_rp r1 rfl))
  · split at q
    · rename_i hz
      cases q
      rw [r1.str]
      exact .inr ⟨_, rfl, six hz, k _ _ _ _ (Grow.val s (.str _))⟩
    · cases q
  · cases q
end
section
variable {g : G} {X : Cx} {a b c e : Expr} {pos p2 : Pos} {σ : St} {H : Hp}
def sl3 (r : V → Option Int → Option Int → Hp → VK → Prop) : List V → Hp → VK → Prop
  | [x, .int i, .int j], H, Q => r x (some i) (some j) H Q
  | _, _, _ => False
def pSl2l : PyData → PyData → Option O
  | d, .int i => pSl d (some i) none
  | _, _ => none
def pSl2h : PyData → PyData → Option O
  | d, .int i => pSl d none (some i)
  | _, _ => none
theorem de_slLo {x y : AF} (ha : DX g X a x) (hb : DX g X b y) (hK : X.K = g.K := by rfl) : DE g X (.Subscript a (.Slice (some b) none none p2) pos) (fOp (on2 pSl2l) [x, y]) :=
  PE.imp (pe_slice sl_any ha (po_some hb) po_none) fun σ H Q h => by
    refine tArg_mono (tA2 (op_key (r := two fun v u H1 Q => ∃ i, u = V.int i ∧ rSlX' X.K v (some i) none H1 Q) ?_ h)) fun v H1 q => tArg_mono q fun u H2 q => q
    refine ops2 fun v u d e I H Q o s r1 r2 q k => ?_
    unfold pSl2l at q
    split at q
    · rw [r2.int, hK]
      exact ⟨_, rfl, os_sl s r1 q k⟩
    · cases q
theorem de_slHi {x y : AF} (ha : DX g X a x) (hb : DX g X b y) (hK : X.K = g.K := by rfl) : DE g X (.Subscript a (.Slice none (some b) none p2) pos) (fOp (on2 pSl2h) [x, y]) :=
  PE.imp (pe_slice sl_any ha po_none (po_some hb)) fun σ H Q h => by
    refine tArg_mono (tA2 (op_key (r := two fun v u H1 Q => ∃ i, u = V.int i ∧ rSlX' X.K v none (some i) H1 Q) ?_ h)) fun v H1 q => tArg_mono q fun u H2 q => q
    refine ops2 fun v u d e I H Q o s r1 r2 q k => ?_
    unfold pSl2h at q
    split at q
    · rw [r2.int, hK]
      exact ⟨_, rfl, os_sl s r1 q k⟩
    · cases q
end
end Dy
namespace Dy
open PySem PySem.Spec PyProof.Rows L2
section
variable {X : Cx} {K : PySem.W.Frag}
theorem op_repL : OpR X (binaryOp .Mult) (rRepL X.K) := by
  rintro pins s σ H x y v u Q J rx ry ⟨l, k, xs, rfl, rfl, hL, h1, h2, hz, q⟩
  cases rx
  obtain ⟨t, rfl⟩ := ry
  obtain ⟨z, its, n, r, hl, e⟩ := hL.obj J
  have a1 : its.toArray.size * k.toNat ≤ sizeLine := by
    rw [List.size_toArray, ← hl]
    exact hz
  have a2 : ¬ its.toArray.size * k.toNat > (2 ^ 63 - 1) / 8 := Nat.not_lt.mpr (Nat.le_trans a1 (by decide))
  have a3 : ¬ (!Builtin.List.listFitsIndex k) = true := by rw [fitsIndex_both h1 h2]; decide
  have a4 : ¬ Builtin.List.listTooLong (its.toArray.size * k.toNat) = true := by rw [notLongL a1]; decide
  have a5 : List.foldl (fun x1 x2 => x1 ++ x2) #[] (List.replicate (if its.toArray.isEmpty = true then 0 else k.toNat) its.toArray) = (List.replicate k.toNat its).flatten.toArray := by
    rw [size_rep]
    cases its with
    | nil => simp
    | cons b c => rfl
  refine wpAny_binaryOp_repeat_ref (T := "list") (U := "int") (by decide) ⟨_, e, rfl⟩ (fun s' => typeIs_int s' k t) noFill_list_mul F.fills_int_mul F.slot_int_rmul repeat_list F.slot_int_index.lookup ?_
  refine call_meets F.slot_int_rmul (typeIs_int s k t) F.entry_int_rmul (F.args_int_rmul_2 _ _) (int___rmul___int_list k t l its.toArray n) ⟨e, rfl, ⟨_, e, rfl⟩, ?_⟩
  refine call_meets F.slot_list_mul ⟨_, e, rfl⟩ F.entry_list_mul (F.args_list_mul_2 _ _) (AutoListH.list___mul___list_int_3 l its.toArray n k t a3 a2 a4) ⟨e, ?_⟩
  rw [a5]
  exact ⟨.ref _, _, J.lnew (t' := s.toks) (r.rep k.toNat) (by rw [PyProof.Rows.lm_len_rep_flat, Nat.mul_comm]; exact hz), rfl, q _ J.fresh⟩
def rMulA (K : PySem.W.Frag) : R2 := fun x y H Q => (rI (fun i j => muOk i j = true) (fun i j => .int (i * j)) x y H Q ∨ rRepL K x y H Q) ∨ rRepT K x y H Q
theorem op_mulA : OpR X (binaryOp .Mult) (rMulA X.K) := (op_mulM.or op_repL).or op_repT
theorem os_mul : OpS K (two (rMulA K)) (on2 pMul) := ops2 fun v u d e I H Q o s r1 r2 q k => by
  unfold pMul at q
  split at q
  · split at q
    · rename_i hc
      cases q
      rw [r1.int, r2.int]
      exact .inl (.inl ⟨_, _, rfl, rfl, hc, k _ _ _ _ (Grow.val s (.int _))⟩)
    · cases q
  · split at q
    · rename_i hc
      cases q
      obtain ⟨a, vs, rfl, h1, h2⟩ := r1.lst s
      rw [r2.int]
      exact .inl (.inr ⟨a, _, vs, rfl, rfl, h1, by omega, by omega, by rw [h2.length]; exact six hc.2.2, fun p np => k _ _ _ _ (Grow.lst s np (h2.rep _))⟩)
    · cases q
  · split at q
    · rename_i hc
      cases q
      obtain ⟨a, vs, rfl, h1, h2⟩ := r1.tup s
      rw [r2.int]
      refine .inr ⟨a, _, vs, rfl, rfl, h1, fun z => ?_, hc.2.1, hc.2.2.1, by rw [h2.length]; exact hc.1, fun p np => k _ _ _ _ (Grow.tup s np (h2.rep _))⟩
      subst z
      cases h2
      exact hc.2.2.2 rfl
    · cases q
  · cases q
theorem ops1c {r : List V → Hp → VK → Prop} {f : PyData → Option O} (h : ∀ (v : V) (d : PyData) (I H : Hp) (Q : VK) (o : O), Same I H → RpS K I H v d → f d = some o → (∀ v H' I' R, Grow K I H I' H' o v R → Q v H') → r [v] H Q) : OpS K r (on1 f) := by
  intro vs ds I H Q o s q e k
  match vs, ds, q with
  | _, _, .nil => simp [on1] at e
  | _, _, .cons q1 .nil => exact h _ _ I H Q o s q1 e k
  | _, _, .cons _ (.cons _ _) => simp [on1] at e
def pLen : PyData → Option O
  | .list xs => some (.fr (.int xs.length))
  | .tuple xs => some (.fr (.int xs.length))
  | .str x => if x.length ≤ 1000000 then some (.fr (.int x.length)) else none
  | .dict es => some (.fr (.int es.length))
  | _ => none
def rLenD (K : PySem.W.Frag) : List V → Hp → VK → Prop := fun xs H Q => (∃ x n, xs = [x] ∧ LenV K x H n ∧ Q (.int n) H) ∨ rDL K xs H Q
theorem call_lenA {X : Cx} : CallR X (.builtin "len") (rLenD X.K) := by
  intro pins s σ H xs us Q I r h
  rcases h with h | h
  · exact call_len pins s σ H xs us Q I r h
  · exact call_lenDD pins s σ H xs us Q I r h
theorem os_len : OpS K (rLenD K) (on1 pLen) := ops1c fun v d I H Q o s r1 q k => by
  unfold pLen at q
  split at q
  · cases q
    obtain ⟨a, vs, rfl, h1, h2⟩ := r1.lst s
    rw [← h2.length] at k
    exact .inl ⟨_, _, rfl, .inl ⟨vs, h1.sq, rfl⟩, k _ _ _ _ (Grow.val s (.int _))⟩
  · cases q
    obtain ⟨a, vs, rfl, h1, h2⟩ := r1.tup s
    rw [← h2.length] at k
    exact .inl ⟨_, _, rfl, .inr ⟨vs, h1, rfl⟩, k _ _ _ _ (Grow.val s (.int _))⟩
  · split at q
    · rename_i hz
      cases q
      rw [r1.str]
      exact .inl ⟨_, _, rfl, ⟨six hz, rfl⟩, k _ _ _ _ (Grow.val s (.int _))⟩
    · cases q
  · cases q
    obtain ⟨a, rfl, h1⟩ := rps_dict s r1
    exact .inr ⟨a, I, _, rfl, s, h1, k _ _ _ _ (Grow.val s (.int _))⟩
  · cases q
def pSum : PyData → Option O
  | .list xs => (intsOf xs).map fun ns => .fr (.int ns.sum)
  | _ => none
theorem os_sum : OpS K (rSum K) (on1 pSum) := ops1c fun v d I H Q o s r1 q k => by
  unfold pSum at q
  split at q
  · rename_i xs
    cases z : intsOf xs with
    | none => rw [z] at q; cases q
    | some ns =>
      rw [z] at q; cases q
      obtain ⟨a, vs, rfl, h1, h2⟩ := r1.lst s
      rw [intsOf_inv z] at h2
      rw [h2.ints] at h1
      exact ⟨a, ns, rfl, h1.sq, k _ _ _ _ (Grow.val s (.int _))⟩
  · cases q
def pAll : PyData → Option O
  | .list xs => (boolsOf xs).map fun ns => .fr (.bool (ns.all id))
  | _ => none
theorem os_all : OpS K (rAll K) (on1 pAll) := ops1c fun v d I H Q o s r1 q k => by
  unfold pAll at q
  split at q
  · rename_i xs
    cases z : boolsOf xs with
    | none => rw [z] at q; cases q
    | some ns =>
      rw [z] at q; cases q
      obtain ⟨a, vs, rfl, h1, h2⟩ := r1.lst s
      rw [boolsOf_inv z] at h2
      rw [h2.bools] at h1
      exact ⟨a, ns, rfl, h1.sq, k _ _ _ _ (Grow.val s rbl)⟩
  · cases q
/-- the greatest, the least of some ints -/
def maxL : List Int → Int
  | [] => 0
  | [a] => a
  | a :: b :: r => max a (maxL (b :: r))
def minL : List Int → Int
  | [] => 0
  | [a] => a
  | a :: b :: r => min a (minL (b :: r))
theorem maxL_ge : ∀ {ns : List Int} {y : Int}, y ∈ ns → y ≤ maxL ns
  | [a], y, h => by simp at h; subst h; exact Int.le_refl _
  | a :: b :: r, y, h => by
    unfold maxL
    rcases List.mem_cons.mp h with e | h
    · subst e; omega
    · have := maxL_ge h; omega
theorem maxL_mem : ∀ {ns : List Int}, ns ≠ [] → maxL ns ∈ ns
  | [], h => absurd rfl h
  | [a], _ => by simp [maxL]
  | a :: b :: r, _ => by
    have ih := maxL_mem (ns := b :: r) (by simp)
    unfold maxL
    by_cases h : a ≤ maxL (b :: r)
    · rw [Int.max_eq_right h]; exact List.mem_cons_of_mem _ ih
    · rw [Int.max_eq_left (by omega)]; exact List.mem_cons_self
theorem minL_le : ∀ {ns : List Int} {y : Int}, y ∈ ns → minL ns ≤ y
  | [a], y, h => by simp at h; subst h; exact Int.le_refl _
  | a :: b :: r, y, h => by
    unfold minL
    rcases List.mem_cons.mp h with e | h
    · subst e; omega
    · have := minL_le h; omega
theorem minL_mem : ∀ {ns : List Int}, ns ≠ [] → minL ns ∈ ns
  | [], h => absurd rfl h
  | [a], _ => by simp [minL]
  | a :: b :: r, _ => by
    have ih := minL_mem (ns := b :: r) (by simp)
    unfold minL
    by_cases h : a ≤ minL (b :: r)
    · rw [Int.min_eq_left h]; exact List.mem_cons_self
    · rw [Int.min_eq_right (by omega)]; exact List.mem_cons_of_mem _ ih
def rMax' (K : PySem.W.Frag) : List V → Hp → VK → Prop := fun xs H Q => (∃ i j, xs = [.int i, .int j] ∧ Q (.int (if j > i then j else i)) H) ∨ rMax K xs H Q
def rMin' (K : PySem.W.Frag) : List V → Hp → VK → Prop := fun xs H Q => (∃ i j, xs = [.int i, .int j] ∧ Q (.int (if j < i then j else i)) H) ∨ rMin K xs H Q
theorem cl_max (hc : X.calm = true) : CallR X (.builtin "max") (rMax' X.K) := (call_max2 hc).or (cr_max hc)
theorem cl_min (hc : X.calm = true) : CallR X (.builtin "min") (rMin' X.K) := (call_min2 hc).or (cr_min hc)
def pMax : List PyData → Option O
  | [.int i, .int j] => some (.fr (.int (max i j)))
  | [.list xs] => match intsOf xs with
    | some (n :: ns) => some (.fr (.int (maxL (n :: ns))))
    | _ => none
  | _ => none
def pMin : List PyData → Option O
  | [.int i, .int j] => some (.fr (.int (min i j)))
  | [.list xs] => match intsOf xs with
    | some (n :: ns) => some (.fr (.int (minL (n :: ns))))
    | _ => none
  | _ => none
theorem os_max : OpS K (rMax' K) pMax := fun vs ds I H Q o s r q k => by
  unfold pMax at q
  split at q
  · rename_i i j
    cases q
    match vs, r with
    | _, .cons r1 (.cons r2 .nil) =>
      rw [r1.int, r2.int]
      refine .inl ⟨i, j, rfl, ?_⟩
      have e : (if j > i then j else i) = max i j := by split <;> omega
      rw [e]
      exact k _ _ _ _ (Grow.val s (.int _))
  · rename_i xs
    match vs, r with
    | _, .cons r1 .nil =>
      split at q
      · rename_i n ns z
        cases q
        obtain ⟨a, vs, rfl, h1, h2⟩ := r1.lst s
        rw [intsOf_inv z] at h2
        rw [h2.ints] at h1
        refine .inr ⟨a, n :: ns, rfl, h1.sq, by simp, fun m hm hb => ?_⟩
        have e : m = maxL (n :: ns) := Int.le_antisymm (maxL_ge hm) (hb _ (maxL_mem (by simp)))
        rw [e]
        exact k _ _ _ _ (Grow.val s (.int _))
      · cases q
  · cases q
theorem os_min : OpS K (rMin' K) pMin := fun vs ds I H Q o s r q k => by
  unfold pMin at q
  split at q
  · rename_i i j
    cases q
    match vs, r with
    | _, .cons r1 (.cons r2 .nil) =>
      rw [r1.int, r2.int]
      refine .inl ⟨i, j, rfl, ?_⟩
      have e : (if j < i then j else i) = min i j := by split <;> omega
      rw [e]
      exact k _ _ _ _ (Grow.val s (.int _))
  · rename_i xs
    match vs, r with
    | _, .cons r1 .nil =>
      split at q
      · rename_i n ns z
        cases q
        obtain ⟨a, vs, rfl, h1, h2⟩ := r1.lst s
        rw [intsOf_inv z] at h2
        rw [h2.ints] at h1
        refine .inr ⟨a, n :: ns, rfl, h1.sq, by simp, fun m hm hb => ?_⟩
        have e : m = minL (n :: ns) := Int.le_antisymm (hb _ (minL_mem (by simp))) (minL_le hm)
        rw [e]
        exact k _ _ _ _ (Grow.val s (.int _))
      · cases q
  · cases q
def pList (d : PyData) : Option O := (seqOf d).map .ol
theorem os_list : OpS K (fun xs H Q => ∃ p ys, xs = [.ref p] ∧ (SqL K H p ys ∨ SqT K H p ys) ∧ ∀ l, H l = none → Q (.ref l) (upd H l (.lst ys))) (on1 pList) := ops1c fun v d I H Q o s r1 q k => by
  unfold pList at q
  cases z : seqOf d with
  | none => rw [z] at q; cases q
  | some xs =>
    rw [z] at q; cases q
    obtain ⟨p, vs, rfl, h1, h2⟩ := rps_seq s r1 z
    exact ⟨p, vs, rfl, h1.symm, fun l nl => k _ _ _ _ (Grow.lst s nl h2)⟩
def pTuple (d : PyData) : Option O := (seqOf d).map fun xs => .fr (.tuple xs)
theorem os_tuple : OpS K (fun xs H Q => ∃ p ys, xs = [.ref p] ∧ ((SqL K H p ys ∧ ∀ l, H l = none → Q (.ref l) (upd H l (.tup ys))) ∨ (SqT K H p ys ∧ Q (.ref p) H))) (on1 pTuple) := ops1c fun v d I H Q o s r1 q k => by
  unfold pTuple at q
  cases d with
  | list xs =>
    cases q
    obtain ⟨p, vs, rfl, h1, h2⟩ := r1.lst s
    exact ⟨p, vs, rfl, .inl ⟨h1.sq, fun l nl => k _ _ _ _ (Grow.tup s nl h2)⟩⟩
  | tuple xs =>
    cases q
    obtain ⟨p, vs, rfl, h1, h2⟩ := r1.tup s
    exact ⟨p, vs, rfl, .inr ⟨h1, k _ _ _ _ (Grow.val s (rps_rp r1 rfl))⟩⟩
  | _ => cases q
def pInt : PyData → Option O
  | .int i => some (.fr (.int i))
  | .bool b => some (.fr (.int (if b then 1 else 0)))
  | _ => none
theorem os_int : OpS K (fun xs H Q => (∃ i, xs = [.int i] ∧ Q (.int i) H) ∨ ∃ k, xs = [.bl k] ∧ Q (.int (if k then 1 else 0)) H) (on1 pInt) := ops1c fun v d I H Q o s r1 q k => by
  unfold pInt at q
  split at q
  · cases q
    rw [r1.int]
    exact .inl ⟨_, rfl, k _ _ _ _ (Grow.val s (.int _))⟩
  · cases q
    rw [r1.bl]
    exact .inr ⟨_, rfl, k _ _ _ _ (Grow.val s (.int _))⟩
  · cases q
/-- isinstance -/
inductive Ty where
  | int | bool | str | list | tuple | dict
def Ty.name : Ty → String
  | .int => "int"
  | .bool => "bool"
  | .str => "str"
  | .list => "list"
  | .tuple => "tuple"
  | .dict => "dict"
def tyN : PyData → String
  | .none => "NoneType"
  | .bool _ => "bool"
  | .int _ => "int"
  | .str _ => "str"
  | .list _ => "list"
  | .tuple _ => "tuple"
  | .dict _ => "dict"
def isA : Ty → PyData → Bool
  | .int, .int _ => true
  | .int, .bool _ => true
  | .bool, .bool _ => true
  | .str, .str _ => true
  | .list, .list _ => true
  | .tuple, .tuple _ => true
  | .dict, .dict _ => true
  | _, _ => false
theorem isA_kit (t : Ty) (d : PyData) : kitB (tyN d) t.name = some (isA t d) := by
  cases t <;> cases d <;> first | rfl | (show kitB _ _ = _; decide +kernel)
/-- a value's type, with the dicts of tuples -/
inductive TyY (K : PySem.W.Frag) (H : Hp) : V → Value → Prop where
  | base {x : V} {t : Value} (h : TyOf K H x t) : TyY K H x t
  | wide {x : V} {t : Value} (h : TyX K H x t) : TyY K H x t
  | dn {a : Addr} {ts : List TP} (e : H a = some (dN a ts)) : TyY K H (.ref a) (.type "dict")
theorem kit_ofY {X : Cx} {pins : List (Addr × Obj)} {σ : St} {H : Hp} {s : Shared} {x : V} {u t : Value} (I : Inv X pins σ H s) (rx : RelV x u) (ty : TyY X.K H x t) : ∃ P : Heap → Prop, PySem.W.KitX X.K u t P ∧ P s.heap ∧ u ≠ .builtin "__main__.__loader__#opaque" := by
  cases ty with
  | base h => exact kit_of I rx (.base h)
  | wide h => exact kit_of I rx h
  | @dn a ts e =>
    cases (show u = Value.ref a from rx)
    obtain ⟨⟨_, _, ys, _, o, es, ep, h1, h2, _⟩, _⟩ := (show ObjOk X.prog X.w H s.heap a (dN a ts) from I.hok a _ e)
    exact ⟨_, PySem.W.kitx_dict, ⟨o, h1, h2.1⟩, fun z => nomatch z⟩
def rIsiY (K : PySem.W.Frag) : List V → Hp → VK → Prop := fun xs H Q => ∃ (x c : V) (t u : Value) (b : Bool), xs = [x, c] ∧ ClsV c u ∧ TyY K H x t ∧ PySem.W.kitOne K t u = some b ∧ Q (.bl b) H
theorem call_isiY {X : Cx} : CallR X (.builtin "isinstance") (rIsiY X.K) := by
  intro pins s σ H xs us Q I r h
  obtain ⟨x, c, t, u, b, rfl, k, ty, e, q⟩ := h
  obtain ⟨u1, u2, rfl, r1, r2⟩ := vals2 r
  have e2 := k.eq r2
  subst e2
  obtain ⟨P, Z, p, hx⟩ := kit_ofY I r1 ty
  exact PySem.W.kia_one Z I.kIn p e hx fun tk => ⟨.bl b, H, I.tok tk, rfl, q⟩
theorem tyX {I H : Hp} {v : V} {d : PyData} (s : Same I H) (h : RpS K I H v d) : TyY K H v (.type (tyN d)) := by
  rcases h with h | ⟨a, vs, ds, rfl, rfl, h1, _⟩ | ⟨a, es, rfl, rfl, ⟨kvs, h1, _⟩ | ⟨ts, h1, _⟩⟩
  · cases h with
    | non => exact .base .non
    | bl b => exact .base (.bl b)
    | int i => exact .base (.int i)
    | str x => exact .base (.str x)
    | lst h1 _ =>
      rcases h1.mono s with (h1 | ⟨o, h1⟩) | ⟨its, n, h1, _⟩
      · exact .base (.lst h1)
      · exact .base (.frz h1)
      · exact .wide (.kList h1 rfl)
    | tup h1 _ =>
      rcases same_t s h1 with (h1 | ⟨o, h1⟩) | ⟨o, its, n, h1, h2, _⟩
      · exact .base (.tup h1)
      · exact .wide (.fTuple h1)
      · exact .wide (.kTuple h1 h2)
    | dic h1 _ => exact .base (.dK (s _ _ h1))
    | dit h1 _ => exact .dn (s _ _ h1)
  · exact .base (.lst h1)
  · exact .base (.dK h1)
  · exact .dn h1
end
section
variable {g : G} {X : Cx} {a b c e : Expr} {pos p p2 : Pos} {σ : St} {H : Hp}
theorem de_isi {x : AF} {n : Str} (t : Ty) (hg : Gl X "isinstance") (hm : X.mg "isinstance" = none) (hv : bootBuiltins "isinstance" = some (.builtin "isinstance")) (ha : DX g X a x) (hT : PE X (.Name n p2) (tC (.ty t.name))) (hK : X.K = g.K := by rfl)
    (h1 : starEach [a, .Name n p2] X.env = (false, eval a X.env) :: starEach [.Name n p2] X.env := by rfl) (h2 : starEach [.Name n p2] X.env = (false, eval (.Name n p2) X.env) :: starEach [] X.env := by rfl) (h3 : (backTo pos (starEach [.Name n p2] X.env)).any (·.1) = false := by rfl) :
    DE g X (.Call (.Name "isinstance" p) [a, .Name n p2] [] pos) (fOp (on1 fun d => some (.fr (.bool (isA t d)))) [x]) :=
  PE.imp (pe_callB call_isiY hg hm hv (pa_cons ha (pa_cons hT pa_nil h2) h1) (by decide) (by decide) h1 h3) fun σ H Q h => by
    refine tArg_mono (tA1 (op_key (r := one fun v H1 Q => rIsiY X.K [v, .ty t.name] H1 Q) ?_ h)) fun v H1 q => q
    refine ops1 fun v d I H Q o s r1 q k => ?_
    cases q
    exact ⟨v, .ty t.name, .type (tyN d), .type t.name, isA t d, rfl, .ty _, by rw [hK]; exact tyX s r1, kit_ty (isA_kit t d), k _ _ _ _ (Grow.val s rbl)⟩
def fSq (a : AF) : IF := fun env => evA [a] env >>= fun r => match dvs r.1 with
  | some [d] => match seqOf d with
    | some xs => .ok (xs, r.2)
    | none => .no
  | _ => .no
theorem it_l {K : PySem.W.Frag} {I H : Hp} {a : Addr} {vs : List V} {ds : List PyData} (h : LsL K I a vs) (r : RpAll K I vs ds) : ItOk K I (Itl K a) ds := fun I2 H2 i s1 s2 => by
  have hq : SqL K H2 a vs := (h.mono (s1.trans s2)).sq
  refine ⟨fun d hd => ?_, fun e => ⟨vs, hq, by rw [r.length]; omega⟩⟩
  obtain ⟨v, hv, rp⟩ := r.get hd
  refine ⟨⟨vs, v, hq, hv⟩, fun x H' y => ?_⟩
  obtain ⟨rfl, y⟩ := y
  have := y vs hq
  rw [hv] at this; cases this
  exact ⟨I2, Grow.val s2 (rp.mono s1)⟩
theorem it_t {K : PySem.W.Frag} {I H : Hp} {a : Addr} {vs : List V} {ds : List PyData} (h : SqT K I a vs) (r : RpAll K I vs ds) : ItOk K I (Itt K a) ds := fun I2 H2 i s1 s2 => by
  have hq : SqT K H2 a vs := same_t (s1.trans s2) h
  refine ⟨fun d hd => ?_, fun e => ⟨vs, hq, by rw [r.length]; omega⟩⟩
  obtain ⟨v, hv, rp⟩ := r.get hd
  refine ⟨⟨vs, v, hq, hv⟩, fun x H' y => ?_⟩
  obtain ⟨rfl, y⟩ := y
  have := y vs hq
  rw [hv] at this; cases this
  exact ⟨I2, Grow.val s2 (rp.mono s1)⟩
theorem di_seq {tg : Expr} {x : AF} (ha : DX g X a x) (hK : X.K = g.K := by rfl) : DI g X tg a (fSq x) := by
  refine ⟨fun pins s σ H R J h => ?_⟩
  obtain ⟨I, env, F, sm, p⟩ := h
  unfold fSq at p
  cases q : evA [x] env with
  | no => rw [q] at p; exact p.elim
  | er y =>
    rw [q] at p
    have ps : g.err I H F y := p
    refine (pi_list ha).run pins s σ H R J ?_
    refine tA1 (R := fun vs H1 => ∃ v, vs = [v] ∧ ∃ a, v = .ref a ∧ (∃ xs, SqL X.K H1 a xs) ∧ R (Itl X.K a) H1) ⟨I, env, F, sm, by rw [q]; exact ps⟩ |> fun h => tArg_mono h fun v H1 ⟨_, e, z⟩ => by cases e; exact z
  | ok r =>
    rw [q, bind_ok] at p
    cases q2 : dvs r.1 with
    | none => rw [q2] at p; exact p.elim
    | some ds =>
      match ds, q2 with
      | [], q2 => rw [q2] at p; exact p.elim
      | _ :: _ :: _, q2 => rw [q2] at p; exact p.elim
      | [d], q2 =>
        rw [q2] at p
        have ps := p
        cases d with
        | list xs =>
          have ps : ∀ J H' I' F', Sim g.K g.pn I' H' σ r.2 F' → Step I H (Ow F) I' H' (Ow F') → ItOk g.K I' J xs → R J H' := ps
          refine (pi_list ha).run pins s σ H R J ?_
          have key : tA g [x] σ H (fun vs H1 => ∃ v, vs = [v] ∧ ∃ a, v = .ref a ∧ (∃ xs, SqL X.K H1 a xs) ∧ R (Itl X.K a) H1) := by
            refine ⟨I, env, F, sm, ?_⟩
            rw [q]
            intro vs H' I' F' s' st av
            match vs, dvs_rep av q2 with
            | [v], .cons rp .nil =>
              cases rp with
              | lst h1 h2 =>
                rw [hK]
                exact ⟨_, rfl, _, rfl, ⟨_, (h1.mono s'.sub).sq⟩, ps _ _ _ _ s' st (it_l (H := H') h1 h2)⟩
          exact tArg_mono (tA1 key) fun v H1 ⟨_, e, z⟩ => by cases e; exact z
        | tuple xs =>
          have ps : ∀ J H' I' F', Sim g.K g.pn I' H' σ r.2 F' → Step I H (Ow F) I' H' (Ow F') → ItOk g.K I' J xs → R J H' := ps
          refine (pi_tup ha).run pins s σ H R J ?_
          have key : tA g [x] σ H (fun vs H1 => ∃ v, vs = [v] ∧ ∃ a, v = .ref a ∧ (∃ xs, SqT X.K H1 a xs) ∧ R (Itt X.K a) H1) := by
            refine ⟨I, env, F, sm, ?_⟩
            rw [q]
            intro vs H' I' F' s' st av
            match vs, dvs_rep av q2 with
            | [v], .cons rp .nil =>
              cases rp with
              | tup h1 h2 =>
                rw [hK]
                exact ⟨_, rfl, _, rfl, ⟨_, same_t s'.sub h1⟩, ps _ _ _ _ s' st (it_t (H := H') h1 h2)⟩
          exact tArg_mono (tA1 key) fun v H1 ⟨_, e, z⟩ => by cases e; exact z
        | none => exact ps.elim
        | bool _ => exact ps.elim
        | int _ => exact ps.elim
        | str _ => exact ps.elim
        | dict _ => exact ps.elim
end
end Dy
namespace Dy
open PySem PySem.Spec PyProof.Rows L2
section
variable {g : G} {X : Cx} {a b c e : Expr} {es : List Expr} {pos p tpos : Pos} {σ : St} {H : Hp} {elts : List Expr} {kk : Nat} {tg : Expr}
def rng (lo : Int) (n : Nat) : List PyData := (List.range n).map fun k : Nat => PyData.int (lo + (k : Int))
theorem it_r {K : PySem.W.Frag} {I : Hp} {lo : Int} {n : Nat} : ItOk K I (Itr lo n) (rng lo n) := fun I2 H2 i s1 s2 => by
  unfold rng
  refine ⟨fun d hd => ?_, fun e => ?_⟩
  · rw [List.getElem?_map] at hd
    cases q : (List.range n)[i]? with
    | none => rw [q] at hd; cases hd
    | some k =>
      rw [q] at hd; cases hd
      obtain ⟨hk, e⟩ := List.getElem?_eq_some_iff.mp q
      rw [List.length_range] at hk
      rw [List.getElem_range] at e
      subst e
      refine ⟨hk, fun x H' y => ?_⟩
      obtain ⟨rfl, rfl⟩ := y
      exact ⟨I2, Grow.val s2 (.int _)⟩
  · rw [List.length_map, List.length_range] at e
    exact Nat.le_of_eq e
def fR1 (x : AF) : IF := fun env => evA [x] env >>= fun r => match ints1 (rsvs r.2 r.1) with
  | some n => if n ≤ 1000000000 ∧ -1000000000 ≤ n then .ok (rng 0 n.toNat, r.2) else .no
  | none => .no
theorem di_r1 {x : AF} (hg : Gl X "range") (hm : X.mg "range" = none) (ha : DA g X [a] [x]) (hs : starEach [a] X.env = [(false, eval a X.env)] := by rfl) : DI g X tg (.Call (.Name "range" p) [a] [] pos) (fR1 x) :=
  PI.imp (pi_range1 hg hm ha hs) fun σ H R h => by
    obtain ⟨I, env, F, s, p⟩ := h
    refine ⟨I, env, F, s, post_mono (post_bind.mp p) (fun r q vs H' I' F' s' st av => ?_) fun _ z => z⟩
    cases q2 : ints1 (rsvs r.2 r.1) with
    | none => simp only [q2] at q; exact q.elim
    | some n =>
      simp only [q2] at q
      by_cases hz : n ≤ 1000000000 ∧ -1000000000 ≤ n
      · rw [if_pos hz] at q
        match vs, rsvs_rep s' av (ints1_inv q2) with
        | _, .cons r1 .nil =>
          cases rpss_int r1
          exact ⟨n, rfl, by omega, by omega, q _ _ _ _ s' st it_r⟩
      · rw [if_neg hz] at q; exact q.elim
def fR2 (x y : AF) : IF := fun env => evA [x, y] env >>= fun r => match ints2 (rsvs r.2 r.1) with
  | some n => if n.1 ≤ 1000000000 ∧ -1000000000 ≤ n.1 ∧ n.2 ≤ 1000000000 ∧ -1000000000 ≤ n.2 then .ok (rng n.1 (n.2 - n.1).toNat, r.2) else .no
  | none => .no
theorem di_r2 {x y : AF} (hg : Gl X "range") (hm : X.mg "range" = none) (ha : DA g X [a, b] [x, y]) (hs : starEach [a, b] X.env = [(false, eval a X.env), (false, eval b X.env)] := by rfl) (hs2 : starEach [b] X.env = [(false, eval b X.env)] := by rfl) :
    DI g X tg (.Call (.Name "range" p) [a, b] [] pos) (fR2 x y) := PI.imp (pi_range2 hg hm ha hs hs2) fun σ H R h => by
    obtain ⟨I, env, F, s, p⟩ := h
    refine ⟨I, env, F, s, post_mono (post_bind.mp p) (fun r q vs H' I' F' s' st av => ?_) fun _ z => z⟩
    cases q2 : ints2 (rsvs r.2 r.1) with
    | none => simp only [q2] at q; exact q.elim
    | some n =>
      obtain ⟨i, j⟩ := n
      simp only [q2] at q
      by_cases hz : i ≤ 1000000000 ∧ -1000000000 ≤ i ∧ j ≤ 1000000000 ∧ -1000000000 ≤ j
      · rw [if_pos hz] at q
        match vs, rsvs_rep s' av (ints2_inv q2) with
        | _, .cons r1 (.cons r2 .nil) =>
          cases rpss_int r1
          cases rpss_int r2
          exact ⟨i, j, rfl, ⟨by omega, by omega, by omega, by omega⟩, q _ _ _ _ s' st it_r⟩
      · rw [if_neg hz] at q; exact q.elim
def enumD : Nat → List PyData → List PyData
  | _, [] => []
  | i, d :: ds => .tuple [.int (i : Nat), d] :: enumD (i + 1) ds
theorem enumD_at : ∀ {ds : List PyData} {k i : Nat} {x : PyData}, (enumD k ds)[i]? = some x → ∃ d, ds[i]? = some d ∧ x = .tuple [.int ((k + i : Nat) : Int), d]
  | [], _, _, _, h => by simp [enumD] at h
  | d :: ds, k, 0, x, h => by
    unfold enumD at h
    simp at h; subst h
    exact ⟨d, rfl, rfl⟩
  | d :: ds, k, i + 1, x, h => by
    unfold enumD at h
    obtain ⟨y, h1, h2⟩ := enumD_at (ds := ds) (k := k + 1) (i := i) (x := x) (by simpa using h)
    exact ⟨y, by simpa using h1, by rw [h2]; congr 3; omega⟩
theorem enumD_len : ∀ (ds : List PyData) (k : Nat), (enumD k ds).length = ds.length
  | [], _ => rfl
  | d :: ds, k => by unfold enumD; rw [List.length_cons, enumD_len ds, List.length_cons]
def zipD : List PyData → List PyData → List PyData
  | x :: xs, y :: ys => .tuple [x, y] :: zipD xs ys
  | _, _ => []
theorem zipD_at : ∀ {xs ys : List PyData} {i : Nat} {z : PyData}, (zipD xs ys)[i]? = some z → ∃ x y, xs[i]? = some x ∧ ys[i]? = some y ∧ z = .tuple [x, y]
  | [], _, _, _, h => by simp [zipD] at h
  | _ :: _, [], _, _, h => by simp [zipD] at h
  | x :: xs, y :: ys, 0, z, h => by
    unfold zipD at h
    simp at h; subst h
    exact ⟨x, y, rfl, rfl, rfl⟩
  | x :: xs, y :: ys, i + 1, z, h => by
    unfold zipD at h
    obtain ⟨a, b, h1, h2, h3⟩ := zipD_at (xs := xs) (ys := ys) (i := i) (z := z) (by simpa using h)
    exact ⟨a, b, by simpa using h1, by simpa using h2, h3⟩
theorem zipD_len : ∀ (xs ys : List PyData), (zipD xs ys).length = min xs.length ys.length
  | [], _ => by simp [zipD]
  | _ :: _, [] => by simp [zipD]
  | x :: xs, y :: ys => by unfold zipD; rw [List.length_cons, zipD_len xs ys, List.length_cons, List.length_cons]; omega
theorem sqX_of {K : PySem.W.Frag} {I : Hp} {v : V} {d : PyData} {xs : List PyData} (h : Rp K I v d) (e : seqOf d = some xs) : ∃ a t vs, v = .ref a ∧ (∀ I', Same I I' → SqX t K I' a vs) ∧ RpAll K I vs xs := by
  cases h with
  | lst h1 h2 => cases e; exact ⟨_, false, _, rfl, fun I' s => (h1.mono s).sq, h2⟩
  | tup h1 h2 => cases e; exact ⟨_, true, _, rfl, fun I' s => same_t s h1, h2⟩
  | non => cases e
  | bl => cases e
  | int => cases e
  | str => cases e
  | dic => cases e
  | dit => cases e
theorem growT {K : PySem.W.Frag} {I H : Hp} {T : Addr} {vs : List V} {ds : List PyData} (s : Same I H) (n : H T = none) (r : RpAll K I vs ds) : ∃ I', Grow K I H I' (upd H T (.tup vs)) (.fr (.tuple ds)) (.ref T) [] := ⟨_, Grow.tup s n r⟩
def fEn (x : AF) : IF := fun env => fSq x env >>= fun r => .ok (enumD 0 r.1, r.2)
theorem di_en {x : AF} (hg : Gl X "enumerate") (hm : X.mg "enumerate" = none) (ha : DA g X [a] [x]) (hK : X.K = g.K := by rfl) (hs : starEach [a] X.env = [(false, eval a X.env)] := by rfl) : DI g X (.Tuple elts kk tpos) (.Call (.Name "enumerate" p) [a] [] pos) (fEn x) :=
  PI.imp (pi_en hg hm ha hs) fun σ H R h => by
    obtain ⟨I, env, F, s, p⟩ := h
    unfold fEn fSq at p
    refine ⟨I, env, F, s, post_mono (post_bind.mp (post_bind.mp p)) (fun r q vs H' I' F' s' st av => ?_) fun _ z => z⟩
    cases q2 : dvs r.1 with
    | none => simp only [q2] at q; exact q.elim
    | some ds =>
      simp only [q2] at q
      match ds, vs, dvs_rep av q2 with
      | [], _, .nil => exact q.elim
      | _ :: _ :: _, _, .cons _ (.cons _ _) => exact q.elim
      | [d], [v], .cons rp .nil =>
        cases q3 : seqOf d with
        | none => simp only [q3] at q; exact q.elim
        | some xs =>
          simp only [q3] at q
          obtain ⟨a, t, ws, rfl, hq, ra⟩ := sqX_of rp q3
          rw [hK]
          refine ⟨a, t, ws, rfl, hq H' s'.sub, q _ _ _ _ s' st fun I2 H2 i s1 s2 => ⟨fun z hz => ?_, fun e => ⟨ws, hq H2 (s1.trans s2), by rw [ra.length, ← e, enumD_len]⟩⟩⟩
          obtain ⟨x, hx, rfl⟩ := enumD_at hz
          obtain ⟨w, hw, rw'⟩ := ra.get hx
          refine ⟨⟨ws, w, hq H2 (s1.trans s2), hw⟩, fun y H3 hy => ?_⟩
          obtain ⟨T, x', rfl, nT, rfl, hy⟩ := hy
          have := hy ws (hq H2 (s1.trans s2))
          rw [hw] at this; cases this
          rw [Nat.zero_add]
          exact growT s2 nT (.cons (.int _) (.cons (rw'.mono s1) .nil))
def fZp (x y : AF) : IF := fun env => evA [x, y] env >>= fun r => match dvs r.1 with
  | some [d, e] => match seqOf d, seqOf e with
    | some xs, some ys => .ok (zipD xs ys, r.2)
    | _, _ => .no
  | _ => .no
theorem di_zp {x y : AF} (hg : Gl X "zip") (hm : X.mg "zip" = none) (ha : DA g X [a, b] [x, y]) (hK : X.K = g.K := by rfl) (hs : starEach [a, b] X.env = (false, eval a X.env) :: starEach [b] X.env := by rfl) (hpl : (backTo pos (starEach [b] X.env)).any (·.1) = false := by rfl) :
    DI g X (.Tuple elts kk tpos) (.Call (.Name "zip" p) [a, b] [] pos) (fZp x y) := PI.imp (pi_zp hg hm ha hs hpl) fun σ H R h => by
    obtain ⟨I, env, F, s, p⟩ := h
    unfold fZp at p
    refine ⟨I, env, F, s, post_mono (post_bind.mp p) (fun r q vs H' I' F' s' st av => ?_) fun _ z => z⟩
    cases q2 : dvs r.1 with
    | none => simp only [q2] at q; exact q.elim
    | some ds =>
      simp only [q2] at q
      match ds, vs, dvs_rep av q2 with
      | [], _, .nil => exact q.elim
      | [_], _, .cons _ .nil => exact q.elim
      | _ :: _ :: _ :: _, _, .cons _ (.cons _ (.cons _ _)) => exact q.elim
      | [d, e], [v, u], .cons rp (.cons rp2 .nil) =>
        cases q3 : seqOf d with
        | none => simp only [q3] at q; exact q.elim
        | some xs =>
          cases q4 : seqOf e with
          | none => simp only [q3, q4] at q; exact q.elim
          | some ys =>
            simp only [q3, q4] at q
            obtain ⟨a, t, ws, rfl, hq, ra⟩ := sqX_of rp q3
            obtain ⟨b, t2, ws2, rfl, hq2, ra2⟩ := sqX_of rp2 q4
            rw [hK]
            refine ⟨a, b, t, t2, ws, ws2, rfl, hq H' s'.sub, hq2 H' s'.sub, q _ _ _ _ s' st fun I2 H2 i s1 s2 => ⟨fun z hz => ?_, fun e => ?_⟩⟩
            · obtain ⟨x, y, hx, hy, rfl⟩ := zipD_at hz
              obtain ⟨w, hw, rw'⟩ := ra.get hx
              obtain ⟨w2, hw2, rw2⟩ := ra2.get hy
              refine ⟨⟨ws, ws2, w, w2, hq H2 (s1.trans s2), hq2 H2 (s1.trans s2), hw, hw2⟩, fun y H3 hy => ?_⟩
              obtain ⟨T, x', y', rfl, nT, rfl, hy1, hy2⟩ := hy
              have e1 := hy1 ws (hq H2 (s1.trans s2))
              have e2 := hy2 ws2 (hq2 H2 (s1.trans s2))
              rw [hw] at e1; cases e1
              rw [hw2] at e2; cases e2
              exact growT s2 nT (.cons (rw'.mono s1) (.cons (rw2.mono s1) .nil))
            · rw [zipD_len] at e
              have l1 := ra.length
              have l2 := ra2.length
              refine ⟨ws, ws2, hq H2 (s1.trans s2), hq2 H2 (s1.trans s2), ?_, ?_, ?_⟩ <;> omega
theorem Sim.own {K : PySem.W.Frag} {π : Pn} {I H : Hp} {σ : St} {env : Env} {F : Nat → List Addr} {i : Nat} {ds : List PyData} (s : Sim K π I H σ env F) (q : env[i]? = some (some (.ol ds))) :
    ∃ a vs, σ[i]? = some (some (.ref a)) ∧ H a = some (.lst vs) ∧ RpAll K I vs ds ∧ ∀ vs' ds', RpAll K I vs' ds' → AftS K π I H F σ (env.set i (some (.ol ds'))) (upd H a (.lst vs')) := by
  obtain ⟨v, e1, a, vs, rfl, hF, h1, h2⟩ := s.rep i _ q
  refine ⟨a, vs, e1, h1, h2, fun vs' ds' r => ?_⟩
  have hi : i < env.length := by
    cases Nat.lt_or_ge i env.length with
    | inl h => exact h
    | inr h => rw [List.getElem?_eq_none h] at q; cases q
  have ha : a ∈ F i := by rw [hF]; simp
  have nI := s.djI i a ha
  have ne : ∀ j, j ≠ i → ∀ b ∈ F j, b ≠ a := fun j hj b hb e => by subst e; exact hj (s.dis j i b hb ha)
  refine ⟨I, upF F i [a], ?_, Step.of4 (Same.refl _) (fun b o h n => ?_) (fun b h => ?_) (fun _ _ h => .inl h)⟩
  · have := s.put (i := i) (x := some (.ol ds')) (sv := some (.ref a)) (R := [a]) (H' := upd H a (.lst vs')) hi (Same.refl _) (fun b o h => ?_) (fun j hj b hb => ?_) (fun j _ b hb => s.djI j b hb) (fun b hb => ?_) (fun j hj b hb h => ?_) (fun o e => ?_) (fun e => by cases e) (fun hp => ?_) (s.ktO ha)
    · rw [set_same e1] at this; exact this
    · rw [upd_ne (fun e => by subst e; rw [nI] at h; cases h)]; exact s.sub b o h
    · rw [upd_ne (ne j hj b hb)]
    · simp at hb; subst hb; exact nI
    · simp at h; exact ne j hj b hb h
    · cases e; exact ⟨_, rfl, a, vs', rfl, rfl, upd_same, r⟩
    · have := s.pin i hp; rw [e1] at this; exact Option.some.inj this
  · rw [upd_ne (fun e => by subst e; exact n ⟨i, ha⟩)]; exact h
  · rcases ow_up h with z | z
    · exact .inl z
    · simp at z; subst z; exact .inl ⟨i, ha⟩
/-- x.append(e) -/
def fApp (i : Nat) (f : EF) : SF := fun env => match env[i]? with
  | some (some (.ol _)) => f env >>= fun r => match r.2[i]? with
    | some (some (.ol ds)) => if ds.length < 1000000 then .ok (.nx, r.2.set i (some (.ol (ds ++ [r.1.data])))) else .no
    | _ => .no
  | _ => .no
theorem ds_app {i : Nat} {x : Str} {px apos cpos spos : Pos} {f : EF} (hx : PE X (.Name x px) (tVar i)) (he : DE g X e f)
    (h2 : attributeBase (.Name x px) "append" X.env (eval (.Name x px) X.env) = eval (.Name x px) X.env := by rfl)
    (h3 : ((backTo cpos (starEach [e] X.env)).all (fun x => !x.1) && (backToKw cpos (keywordEach [] X.env)).all (fun x => x.1.isSome)
      && decide ([e].length + ([] : List Keyword).length + (if ([] : List Keyword).isEmpty then 0 else 1) < 30)) = true := by rfl)
    (h4 : (apos.endLine == cpos.line) = true := by rfl) (h5 : starEach [e] X.env = (false, eval e X.env) :: starEach [] X.env := by rfl)
    (hs : swapsWith (.Call (.Attribute (.Name x px) "append" apos) [e] [] cpos) none spos.line X.env = pure false := by rfl) :
    DS g X (.Expr (.Call (.Attribute (.Name x px) "append" apos) [e] [] cpos) spos) (fApp i f) := PS.imp (ps_expr (pe_bm PySem.F.plainAttrs_list PySem.F.slot_list_append PySem.F.type_list_append mt_append hx (pa_cons he pa_nil h5) h2 h3 h4 h5 rfl) hs) fun D σ H q => by
  obtain ⟨I, env, F, s, p⟩ := q
  unfold fApp at p
  split at p
  · rename_i ds0 q0
    obtain ⟨a, vs, e1, h1, h2, _⟩ := s.own q0
    refine ⟨.ref a, e1, .inl ⟨rfl, vs, SqL.of h1⟩, ?_⟩
    refine tD_seq s p fun r v H1 af q => ?_
    obtain ⟨I', F', rp, s', st⟩ := af.frz
    split at q
    · rename_i ds q1
      by_cases hz : ds.length < 1000000
      · rw [if_pos hz] at q
        obtain ⟨a', vs', e1', h1', h2', up⟩ := s'.own q1
        rw [e1] at e1'; cases e1'
        exact ⟨a, vs', v, rfl, rfl, h1', by rw [h2'.length]; exact Nat.lt_of_lt_of_le hz (by decide), q _ _ (AftS.trans st (up _ _ (h2'.app (.cons rp .nil))))⟩
      · rw [if_neg hz] at q; exact q.elim
    · exact q.elim
  · exact p.elim
/-- x[k] = e -/
def fSetI (i : Nat) (y : AF) (f : EF) : SF := fun env => f env >>= fun r => match r.2[i]? with
  | some (some (.ol _)) => evA [y] r.2 >>= fun q => match ints1 (rsvs q.2 q.1) with
    | none => .no
    | some k => match q.2[i]? with
      | some (some (.ol ds)) => match ixN ds.length k with
        | some j => .ok (.nx, q.2.set i (some (.ol (ds.set j r.1.data))))
        | none => .no
      | _ => .no
  | _ => .no
theorem ds_setI {i : Nat} {x : Str} {px spos : Pos} {f : EF} {y : AF} (hx : PE X (.Name x px) (tVar i)) (hk : DX g X b y) (he : DE g X e f)
    (ha : ∀ v, assign (.Subscript (.Name x px) b pos) X.env v = (do
      let ov ← holding [v] (eval (.Name x px) X.env)
      let iv ← holding [v, ov] (eval b X.env)
      standAt pos
      holding [v, ov, iv] (setItem ov iv v)
      release [v, ov, iv] []) := by intro _; rfl)
    (hs : swapsWithSole [.Subscript (.Name x px) b pos] e spos.line X.env = pure false := by rfl) (hw : swappedStores [.Subscript (.Name x px) b pos] e X.env = pure none := by rfl)
    (h1 : (assignEach [.Subscript (.Name x px) b pos] X.env).map (·.2) = [assign (.Subscript (.Name x px) b pos) X.env] := by rfl) :
    DS g X (.Assign [.Subscript (.Name x px) b pos] e spos) (fSetI i y f) := PS.imp (ps_asg he (pg_sub hx hk set_list ha) hs hw h1) fun D σ H q => by
  obtain ⟨I, env, F, s, p⟩ := q
  refine tD_seq s p fun r v H1 af q => ?_
  obtain ⟨I', F', rp, s', st⟩ := af.frz
  split at q
  · rename_i ds0 q0
    obtain ⟨w, hw, _⟩ := s'.rep i _ q0
    refine ⟨w, hw, ?_⟩
    refine tArg_mono (tA1 (R := fun vs H3 => ∃ u, vs = [u] ∧ rSetL w u v H3 fun H4 => D.nx σ H4) ⟨I', r.2, F', s', post_mono (post_bind.mp q) (fun r3 q3 vs3 H3 I3 F3 s3 st3 av3 => ?_) fun x zz => err_step st zz⟩) fun u H3 ⟨_, e3, z⟩ => by cases e3; exact z
    cases q5 : ints1 (rsvs r3.2 r3.1) with
    | none => simp only [q5] at q3; exact q3.elim
    | some k =>
      simp only [q5] at q3
      have rr3 := rsvs_rep s3 av3 (ints1_inv q5)
      match vs3, rr3 with
      | _, .cons r1 .nil =>
        cases rpss_int r1
        refine ⟨_, rfl, ?_⟩
        split at q3
        · rename_i ds q6
          obtain ⟨a, vs, e1, h1, h2, up⟩ := s3.own q6
          rw [hw] at e1; cases e1
          cases q7 : ixN ds.length k with
          | none => simp only [q7] at q3; exact q3.elim
          | some j =>
            simp only [q7] at q3
            exact ⟨a, vs, k, j, rfl, rfl, h1, by rw [h2.length]; exact q7, q3 _ _ (AftS.trans (st.trans st3) (up _ _ (h2.sets j (rp.mono st3.i1))))⟩
        · exact q3.elim
  · exact q.elim
end
end Dy
namespace Dy
open PySem PySem.Spec PyProof.Rows L2
mutual
def rw8 : PyData → Nat
  | .none => 4
  | .bool _ => 5
  | .int i => i.natAbs.log2 + 2
  | .str x => (reprText x).length
  | .list xs => rw8s xs + 2
  | .tuple xs => rw8s xs + 2
  | .dict _ => 0
def rw8s : List PyData → Nat
  | [] => 0
  | x :: xs => rw8 x + 2 + rw8s xs
end
theorem listText_le (ts : List Str) : (listText ts).length ≤ piled ts + 2 := by
  cases ts with
  | nil => decide +kernel
  | cons t r =>
    have h := textFrom_length_pos r 1 (("[" : Str) ++ (if (0 : Nat) > 0 then ", " else "" : String) ++ t) (Nat.succ_pos 0)
    have e : ((("[" : Str) ++ (if (0 : Nat) > 0 then ", " else "" : String) ++ t)).length = 1 + t.length := by
      rw [strLen_append, strLen_append]; rfl
    have hX : (listText (t :: r)).length = (textFrom 0 "[" (t :: r)).length + 1 := by
      show (textFrom 0 "[" (t :: r) ++ "]").length = _
      rw [strLen_append]; rfl
    have hY : (textFrom 0 "[" (t :: r)).length = (textFrom 1 (("[" : Str) ++ (if (0 : Nat) > 0 then ", " else "" : String) ++ t) r).length := rfl
    rw [hX, hY, h, e, piled_cons]; omega
mutual
theorem shown_len : ∀ d : PyData, d.canLay0 = true → d.shown.length ≤ rw8 d
  | .none, _ => by decide +kernel
  | .bool b, _ => by cases b <;> decide +kernel
  | .int i, _ => by
    show (Str.ofString (toString i)).length ≤ i.natAbs.log2 + 2
    rw [PySem.ofString_length]
    exact int_text_length_le (k := i.natAbs.log2 + 1) (by omega) (by omega)
  | .str x, _ => Nat.le_refl _
  | .list xs, h => by
    have := shown_len_all xs (by simpa [PyData.canLay0] using h)
    have := listText_le (PyData.shownAll xs)
    show (listText (PyData.shownAll xs)).length ≤ rw8s xs + 2
    omega
  | .tuple xs, h => by
    have := shown_len_all xs (by simpa [PyData.canLay0] using h)
    have := fmt_text (PyData.shownAll xs)
    show (tupleText (PyData.shownAll xs)).length ≤ rw8s xs + 2
    omega
  | .dict _, h => by simp [PyData.canLay0] at h
theorem shown_len_all : ∀ ds : List PyData, PyData.canLayAll0 ds = true → piled (PyData.shownAll ds) ≤ rw8s ds
  | [], _ => Nat.le_refl _
  | d :: ds, h => by
    have h' : d.canLay0 = true ∧ PyData.canLayAll0 ds = true := by simpa [PyData.canLayAll0] using h
    have h1 := shown_len d h'.1
    have h2 := shown_len_all ds h'.2
    show piled (d.shown :: PyData.shownAll ds) ≤ rw8 d + 2 + rw8s ds
    rw [piled_cons]
    omega
end
def rOk (d : PyData) : Bool := d.canLay0 && (d.showable && decide (d.depth ≤ 64 ∧ rw8 d ≤ 16777216))
def pRepr (d : PyData) : Option O := if rOk d = true then some (.fr (.str d.shown)) else none
section
variable {X : Cx}
def rRepr (K : PySem.W.Frag) : List V → Hp → VK → Prop := fun xs H Q => ∃ x d, xs = [x] ∧ Dp K H x d ∧ d.showable = true ∧ d.hasDict = false ∧ d.depth ≤ 64 ∧ d.shown.length ≤ sizeLine ∧ Q (.str d.shown) H
theorem cr_repr {k : Nat} (hg : X.A.guards = some []) (hr : Room k X.A) : CallR X (.builtin "repr") (rRepr X.K) := by
  intro pins s σ H xs us Q J r h
  obtain ⟨x, d, rfl, hd, h1, h2, h3, h4, q⟩ := h
  obtain ⟨u, rfl, ru⟩ := vals1 r
  obtain ⟨as, rd⟩ := Dp.reads J d x u hd ru
  have hu := hr.un
  cases rd with
  | none => exact PySem.P.repr_of_none ⟨.str _, H, J.tok _, ⟨_, rfl⟩, q⟩
  | bool b => cases b <;> exact PySem.P.repr_of_bool ⟨.str _, H, J.tok _, ⟨_, rfl⟩, q⟩
  | int i t => exact PySem.P.repr_of_int (by simpa [PyData.showable] using h1) ⟨.str _, H, J.tok _, ⟨_, rfl⟩, q⟩
  | str y t => exact PySem.P.repr_of_str ⟨.str _, H, J.tok _, ⟨_, rfl⟩, q⟩ h4
  | list e1 e2 e3 e4 =>
    exact repr_of_reads' (.list e1 e2 e3 e4) h1 (PyData.noDict_hsm h2) hg (by omega) (fun _ _ z => z) (fun h' u tk k => ⟨.str _, H, J.kept (t' := tk) fun b ob q => k b ob q, ⟨_, rfl⟩, q⟩) h4
  | tuple e1 e2 e3 e4 =>
    exact repr_of_reads' (.tuple e1 e2 e3 e4) h1 (PyData.noDict_hsm h2) hg (by omega) (fun _ _ z => z) (fun h' u tk k => ⟨.str _, H, J.kept (t' := tk) fun b ob q => k b ob q, ⟨_, rfl⟩, q⟩) h4
  | dict e1 e2 e3 e4 e5 => simp [PyData.hasDict] at h2
theorem os_repr {K : PySem.W.Frag} : OpS K (rRepr K) (on1 pRepr) := ops1c fun v d I H Q o s r1 q k => by
  unfold pRepr at q
  split at q
  · rename_i hc
    cases q
    unfold rOk at hc
    simp only [Bool.and_eq_true, decide_eq_true_eq] at hc
    obtain ⟨c1, c2, c3, c4⟩ := hc
    exact ⟨v, d, rfl, r1.dp s c1, c2, PyData.hasDict_of_canLay d c1, c3, Nat.le_trans (shown_len d c1) (Nat.le_trans c4 (by decide)), k _ _ _ _ (Grow.val s (.str _))⟩
  · cases q
end
def pRev : PyData → Option O
  | .list xs => some (.ol xs.reverse)
  | _ => none
section
variable {g : G} {X : Cx} {a b c e : Expr} {es : List Expr} {pos p1 p2 p3 : Pos} {σ : St} {H I : Hp} {env : Env} {F : Nat → List Addr} {D : Ends}
theorem de_rev {x : AF} {k : Nat} (ha : DX g X a x) (hK : X.K = g.K := by rfl) : DE g X (.Subscript a (.Slice none none (some (.UnaryOp .USub (.Constant (.int 1) k p1) p2)) p3) pos) (fOp (on1 pRev) [x]) :=
  PE.imp (pe_revL ha) fun σ H Q h => by
    refine tArg_mono (tA1 (op_key (r := one fun v H1 Q => ∃ a xs, v = V.ref a ∧ SqL X.K H1 a xs ∧ ∀ p, H1 p = none → Q (.ref p) (upd H1 p (.lst xs.reverse))) ?_ h)) fun v H1 q => q
    refine ops1 fun v d I H Q o s r1 q k => ?_
    unfold pRev at q
    split at q
    · cases q
      obtain ⟨a, vs, rfl, h1, h2⟩ := r1.lst s
      exact ⟨a, vs, rfl, by rw [hK]; exact h1.sq, fun p np => k _ _ _ _ (Grow.lst s np h2.rev)⟩
    · cases q
def fPar (i j : Nat) (f1 f2 : EF) : SF := fun env => f1 env >>= fun r1 => f2 r1.2 >>= fun r2 => if i < r2.2.length ∧ j < r2.2.length ∧ i ≠ j then .ok (.nx, (r2.2.set i (some r1.1)).set j (some r2.1)) else .no
theorem par_key {i j : Nat} {f1 f2 : EF} (hi : i ∉ g.pn.1) (hj : j ∉ g.pn.1) (h : tS g (fPar i j f1 f2) D σ H) :
    tD g f1 σ H fun v H1 => tD g f2 σ H1 fun w H2 => ∀ H3, Same H2 H3 → D.nx ((σ.set i (some v)).set j (some w)) H3 := by
  obtain ⟨I, env, F, s, p⟩ := h
  refine tD_seq s p fun r1 v H1 af q => ?_
  obtain ⟨I1, F1, R1, rp1, s1, n1, d1, st1⟩ := af
  have q' : (f2 r1.2 >>= fun r2 => if i < r2.2.length ∧ j < r2.2.length ∧ i ≠ j then Res.ok (Fl.nx, (r2.2.set i (some r1.1)).set j (some r2.1)) else .no).post (FlP g D I H F) (g.err I1 H1 F1) :=
    post_mono q (fun _ z => z) fun x z => err_step (st1.less fun a ha => .inl ha) z
  refine tD_seq s1 q' fun r2 w H2 af2 q2 => ?_
  obtain ⟨I2, F2, R2, rp2, s2, n2, d2, st2⟩ := af2
  intro H3 sm
  by_cases hc : i < r2.2.length ∧ j < r2.2.length ∧ i ≠ j
  · rw [if_pos hc] at q2
    have dm1 : ∀ a ∈ R1, ∃ o, H1 a = some o := rp1.dom
    have k1 : ∀ a ∈ R1, H2 a = H1 a := st2.keeps rp1.domN fun a ha hz => d1 a hz ha
    have dm2 : ∀ a ∈ R2, ∃ o, H2 a = some o := rp2.dom
    have nI2 : ∀ a ∈ R1, I2 a = none := fun a ha => by
      cases q : I2 a with
      | none => rfl
      | some u =>
        rcases st2.i' a u q with z | z | z
        · rw [n1 a ha] at z; cases z
        · exact (d1 a z ha).elim
        · obtain ⟨o, ho⟩ := dm1 a ha; rw [z] at ho; cases ho
    have dF2 : ∀ a, Ow F2 a → a ∉ R1 := fun a ha hr => by
      rcases st2.s' a (.inl ha) with z | z
      · exact d1 a z hr
      · obtain ⟨o, ho⟩ := dm1 a hr; rw [z] at ho; cases ho
    have dR : ∀ a ∈ R1, a ∉ R2 := fun a hr h2 => by
      rcases st2.s' a (.inr h2) with z | z
      · exact d1 a z hr
      · obtain ⟨o, ho⟩ := dm1 a hr; rw [z] at ho; cases ho
    have k3 : ∀ a o, H2 a = some o → H3 a = some o := fun a o h => sm a o h
    have e3 : ∀ {a}, (∃ o, H2 a = some o) → H3 a = H2 a := fun {a} ⟨o, h⟩ => by rw [h, k3 a o h]
    have s3 : Sim g.K g.pn I2 H3 σ r2.2 F2 := s2.heap (Same.refl _) (s2.sub.trans sm) (fun a ha => e3 (s2.domO ha)) (fun a ⟨l, hl⟩ => s2.djI l a hl) (fun a ps h => sm a _ h)
    have r1' : RepO g.K I2 H3 r1.1 v R1 := rp1.mono st2.i1 fun a ha => by
      rw [e3 (by obtain ⟨o, ho⟩ := dm1 a ha; exact ⟨o, by rw [k1 a ha]; exact ho⟩), k1 a ha]
    have r2' : RepO g.K I2 H3 r2.1 w R2 := rp2.mono (Same.refl _) fun a ha => e3 (dm2 a ha)
    have s4 : Sim g.K g.pn I2 H3 (σ.set i (some v)) (r2.2.set i (some r1.1)) (upF F2 i R1) :=
      s3.put hc.1 (Same.refl _) s3.sub (fun _ _ _ _ => rfl) (fun l _ a ha => s3.djI l a ha) nI2 (fun l _ a ha => dF2 a ⟨l, ha⟩) (fun o e => by cases e; exact ⟨v, rfl, r1'⟩) (fun e => by cases e) (fun h => absurd h hi)
    have s5 : Sim g.K g.pn I2 H3 ((σ.set i (some v)).set j (some w)) ((r2.2.set i (some r1.1)).set j (some r2.1)) (upF (upF F2 i R1) j R2) :=
      s4.put (by rw [List.length_set]; exact hc.2.1) (Same.refl _) s4.sub (fun _ _ _ _ => rfl) (fun l _ a ha => s4.djI l a ha) n2 (fun l _ a ha hr => by
        rcases ow_up (⟨l, ha⟩ : Ow (upF F2 i R1) a) with z | z
        · exact d2 a z hr
        · exact dR a z hr) (fun o e => by cases e; exact ⟨w, rfl, r2'⟩) (fun e => by cases e) (fun h => absurd h hj)
    refine q2 _ _ ⟨I2, _, s5, ?_⟩
    have stA := st2.aside (fun a => a ∈ R1) dm1 (fun a ha hz => d1 a hz ha)
    refine (st1.trans stA).trans (Step.of4 (Same.refl _) (fun a o h _ => k3 a o h) (fun a ha => ?_) (fun a o h => .inl h))
    rcases ow_up ha with z | z
    · rcases ow_up z with y | y
      · exact .inl (.inl (.inl y))
      · exact .inl (.inr y)
    · exact .inl (.inl (.inr z))
  · rw [if_neg hc] at q2; exact q2.elim
theorem ds_par {i j : Nat} {x y : Str} {f1 f2 : EF} {px py pt : Pos} {kt k2 pt2} (hpi : i ∉ g.pn.1) (hpj : j ∉ g.pn.1) (hc : X.calm = true) (hN : X.N.Nodup) (hi : X.N[i]? = some x) (hj : X.N[j]? = some y) (hij : i ≠ j)
    (hx : X.env.scope.names.lookup x = some .local) (hy : X.env.scope.names.lookup y = some .local) (ha : DE g X a f1) (hb : DE g X b f2)
    (hw : swappedStores [.Tuple [.Name x px, .Name y py] kt pt] (.Tuple [a, b] k2 pt2) X.env = pure (some [x, y]) := by rfl)
    (h1 : starEach [a, b] X.env = (false, eval a X.env) :: starEach [b] X.env := by rfl) (h2 : starEach [b] X.env = (false, eval b X.env) :: starEach [] X.env := by rfl)
    (hs : swapsWithSole [.Tuple [.Name x px, .Name y py] kt pt] (.Tuple [a, b] k2 pt2) pos.line X.env = pure false := by rfl) :
    DS g X (.Assign [.Tuple [.Name x px, .Name y py] kt pt] (.Tuple [a, b] k2 pt2) pos) (fPar i j f1 f2) := PS.imp (ps_par hc hN hi hj hij hx hy (pa_cons ha (pa_cons hb pa_nil h2) h1) hw hs) fun D σ H h => by
  refine tArg_mono (x := .v f1) (par_key hpi hpj h) fun v H1 q => tArg_mono (x := .v f2) q fun w H2 q => ?_
  exact ⟨v, w, rfl, q H2 (Same.refl _)⟩
/-- one of the names is a cell -/
theorem ds_parC {i j : Nat} {tg : Expr} {f1 f2 : EF} {k2 pt2} (hpi : i ∉ g.pn.1) (hpj : j ∉ g.pn.1) (hg : PG X tg (rdT g.K (.tu [i, j]))) (ha : DE g X a f1) (hb : DE g X b f2)
    (h1 : starEach [a, b] X.env = (false, eval a X.env) :: starEach [b] X.env := by rfl) (h2 : starEach [b] X.env = (false, eval b X.env) :: starEach [] X.env := by rfl)
    (hs : swapsWithSole [tg] (.Tuple [a, b] k2 pt2) pos.line X.env = pure false := by rfl) (hw : swappedStores [tg] (.Tuple [a, b] k2 pt2) X.env = pure none := by rfl)
    (h3 : (assignEach [tg] X.env).map (·.2) = [assign tg X.env] := by rfl) :
    DS g X (.Assign [tg] (.Tuple [a, b] k2 pt2) pos) (fPar i j f1 f2) := PS.imp (ps_asg (pe_tup (pa_cons ha (pa_cons hb pa_nil h2) h1)) hg hs hw h3) fun D σ H h => by
  refine tArg_mono (x := .v f1) (par_key hpi hpj h) fun v H1 q => tArg_mono (x := .v f2) q fun w H2 q => ?_
  refine ⟨by show 2 ≤ sizeLine; decide, fun p np => ?_⟩
  exact ⟨_, _, rfl, SqT.of upd_same, rfl, _, _, rfl, _, _, rfl, rfl, q _ (same_new np)⟩
end
end Dy
namespace Dy
open PySem PySem.Spec PyProof.Rows L2
/-- a def of the module by its mirror -/
def CallOk (P : Program) (w : World) (K : PySem.W.Frag) (mg : Str → Option Value) (T : List (Addr × Str)) (k : Nat) (x : Str) (ps : List Str) (m : Fn) : Prop :=
  ∃ f fd, mg x = some (.ref f) ∧ PySem.W.keepIn K (.ref f) = true ∧ Binds K fd ps [] ∧ ∀ base, FnG P w K mg base k f fd ps (spD K mg T m)
theorem CallOk.mono {P : Program} {w : World} {K : PySem.W.Frag} {mg : Str → Option Value} {T : List (Addr × Str)} {j k : Nat} {x : Str} {ps : List Str} {m : Fn} (h : CallOk P w K mg T j x ps m) (l : j ≤ k) : CallOk P w K mg T k x ps m := by
  obtain ⟨f, fd, h1, h2, h3, h4⟩ := h
  exact ⟨f, fd, h1, h2, h3, fun b => (h4 b).mono l⟩
theorem callOk_of {T : List (Addr × Str)} {P : Program} {w : World} {K : PySem.W.Frag} {mg : Str → Option Value} {k : Nat} {x qual : Str} {st : Stmt} {f : Addr} {fd : FuncData} {ps : List Str} {m : Fn} (F : Fun K x qual st f fd) (hm : mg x = some (.ref f)) (hb : Binds K fd ps []) (h : ∀ base, FnG P w K mg base k f fd ps (spD K mg T m)) : CallOk P w K mg T k x ps m :=
  ⟨f, fd, hm, F.kp, hb, h⟩
theorem ru64 {k : Nat} {A : Around} (h : Room k A) : A.units + 64 < cLine := by have := h.un; omega
theorem ru65 {k : Nat} {A : Around} (h : Room k A) : A.units + 65 < cLine := by have := h.un; omega
section
variable {T : List (Addr × Str)} {g : G} {X : Cx} {k : Nat} {ps : List Str} {m : Fn} {x : Str} {p pos : Pos} {e : Expr} {es : List Expr} {as : List AF}
theorem dcall (c : CallOk X.prog X.w X.K X.mg T k x ps m) (hgd : X.A.guards = some []) (hr : Room k X.A) (hg : Gl X x) (hx : Passes (L2.CX X.prog X.w) X g.E)
    (ha : DA g X (e :: es) as) (hK : g.K = X.K := by rfl) (hM : g.mg = X.mg := by rfl) (hT : g.pn.2.2 = T := by rfl) (hdb : (x == ("__debug__" : Str)) = false := by decide) (he : starEach (e :: es) X.env = (false, eval e X.env) :: starEach es X.env := by rfl) (hpl : (backTo pos (starEach es X.env)).any (·.1) = false := by rfl) :
    DE g X (.Call (.Name x p) (e :: es) [] pos) (fCall m as) := by
  obtain ⟨f, fd, h1, h2, h3, h4⟩ := c
  have h5 := h4 X.base
  exact de_call (X := X) (by rw [hK, hM, hT]; exact h5) hgd hr hg h1 h2 h3 hx ha hdb he hpl
end
theorem npn {is rp : List Nat} (h : (is.all fun i => !rp.contains i) = true) : ∀ i ∈ is, i ∉ rp := fun i hi hr => by
  have := List.all_eq_true.mp h i hi
  rw [List.contains_iff_mem.mpr hr] at this
  cases this
theorem np1 {i : Nat} {rp : List Nat} (h : rp.contains i = false) : i ∉ rp := fun hr => by
  rw [List.contains_iff_mem.mpr hr] at h
  cases h
theorem bt_len : bootBuiltins "len" = some (.builtin "len") := by decide +kernel
theorem bt_sum : bootBuiltins "sum" = some (.builtin "sum") := by decide +kernel
theorem bt_max : bootBuiltins "max" = some (.builtin "max") := by decide +kernel
theorem bt_min : bootBuiltins "min" = some (.builtin "min") := by decide +kernel
theorem bt_all : bootBuiltins "all" = some (.builtin "all") := by decide +kernel
theorem bt_repr : bootBuiltins "repr" = some (.builtin "repr") := by decide +kernel
theorem bt_isinstance : bootBuiltins "isinstance" = some (.builtin "isinstance") := by decide +kernel
theorem bt_list : bootBuiltins "list" = some (.type "list") := by decide +kernel
theorem bt_tuple : bootBuiltins "tuple" = some (.type "tuple") := by decide +kernel
theorem bt_int : bootBuiltins "int" = some (.type "int") := by decide +kernel
theorem bt_bool : bootBuiltins "bool" = some (.type "bool") := by decide +kernel
section
variable {X : Cx} {x : Str} {pos : Pos}
/-- a built-in type's name -/
theorem pty {T : String} (hg : Gl X x) (hm : X.mg x = none) (hv : bootBuiltins x = some (.type T)) (hn : x ≠ "__name__" := by decide) (hd : (x == ("__debug__" : Str)) = false := by decide) : PE X (.Name x pos) (tC (.ty T)) := by
  exact pe_bltn hg hm hv rfl hn hd
end
end Dy
namespace Dy
open PySem
section
variable (env : Env) (i j n m : Nat) (f k : EF) (t u : TF) (s s' : SF) (as : List AF) (x y z : AF) (d : PyData)
theorem a_seq : fSeq s s' env = s env >>= fun r => match r.1 with | .nx => s' r.2 | _ => .ok r := rfl
theorem a_ifS : fIfS t s s' env = t env >>= fun r => if r.1 = true then s r.2 else s' r.2 := rfl
theorem a_B : fB f env = f env >>= fun r => match r.1 with | .fr (.bool b) => .ok (b, r.2) | _ => .no := rfl
theorem a_op (g : List PyData → Option O) : fOp g as env = evA as env >>= fun r => match rsvs r.2 r.1 with | none => .no | some ds => match g ds with | none => .no | some o => .ok (o, r.2) := rfl
theorem a_ov (g : List PyData → Option O) : fOv g as env = evA as env >>= fun r => match dvs r.1 with | none => .no | some ds => match g ds with | none => .no | some o => .ok (o, r.2) := rfl
theorem a_ev0 : evA [] env = .ok ([], env) := rfl
theorem a_evv : evA (.v f :: as) env = f env >>= fun r => evA as r.2 >>= fun q => .ok (.d r.1.data :: q.1, q.2) := rfl
theorem a_evs : evA (.s i :: as) env = match env[i]? with | some (some _) => evA as env >>= fun q => .ok (.s i :: q.1, q.2) | _ => .no := rfl
theorem a_C : fC d env = .ok (.fr d, env) := rfl
theorem a_V : fV i env = match env[i]? with | some (some (.fr d)) => .ok (.fr d, env) | some (some o) => .ok (.fr o.data, env.set i (some (.fr o.data))) | _ => .no := rfl
theorem a_M : fM i env = match env[i]? with | some (some o) => .ok (o, env.set i none) | _ => .no := rfl
theorem a_set : fSet i f env = f env >>= fun r => if i < r.2.length then .ok (.nx, r.2.set i (some r.1)) else .no := rfl
theorem a_setI : fSetI i y f env = f env >>= fun r => match r.2[i]? with
  | some (some (.ol _)) => evA [y] r.2 >>= fun q => match Dy.ints1 (rsvs q.2 q.1) with
    | none => .no
    | some k => match q.2[i]? with
      | some (some (.ol ds)) => match L2.ixN ds.length k with
        | some j => .ok (.nx, q.2.set i (some (.ol (ds.set j r.1.data))))
        | none => .no
      | _ => .no
  | _ => .no := rfl
theorem a_app : fApp i f env = match env[i]? with
  | some (some (.ol _)) => f env >>= fun r => match r.2[i]? with
    | some (some (.ol ds)) => if ds.length < 1000000 then .ok (.nx, r.2.set i (some (.ol (ds ++ [r.1.data])))) else .no
    | _ => .no
  | _ => .no := rfl
theorem a_ret : fRet f env = f env >>= fun r => .ok (.rt r.1, r.2) := rfl
theorem a_ex : fEx f env = f env >>= fun r => .ok (.nx, r.2) := rfl
theorem a_skip : fSkip env = .ok (.nx, env) := rfl
theorem a_no : fNo env = .no := rfl
theorem a_not : fNot t env = t env >>= fun r => .ok (!r.1, r.2) := rfl
theorem a_andT : fAndT t u env = t env >>= fun r => if r.1 = true then u r.2 else .ok (false, r.2) := rfl
theorem a_orT : fOrT t u env = t env >>= fun r => if r.1 = true then .ok (true, r.2) else u r.2 := rfl
theorem a_and : fAnd f k env = fB f env >>= fun r => if r.1 = true then k r.2 else .ok (.fr (.bool false), r.2) := rfl
theorem a_or : fOr f k env = fB f env >>= fun r => if r.1 = true then .ok (.fr (.bool true), r.2) else k r.2 := rfl
theorem a_notV : fNotV f env = fB f env >>= fun r => .ok (.fr (.bool (!r.1)), r.2) := rfl
theorem a_if : fIf t f k env = t env >>= fun r => if r.1 = true then f r.2 else k r.2 := rfl
theorem a_par : fPar i j f k env = f env >>= fun r1 => k r1.2 >>= fun r2 => if i < r2.2.length ∧ j < r2.2.length ∧ i ≠ j then .ok (.nx, (r2.2.set i (some r1.1)).set j (some r2.1)) else .no := rfl
theorem a_call (m : Fn) : fCall m as env = evA as env >>= fun r => match rsO r.2 r.1 with | none => .no | some os => if ndS r.1 = true then m os >>= fun q => .ok (q.1, putB r.1 q.2 r.2) else .no := rfl
theorem a_forS (g : IF) (w : Tg) : fForS g w s env = g env >>= fun r => fFor w s r.1 r.2 := rfl
theorem a_sq : fSq x env = evA [x] env >>= fun r => match dvs r.1 with | some [d] => (match seqOf d with | some xs => .ok (xs, r.2) | none => .no) | _ => .no := rfl
theorem a_r1 : fR1 x env = evA [x] env >>= fun r => match Dy.ints1 (rsvs r.2 r.1) with | some n => if n ≤ 1000000000 ∧ -1000000000 ≤ n then .ok (rng 0 n.toNat, r.2) else .no | none => .no := rfl
theorem a_r2 : fR2 x y env = evA [x, y] env >>= fun r => match Dy.ints2 (rsvs r.2 r.1) with | some n => if n.1 ≤ 1000000000 ∧ -1000000000 ≤ n.1 ∧ n.2 ≤ 1000000000 ∧ -1000000000 ≤ n.2 then .ok (rng n.1 (n.2 - n.1).toNat, r.2) else .no | none => .no := rfl
theorem a_en : fEn x env = fSq x env >>= fun r => .ok (enumD 0 r.1, r.2) := rfl
theorem a_zp : fZp x y env = evA [x, y] env >>= fun r => match dvs r.1 with | some [d, e] => (match seqOf d, seqOf e with | some xs, some ys => .ok (zipD xs ys, r.2) | _, _ => .no) | _ => .no := rfl
theorem a_asT (w : Tg) : fAsT w f env = f env >>= fun r => asT w r.1.data r.2 >>= fun e => .ok (.nx, e) := rfl
theorem a_chI (c1 c2 : Int → Int → Bool) : fChI c1 c2 x y z env = evA [x, y] env >>= fun r => match Dy.ints2 (rsvs r.2 r.1) with
  | some ij => if c1 ij.1 ij.2 = true then evA [z] r.2 >>= fun q => match Dy.ints1 (rsvs q.2 q.1) with
      | some k => .ok (.fr (.bool (c2 ij.2 k)), q.2)
      | none => .no
    else .ok (.fr (.bool false), r.2)
  | none => .no := rfl
theorem a_yes : fYes env = .ok (true, env) := rfl
theorem a_lc (g : IF) (vs : List Nat) (w : Tg) : fLc g vs w t f env = g env >>= fun r => lcL vs w t f r.1 (wipeE r.2 vs) [] >>= fun q => .ok (.ol q.1, unw r.2 q.2 vs) := rfl
theorem a_fn (rp : List Nat) (os : List O) : fnM n m rp s os = if os.length = n ∧ okA rp 0 os = true then
    s (os.map some ++ List.replicate (m - n) none) >>= fun r => match bkA rp r.2 0 os with
      | none => .no
      | some os' => match r.1 with
        | .rt o => .ok (o, os')
        | .nx => .ok (.fr .none, os')
        | _ => .no
  else .no := rfl
end
section
variable (i j : Int) (xs ys : List PyData) (d e : PyData) (a b : Str) (t : Bool) (rs : List (List PyData))
theorem d_fr : (O.fr d).data = d := rfl
theorem d_ol : (O.ol xs).data = .list xs := rfl
theorem f_fr : isFr (.fr d) = true := rfl
theorem q_addI : pAdd (.int i) (.int j) = some (.fr (.int (i + j))) := rfl
theorem q_addL : pAdd (.list xs) (.list ys) = if xs.length + ys.length ≤ 1000000 then some (.ol (xs ++ ys)) else none := rfl
theorem q_addT : pAdd (.tuple xs) (.tuple ys) = if xs.length + ys.length ≤ 1000000 then some (.fr (.tuple (xs ++ ys))) else none := rfl
theorem q_addS : pAdd (.str a) (.str b) = if a.length + b.length ≤ 1000000 then some (.fr (.str (a ++ b))) else none := rfl
theorem q_sub : pSub (.int i) (.int j) = some (.fr (.int (i - j))) := rfl
theorem q_div : pDiv (.int i) (.int j) = if 0 < j ∧ j < 1073741824 then some (.fr (.int (i / j))) else none := rfl
theorem q_mod : pMod (.int i) (.int j) = if 0 < j then some (.fr (.int (i % j))) else none := rfl
theorem q_pow : pPow (.int i) (.int j) = if 0 ≤ j ∧ j ≤ 1000000 ∧ i.natAbs < 2 ^ 64 then some (.fr (.int (i ^ j.toNat))) else none := rfl
theorem q_neg : pNeg (.int i) = some (.fr (.int (-i))) := rfl
theorem q_cm (c : Int → Int → Bool) : cmI c (.int i) (.int j) = some (.fr (.bool (c i j))) := rfl
theorem q_isN : isN .none = true := rfl
theorem q_isI : isN (.int i) = false := rfl
theorem q_isS : isN (.str a) = false := rfl
theorem q_isT : isN (.tuple xs) = false := rfl
theorem q_isL : isN (.list xs) = false := rfl
theorem q_isB : isN (.bool t) = false := rfl
theorem q_lenL : pLen (.list xs) = some (.fr (.int xs.length)) := rfl
theorem q_lenT : pLen (.tuple xs) = some (.fr (.int xs.length)) := rfl
theorem q_tupL : pTuple (.list xs) = some (.fr (.tuple xs)) := rfl
theorem q_tupT : pTuple (.tuple xs) = some (.fr (.tuple xs)) := rfl
theorem q_lstL : pList (.list xs) = some (.ol xs) := rfl
theorem q_lstT : pList (.tuple xs) = some (.ol xs) := rfl
theorem q_revL : pRev (.list xs) = some (.ol xs.reverse) := rfl
theorem q_slL : pSl2l (.list xs) (.int i) = some (.ol (cutD xs (some i) none)) := rfl
theorem q_slT : pSl2l (.tuple xs) (.int i) = some (.fr (.tuple (cutD xs (some i) none))) := rfl
theorem q_shL : pSl2h (.list xs) (.int i) = some (.ol (cutD xs none (some i))) := rfl
theorem q_shT : pSl2h (.tuple xs) (.int i) = some (.fr (.tuple (cutD xs none (some i)))) := rfl
theorem q_sqL : seqOf (.list xs) = some xs := rfl
theorem q_sqT : seqOf (.tuple xs) = some xs := rfl
theorem q_intI : pInt (.int i) = some (.fr (.int i)) := rfl
theorem q_max2 : pMax [.int i, .int j] = some (.fr (.int (max i j))) := rfl
theorem q_min2 : pMin [.int i, .int j] = some (.fr (.int (min i j))) := rfl
theorem q_aII : isA .int (.int i) = true := rfl
theorem q_aBI : isA .bool (.int i) = false := rfl
theorem q_aTI : isA .tuple (.int i) = false := rfl
theorem q_aTT : isA .tuple (.tuple xs) = true := rfl
theorem q_aLL : isA .list (.list xs) = true := rfl
theorem q_aTL : isA .tuple (.list xs) = false := rfl
theorem q_aIT : isA .int (.tuple xs) = false := rfl
end
theorem lc_inv {vs : List Nat} {t : Tg} {test : TF} {elt : EF} (P : Nat → Env → List PyData → Prop) (ds : List PyData) {env : Env} {acc : List PyData} (h0 : P 0 env acc)
    (step : ∀ k d e acc, ds[k]? = some d → P k e acc → ∃ e1 b e2, asT t d e = .ok e1 ∧ test e1 = .ok (b, e2) ∧ (b = false → P (k + 1) (wipeE e2 vs) acc) ∧ (b = true → ∃ o e3, elt e2 = .ok (o, e3) ∧ acc.length < 100000 ∧ P (k + 1) (wipeE e3 vs) (acc ++ [o.data]))) :
    ∃ e acc', lcL vs t test elt ds env acc = .ok (acc', e) ∧ P ds.length e acc' := by
  suffices h : ∀ (xs : List PyData) (k : Nat) (env : Env) (acc : List PyData), ds.drop k = xs → k ≤ ds.length → P k env acc → ∃ e acc', lcL vs t test elt xs env acc = .ok (acc', e) ∧ P ds.length e acc' from h ds 0 env acc rfl (Nat.zero_le _) h0
  intro xs
  induction xs with
  | nil =>
    intro k env acc hd hk hp
    have hl : ds.length ≤ k := List.drop_eq_nil_iff.mp hd
    have : k = ds.length := by omega
    subst this
    exact ⟨env, acc, rfl, hp⟩
  | cons x xs ih =>
    intro k env acc hd hk hp
    have hlt : k < ds.length := by
      cases Nat.lt_or_ge k ds.length with
      | inl h => exact h
      | inr h => rw [List.drop_eq_nil_iff.mpr h] at hd; cases hd
    rw [List.drop_eq_getElem_cons hlt] at hd
    cases hd
    obtain ⟨e1, b, e2, a1, a2, pf, pt⟩ := step k _ env acc (List.getElem?_eq_getElem hlt) hp
    unfold lcL
    rw [a1, bind_ok, a2]
    show ∃ e acc', (if b = true then _ else _) = Res.ok (acc', e) ∧ P ds.length e acc'
    cases b with
    | false => exact ih (k + 1) _ acc rfl hlt (pf rfl)
    | true =>
      obtain ⟨o, e3, c1, c2, p⟩ := pt rfl
      rw [if_pos rfl]
      show ∃ e acc', (nE (elt e2) >>= fun r => if acc.length < 100000 then lcL vs t test elt _ (wipeE r.2 vs) (acc ++ [r.1.data]) else .no) = Res.ok (acc', e) ∧ P ds.length e acc'
      rw [c1]
      show ∃ e acc', (if acc.length < 100000 then lcL vs t test elt _ (wipeE e3 vs) (acc ++ [o.data]) else .no) = Res.ok (acc', e) ∧ P ds.length e acc'
      rw [if_pos c2]
      exact ih (k + 1) _ _ rfl hlt p
theorem rng_at {lo : Int} {n k : Nat} {d : PyData} (h : (rng lo n)[k]? = some d) : k < n ∧ d = .int (lo + k) := by
  unfold rng at h
  rw [List.getElem?_map] at h
  cases q : (List.range n)[k]? with
  | none => rw [q] at h; cases h
  | some j =>
    rw [q] at h; cases h
    obtain ⟨hk, e⟩ := List.getElem?_eq_some_iff.mp q
    rw [List.length_range] at hk
    rw [List.getElem_range] at e
    subst e
    exact ⟨hk, rfl⟩
theorem rng_len {lo : Int} {n : Nat} : (rng lo n).length = n := by unfold rng; simp
end Dy
namespace Dy
open PySem PySem.Spec PyProof.Rows L2
theorem Rows.len {K : PySem.W.Frag} {I H : Hp} {as : List Addr} {rs : List (List PyData)} (h : Rows K I H as rs) : as.length = rs.length := by
  induction h with
  | nil => rfl
  | cons _ _ _ ih => simp [ih]
theorem Rows.app {K : PySem.W.Frag} {I H : Hp} {as bs : List Addr} {rs ss : List (List PyData)} (h : Rows K I H as rs) (k : Rows K I H bs ss) : Rows K I H (as ++ bs) (rs ++ ss) := by
  induction h with
  | nil => exact k
  | cons h1 h2 _ ih => exact .cons h1 h2 ih
theorem Rows.at {K : PySem.W.Frag} {I H : Hp} {as : List Addr} {rs : List (List PyData)} (h : Rows K I H as rs) : ∀ {k : Nat} {r : List PyData}, rs[k]? = some r → ∃ a us, as[k]? = some a ∧ H a = some (.lst us) ∧ RpAll K I us r := by
  induction h with
  | nil => intro k r e; simp at e
  | cons h1 h2 _ ih =>
    intro k r e
    cases k with
    | zero => simp at e; subst e; exact ⟨_, _, rfl, h1, h2⟩
    | succ k =>
      obtain ⟨a, us, e1, e2, e3⟩ := ih (k := k) (r := r) (by simpa using e)
      exact ⟨a, us, by simpa using e1, e2, e3⟩
theorem Rows.put {K : PySem.W.Frag} {I H : Hp} {as : List Addr} {rs : List (List PyData)} (h : Rows K I H as rs) (nd : as.Nodup) : ∀ {k : Nat} {a : Addr} {us : List V} {r : List PyData}, as[k]? = some a → RpAll K I us r → Rows K I (upd H a (.lst us)) as (rs.set k r) := by
  induction h with
  | nil => intro k a us r e; simp at e
  | @cons b bs vs r0 rs0 h1 h2 h3 ih =>
    intro k a us r e hr
    have ndb : b ∉ bs ∧ bs.Nodup := List.nodup_cons.mp nd
    cases k with
    | zero =>
      simp at e; subst e
      refine .cons upd_same hr (h3.mono (Same.refl _) fun x hx => upd_ne fun z => ?_)
      subst z; exact ndb.1 hx
    | succ k =>
      have e' : bs[k]? = some a := by simpa using e
      have hm : a ∈ bs := List.mem_of_getElem? e'
      refine .cons ?_ h2 (ih ndb.2 e' hr)
      rw [upd_ne fun z => by subst z; exact ndb.1 hm]; exact h1
def lcO (vs : List Nat) (t : Tg) (elt : EF) : List PyData → Env → List (List PyData) → Res (List (List PyData) × Env)
  | [], e, acc => .ok (acc, e)
  | d :: ds, e, acc => asT t d e >>= fun e1 => nE (elt e1) >>= fun r => match r.1 with
    | .ol x => if acc.length < 100000 then lcO vs t elt ds (wipeE r.2 vs) (acc ++ [x]) else .no
    | _ => .no
def fLcO (fi : IF) (vs : List Nat) (t : Tg) (elt : EF) : EF := fun env => fi env >>= fun r => lcO vs t elt r.1 (wipeE r.2 vs) [] >>= fun q => .ok (.oo q.1, unw r.2 q.2 vs)
theorem lcO_er {vs : List Nat} {t : Tg} {elt : EF} : ∀ {ds : List PyData} {e : Env} {acc : List (List PyData)} {x : Exn}, lcO vs t elt ds e acc ≠ .er x
  | [], _, _, _ => fun h => by cases h
  | d :: ds, e, acc, x => fun h => by
    unfold lcO at h
    cases q : asT t d e with
    | no => rw [q] at h; cases h
    | er y => exact asT_er q
    | ok e1 =>
      rw [q, bind_ok] at h
      cases q3 : elt e1 with
      | no => rw [q3] at h; cases h
      | er y => rw [q3] at h; cases h
      | ok r =>
        rw [q3] at h
        obtain ⟨o, e2⟩ := r
        cases o with
        | fr _ => cases h
        | oo _ => cases h
        | od _ => cases h
        | ol y =>
          have h : (if acc.length < 100000 then lcO vs t elt ds (wipeE e2 vs) (acc ++ [y]) else .no) = .er x := h
          split at h
          · exact lcO_er h
          · cases h
/-- some addresses stand aside -/
theorem Step.set {I H I1 H1 : Hp} {S S1 : Addr → Prop} (a : Step I H S I1 H1 S1) {T : List Addr} (h : ∀ x ∈ T, ∃ o, H x = some o ∧ NT o) (n : ∀ x ∈ T, ¬ S x) (i : ∀ x ∈ T, I x = none) : (∀ x ∈ T, H1 x = H x) ∧ (∀ x ∈ T, ¬ S1 x) ∧ ∀ x ∈ T, I1 x = none := by
  refine ⟨fun x hx => ?_, fun x hx => ?_, fun x hx => ?_⟩ <;> obtain ⟨o, ho, nt⟩ := h x hx <;> have := a.one ho (n x hx) (i x hx) nt
  · rw [this.1, ho]
  · exact this.2.1
  · exact this.2.2
section
variable {g : G} {X : Cx} {a b c e : Expr} {es : List Expr} {pos : Pos} {σ : St} {H I : Hp} {env : Env} {F : Nat → List Addr}
theorem lcO_key {fi : IF} {vs : List Nat} {t : Tg} {elt : EF} {Q : VK} (hp : ∀ i ∈ vs, i ∉ g.pn.1) (hv : ∀ i ∈ t.slots, i ∈ vs) (h : tD g (fLcO fi vs t elt) σ H Q) : tLc (tI g fi) (rdT g.K t) (tT g.nox fYes) (tD g.nox elt) vs σ H Q := by
  obtain ⟨I, env, F, s, p⟩ := h
  refine ⟨I, env, F, s, post_mono (post_bind.mp p) (fun r q J H1 I1 F1 s1 st1 ok D nD => ?_) fun _ z => z⟩
  have nI : I1 D = none := none_of_same s1.sub nD
  have nF : ∀ {F2 : Nat → List Addr}, F2 = F1 → ¬ Ow F2 D := fun e z => by subst e; obtain ⟨o, ho⟩ := s1.domO z; rw [nD] at ho; cases ho
  let PP : List (List PyData) × Env → Prop := fun q => ∀ v H', Aft g.K g.pn I H F σ (unw r.2 q.2 vs) (.oo q.1) v H' → Q v H'
  let L : List PyData → Hp → Prop := fun ds H2 => ∃ I2 e F2 acc as, Sim g.K g.pn I2 H2 (wipe σ vs) e F2 ∧ H2 D = some (.lst (as.map V.ref)) ∧ Rows g.K I2 H2 as acc ∧ (D :: as).Nodup ∧ (∀ x ∈ D :: as, I2 x = none) ∧ (∀ x ∈ D :: as, ¬ Ow F2 x) ∧ Step I1 H1 (Ow F1) I2 H2 (fun a => Ow F2 a ∨ a ∈ D :: as) ∧
    (lcO vs t elt ds e acc).post PP (fun _ => False)
  have q0 : (lcO vs t elt r.1 (wipeE r.2 vs) []).post PP (fun _ => False) := by
    have q := post_bind.mp q
    cases z : lcO vs t elt r.1 (wipeE r.2 vs) [] with
    | no => rw [z] at q; exact q
    | er x => exact absurd z lcO_er
    | ok y => rw [z] at q; exact q
  refine ⟨fun i m H2 => m = r.1.length - i ∧ i ≤ r.1.length ∧ L (r.1.drop i) H2, ⟨r.1.length, by simp, Nat.zero_le _, I1, wipeE r.2 vs, clF F1 vs, [], [], ?_, upd_same, .nil, by simp, fun x hx => ?_, fun x hx z => ?_, ?_, q0⟩, ?_⟩
  · refine (s1.wipe hp).heap (Same.refl _) (s1.sub.trans (same_new nD)) (fun a ha => ?_) (fun a ⟨i, hi⟩ => (s1.wipe hp).djI i a hi) (kt_new nD)
    rw [upd_ne]; intro z; subst z; exact nF rfl (clF_ow ha)
  · simp at hx; subst hx; exact nI
  · simp at hx; subst hx; exact nF rfl (clF_ow z)
  · refine Step.of4 (Same.refl _) (fun a o h _ => same_new nD a o h) (fun a h => ?_) (fun a o h => .inl h)
    rcases h with h | h
    · exact .inl (clF_ow h)
    · simp at h; subst h; exact .inr nD
  · rintro i m H2 ⟨rfl, hi, I2, e, F2, acc, as, s2, hD, ra, nd, iT, oT, st2, p2⟩
    have sm : Same I1 I2 := st2.i1
    have dTN : ∀ x ∈ D :: as, ∃ o, H2 x = some o ∧ NT o := fun x hx => by
      rcases List.mem_cons.mp hx with rfl | hx
      · exact ⟨_, hD, NT.lst⟩
      · exact ra.domN x hx
    have dT : ∀ x ∈ D :: as, ∃ o, H2 x = some o := fun x hx => let ⟨o, e, _⟩ := dTN x hx; ⟨o, e⟩
    by_cases hlt : i < r.1.length
    · have hd : r.1[i]? = some r.1[i] := List.getElem?_eq_getElem hlt
      have dr : r.1.drop i = r.1[i] :: r.1.drop (i + 1) := List.drop_eq_getElem_cons hlt
      rw [dr] at p2
      have ok1 := (ok I2 H2 i sm s2.sub).1 _ hd
      refine .inr ⟨ok1.1, L (r.1.drop (i + 1)), fun H' n => ⟨r.1.length - (i + 1), by omega, rfl, hlt, n⟩, fun x H3 y => ?_⟩
      obtain ⟨I3, gr⟩ := ok1.2 x H3 y
      obtain ⟨I4, F4, rp, s4, st4⟩ := (gr.aft s2).frz
      have p3 := post_bind.mp p2
      cases q2 : asT t r.1[i] e with
      | no => rw [q2] at p3; exact p3.elim
      | er x => exact absurd q2 asT_er
      | ok e1 =>
        rw [q2] at p3
        refine tg_key (fun j hj => hp j (hv j hj)) s4 rp q2 fun σ2 F5 ho s5 hF => ?_
        have wσ := wipe_only hv ho
        refine ⟨wσ, ?_⟩
        have st5 := st4.less hF
        refine ⟨I4, e1, F5, s5, fun H6 af => ?_⟩
        obtain ⟨I6, F6, s6, st6⟩ := af
        have st56 := st5.trans st6
        rw [if_pos rfl]
        refine ⟨I6, e1, F6, s6, post_mono (nE_post (post_bind.mp p3)) (fun r7 p7 v7 H7 af7 => ?_) fun _ z => z⟩
        obtain ⟨I8, F8, R, rp8, s8, nR, dR, st8⟩ := af7
        obtain ⟨o7, e7⟩ := r7
        cases o7 with
        | fr _ => exact p7.elim
        | oo _ => exact p7.elim
        | od _ => exact p7.elim
        | ol y =>
          obtain ⟨ra7, us7, rfl, rfl, hr7, rr7⟩ := rp8
          have st58 := st56.trans st8
          obtain ⟨k1, k2, k3⟩ := st58.set dTN oT iT
          have fresh : ra7 ∉ D :: as := fun z => k2 ra7 z (.inr (by simp))
          have p7 : (if acc.length < 100000 then lcO vs t elt (r.1.drop (i + 1)) (wipeE e7 vs) (acc ++ [y]) else .no).post PP (fun _ => False) := p7
          by_cases hz : acc.length < 100000
          · rw [if_pos hz] at p7
            have hD7 : H7 D = some (.lst (as.map V.ref)) := by rw [k1 D (by simp)]; exact hD
            have neD : ∀ x, x ∈ as → x ≠ D := fun x hx z => by subst z; exact (List.nodup_cons.mp nd).1 hx
            have ra8 : Rows g.K I8 H7 as acc := ra.mono st58.i1 fun x hx => k1 x (by simp [hx])
            refine ⟨as.map V.ref, hD7, by rw [List.length_map, ra.len]; exact Nat.lt_of_lt_of_le hz (by decide), I8, wipeE e7 vs, clF F8 vs, acc ++ [y], as ++ [ra7], ?_, ?_, ?_, ?_, ?_, ?_, ?_, p7⟩
            · rw [← wσ]
              refine (s8.wipe hp).heap (Same.refl _) (fun x o h => ?_) (fun x hx => ?_) (fun x ⟨j, hj⟩ => (s8.wipe hp).djI j x hj) (kt_upd hD7 NT.lst)
              · rw [upd_ne (fun z => by subst z; rw [k3 x (by simp)] at h; cases h)]; exact s8.sub x o h
              · rw [upd_ne]; intro z; subst z; exact k2 x (by simp) (.inl (clF_ow hx))
            · rw [upd_same, List.map_append]; rfl
            · refine (ra8.app (.cons hr7 rr7 .nil)).mono (Same.refl _) fun x hx => upd_ne ?_
              rcases List.mem_append.mp hx with h | h
              · exact neD x h
              · simp at h; subst h; intro z; subst z; exact fresh (by simp)
            · show (D :: as ++ [ra7]).Nodup
              rw [List.nodup_append]
              refine ⟨nd, by simp, fun x hx y hy z => ?_⟩
              simp at hy; subst hy; subst z
              exact fresh hx
            · intro x hx
              rcases List.mem_append.mp (show x ∈ (D :: as) ++ [ra7] from hx) with h | h
              · exact k3 x h
              · exact nR x h
            · intro x hx z
              rcases List.mem_append.mp (show x ∈ (D :: as) ++ [ra7] from hx) with h | h
              · exact k2 x h (.inl (clF_ow z))
              · exact dR x (clF_ow z) h
            · refine st2.trans ((st58.aside (fun x => x ∈ D :: as) dT oT).trans (Step.of4 (Same.refl _) (fun x o h n => ?_) (fun x h => ?_) (fun x o h => .inl h)))
              · rw [upd_ne fun z => n (.inr (by rw [z]; simp))]; exact h
              · rcases h with h | h
                · exact .inl (.inl (.inl (clF_ow h)))
                · rcases List.mem_append.mp (show x ∈ (D :: as) ++ [ra7] from h) with h | h
                  · exact .inl (.inr h)
                  · exact .inl (.inl (.inr h))
          · rw [if_neg hz] at p7; exact p7.elim
    · have e0 : i = r.1.length := by omega
      subst e0
      rw [List.drop_length] at p2
      refine .inl ⟨(ok I2 H2 _ sm s2.sub).2 rfl, p2 _ _ ⟨I2, clF F2 vs, D :: as, ⟨D, as, rfl, rfl, nd, hD, ra⟩, s1.unwipe sm hp s2, iT, fun x hx hr => oT x hr (clF_ow hx), ?_⟩⟩
      refine st1.trans (st2.less fun x h => ?_)
      rcases h with h | h
      · exact .inl (clF_ow h)
      · exact .inr h
theorem ds_setLcO {i : Nat} {y : Str} {py : Pos} {elt tg iter : Expr} {scope : Scope} {own : List (Str × Nat)} {spos : Pos} {fi : IF} {t : Tg} {fe : EF} (hpi : i ∉ g.pn.1) (hp : ∀ i ∈ own.map (·.2), i ∉ g.pn.1) (hv : ∀ i ∈ t.slots, i ∈ own.map (·.2)) (hc : X.calm = true) (hN : X.N.Nodup) (hy : X.N[i]? = some y) (hyl : X.env.scope.names.lookup y = some .local)
    (hsw : swapsWith (.ListComp elt [⟨tg, iter, [], 0⟩] scope pos) (some (.Name y py)) spos.line X.env = pure true) (hi : DI g X tg iter fi) (ok : BlkOk X.N X.env.scope scope own)
    (hg : ∀ (s : Shared) (H : Hp) (C : Addr) (cl : List (Str × Addr)) (fp : List Addr), PG (X.blk s H scope (compEnvC scope cl C X.env) fp) tg (rdT g.K t))
    (he : ∀ (s : Shared) (H : Hp) (C : Addr) (cl : List (Str × Addr)) (fp : List Addr), DE g.nox (X.blk s H scope (compEnvC scope cl C X.env) fp) elt fe) (hs : ∀ x, foldedSetIterable iter X.env x = pure x := by intro _; rfl) :
    DS g X (.Assign [.Name y py] (.ListComp elt [⟨tg, iter, [], 0⟩] scope pos) spos) (fSet i (fLcO fi (own.map (·.2)) t fe)) := PS.imp (ps_setLc hc hN hy hyl hsw hi ok hg (fun _ _ _ _ _ => pts_yes) he hs) fun D σ H h => by
  have := set_key hpi h
  exact lcO_key hp hv this
end
end Dy
namespace Dy
open PySem PySem.Spec PyProof.Rows L2
/-- an int that is read and changes nothing -/
def PI1 (g : G) (t : TE) (z : Env → Option Int) : Prop := ∀ (I H : Hp) (σ : St) (env : Env) (F : Nat → List Addr) (k : Int) (Q : VK), Sim g.K g.pn I H σ env F → z env = some k → Q (.int k) H → t σ H Q
def zN (j : Nat) : Env → Option Int := fun env => match env[j]? with
  | some (some (.fr (.int n))) => some n
  | _ => none
def zC (n : Int) : Env → Option Int := fun _ => some n
section
variable {g : G} {X : Cx} {a b c e : Expr} {es : List Expr} {pos p1 p2 px : Pos} {σ : St} {H I : Hp} {env : Env} {F : Nat → List Addr} {D : Ends}
theorem pi_n {j : Nat} : PI1 g (tVar j) (zN j) := fun I H σ env F k Q s h q => by
  unfold zN at h
  split at h
  · rename_i n q0
    cases h
    obtain ⟨v, e1, r⟩ := s.rep j _ q0
    cases r.2
    exact ⟨_, e1, q⟩
  · cases h
theorem Sim.lt (s : Sim g.K g.pn I H σ env F) {i : Nat} {o : O} (q : env[i]? = some (some o)) : i < env.length := by
  cases Nat.lt_or_ge i env.length with
  | inl h => exact h
  | inr h => rw [List.getElem?_eq_none h] at q; cases q
/-- an owned list of lists: its rows -/
theorem Sim.ownO {i : Nat} {rs : List (List PyData)} (s : Sim g.K g.pn I H σ env F) (q : env[i]? = some (some (.oo rs))) :
    ∃ p as, σ[i]? = some (some (.ref p)) ∧ F i = p :: as ∧ (p :: as).Nodup ∧ H p = some (.lst (as.map V.ref)) ∧ Rows g.K I H as rs ∧
      ∀ (k : Nat) (x : Addr) (us : List V) (r : List PyData), as[k]? = some x → RpAll g.K I us r → AftS g.K g.pn I H F σ (env.set i (some (.oo (rs.set k r)))) (upd H x (.lst us)) := by
  obtain ⟨v, e1, p, as, rfl, hF, nd, h1, h2⟩ := s.rep i _ q
  refine ⟨p, as, e1, hF, nd, h1, h2, fun k x us r hk hr => ?_⟩
  have hx : x ∈ as := List.mem_of_getElem? hk
  have hxF : x ∈ F i := by rw [hF]; exact List.mem_cons_of_mem _ hx
  have hpx : p ≠ x := fun z => by subst z; exact (List.nodup_cons.mp nd).1 hx
  have nI := s.djI i x hxF
  have hi := s.lt q
  have ne : ∀ j, j ≠ i → ∀ b ∈ F j, b ≠ x := fun j hj b hb e => by subst e; exact hj (s.dis j i b hb hxF)
  refine ⟨I, upF F i (p :: as), ?_, Step.of4 (Same.refl _) (fun b o h n => ?_) (fun b h => ?_) (fun _ _ h => .inl h)⟩
  · have := s.put (i := i) (x := some (.oo (rs.set k r))) (sv := some (.ref p)) (R := p :: as) (H' := upd H x (.lst us)) hi (Same.refl _) (fun b o h => ?_) (fun j hj b hb => ?_) (fun j _ b hb => s.djI j b hb) (fun b hb => ?_) (fun j hj b hb h => ?_) (fun o e => ?_) (fun e => by cases e) (fun hp => ?_) (s.ktO hxF)
    · rw [set_same e1] at this; exact this
    · rw [upd_ne (fun e => by subst e; rw [nI] at h; cases h)]; exact s.sub b o h
    · rw [upd_ne (ne j hj b hb)]
    · exact s.djI i b (by rw [hF]; exact hb)
    · exact hj (s.dis j i b hb (by rw [hF]; exact h))
    · cases e; exact ⟨_, rfl, p, as, rfl, rfl, nd, by rw [upd_ne hpx]; exact h1, h2.put (List.nodup_cons.mp nd).2 hk hr⟩
    · have := s.pin i hp; rw [e1] at this; exact Option.some.inj this
  · rw [upd_ne (fun e => by subst e; exact n ⟨i, hxF⟩)]; exact h
  · rcases ow_up h with z | z
    · exact .inl z
    · exact .inl ⟨i, by rw [hF]; exact z⟩
/-- x[y][z] -/
def fIx2 (i : Nat) (y z : Env → Option Int) : EF := fun env => match env[i]?, y env, z env with
  | some (some (.oo rs)), some k, some l => match ixN rs.length k with
    | some j => match rs[j]? with
      | some r => match atI r l with
        | some d => .ok (.fr d, env)
        | none => .no
      | none => .no
    | none => .no
  | _, _, _ => .no
theorem de_ix2 {i : Nat} {x : Str} {y z : Env → Option Int} {ty tz : TE} (hx : PE X (.Name x px) (tVar i)) (hy : PE X b ty) (py : PI1 g ty y) (hz : PE X c tz) (pz : PI1 g tz z) (hb : PlainIx b) (hc : PlainIx c) :
    DE g X (.Subscript (.Subscript (.Name x px) b p1) c p2) (fIx2 i y z) := PE.imp (pe_ix ix_seq (pe_ix ix_list hx hy hb) hz hc) fun σ H Q h => by
  obtain ⟨I, env, F, s, p⟩ := h
  unfold fIx2 at p
  split at p
  · rename_i rs k l q1 q2 q3
    cases q4 : ixN rs.length k with
    | none => simp only [q4] at p; exact p.elim
    | some j =>
      simp only [q4] at p
      cases q5 : rs[j]? with
      | none => simp only [q5] at p; exact p.elim
      | some r =>
        simp only [q5] at p
        cases q6 : atI r l with
        | none => simp only [q6] at p; exact p.elim
        | some d =>
          simp only [q6] at p
          obtain ⟨pa, as, e1, hF, nd, h1, h2, _⟩ := s.ownO q1
          obtain ⟨xa, us, e2, e3, e4⟩ := h2.at q5
          obtain ⟨v, e5, e6⟩ := atI_rep e4 q6
          have e7 : atI (as.map V.ref) k = some (.ref xa) := by
            unfold atI
            rw [List.length_map, h2.len, q4]
            show (as.map V.ref)[j]? = _
            rw [List.getElem?_map, e2]; rfl
          refine ⟨_, e1, py I H σ env F k _ s q2 ?_⟩
          refine ⟨pa, _, k, _, rfl, rfl, SqL.of h1, e7, pz I H σ env F l _ s q3 ?_⟩
          exact .inl ⟨xa, us, l, v, rfl, rfl, SqL.of e3, e5, p v H (aftC s e6)⟩
  · exact p.elim
/-- x[y][z] = e -/
def fSetII (i : Nat) (y z : Env → Option Int) (f : EF) : SF := fun env => f env >>= fun r => match r.2[i]?, y r.2, z r.2 with
  | some (some (.oo rs)), some k, some l => match ixN rs.length k with
    | some j => match rs[j]? with
      | some w => match ixN w.length l with
        | some m => .ok (.nx, r.2.set i (some (.oo (rs.set j (w.set m r.1.data)))))
        | none => .no
      | none => .no
    | none => .no
  | _, _, _ => .no
theorem ds_setII {i : Nat} {x : Str} {y z : Env → Option Int} {ty tz : TE} {f : EF} {spos : Pos} (hx : PE X (.Name x px) (tVar i)) (hy : PE X b ty) (py : PI1 g ty y) (hz : PE X c tz) (pz : PI1 g tz z) (hb : PlainIx b) (he : DE g X e f)
    (ha : ∀ v, assign (.Subscript (.Subscript (.Name x px) b p1) c p2) X.env v = (do
      let ov ← holding [v] (eval (.Subscript (.Name x px) b p1) X.env)
      let iv ← holding [v, ov] (eval c X.env)
      standAt p2
      holding [v, ov, iv] (setItem ov iv v)
      release [v, ov, iv] []) := by intro _; rfl)
    (hs : swapsWithSole [.Subscript (.Subscript (.Name x px) b p1) c p2] e spos.line X.env = pure false := by rfl) (hw : swappedStores [.Subscript (.Subscript (.Name x px) b p1) c p2] e X.env = pure none := by rfl)
    (h1 : (assignEach [.Subscript (.Subscript (.Name x px) b p1) c p2] X.env).map (·.2) = [assign (.Subscript (.Subscript (.Name x px) b p1) c p2) X.env] := by rfl) :
    DS g X (.Assign [.Subscript (.Subscript (.Name x px) b p1) c p2] e spos) (fSetII i y z f) := PS.imp (ps_asg he (pg_sub (pe_ix ix_list hx hy hb) hz set_list ha) hs hw h1) fun D σ H q => by
  obtain ⟨I, env, F, s, p⟩ := q
  refine tD_seq s p fun r v H1 af q => ?_
  obtain ⟨I', F', rp, s', st⟩ := af.frz
  split at q
  · rename_i rs k l q1 q2 q3
    cases q4 : ixN rs.length k with
    | none => simp only [q4] at q; exact q.elim
    | some j =>
      simp only [q4] at q
      cases q5 : rs[j]? with
      | none => simp only [q5] at q; exact q.elim
      | some w =>
        simp only [q5] at q
        cases q6 : ixN w.length l with
        | none => simp only [q6] at q; exact q.elim
        | some m =>
          simp only [q6] at q
          obtain ⟨pa, as, e1, hF, nd, h1, h2, up⟩ := s'.ownO q1
          obtain ⟨xa, us, e2, e3, e4⟩ := h2.at q5
          have e7 : atI (as.map V.ref) k = some (.ref xa) := by
            unfold atI
            rw [List.length_map, h2.len, q4]
            show (as.map V.ref)[j]? = _
            rw [List.getElem?_map, e2]; rfl
          refine ⟨_, e1, py I' H1 σ r.2 F' k _ s' q2 ?_⟩
          refine ⟨pa, _, k, _, rfl, rfl, SqL.of h1, e7, pz I' H1 σ r.2 F' l _ s' q3 ?_⟩
          exact ⟨xa, us, l, m, rfl, rfl, e3, by rw [e4.length]; exact q6, q _ _ (AftS.trans st (up j xa _ _ e2 (e4.sets m rp)))⟩
  · exact q.elim
end
end Dy
namespace Dy
open PySem PySem.Spec PyProof.Rows L2
theorem Sim.forget {K : PySem.W.Frag} {π : Pn} {I H : Hp} {σ : St} {env : Env} {F : Nat → List Addr} (s : Sim K π I H σ env F) (vs : List Nat) : Sim K π I H σ (wipeE env vs) (clF F vs) := by
  refine ⟨by rw [wipeE_length, s.len], fun i o q => ?_, fun i q => ?_, fun i j a h1 h2 => ?_, fun i a h => ?_, s.sub, s.pin, s.tab⟩
  · rw [wipeE_at] at q
    by_cases h : i ∈ vs
    · rw [if_pos h] at q; split at q <;> cases q
    · rw [if_neg h] at q
      obtain ⟨v, e1, r⟩ := s.rep i o q
      exact ⟨v, e1, by unfold clF; rw [if_neg h]; exact r⟩
  · unfold clF
    by_cases h : i ∈ vs
    · rw [if_pos h]
    · rw [if_neg h]; exact s.out i fun o z => q o (by rw [wipeE_at, if_neg h]; exact z)
  · unfold clF at h1 h2
    split at h1
    · cases h1
    · split at h2
      · cases h2
      · exact s.dis i j a h1 h2
  · unfold clF at h
    split at h
    · cases h
    · exact s.djI i a h
section
variable {g : G} {X : Cx} {a b c e : Expr} {es : List Expr} {pos p1 p2 px : Pos} {σ : St} {H I : Hp} {env : Env} {F : Nat → List Addr} {D : Ends} {st : Stmt} {sts : List Stmt}
theorem AftS.forget {H1 : Hp} {env' : Env} (af : AftS g.K g.pn I H F σ env' H1) (vs : List Nat) : AftS g.K g.pn I H F σ (wipeE env' vs) H1 := by
  obtain ⟨I', F', s, t⟩ := af
  exact ⟨I', clF F' vs, s.forget vs, t.less fun a h => clF_ow h⟩
theorem Aft.forget {H1 : Hp} {env' : Env} {o : O} {v : V} (af : Aft g.K g.pn I H F σ env' o v H1) (vs : List Nat) : Aft g.K g.pn I H F σ (wipeE env' vs) o v H1 := by
  obtain ⟨I', F', R, r, s, n, d, t⟩ := af
  exact ⟨I', clF F' vs, R, r, s.forget vs, n, fun a h => d a (clF_ow h), t.less fun a h => h.elim (fun z => .inl (clF_ow z)) .inr⟩
/-- behind a statement some slots are forgotten -/
def fWp (vs : List Nat) (f : SF) : SF := fun env => f env >>= fun r => .ok (r.1, wipeE r.2 vs)
theorem wp_key {f : SF} {vs : List Nat} (q : tS g (fWp vs f) D σ H) : tS g f D σ H := by
  obtain ⟨I, env, F, s, p⟩ := q
  refine ⟨I, env, F, s, post_mono (post_bind.mp p) (fun r q => ?_) fun _ z => z⟩
  obtain ⟨fl, e⟩ := r
  cases fl with
  | nx => exact fun σ' H' af => q σ' H' (af.forget vs)
  | bk => exact fun σ' H' af => q σ' H' (af.forget vs)
  | ct => exact fun σ' H' af => q σ' H' (af.forget vs)
  | rt o => exact fun v σ' H' af => q v σ' H' (af.forget vs)
theorem ds_wp {f : SF} (vs : List Nat) (h : DS g X st f) : DS g X st (fWp vs f) := PS.imp h fun D σ H q => wp_key q
/-- a name's thing is frozen -/
def frzE (e : Env) : List Nat → Env
  | [] => e
  | i :: is => match (frzE e is)[i]? with
    | some (some o) => (frzE e is).set i (some (.fr o.data))
    | _ => frzE e is
def fFz (vs : List Nat) (f : SF) : SF := fun env => f env >>= fun r => .ok (r.1, frzE r.2 vs)
theorem AftS.freeze {H1 : Hp} {env' : Env} (af : AftS g.K g.pn I H F σ env' H1) : ∀ vs : List Nat, AftS g.K g.pn I H F σ (frzE env' vs) H1
  | [] => af
  | i :: is => by
    have ih := AftS.freeze af is
    unfold frzE
    split
    · rename_i o q
      obtain ⟨I', F', s, t⟩ := ih
      obtain ⟨v, I2, _, _, s2, t2⟩ := sim_frz s q
      exact ⟨I2, _, s2, t.trans t2⟩
    · exact ih
theorem ds_fz {f : SF} (vs : List Nat) (h : DS g X st f) (hf : ∀ env r, f env = .ok r → r.1 = .nx) : DS g X st (fFz vs f) := PS.imp h fun D σ H q => by
  obtain ⟨I, env, F, s, p⟩ := q
  refine ⟨I, env, F, s, ?_⟩
  have p := post_bind.mp p
  cases q : f env with
  | no => rw [q] at p; exact p
  | er x => rw [q] at p; exact p
  | ok r =>
    rw [q] at p
    have h1 := hf env r q
    obtain ⟨fl, e⟩ := r
    cases h1
    exact fun σ' H' af => p σ' H' (af.freeze vs)
theorem nx_set {i : Nat} {f : EF} : ∀ env r, fSet i f env = .ok r → r.1 = .nx := fun env r h => by
  unfold fSet at h
  cases q : f env with
  | no => rw [q] at h; cases h
  | er x => rw [q] at h; cases h
  | ok y =>
    rw [q, bind_ok] at h
    split at h
    · cases h; rfl
    · cases h
theorem nx_par {i j : Nat} {f k : EF} : ∀ env r, fPar i j f k env = .ok r → r.1 = .nx := fun env r h => by
  unfold fPar at h
  cases q : f env with
  | no => rw [q] at h; cases h
  | er x => rw [q] at h; cases h
  | ok y =>
    rw [q, bind_ok] at h
    cases q2 : k y.2 with
    | no => rw [q2] at h; cases h
    | er x => rw [q2] at h; cases h
    | ok z =>
      rw [q2, bind_ok] at h
      split at h
      · cases h; rfl
      · cases h
/-- x.extend(e), e a new list -/
def fExt (i : Nat) (f : EF) : SF := fun env => match env[i]? with
  | some (some (.ol _)) => f env >>= fun r => match r.1 with
    | .ol ys => match r.2[i]? with
      | some (some (.ol xs)) => if xs.length + ys.length ≤ 1000000 then .ok (.nx, r.2.set i (some (.ol (xs ++ ys)))) else .no
      | _ => .no
    | _ => .no
  | _ => .no
/-- x.insert(k, e) -/
def insA (xs : List PyData) : Option (List PyData) → Option (List PyData)
  | some [.int k, d] => if xs.length < 1000000 ∧ 0 ≤ k ∧ k < 1000000 then some (xs.take k.toNat ++ [d] ++ xs.drop k.toNat) else none
  | _ => none
def fIns (i : Nat) (as : List AF) : SF := fun env => match env[i]? with
  | some (some (.ol _)) => evA as env >>= fun r => match r.2[i]? with
    | some (some (.ol xs)) => match insA xs (dvs r.1) with
      | some ys => .ok (.nx, r.2.set i (some (.ol ys)))
      | none => .no
    | _ => .no
  | _ => .no
/-- x.pop() -/
def fPop (i : Nat) : EF := fun env => match env[i]? with
  | some (some (.ol xs)) => match xs[xs.length - 1]? with
    | some d => .ok (.fr d, env.set i (some (.ol xs.dropLast)))
    | none => .no
  | _ => .no
theorem RpAll.dropLast {K : PySem.W.Frag} {I : Hp} : ∀ {vs : List V} {ds : List PyData}, RpAll K I vs ds → RpAll K I vs.dropLast ds.dropLast := fun {vs ds} h => by
  rw [List.dropLast_eq_take, List.dropLast_eq_take, h.length]; exact h.takes _
end
end Dy
namespace Dy
open PySem PySem.Spec PyProof.Rows L2
inductive Hold (K : PySem.W.Frag) (I H : Hp) : List O → List V → List (List Addr) → Prop
  | nil : Hold K I H [] [] []
  | cons {o : O} {v : V} {R : List Addr} {os : List O} {vs : List V} {Rs : List (List Addr)} : RepO K I H o v R → Hold K I H os vs Rs → Hold K I H (o :: os) (v :: vs) (R :: Rs)
theorem Hold.snoc {K : PySem.W.Frag} {I H : Hp} {os : List O} {vs : List V} {Rs : List (List Addr)} {o : O} {v : V} {R : List Addr} (h : Hold K I H os vs Rs) (r : RepO K I H o v R) : Hold K I H (os ++ [o]) (vs ++ [v]) (Rs ++ [R]) := by
  induction h with
  | nil => exact .cons r .nil
  | cons a _ ih => exact .cons a ih
theorem Hold.mono {K : PySem.W.Frag} {I H I' H' : Hp} {os : List O} {vs : List V} {Rs : List (List Addr)} (h : Hold K I H os vs Rs) (e : Same I I') (k : ∀ a ∈ Rs.flatten, H' a = H a) : Hold K I' H' os vs Rs := by
  induction h with
  | nil => exact .nil
  | cons r _ ih => exact .cons (r.mono e fun a ha => k a (by simp [ha])) (ih fun a ha => k a (by rw [List.flatten_cons]; exact List.mem_append_right _ ha))
theorem Hold.domN {K : PySem.W.Frag} {I H : Hp} {os : List O} {vs : List V} {Rs : List (List Addr)} (h : Hold K I H os vs Rs) : ∀ a ∈ Rs.flatten, ∃ o, H a = some o ∧ NT o := by
  induction h with
  | nil => intro a ha; cases ha
  | cons r _ ih =>
    intro a ha
    rw [List.flatten_cons] at ha
    rcases List.mem_append.mp ha with h | h
    · exact r.domN a h
    · exact ih a h
theorem Hold.dom {K : PySem.W.Frag} {I H : Hp} {os : List O} {vs : List V} {Rs : List (List Addr)} (h : Hold K I H os vs Rs) : ∀ a ∈ Rs.flatten, ∃ o, H a = some o := fun a ha => let ⟨o, e, _⟩ := h.domN a ha; ⟨o, e⟩
def setO : List Nat → List O → Env → Option Env
  | [], [], e => some e
  | i :: is, o :: os, e => if i < e.length then setO is os (e.set i (some o)) else none
  | _, _, _ => none
def setV : List Nat → List V → St → St
  | i :: is, v :: vs, σ => setV is vs (σ.set i (some v))
  | _, _, σ => σ
def evO : List EF → Env → Res (List O × Env)
  | [], e => .ok ([], e)
  | f :: fs, e => f e >>= fun r => evO fs r.2 >>= fun q => .ok (r.1 :: q.1, q.2)
def fParN (is : List Nat) (fs : List EF) : SF := fun env => evO fs env >>= fun r => match setO is r.1 r.2 with
  | some e => .ok (.nx, e)
  | none => .no
def tEach (g : G) : List EF → TA
  | [] => fun _ H Q => Q [] H
  | f :: fs => fun σ H Q => tD g f σ H fun v H1 => tEach g fs σ H1 fun vs H2 => Q (v :: vs) H2
section
variable {g : G} {X : Cx} {a b c e : Expr} {es : List Expr} {pos p1 p2 px : Pos} {σ : St} {H I : Hp} {env : Env} {F : Nat → List Addr} {D : Ends}
theorem hold_set : ∀ (is : List Nat) {os : List O} {vs : List V} {Rs : List (List Addr)} {σ : St} {env env' : Env} {F : Nat → List Addr} {I H : Hp}, (∀ i ∈ is, i ∉ g.pn.1) → Sim g.K g.pn I H σ env F → Hold g.K I H os vs Rs → (∀ a ∈ Rs.flatten, I a = none) → (∀ a, Ow F a → a ∉ Rs.flatten) → Rs.flatten.Nodup → setO is os env = some env' →
    ∃ F', Sim g.K g.pn I H (setV is vs σ) env' F' ∧ ∀ a, Ow F' a → Ow F a ∨ a ∈ Rs.flatten
  | [], _, _, _, σ, env, env', F, I, H, _, s, .nil, _, _, _, e => by cases e; exact ⟨F, s, fun _ z => .inl z⟩
  | [], _, _, _, _, _, _, _, _, _, _, _, .cons _ _, _, _, _, e => by cases e
  | _ :: _, _, _, _, _, _, _, _, _, _, _, _, .nil, _, _, _, e => by cases e
  | i :: is, _, _, _, σ, env, env', F, I, H, hp, s, .cons (o := o) (v := v) (R := R) (Rs := Rs) r t, nI, dF, nd, e => by
    unfold setO at e
    split at e
    · rename_i hi
      rw [List.flatten_cons] at nI dF nd
      obtain ⟨nd1, nd2, nd3⟩ := List.nodup_append.mp nd
      have s1 : Sim g.K g.pn I H (σ.set i (some v)) (env.set i (some o)) (upF F i R) := s.put hi (Same.refl _) s.sub (fun _ _ _ _ => rfl) (fun j _ a ha => s.djI j a ha) (fun a ha => nI a (List.mem_append_left _ ha)) (fun j _ a ha hr => dF a ⟨j, ha⟩ (List.mem_append_left _ hr)) (fun o' e' => by cases e'; exact ⟨v, rfl, r⟩) (fun e' => by cases e') (fun h => absurd h (hp i (by simp)))
      obtain ⟨F', s2, h2⟩ := hold_set is (fun j hj => hp j (by simp [hj])) s1 t (fun a ha => nI a (List.mem_append_right _ ha)) (fun a ha hr => by
        rcases ow_up ha with z | z
        · exact dF a z (List.mem_append_right _ hr)
        · exact nd3 a z a hr rfl) nd2 e
      refine ⟨F', s2, fun a ha => ?_⟩
      rw [List.flatten_cons]
      rcases h2 a ha with z | z
      · rcases ow_up z with y | y
        · exact .inl y
        · exact .inr (List.mem_append_left _ y)
      · exact .inr (List.mem_append_right _ z)
    · cases e
theorem RepO.nodup {K : PySem.W.Frag} {I H : Hp} {o : O} {v : V} {R : List Addr} (h : RepO K I H o v R) : R.Nodup := by
  cases o with
  | fr d => rw [h.1]; exact List.nodup_nil
  | ol ds => obtain ⟨a, vs, _, rfl, _⟩ := h; simp
  | oo rs => obtain ⟨a, as, _, rfl, nd, _⟩ := h; exact nd
  | od es => obtain ⟨a, _, rfl, _⟩ := h; simp
theorem hold_run {is : List Nat} (hp : ∀ i ∈ is, i ∉ g.pn.1) : ∀ (fs : List EF) {os : List O} {vs : List V} {Rs : List (List Addr)} {I1 H1 : Hp} {env1 : Env} {F1 : Nat → List Addr}, Sim g.K g.pn I1 H1 σ env1 F1 → Hold g.K I1 H1 os vs Rs → (∀ a ∈ Rs.flatten, I1 a = none) → (∀ a, Ow F1 a → a ∉ Rs.flatten) → Rs.flatten.Nodup →
    Step I H (Ow F) I1 H1 (fun a => Ow F1 a ∨ a ∈ Rs.flatten) →
    (evO fs env1 >>= fun r => match setO is (os ++ r.1) r.2 with | some e => Res.ok (Fl.nx, e) | none => .no).post (FlP g D I H F) (g.err I H F) →
    tEach g fs σ H1 fun ws H2 => ∀ H3, Same H2 H3 → D.nx (setV is (vs ++ ws) σ) H3
  | [], os, vs, Rs, I1, H1, env1, F1, s, hh, nI, dF, nd, st, p => by
    intro H3 sm
    rw [List.append_nil]
    have p : (match setO is (os ++ []) env1 with | some e => Res.ok (Fl.nx, e) | none => .no).post (FlP g D I H F) (g.err I H F) := p
    rw [List.append_nil] at p
    cases q : setO is os env1 with
    | none => rw [q] at p; exact p.elim
    | some e =>
      rw [q] at p
      have e3 : ∀ {a}, (∃ o, H1 a = some o) → H3 a = H1 a := fun {a} ⟨o, h⟩ => by rw [h, sm a o h]
      have s3 : Sim g.K g.pn I1 H3 σ env1 F1 := s.heap (Same.refl _) (s.sub.trans sm) (fun a ha => e3 (s.domO ha)) (fun a ⟨l, hl⟩ => s.djI l a hl) (fun a ps h => sm a _ h)
      obtain ⟨F', s4, h4⟩ := hold_set is hp s3 (hh.mono (Same.refl _) fun a ha => e3 (hh.dom a ha)) nI dF nd q
      refine p _ _ ⟨I1, F', s4, st.trans (Step.of4 (Same.refl _) (fun a o h _ => sm a o h) (fun a ha => .inl (h4 a ha)) (fun a o h => .inl h))⟩
  | f :: fs, os, vs, Rs, I1, H1, env1, F1, s, hh, nI, dF, nd, st, p => by
    have p : (f env1 >>= fun r1 => evO fs r1.2 >>= fun r => match setO is ((os ++ [r1.1]) ++ r.1) r.2 with | some e => Res.ok (Fl.nx, e) | none => .no).post (FlP g D I H F) (g.err I H F) := by
      rw [post_bind]
      unfold evO at p
      rw [post_bind, post_bind] at p
      refine post_mono p (fun r1 z => ?_) fun _ z => z
      rw [post_bind] at z ⊢
      refine post_mono z (fun r2 z => ?_) fun _ z => z
      rw [List.append_assoc]; exact z
    refine ⟨I1, env1, F1, s, post_mono (post_bind.mp p) (fun r q v H2 af => ?_) fun x z => err_step (st.less fun a ha => .inl ha) z⟩
    obtain ⟨I2, F2, R, rp, s2, n2, d2, st2⟩ := af
    obtain ⟨k1, k2, k3⟩ := st2.set hh.domN (fun a ha hz => dF a hz ha) nI
    have fl : (Rs ++ [R]).flatten = Rs.flatten ++ R := by simp
    have := hold_run hp fs (os := os ++ [r.1]) (vs := vs ++ [v]) (Rs := Rs ++ [R]) s2 ((hh.mono st2.i1 k1).snoc rp) (fun a ha => by
        rw [fl] at ha
        rcases List.mem_append.mp ha with z | z
        · exact k3 a z
        · exact n2 a z) (fun a ha hr => by
        rw [fl] at hr
        rcases List.mem_append.mp hr with z | z
        · exact k2 a z (.inl ha)
        · exact d2 a ha z) (by
        rw [fl, List.nodup_append]
        exact ⟨nd, rp.nodup, fun x hx y hy z => by subst z; exact k2 x hx (.inr hy)⟩) (by
        refine (st.trans (st2.aside (fun a => a ∈ Rs.flatten) hh.dom fun a ha hz => dF a hz ha)).less fun a ha => ?_
        rw [fl] at ha
        rcases ha with z | z
        · exact .inl (.inl z)
        · rcases List.mem_append.mp z with y | y
          · exact .inr y
          · exact .inl (.inr y)) q
    have ec : ∀ ws : List V, (vs ++ [v]) ++ ws = vs ++ v :: ws := fun ws => by simp
    simp only [ec] at this
    exact this
theorem parN_key {is : List Nat} {fs : List EF} (hp : ∀ i ∈ is, i ∉ g.pn.1) (h : tS g (fParN is fs) D σ H) : tEach g fs σ H fun ws H2 => ∀ H3, Same H2 H3 → D.nx (setV is ws σ) H3 := by
  obtain ⟨I, env, F, s, p⟩ := h
  exact hold_run hp fs (os := []) (vs := []) (Rs := []) s .nil (fun a ha => nomatch ha) (fun a _ ha => nomatch ha) List.nodup_nil (Step.refl.less fun a h => h.elim id fun z => nomatch z) p
theorem tEach_mono : ∀ {fs : List EF} {σ : St} {H : Hp} {Q Q' : List V → Hp → Prop}, tEach g fs σ H Q → (∀ vs H', vs.length = fs.length → Q vs H' → Q' vs H') → tEach g fs σ H Q'
  | [], _, _, _, _, h, i => i _ _ rfl h
  | _ :: _, _, _, _, _, h, i => tArg_mono (x := .v _) h fun _ _ q => tEach_mono q fun _ _ l q => i _ _ (by simp [l]) q
/-- the names' tuple is a target (cells among them, or more of them) -/
theorem ds_parNC {is : List Nat} {tg : Expr} {fs : List EF} {k2 pt2} {ps : List Expr} (hp : ∀ n ∈ is, n ∉ g.pn.1) (hl : is.length = fs.length) (hz : is.length ≤ 100) (hg : PG X tg (rdT g.K (.tu is))) (ha : PA X ps (tEach g fs))
    (hs : swapsWithSole [tg] (.Tuple ps k2 pt2) pos.line X.env = pure false := by rfl) (hw : swappedStores [tg] (.Tuple ps k2 pt2) X.env = pure none := by rfl)
    (h3 : (assignEach [tg] X.env).map (·.2) = [assign tg X.env] := by rfl) :
    DS g X (.Assign [tg] (.Tuple ps k2 pt2) pos) (fParN is fs) := PS.imp (ps_asg (pe_tup ha) hg hs hw h3) fun D σ H h => by
  have key : ∀ (is : List Nat) (vs : List V) (σ : St) (H : Hp) (Q : St → Hp → Prop), vs.length = is.length → Q (setV is vs σ) H → gNames is vs σ H Q := by
    intro is
    induction is with
    | nil => intro vs σ H Q hl q; cases vs with
      | nil => exact ⟨rfl, q⟩
      | cons _ _ => cases hl
    | cons i is ih => intro vs σ H Q hl q; cases vs with
      | nil => cases hl
      | cons v vs => exact ⟨v, vs, rfl, ih vs _ H Q (by simpa using hl) q⟩
  have := tEach_mono (Q' := fun vs H1 => vs.length ≤ sizeLine ∧ ∀ p, H1 p = none → rdT g.K (.tu is) (.ref p) σ (upd H1 p (.tup vs)) D.nx) (parN_key hp h) fun vs H' hv q => by
    refine ⟨by rw [hv, ← hl]; exact Nat.le_trans hz (by decide), fun p np => ?_⟩
    exact ⟨_, _, rfl, SqT.of upd_same, by rw [hv, ← hl], key is vs σ _ _ (by rw [hv, ← hl]) (q _ (same_new np))⟩
  exact this
end
end Dy
namespace Dy
open PySem PySem.Spec PyProof.Rows L2
def flD : PyData → Bool
  | .none => true
  | .bool _ => true
  | .int _ => true
  | .str _ => true
  | _ => false
def eqF : PyData → PyData → Bool
  | .none, .none => true
  | .bool a, .bool b => a == b
  | .bool a, .int b => (if a then 1 else 0) == b
  | .int a, .bool b => a == (if b then 1 else 0)
  | .int a, .int b => a == b
  | .str a, .str b => a == b
  | _, _ => false
def pInA : PyData → PyData → Option O
  | d, .list ds => pIn d (.list ds)
  | d, .tuple ds => if flD d = true ∧ ds.all flD = true then some (.fr (.bool (ds.any fun z => eqF z d))) else none
  | d, .dict es => if okK es d = true then some (.fr (.bool ((dAt es d).isSome))) else none
  | _, _ => none
def pNinA : PyData → PyData → Option O
  | d, .list ds => pNin d (.list ds)
  | d, .tuple ds => if flD d = true ∧ ds.all flD = true then some (.fr (.bool (!ds.any fun z => eqF z d))) else none
  | d, .dict es => if okK es d = true then some (.fr (.bool (!(dAt es d).isSome))) else none
  | _, _ => none
section
variable {K : PySem.W.Frag} {I H : Hp} {X : Cx}
theorem fl_rep {v : V} {d : PyData} (r : Rp K I v d) (f : flD d = true) : flatV v = true := by
  cases r <;> first | rfl | cases f
theorem eq_rep {v u : V} {d e : PyData} (r : Rp K I v d) (q : Rp K I u e) (f : flD d = true) (g : flD e = true) : eqV v u = eqF d e := by
  cases r <;> (try (exact Bool.noConfusion f)) <;> cases q <;> first | rfl | exact Bool.noConfusion g
theorem fls_rep : ∀ {vs : List V} {ds : List PyData}, RpAll K I vs ds → ds.all flD = true → vs.all flatV = true
  | _, _, .nil, _ => rfl
  | _, _, .cons r t, f => by
    simp only [List.all_cons, Bool.and_eq_true] at f ⊢
    exact ⟨fl_rep r f.1, fls_rep t f.2⟩
theorem any_rep {u : V} {e : PyData} (q : Rp K I u e) (g : flD e = true) : ∀ {vs : List V} {ds : List PyData}, RpAll K I vs ds → ds.all flD = true → inV u vs = ds.any fun z => eqF z e
  | _, _, .nil, _ => rfl
  | _, _, .cons r t, f => by
    simp only [List.all_cons, Bool.and_eq_true] at f
    unfold inV
    simp only [List.any_cons]
    rw [eq_rep r q f.1 g]
    have := any_rep q g t f.2
    unfold inV at this
    rw [this]
theorem rps_fl {v : V} {d : PyData} (h : RpS K I H v d) (f : flD d = true) : Rp K I v d := by
  rcases h with h | ⟨a, vs, ds, rfl, rfl, h1, h2⟩ | ⟨a, es, rfl, rfl, h1⟩
  · exact h
  · cases f
  · cases f
theorem rps_tup {v : V} {ds : List PyData} (h : RpS K I H v (.tuple ds)) : Rp K I v (.tuple ds) := by
  rcases h with h | ⟨a, vs, ds, rfl, e, h1, h2⟩ | ⟨_, _, _, e, _⟩
  · exact h
  · cases e
  · cases e
def rInA (K : PySem.W.Frag) : R2 := fun x y H Q => (rInD K x y H Q ∨ rIn K false x y H Q) ∨ rDI K false x y H Q
def rNinA (K : PySem.W.Frag) : R2 := fun x y H Q => (rNotInD K x y H Q ∨ rIn K true x y H Q) ∨ rDI K true x y H Q
theorem op_inA (hu : X.A.units + 65 < cLine) : OpR X (compareOp .In) (rInA X.K) := ((op_inD hu).or op_in_seq).or (op_inDD (by omega))
theorem op_ninA (hu : X.A.units + 65 < cLine) : OpR X (compareOp .NotIn) (rNinA X.K) := ((op_notInD hu).or op_notIn_seq).or (op_ninDD (by omega))
theorem os_inA : OpS K (two (rInA K)) (on2 pInA) := ops2 fun v u d e I H Q o s r1 r2 q k => by
  unfold pInA at q
  split at q
  · exact .inl (.inl (os_in [v, u] [_, _] I H Q o s (.cons r1 (.cons r2 .nil)) q k))
  · split at q
    · rename_i hc
      cases q
      have r1' := rps_fl r1 hc.1
      cases rps_tup r2 with
      | tup h1 h2 =>
        refine .inl (.inr ⟨_, _, rfl, .inr (same_t s h1), fl_rep r1' hc.1, fls_rep h2 hc.2, ?_⟩)
        rw [if_neg (by decide), any_rep r1' hc.1 h2 hc.2]
        exact k _ _ _ _ (Grow.val s rbl)
    · cases q
  · split at q
    · rename_i hc
      cases q
      obtain ⟨a, rfl, h1⟩ := rps_dict s r2
      exact .inr ⟨a, I, _, _, rfl, s, h1, rps_rp r1 (okK_isL hc), hc, by simpa using k _ _ _ _ (Grow.val s rbl)⟩
    · cases q
  · cases q
theorem os_ninA : OpS K (two (rNinA K)) (on2 pNinA) := ops2 fun v u d e I H Q o s r1 r2 q k => by
  unfold pNinA at q
  split at q
  · exact .inl (.inl (os_nin [v, u] [_, _] I H Q o s (.cons r1 (.cons r2 .nil)) q k))
  · split at q
    · rename_i hc
      cases q
      have r1' := rps_fl r1 hc.1
      cases rps_tup r2 with
      | tup h1 h2 =>
        refine .inl (.inr ⟨_, _, rfl, .inr (same_t s h1), fl_rep r1' hc.1, fls_rep h2 hc.2, ?_⟩)
        rw [if_pos rfl, any_rep r1' hc.1 h2 hc.2]
        exact k _ _ _ _ (Grow.val s rbl)
    · cases q
  · split at q
    · rename_i hc
      cases q
      obtain ⟨a, rfl, h1⟩ := rps_dict s r2
      exact .inr ⟨a, I, _, _, rfl, s, h1, rps_rp r1 (okK_isL hc), hc, by simpa using k _ _ _ _ (Grow.val s rbl)⟩
    · cases q
  · cases q
def pDivW : PyData → PyData → Option O
  | .int i, .int j => if 0 < j ∧ j < 1000000000000000000000000000000 then some (.fr (.int (i / j))) else none
  | _, _ => none
theorem os_divW : OpS K (two (rI CDivW fun i j => .int (i / j))) (on2 pDivW) := ops2 fun v u d e I H Q o s r1 r2 q k => by
  unfold pDivW at q
  split at q
  · split at q
    · rename_i hc
      cases q
      rw [r1.int, r2.int]
      refine ⟨_, _, rfl, rfl, ⟨hc.1, ?_⟩, k _ _ _ _ (Grow.val s (.int _))⟩
      exact Nat.lt_of_lt_of_le (PySem.Flt.log2_lt_of (k := 100) (by decide) (by omega)) (by decide)
    · cases q
  · cases q
def fWb (vs : List Nat) (f : SF) : SF := fun env => f (wipeE env vs)
theorem ds_wb {g : G} {X : Cx} {st : Stmt} {f : SF} (vs : List Nat) (h : DS g X st f) : DS g X st (fWb vs f) := PS.imp h fun D σ H q => by
  obtain ⟨I, env, F, s, p⟩ := q
  have st : Step I H (Ow F) I H (Ow (clF F vs)) := Step.refl.less fun a h => clF_ow h
  exact ⟨I, wipeE env vs, clF F vs, s.forget vs, post_mono p (fun r z => FlP_step st z) fun x z => err_step st z⟩
theorem a_wb (vs : List Nat) (f : SF) (env : Dy.Env) : fWb vs f env = f (wipeE env vs) := rfl
theorem q_divW (i j : Int) : pDivW (.int i) (.int j) = if 0 < j ∧ j < 1000000000000000000000000000000 then some (.fr (.int (i / j))) else none := rfl
end
end Dy
namespace Dy
open PySem PySem.Spec PyProof.Rows L2
theorem tuple_mul1 (l : Addr) (items : Array Value) (n : Nat) (dd : Option Addr) (sl : Array (Option Value)) (u : Tok) :
    Meets (Builtin.«tuple.__mul__» ⟨[.ref l, .int 1 u], []⟩) (fun _ R s => s.heap.get? l = some { cls := .type "tuple", dict := dd, data := .seq items n, slots := sl } ∧
      R (.ok (.ret (Value.ref l))) s) :=
  .of_wp fun prog w A R s h => by
    obtain ⟨hp, g, d, tk, os⟩ := s
    obtain ⟨hl, h⟩ := h
    have f1 := AutoSeq1.idx_int
    have c1 : (items.isEmpty || (1 : Int) == 1) = true := by simp
    wp_walk using wpAny_loadPart' hl
    exact ⟨_, rfl, h⟩
theorem tuple_mul0 (l : Addr) (items : Array Value) (n : Nat) (dd : Option Addr) (sl : Array (Option Value)) (x : Int) (u : Tok) (c0 : (decide (x < -(2 ^ 63)) || decide (x ≥ 2 ^ 63)) = false) (c1 : (items.isEmpty || x == 1) = false) (c2 : (decide (x ≤ 0) || items.isEmpty) = true) :
    Meets (Builtin.«tuple.__mul__» ⟨[.ref l, .int x u], []⟩) (fun _ R s => s.heap.get? l = some { cls := .type "tuple", dict := dd, data := .seq items n, slots := sl } ∧
      R (.ok (.ret (Value.ref s.heap.objs.size))) { s with heap := s.heap.push { cls := Value.type "tuple", data := Data.seq #[] }, toks := s.toks }) :=
  .of_wp fun prog w A R s h => by
    obtain ⟨hp, g, d, tk, os⟩ := s
    obtain ⟨hl, h⟩ := h
    have f1 := AutoSeq1.idx_int
    wp_walk using wpAny_loadPart' hl
    repeat (first
      | (refine wpAny_ite_false (decide_eq_false (by rw [c0]; exact Bool.false_ne_true)) ?_; wp_walk using wpAny_loadPart' hl)
      | (refine wpAny_ite_false (decide_eq_false (by rw [c1]; exact Bool.false_ne_true)) ?_; wp_walk using wpAny_loadPart' hl)
      | (refine wpAny_ite_true (decide_eq_true (by rw [c2])) ?_; wp_walk using wpAny_loadPart' hl))
    exact ⟨_, rfl, h⟩
def rRepT1 (K : PySem.W.Frag) : R2 := fun x y H Q => ∃ l k xs, x = .ref l ∧ y = .int k ∧ SqT K H l xs ∧ xs ≠ [] ∧ -1000 ≤ k ∧ ((k = 1 ∧ Q (.ref l) H) ∨ (k ≤ 0 ∧ ∀ p, H p = none → Q (.ref p) (upd H p (.tup []))))
theorem op_repT1 {X : Cx} : OpR X (binaryOp .Mult) (rRepT1 X.K) := by
  intro pins s σ H x y v u Q I rx ry h
  obtain ⟨l, k, xs, rfl, rfl, hT, hne, h1, q⟩ := h
  cases rx
  obtain ⟨t, rfl⟩ := ry
  obtain ⟨its, r, ⟨⟨cls, dd, data, sl⟩, ho, hc, n, hd⟩, hs⟩ := I.tuple hT
  simp only at hc hd
  subst hc hd
  have hle : its.length = xs.length := r.length.symm
  have hn : its ≠ [] := fun e => hne (by
    rw [e] at hle
    exact List.eq_nil_of_length_eq_zero hle.symm)
  have hi : its.toArray.isEmpty = false := by
    cases its with
    | nil => exact absurd rfl hn
    | cons a b => rfl
  rcases q with ⟨rfl, q⟩ | ⟨h0, q⟩
  · refine wpAny_binaryOp_repeat_ref (T := "tuple") (U := "int") (by decide) ⟨_, ho, rfl⟩ (fun s' => typeIs_int s' 1 t) noFill_tuple_mul F.fills_int_mul F.slot_int_rmul repeat_tuple F.slot_int_index.lookup
      (call_meets F.slot_int_rmul (typeIs_int s 1 t) F.entry_int_rmul (F.args_int_rmul_2 _ _) (int_rmul_tuple 1 t l its.toArray n dd sl)
        ⟨ho, rfl, ⟨_, ho, rfl⟩, call_meets F.slot_tuple_mul ⟨_, ho, rfl⟩ F.entry_tuple_mul (F.args_tuple_mul_2 _ _) (tuple_mul1 l its.toArray n dd sl t) ⟨ho, ?_⟩⟩)
    exact ⟨.ref l, H, I, rfl, q⟩
  · have c0 : (decide (k < -(2 ^ 63)) || decide (k ≥ 2 ^ 63)) = false := by
      rw [decide_eq_false (by omega), decide_eq_false (by omega)] <;> rfl
    have c1 : (its.toArray.isEmpty || k == 1) = false := by
      rw [hi, Bool.false_or]
      exact beq_eq_false_iff_ne.mpr (by omega)
    have c2 : (decide (k ≤ 0) || its.toArray.isEmpty) = true := by
      rw [decide_eq_true h0]; rfl
    refine wpAny_binaryOp_repeat_ref (T := "tuple") (U := "int") (by decide) ⟨_, ho, rfl⟩ (fun s' => typeIs_int s' k t) noFill_tuple_mul F.fills_int_mul F.slot_int_rmul repeat_tuple F.slot_int_index.lookup
      (call_meets F.slot_int_rmul (typeIs_int s k t) F.entry_int_rmul (F.args_int_rmul_2 _ _) (int_rmul_tuple k t l its.toArray n dd sl)
        ⟨ho, rfl, ⟨_, ho, rfl⟩, call_meets F.slot_tuple_mul ⟨_, ho, rfl⟩ F.entry_tuple_mul (F.args_tuple_mul_2 _ _) (tuple_mul0 l its.toArray n dd sl k t c0 c1 c2) ⟨ho, ?_⟩⟩)
    refine ⟨.ref s.heap.objs.size, _, I.laid (t' := s.toks) (o := .tup []) (fun b ob q => Heap.get?_push_of_some _ q) (Nat.le_refl _) ?_, rfl, q _ (I.hok.fresh (Nat.le_refl _))⟩
    exact ⟨Nat.zero_le _, [], .nil, IsTup.new _ _⟩
def pMulA : PyData → PyData → Option O
  | .tuple xs, .int k => if xs.length ≤ 1000 ∧ -1000 ≤ k ∧ k ≤ 1000 ∧ xs ≠ [] then some (.fr (.tuple (List.replicate k.toNat xs).flatten)) else none
  | d, e => pMul d e
def rMulB (K : PySem.W.Frag) : R2 := fun x y H Q => rMulA K x y H Q ∨ rRepT1 K x y H Q
theorem op_mulB {X : Cx} : OpR X (binaryOp .Mult) (rMulB X.K) := op_mulA.or op_repT1
theorem os_mulB {K : PySem.W.Frag} : OpS K (two (rMulB K)) (on2 pMulA) := ops2 fun v u d e I H Q o s r1 r2 q k => by
  unfold pMulA at q
  split at q
  · rename_i xs n
    split at q
    · rename_i hc
      cases q
      by_cases h2 : 2 ≤ n
      · refine .inl (os_mul [v, u] [_, _] I H Q _ s (.cons r1 (.cons r2 .nil)) ?_ k)
        show (if _ then _ else _) = _
        rw [if_pos ⟨hc.1, h2, hc.2.2.1, hc.2.2.2⟩]
      · have hu := r2.int
        subst hu
        cases rps_tup r1 with
        | tup h1 ra =>
          rename_i a vs
          refine .inr ⟨a, n, vs, rfl, rfl, same_t s h1, fun z => ?_, hc.2.1, ?_⟩
          · subst z; have := ra.length; exact hc.2.2.2 (List.length_eq_zero_iff.mp this.symm)
          · by_cases h1' : n = 1
            · left
              subst h1'
              refine ⟨rfl, k _ _ I [] ?_⟩
              have : (List.replicate (1 : Int).toNat xs).flatten = xs := by simp
              rw [this]
              exact Grow.val s (.tup h1 ra)
            · right
              have : (List.replicate n.toNat xs).flatten = [] := by
                have : n.toNat = 0 := by omega
                rw [this]; rfl
              refine ⟨by omega, fun p np => ?_⟩
              rw [this] at k
              exact k _ _ _ _ (Grow.tup s np .nil)
    · cases q
  · exact .inl (os_mul [v, u] [_, _] I H Q o s (.cons r1 (.cons r2 .nil)) q k)
theorem q_mulAI (i j : Int) : pMulA (.int i) (.int j) = pMul (.int i) (.int j) := rfl
theorem q_mulAL (xs : List PyData) (j : Int) : pMulA (.list xs) (.int j) = pMul (.list xs) (.int j) := rfl
end Dy
namespace Dy
open PySem PySem.Spec PyProof.Rows L2
/-- what stands for a dict -/
def DiOb (K : PySem.W.Frag) (I : Hp) (ob : HO) (a : Addr) (es : List (PyData × PyData)) : Prop := (∃ kvs, ob = .dK kvs ∧ RpKv K I kvs es) ∨ ∃ ts, ob = dN a ts ∧ RpKt K I ts es
theorem DiOb.at {K : PySem.W.Frag} {I H : Hp} {ob : HO} {a : Addr} {es : List (PyData × PyData)} (h : DiOb K I ob a es) (e : H a = some ob) : DiO K I H a es := by
  rcases h with ⟨kvs, rfl, h⟩ | ⟨ts, rfl, h⟩
  · exact .inl ⟨kvs, e, h⟩
  · exact .inr ⟨ts, e, h⟩
section
variable {X : Cx} {pins : List (Addr × Obj)} {σ : St} {I H : Hp} {s : Shared} {a : Addr} {es : List (PyData × PyData)} {k d : PyData} {y v : V} {u r : Value} {A : Around} {E : Value → Shared → Prop}
end
section
variable {X : Cx}
variable {o e : Expr} {es : List Expr} {to : TE} {t : TA} {name : Str} {apos cpos : Pos} {id : String} {r : V → List V → Hp → VK → Prop}
end
section
variable {g : G} {X : Cx} {a b c e : Expr} {es : List Expr} {pos p1 p2 px : Pos} {σ : St} {H I : Hp} {env : Env} {F : Nat → List Addr} {D : Ends} {st : Stmt} {sts : List Stmt}
def fNewD : EF := fun env => .ok (.od [], env)
theorem de_dnew : DE g X (.Dict [] [] pos) fNewD := PE.imp pe_dnewK fun σ H Q q => by
  obtain ⟨I, env, F, s, p⟩ := q
  intro x hx
  refine p _ _ (Grow.aft (I' := I) (R := [x]) ⟨⟨x, rfl, rfl, .inl ⟨[], upd_same, .nil⟩⟩, Same.refl _, same_new hx, s.sub.trans (same_new hx), fun a h => by simp at h; subst h; exact hx, fun a h => by simp at h; subst h; exact none_of_same s.sub hx, fun _ _ h => .inl h⟩ s)
end
end Dy
namespace Dy
open PySem PySem.Spec PyProof.Rows L2 HT
section
variable {prog : Program} {w : World} {A : Around} {E : Value → Shared → Prop} {s : Shared}
theorem sliceApplied_rev {sl : Addr} {vs : Value} {n : Nat} {Q : Int × Int × Nat → Shared → Prop} (hs : s.heap.IsSliceOf sl .none .none vs) (ps : IsPart vs (some (-1))) (h : Q ((n : Int) - 1, -1, n) s) :
    wpAny (model prog w) A (Builtin.Slice.sliceApplied (.ref sl) (pure (n : Int))) Q E s := by
  obtain ⟨os, hos, hcs, hds⟩ := id hs
  unfold Builtin.Slice.sliceApplied Builtin.Slice.sliceFields
  refine wpAny_bind (wpAny_bind (wpAny_field hos hds (x := .none) rfl (wpAny_bind (wpAny_field hos hds (x := .none) rfl (wpAny_bind (wpAny_field hos hds (x := vs) rfl (wpAny_pure ?_)))))))
  refine wpAny_bind (slicePart_ ps ?_)
  show wpAny _ _ (if ((-1 : Int) == 0) = true then _ else _) _ _ s
  rw [if_neg (by decide)]
  refine wpAny_bind (slicePart_ .none (wpAny_bind (slicePart_ .none (wpAny_bind (wpAny_pure ?_)))))
  show wpAny _ _ (pure ((n : Int) - 1, (-1 : Int), Builtin.Slice.slicePlaces ((n : Int) - 1) (-1) (-1))) _ _ s
  have e : Builtin.Slice.slicePlaces ((n : Int) - 1) (-1) (-1) = n := by
    unfold Builtin.Slice.slicePlaces
    have h1 : ¬ ((-1 : Int) > 0) := by decide
    simp only [h1, if_false]
    split
    · rw [show (- -1 : Int) = 1 by decide, Int.ediv_one]; omega
    · omega
  rw [e]
  exact wpAny_pure h
theorem pick_rev (xs : Array Value) : ((List.range xs.size).filterMap fun (k : Nat) => xs[((xs.size : Int) - 1 + (k : Int) * -1).toNat]?).toArray = xs.toList.reverse.toArray := by
  congr 1
  have e : ((List.range xs.size).filterMap fun (k : Nat) => xs[((xs.size : Int) - 1 + (k : Int) * -1).toNat]?) = ((List.range xs.size).map fun k => xs.size - 1 - k).filterMap (xs[·]?) := by
    rw [List.filterMap_map]
    congr 1
    funext k
    show xs[((xs.size : Int) - 1 + (k : Int) * -1).toNat]? = xs[xs.size - 1 - k]?
    congr 1
    omega
  rw [e, PySem.W.krv_range, List.filterMap_reverse, PySem.W.krv_all]
theorem getItem_tuple_rev {t sl : Addr} {items : Array Value} {vs : Value} {Q : Value → Shared → Prop} (ht : IsTup s.heap t items) (hs : s.heap.IsSliceOf sl .none .none vs) (ps : IsPart vs (some (-1)))
    (h : Q (.ref s.heap.objs.size) { s with heap := s.heap.push { cls := .type "tuple", data := .seq items.toList.reverse.toArray } }) (hsz : items.size ≤ sizeLine) : wpAny (model prog w) A (getItem (.ref t) (.ref sl)) Q E s := by
  have htake : sizeOk (.seq items.toList.reverse.toArray) := by
    show items.toList.reverse.toArray.size ≤ sizeLine
    simpa using hsz
  obtain ⟨os, hos, hcs, hds⟩ := id hs
  have hTs : s.TypeIs (.ref sl) "slice" := ⟨os, hos, hcs⟩
  unfold getItem
  try with_reducible refine wpAny_holding ?_
  first | refine wpAny_bind (wpAny_pure ?_) | skip
  refine wpAny_bind (wpAny_sequenceKey ht.typeIs (by decide) ?_)
  refine wpAny_bind (wpAny_callSpecial?_slot (name := Str.ofString "__getitem__") ht.typeIs PyProof.Rows.slot_tuple_getitem
    (wpAny_call_entry PyProof.Rows.slot_tuple_getitem ht.typeIs entry_tuple_getitem ?_ (args_tuple_getitem _ _)))
  show wpAny _ _ (Builtin.Tuple.tupleItemsOf (.ref t) >>= _) _ _ s
  refine wpAny_bind (tupleItemsOf_ ht ?_)
  refine wpAny_bind (wpAny_typeOf hTs ?_)
  rw [if_pos (by decide)]
  refine wpAny_bind (sliceApplied_rev hs ps ?_)
  have hno : ¬ ((((items.size : Int) - 1) == 0 && (-1 : Int) == 1 && items.size == items.size) = true) := by
    intro q
    rw [Bool.and_eq_true, Bool.and_eq_true] at q
    exact absurd q.1.2 (by decide)
  show wpAny _ _ (if (((items.size : Int) - 1) == 0 && (-1 : Int) == 1 && items.size == items.size) = true then _ else _) _ _ s
  rw [if_neg hno, pick_rev]
  first
    | exact wpAny_bind (m := Builtin.Tuple.tupleExact _) (wpAny_newObj_type (wpAny_pure ⟨_, rfl, wpAny_pure h⟩) htake)
    | exact wpAny_bind (m := Builtin.Tuple.tupleExact _) (wpAny_newObj_type (wpAny_bind (wpAny_pure (wpAny_pure ⟨_, rfl, wpAny_pure h⟩))) htake)
    | exact wpAny_bind (wpAny_bind (m := Builtin.Tuple.tupleExact _) (wpAny_newObj_type (wpAny_pure (wpAny_pure ⟨_, rfl, wpAny_pure h⟩)) htake))
    | exact wpAny_bind (wpAny_bind (m := Builtin.Tuple.tupleExact _) (wpAny_newObj_type (wpAny_pure ⟨_, rfl, wpAny_pure h⟩) htake))
end
section
variable {X : Cx}
/-- xs[::-1] of lists and tuples -/
def tRevA (K : PySem.W.Frag) (te : TE) : TE := fun σ H Q => te σ H fun x H1 => ∃ a xs, x = .ref a ∧ ((SqL K H1 a xs ∧ ∀ p, H1 p = none → Q (.ref p) (upd H1 p (.lst xs.reverse))) ∨ (SqT K H1 a xs ∧ ∀ p, H1 p = none → Q (.ref p) (upd H1 p (.tup xs.reverse))))
theorem pe_revA {e : Expr} {te : TE} {k : Nat} {p1 p2 p3 pos : Pos} (he : PE X e te) : PE X (.Subscript e (.Slice none none (some (.UnaryOp .USub (.Constant (.int 1) k p1) p2)) p3) pos) (tRevA X.K te) := by
  refine ⟨fun pins s σ H Q I h => ?_⟩
  refine Subscript_ (thn (he.run pins s σ H _ I h) fun v s1 ⟨x, H1, I1, r1, q1⟩ => ?_)
  obtain ⟨a, xs, ex, q1⟩ := q1
  subst ex
  cases r1
  have hst : PO X (some (.UnaryOp .USub (.Constant (.int 1) k p1) p2)) (tPart (tUn (rU fun i => .int (-i)) (tC (.int 1)))) := po_some (pe_un un_neg pe_int)
  refine wpAny_Slice (thn (po_none.run pins s1 σ H1 (fun o H2 => o = none ∧ H2 = H1) I1 ⟨rfl, rfl⟩) fun vl s2 ⟨l, H2, I2, pl, el, e2⟩ => ?_)
  subst el e2
  refine thn (po_none.run pins s2 σ H2 (fun o H3 => o = none ∧ H3 = H2) I2 ⟨rfl, rfl⟩) fun vu s3 ⟨u, H3, I3, pu, eu, e3⟩ => ?_
  subst eu e3
  refine thn (hst.run pins s3 σ H3 (fun o H4 => o = some (-1) ∧ H4 = H3) I3 ⟨1, rfl, -1, rfl, rfl, rfl⟩) fun vs s4 ⟨o, H4, I4, ps, eo, e4⟩ => ?_
  subst eo e4
  have I5 : Inv X pins σ H4 { s4 with heap := s4.heap.push { cls := .type "slice", data := .fields #[vl, vu, vs] } } := I4.kept (t' := s4.toks) fun b ob q => Heap.get?_push_of_some _ q
  show wpAny (model X.prog X.w) X.A (subscriptTail e (.Slice none none (some (.UnaryOp .USub (.Constant (.int 1) k p1) p2)) p3) (.ref a) (.ref s4.heap.objs.size)) (EP X pins σ Q) X.xe { s4 with heap := s4.heap.push { cls := .type "slice", data := .fields #[vl, vu, vs] } }
  rcases q1 with ⟨hx, q⟩ | ⟨hx, q⟩
  · obtain ⟨its, r, ht, hz⟩ := I5.list hx
    have hlen := r.length
    refine tail_any (ops := [.ref a, .ref s4.heap.objs.size]) ht.isList.typeIs (PySem.slot_list_getitem.lookup) ?_ (by with_unfolding_all rfl)
    refine wpAny_getItem_list_slice ht.isList (Heap.IsSliceOf.new _ vl vu vs) pl pu ps (by decide) ?_ (by rw [List.size_toArray]; omega)
    rw [PySem.W.krv_pick]
    refine ⟨.ref _, _, I5.laid (t' := s4.toks) (o := .lst xs.reverse) (fun b ob q => Heap.get?_push_of_some _ q) (Nat.le_refl _) ?_, rfl, q _ (I5.hok.fresh (Nat.le_refl _))⟩
    exact ⟨by rw [List.length_reverse]; exact hz, _, 0, r.reverse, Heap.get?_push_size _ rfl⟩
  · obtain ⟨its, r, ht, hz⟩ := I5.tuple hx
    have hlen := r.length
    refine tail_any (ops := [.ref a, .ref s4.heap.objs.size]) ht.typeIs (PyProof.Rows.slot_tuple_getitem.lookup) ?_ (by with_unfolding_all rfl)
    cases pl; cases pu
    refine getItem_tuple_rev ht (Heap.IsSliceOf.new _ .none .none vs) ps ?_ (by rw [List.size_toArray]; omega)
    refine ⟨.ref _, _, I5.laid (t' := s4.toks) (o := .tup xs.reverse) (fun b ob q => Heap.get?_push_of_some _ q) (Nat.le_refl _) ?_, rfl, q _ (I5.hok.fresh (Nat.le_refl _))⟩
    exact ⟨by rw [List.length_reverse]; exact hz, _, r.reverse, IsTup.new _ _⟩
end
def pRevA : PyData → Option O
  | .list xs => some (.ol xs.reverse)
  | .tuple xs => some (.fr (.tuple xs.reverse))
  | _ => none
section
variable {g : G} {X : Cx} {a b c e : Expr} {es : List Expr} {pos p1 p2 p3 : Pos} {σ : St} {H I : Hp} {env : Env} {F : Nat → List Addr} {D : Ends}
theorem de_revA {x : AF} {k : Nat} (ha : DX g X a x) (hK : X.K = g.K := by rfl) : DE g X (.Subscript a (.Slice none none (some (.UnaryOp .USub (.Constant (.int 1) k p1) p2)) p3) pos) (fOp (on1 pRevA) [x]) :=
  PE.imp (pe_revA ha) fun σ H Q h => by
    refine tArg_mono (tA1 (op_key (r := one fun v H1 Q => ∃ a xs, v = V.ref a ∧ ((SqL X.K H1 a xs ∧ ∀ p, H1 p = none → Q (.ref p) (upd H1 p (.lst xs.reverse))) ∨ (SqT X.K H1 a xs ∧ ∀ p, H1 p = none → Q (.ref p) (upd H1 p (.tup xs.reverse))))) ?_ h)) fun v H1 q => q
    refine ops1 fun v d I H Q o s r1 q k => ?_
    unfold pRevA at q
    split at q
    · cases q
      obtain ⟨a, vs, rfl, h1, h2⟩ := r1.lst s
      exact ⟨a, vs, rfl, .inl ⟨by rw [hK]; exact h1.sq, fun p np => k _ _ _ _ (Grow.lst s np h2.rev)⟩⟩
    · cases q
      obtain ⟨a, vs, rfl, h1, h2⟩ := r1.tup s
      exact ⟨a, vs, rfl, .inr ⟨by rw [hK]; exact h1, fun p np => k _ _ _ _ (Grow.tup s np h2.rev)⟩⟩
    · cases q
end
end Dy
namespace Dy
open PySem PySem.Spec PyProof.Rows L2
section
variable {g : G} {X : Cx} {e : Expr} {pos : Pos} {σ : St}
end
end Dy
namespace Dy
open PySem PySem.Spec PyProof.Rows L2
def isKy : PyData → Bool
  | .int _ => true
  | .str _ => true
  | _ => false
mutual
def ndd : PyData → Bool
  | .none => true
  | .bool _ => true
  | .int _ => true
  | .str _ => true
  | .tuple xs => ndds xs
  | .list _ => false
  | .dict es => nddKv es
def ndds : List PyData → Bool
  | [] => true
  | d :: ds => ndd d && ndds ds
def nddKv : List (PyData × PyData) → Bool
  | [] => true
  | (k, d) :: es => (isKy k && ndd d) && nddKv es
end
section
variable {X : Cx} {pins : List (Addr × Obj)} {σ : St} {I H : Hp} {s : Shared}
theorem key_reads {P : Program} {w : World} {k : Key} {u : Value} {h : Heap} (e : (mixKind P w).is k u = true) : Reads h u (kD k) [] := by
  rcases keyIs_shape (show keyIs k u = true from e) with ⟨i, t, rfl, rfl⟩ | ⟨x, t, rfl, rfl⟩
  · exact Reads.int i t
  · exact Reads.str x t
mutual
theorem Rp.readsD (J : Inv X pins σ H s) (sm : Same I H) : ∀ {v : V} {d : PyData}, Rp X.K I v d → ndd d = true → ∀ u : Value, RelV v u → ∃ as, Reads s.heap u d as ∧ sysModules ∉ as
  | _, _, .non, _, u, r => by cases r; exact ⟨_, Reads.none, by simp⟩
  | _, _, .bl b, _, u, r => by cases r; exact ⟨_, Reads.bool b, by simp⟩
  | _, _, .int i, _, u, r => by obtain ⟨t, rfl⟩ := r; exact ⟨_, Reads.int i t, by simp⟩
  | _, _, .str x, _, u, r => by obtain ⟨t, rfl⟩ := r; exact ⟨_, Reads.str x t, by simp⟩
  | _, _, .lst h a, c, u, r => by simp [ndd] at c
  | _, _, .tup h a, c, u, r => by
    cases r
    obtain ⟨its, rv, ⟨o, ho, hc, n, hd⟩, _⟩ := J.tuple (same_t sm h)
    obtain ⟨as, hr, hn⟩ := RpAll.readsD J sm a (by simpa [ndd] using c) its rv
    exact ⟨_, Reads.tuple ho hc hd hr, hn⟩
  | _, _, .dic h a, c, u, r => by
    cases r
    obtain ⟨z, hd, vs, rel, o, es, ep, ho, hc, hdt, _, pr, _⟩ := dk_of J.hok (sm _ _ h)
    obtain ⟨as, bs, r1, r2, n1, n2⟩ := RpKv.readsD J sm a (by simpa [ndd] using c) vs es.toList rel pr
    refine ⟨_, Reads.dict ho hc.1 hdt r1 r2, ?_⟩
    have n0 := beq_eq_false_iff_ne.mp hd
    simp only [List.cons_append, List.mem_cons, List.mem_append, not_or]
    exact ⟨fun e => n0 e.symm, n1, n2⟩
  | _, _, .dit (ts := ts) h a, c, u, r => by
    cases r
    have e := J.hok _ _ (sm _ _ h)
    obtain ⟨⟨hd, _, ys, pr, o, es, ep, ho, hc, hdt, hes, _⟩, _⟩ := e
    cases a with
    | nil =>
      cases pr
      have he : es.toList = [] := hes X.w
      refine ⟨_, Reads.dict ho hc.1 hdt (by rw [he]; exact ReadsAll.nil) (by rw [he]; exact ReadsAll.nil), ?_⟩
      have n0 := beq_eq_false_iff_ne.mp hd
      simp only [List.cons_append, List.mem_cons, List.mem_append, not_or]
      exact ⟨fun e => n0 e.symm, by simp, by simp⟩
    | cons h1 h2 h3 h4 t =>
      cases pr with
      | cons p1 p2 =>
        have e := p1.2.1
        simp only at e
        subst e
        simp only [ndd, nddKv, Bool.and_eq_true] at c
        exfalso
        cases h3 <;> simp [isKy] at c
theorem RpAll.readsD (J : Inv X pins σ H s) (sm : Same I H) : ∀ {vs : List V} {ds : List PyData}, RpAll X.K I vs ds → ndds ds = true → ∀ us : List Value, Vals vs us → ∃ as, ReadsAll s.heap us ds as ∧ sysModules ∉ as
  | _, _, .nil, _, us, r => by cases r; exact ⟨_, ReadsAll.nil, by simp⟩
  | _, _, .cons h t, c, us, r => by
    simp only [ndds, Bool.and_eq_true] at c
    cases r with
    | cons r1 r2 =>
      obtain ⟨as, q1, n1⟩ := Rp.readsD J sm h c.1 _ r1
      obtain ⟨bs, q2, n2⟩ := RpAll.readsD J sm t c.2 _ r2
      exact ⟨_, ReadsAll.cons q1 q2, by simp [n1, n2]⟩
theorem RpKv.readsD (J : Inv X pins σ H s) (sm : Same I H) : ∀ {kvs : List (Key × V)} {es : List (PyData × PyData)}, RpKv X.K I kvs es → nddKv es = true → ∀ (vs : List (Key × Value)) (ds : List DictEntry), KV kvs vs → Pairs (mixKind X.prog X.w) ds vs →
    ∃ as bs, ReadsAll s.heap (ds.map (·.key)) (es.map (·.1)) as ∧ ReadsAll s.heap (ds.map (·.val)) (es.map (·.2)) bs ∧ sysModules ∉ as ∧ sysModules ∉ bs
  | _, _, .nil, _, vs, ds, r, pr => by
    cases r
    cases pr
    exact ⟨_, _, ReadsAll.nil, ReadsAll.nil, by simp, by simp⟩
  | _, _, .cons h t, c, vs, ds, r, pr => by
    simp only [nddKv, Bool.and_eq_true] at c
    cases r with
    | cons r1 r2 =>
      cases pr with
      | cons p1 p2 p3 =>
        obtain ⟨as, q1, n1⟩ := Rp.readsD J sm h c.1.2 _ r1.2
        obtain ⟨ks, bs, q2, q3, n2, n3⟩ := RpKv.readsD J sm t c.2 _ _ r2 p3
        have e1 := r1.1
        simp only at e1
        rw [← e1] at p1
        rw [← p2] at q1
        exact ⟨[] ++ ks, as ++ bs, ReadsAll.cons (key_reads p1) q2, ReadsAll.cons q1 q3, by simpa using n2, by simp [n1, n3]⟩
end
end
def rOkD (d : PyData) : Bool := ndd d && (d.showable && decide (d.depth ≤ 64 ∧ d.shown.length ≤ 16777216))
def pReprD (d : PyData) : Option O := if rOk d = true then some (.fr (.str d.shown)) else if rOkD d = true then some (.fr (.str d.shown)) else none
section
variable {X : Cx}
def rReprD (K : PySem.W.Frag) : List V → Hp → VK → Prop := fun xs H Q => rRepr K xs H Q ∨ ∃ x d I, xs = [x] ∧ Same I H ∧ Rp K I x d ∧ ndd d = true ∧ d.showable = true ∧ d.depth ≤ 64 ∧ d.shown.length ≤ sizeLine ∧ Q (.str d.shown) H
theorem cr_reprD {k : Nat} (hg : X.A.guards = some []) (hr : Room k X.A) : CallR X (.builtin "repr") (rReprD X.K) := by
  intro pins s σ H xs us Q J r h
  rcases h with h | ⟨x, d, I, rfl, sm, hd, hn, h1, h3, h4, q⟩
  · exact cr_repr hg hr pins s σ H xs us Q J r h
  obtain ⟨u, rfl, ru⟩ := vals1 r
  obtain ⟨as, rd, ns⟩ := Rp.readsD J sm hd hn u ru
  have hu := hr.un
  cases rd with
  | none => exact PySem.P.repr_of_none ⟨.str _, H, J.tok _, ⟨_, rfl⟩, q⟩
  | bool b => cases b <;> exact PySem.P.repr_of_bool ⟨.str _, H, J.tok _, ⟨_, rfl⟩, q⟩
  | int i t => exact PySem.P.repr_of_int (by simpa [PyData.showable] using h1) ⟨.str _, H, J.tok _, ⟨_, rfl⟩, q⟩
  | str y t => exact PySem.P.repr_of_str ⟨.str _, H, J.tok _, ⟨_, rfl⟩, q⟩ h4
  | list e1 e2 e3 e4 =>
    exact repr_of_reads' (.list e1 e2 e3 e4) h1 (fun _ => ns) hg (by omega) (fun _ _ z => z) (fun h' u tk k => ⟨.str _, H, J.kept (t' := tk) fun b ob q => k b ob q, ⟨_, rfl⟩, q⟩) h4
  | tuple e1 e2 e3 e4 =>
    exact repr_of_reads' (.tuple e1 e2 e3 e4) h1 (fun _ => ns) hg (by omega) (fun _ _ z => z) (fun h' u tk k => ⟨.str _, H, J.kept (t' := tk) fun b ob q => k b ob q, ⟨_, rfl⟩, q⟩) h4
  | dict e1 e2 e3 e4 e5 =>
    exact repr_of_reads' (.dict e1 e2 e3 e4 e5) h1 (fun _ => ns) hg (by omega) (fun _ _ z => z) (fun h' u tk k => ⟨.str _, H, J.kept (t' := tk) fun b ob q => k b ob q, ⟨_, rfl⟩, q⟩) h4
end
/-- for a dict of its own: what is frozen with it -/
theorem rps_rpD {K : PySem.W.Frag} {I H : Hp} {v : V} {d : PyData} (sm : Same I H) (h : RpS K I H v d) (n : ndd d = true) : ∃ I', Same I' H ∧ Rp K I' v d := by
  rcases h with h | ⟨a, vs, ds, rfl, rfl, h1, h2⟩ | ⟨a, es, rfl, rfl, h1⟩
  · exact ⟨I, sm, h⟩
  · simp [ndd] at n
  · have sm' : Same I (frz I H [a]) := fun b o e => by
      unfold frz
      split
      · rename_i hb
        exact sm _ _ e
      · exact e
    have ea : frz I H [a] a = H a := by unfold frz; rw [if_pos (by simp)]
    refine ⟨frz I H [a], frz_sub sm, ?_⟩
    rcases h1 with ⟨kvs, e, r⟩ | ⟨ts, e, r⟩
    · exact .dic (ea.trans e) (r.mono sm')
    · exact .dit (ea.trans e) (r.mono sm')
theorem os_reprD {K : PySem.W.Frag} : OpS K (rReprD K) (on1 pReprD) := ops1c fun v d I H Q o s r1 q k => by
  unfold pReprD at q
  split at q
  · rename_i hc
    refine .inl (os_repr [v] [d] I H Q o s (.cons r1 .nil) ?_ k)
    show pRepr d = some o
    unfold pRepr; rw [if_pos hc]; exact q
  · split at q
    · rename_i hc
      cases q
      unfold rOkD at hc
      simp only [Bool.and_eq_true, decide_eq_true_eq] at hc
      obtain ⟨c1, c2, c3, c4⟩ := hc
      obtain ⟨I', sm', rp⟩ := rps_rpD s r1 c1
      exact .inr ⟨v, d, I', rfl, sm', rp, c1, c2, c3, Nat.le_trans c4 (by decide), k _ _ _ _ (Grow.val s (.str _))⟩
    · cases q
section
variable {g : G} {X : Cx} {a b c e : Expr} {es : List Expr} {pos p1 p2 px : Pos} {σ : St} {H I : Hp} {env : Env} {F : Nat → List Addr} {D : Ends} {st : Stmt} {sts : List Stmt}
end
def fnNo : Fn := fun _ => .no
theorem callNo {T : List (Addr × Str)} {P : Program} {w : World} {K : PySem.W.Frag} {mg : Str → Option Value} {k : Nat} {x qual : Str} {st : Stmt} {f : Addr} {fd : FuncData} {ps : List Str} (F : Fun K x qual st f fd) (hm : mg x = some (.ref f)) (hb : Binds K fd ps []) : CallOk P w K mg T k x ps fnNo :=
  callOk_of F hm hb fun base => ⟨fun vs H Q E q => by obtain ⟨_, _, _, _, p⟩ := q; exact p.elim, fun A outer s H args us vs Q E _ _ _ _ _ q => by obtain ⟨_, _, _, _, p⟩ := q; exact p.elim⟩
/-- the mirror of such a def: so many calls deep -/
def rec (n N : Nat) (rp : List Nat) (b : Fn → SF) : Nat → Fn
  | 0 => fnNo
  | k + 1 => fnM n N rp (b (rec n N rp b k))
section
variable {X : Cx} {K : PySem.W.Frag}
end
end Dy
namespace Dy
open PySem PySem.Spec PyProof.Rows L2
section
variable {g : G} {X : Cx} {a b c e : Expr} {es : List Expr} {pos p1 p2 p3 px : Pos} {σ : St} {H I : Hp} {env : Env} {F : Nat → List Addr} {D : Ends} {st : Stmt} {sts : List Stmt}
end
end Dy
namespace Dy
open PySem PySem.Spec PyProof.Rows L2
open LamX (CodeO TabB LamS lamEnv lamCx)
section
variable {X : Cx} {pins : List (Addr × Obj)} {σ : L2.St} {H : Hp} {s : Shared}
end
end Dy
namespace Dy
open PySem PySem.Spec PyProof.Rows L2
open LamX (CodeO TabB LamS lamEnv lamCx)
section
variable {X : Cx} {pins : List (Addr × Obj)} {σ : L2.St} {H : Hp} {s : Shared}
end
end Dy
namespace Dy
open PySem PySem.Spec PyProof.Rows L2
open LamX (CodeO TabB LamS lamEnv lamCx)
section
variable {g : G} {X : Cx}
end
end Dy
namespace Dy
open PySem PySem.Spec PyProof.Rows L2
section
variable {X : Cx}
end
section
variable {g : G} {X : Cx} {a b c e : Expr} {es : List Expr} {pos p1 p2 p3 px : Pos} {σ : St} {H I : Hp} {env : Env} {F : Nat → List Addr} {D : Ends} {st : Stmt} {sts : List Stmt}
end
end Dy
namespace Dy
open PySem PySem.Spec PyProof.Rows L2
open LamX (TabB)
end Dy
namespace Dy
open PySem PySem.Spec PyProof.Rows L2
open LamX (TabB)
def CallB (P : Program) (w : World) (K : PySem.W.Frag) (mg : Str → Option Value) (base : Heap) (T : List (Addr × Str)) (k : Nat) (x : Str) (ps : List Str) (m : Fn) : Prop :=
  ∃ f fd, mg x = some (.ref f) ∧ PySem.W.keepIn K (.ref f) = true ∧ Binds K fd ps [] ∧ FnG P w K mg base k f fd ps (spD K mg T m)
theorem CallB.mono {P : Program} {w : World} {K : PySem.W.Frag} {mg : Str → Option Value} {base : Heap} {T : List (Addr × Str)} {j k : Nat} {x : Str} {ps : List Str} {m : Fn} (h : CallB P w K mg base T j x ps m) (l : j ≤ k) : CallB P w K mg base T k x ps m := by
  obtain ⟨f, fd, h1, h2, h3, h4⟩ := h
  exact ⟨f, fd, h1, h2, h3, h4.mono l⟩
section
variable {T : List (Addr × Str)} {g : G} {X : Cx} {k : Nat} {ps : List Str} {m : Fn} {x : Str} {p pos : Pos} {e : Expr} {es : List Expr} {as : List AF}
end
section
variable {g : G} {X : Cx} {a b c e : Expr} {es : List Expr} {pos p1 p2 p3 px : Pos} {L A : List Str} {pe : Str} {PEa : Addr}
end
end Dy
namespace Dy
open PySem PySem.Spec PyProof.Rows L2
section
variable {X : Cx} {K : PySem.W.Frag}
end
end Dy
namespace Dy
open PySem PySem.Spec PyProof.Rows L2
section
variable {g : G} {X : Cx} {a b c e : Expr} {es : List Expr} {pos p tpos : Pos} {σ : St} {H : Hp} {tg : Expr}
end
end Dy
namespace Q
open PySem Dy
open L2 (atI ixN)
abbrev fr (d : PyData) : Option O := some (.fr d)
abbrev ol (ds : List PyData) : Option O := some (.ol ds)
abbrev dN (n : Nat) : PyData := .int (n : Int)
section
variable (env : Dy.Env) (i j n m : Nat) (f k : EF) (s : SF) (vs : List Nat) (as : List AF)
theorem a_wp : fWp vs s env = s env >>= fun r => .ok (r.1, wipeE r.2 vs) := rfl
theorem a_fz : fFz vs s env = s env >>= fun r => .ok (r.1, frzE r.2 vs) := rfl
theorem a_fz0 : frzE env [] = env := rfl
theorem a_fz1 : frzE env (i :: vs) = match (frzE env vs)[i]? with | some (some o) => (frzE env vs).set i (some (.fr o.data)) | _ => frzE env vs := rfl
theorem a_ext : fExt i f env = match env[i]? with
  | some (some (.ol _)) => f env >>= fun r => match r.1 with
    | .ol ys => match r.2[i]? with
      | some (some (.ol xs)) => if xs.length + ys.length ≤ 1000000 then .ok (.nx, r.2.set i (some (.ol (xs ++ ys)))) else .no
      | _ => .no
    | _ => .no
  | _ => .no := rfl
theorem a_ins : fIns i as env = match env[i]? with
  | some (some (.ol _)) => evA as env >>= fun r => match r.2[i]? with
    | some (some (.ol xs)) => match insA xs (dvs r.1) with
      | some ys => .ok (.nx, r.2.set i (some (.ol ys)))
      | none => .no
    | _ => .no
  | _ => .no := rfl
theorem a_insA (xs : List PyData) (k : Int) (d : PyData) : insA xs (some [.int k, d]) = if xs.length < 1000000 ∧ 0 ≤ k ∧ k < 1000000 then some (xs.take k.toNat ++ [d] ++ xs.drop k.toNat) else none := rfl
theorem a_pop : fPop i env = match env[i]? with
  | some (some (.ol xs)) => match xs[xs.length - 1]? with
    | some d => .ok (.fr d, env.set i (some (.ol xs.dropLast)))
    | none => .no
  | _ => .no := rfl
theorem a_parN (is : List Nat) (fs : List EF) : fParN is fs env = evO fs env >>= fun r => match setO is r.1 r.2 with | some e => .ok (.nx, e) | none => .no := rfl
theorem a_evO0 : evO [] env = .ok ([], env) := rfl
theorem a_evO1 (fs : List EF) : evO (f :: fs) env = f env >>= fun r => evO fs r.2 >>= fun q => .ok (r.1 :: q.1, q.2) := rfl
theorem a_setO0 : setO [] [] env = some env := rfl
theorem a_setO1 (is : List Nat) (o : O) (os : List O) : setO (i :: is) (o :: os) env = if i < env.length then setO is os (env.set i (some o)) else none := rfl
theorem a_ix2 (y z : Dy.Env → Option Int) : fIx2 i y z env = match env[i]?, y env, z env with
  | some (some (.oo rs)), some k, some l => match ixN rs.length k with
    | some j => match rs[j]? with
      | some r => match atI r l with
        | some d => .ok (.fr d, env)
        | none => .no
      | none => .no
    | none => .no
  | _, _, _ => .no := rfl
theorem a_setII (y z : Dy.Env → Option Int) : fSetII i y z f env = f env >>= fun r => match r.2[i]?, y r.2, z r.2 with
  | some (some (.oo rs)), some k, some l => match ixN rs.length k with
    | some j => match rs[j]? with
      | some w => match ixN w.length l with
        | some m => .ok (.nx, r.2.set i (some (.oo (rs.set j (w.set m r.1.data)))))
        | none => .no
      | none => .no
    | none => .no
  | _, _, _ => .no := rfl
theorem a_zN : zN j env = match env[j]? with | some (some (.fr (.int n))) => some n | _ => none := rfl
theorem a_zC (n : Int) : zC n env = some n := rfl
theorem a_lcO (g : IF) (w : Tg) : fLcO g vs w f env = g env >>= fun r => lcO vs w f r.1 (wipeE r.2 vs) [] >>= fun q => .ok (.oo q.1, unw r.2 q.2 vs) := rfl
theorem q_starI (i : Int) (xs : List PyData) : pStar (.int i) (.list xs) = if xs.length < 100000 then some (.fr (.tuple (.int i :: xs))) else none := rfl
theorem q_starIT (i : Int) (xs : List PyData) : pStar (.int i) (.tuple xs) = if xs.length < 100000 then some (.fr (.tuple (.int i :: xs))) else none := rfl
theorem d_oo (rs : List (List PyData)) : (O.oo rs).data = .list (rs.map PyData.list) := rfl
end
structure Rk (n w : Nat) (d : PyData) : Prop where
  lay : d.canLay0 = true
  sho : d.showable = true
  dep : d.depth ≤ n
  wt : rw8 d ≤ w
theorem Rk.mono {n w n' w' : Nat} {d : PyData} (h : Rk n w d) (a : n ≤ n') (b : w ≤ w') : Rk n' w' d := ⟨h.lay, h.sho, Nat.le_trans h.dep a, Nat.le_trans h.wt b⟩
theorem Rk.bool (b : Bool) : Rk 0 5 (.bool b) := ⟨rfl, rfl, Nat.zero_le _, Nat.le_refl _⟩
theorem Rk.int {i : Int} (h : i.natAbs < 10 ^ 100) : Rk 0 1100 (.int i) := by
  have : i.natAbs.log2 < 1050 := Nat.lt_of_lt_of_le (PySem.Flt.log2_lt_of (k := 400) (by decide) (Nat.lt_trans h (by decide +kernel))) (by decide)
  refine ⟨rfl, decide_eq_true (by omega), Nat.zero_le _, ?_⟩
  show i.natAbs.log2 + 2 ≤ 1100; omega
theorem Rk.nat {i : Nat} (h : i < 10 ^ 100) : Rk 0 1100 (.int (i : Int)) := Rk.int (by simpa using h)
theorem Rk.all {n w : Nat} : ∀ {ds : List PyData}, (∀ d ∈ ds, Rk n w d) → PyData.canLayAll0 ds = true ∧ PyData.showableAll ds = true ∧ PyData.depthAll ds ≤ n ∧ rw8s ds ≤ ds.length * (w + 2)
  | [], _ => ⟨rfl, rfl, Nat.zero_le _, Nat.zero_le _⟩
  | d :: ds, h => by
    obtain ⟨a, b, c, e⟩ := Rk.all (ds := ds) fun x hx => h x (by simp [hx])
    have hd := h d (by simp)
    refine ⟨?_, ?_, ?_, ?_⟩
    · show (d.canLay0 && PyData.canLayAll0 ds) = true; rw [hd.lay, a]; rfl
    · show (d.showable && PyData.showableAll ds) = true; rw [hd.sho, b]; rfl
    · show max d.depth (PyData.depthAll ds) ≤ n; have := hd.dep; omega
    · show rw8 d + 2 + rw8s ds ≤ _; rw [List.length_cons, Nat.succ_mul]; have := hd.wt; omega
theorem Rk.tup {n w : Nat} {ds : List PyData} (h : ∀ d ∈ ds, Rk n w d) : Rk (n + 1) (ds.length * (w + 2) + 2) (.tuple ds) := by
  obtain ⟨a, b, c, e⟩ := Rk.all h
  exact ⟨by simpa [PyData.canLay0] using a, by simpa [PyData.showable] using b, by simp [PyData.depth]; omega, Nat.add_le_add_right e 2⟩
theorem Rk.lst {n w : Nat} {ds : List PyData} (h : ∀ d ∈ ds, Rk n w d) : Rk (n + 1) (ds.length * (w + 2) + 2) (.list ds) := by
  obtain ⟨a, b, c, e⟩ := Rk.all h
  exact ⟨by simpa [PyData.canLay0] using a, by simpa [PyData.showable] using b, by simp [PyData.depth]; omega, Nat.add_le_add_right e 2⟩
theorem Rk.shp {n w : Nat} {d : PyData} (h : Rk n w d) (hn : n ≤ 64) : shp d = true := by
  unfold Dy.shp SeqAt.shaped
  rw [h.lay, decide_eq_true (Nat.le_trans h.dep hn)]; rfl
theorem Rk.rOk {n w : Nat} {d : PyData} (h : Rk n w d) (hn : n ≤ 64) (hw : w ≤ 16777216) : rOk d = true := by
  unfold Dy.rOk
  rw [h.lay, h.sho, decide_eq_true ⟨Nat.le_trans h.dep hn, Nat.le_trans h.wt hw⟩]; rfl
theorem Rk.repr {n w : Nat} {d : PyData} (h : Rk n w d) (hn : n ≤ 64) (hw : w ≤ 16777216) : pRepr d = some (.fr (.str d.shown)) := by unfold pRepr; rw [if_pos (h.rOk hn hw)]
theorem pEq_int (i j : Int) : pEq (.int i) (.int j) = some (.fr (.bool (decide (i = j)))) := by
  have h : ∀ k : Int, shp (.int k) = true := fun k => by unfold shp SeqAt.shaped; simp [PyData.canLay0, PyData.depth]
  show (if shp (.int i) = true ∧ shp (.int j) = true then some (O.fr (PyData.bool (PyData.eqv (.int i) (.int j)))) else none) = _
  rw [if_pos ⟨h i, h j⟩]
  show some (O.fr (PyData.bool (PyData.eqv (.int i) (.int j)))) = _
  congr 3
theorem pNe_int (i j : Int) : pNe (.int i) (.int j) = some (.fr (.bool (!decide (i = j)))) := by
  have h : ∀ k : Int, shp (.int k) = true := fun k => by unfold shp SeqAt.shaped; simp [PyData.canLay0, PyData.depth]
  show (if shp (.int i) = true ∧ shp (.int j) = true then some (O.fr (PyData.bool (!PyData.eqv (.int i) (.int j)))) else none) = _
  rw [if_pos ⟨h i, h j⟩]
  show some (O.fr (PyData.bool (!PyData.eqv (.int i) (.int j)))) = _
  congr 3
theorem pEq_str (x y : Str) : pEq (.str x) (.str y) = some (.fr (.bool (decide (x = y)))) := rfl
theorem pNe_str (x y : Str) : pNe (.str x) (.str y) = some (.fr (.bool (!decide (x = y)))) := rfl
theorem pEq_T (xs ys : List PyData) (h : shp (.tuple xs) = true) (h' : shp (.tuple ys) = true) : pEq (.tuple xs) (.tuple ys) = some (.fr (.bool (PyData.eqvAll xs ys))) := by
  show (if _ then _ else _) = _
  rw [if_pos ⟨h, h'⟩]; simp [PyData.eqv]
theorem pEq_L (xs ys : List PyData) (h : shp (.list xs) = true) (h' : shp (.list ys) = true) : pEq (.list xs) (.list ys) = some (.fr (.bool (PyData.eqvAll xs ys))) := by
  show (if _ then _ else _) = _
  rw [if_pos ⟨h, h'⟩]; simp [PyData.eqv]
theorem pNe_L (xs ys : List PyData) (h : shp (.list xs) = true) (h' : shp (.list ys) = true) : pNe (.list xs) (.list ys) = some (.fr (.bool (!PyData.eqvAll xs ys))) := by
  show (if _ then _ else _) = _
  rw [if_pos ⟨h, h'⟩]; simp [PyData.eqv]
theorem eqvAll_nil (xs : List PyData) : PyData.eqvAll xs [] = xs.isEmpty := by cases xs <;> simp [PyData.eqvAll]
theorem shpT0 : shp (.tuple []) = true := (Rk.tup (n := 0) (w := 0) (ds := []) (by simp)).shp (by decide)
theorem shpL0 : shp (.list []) = true := (Rk.lst (n := 0) (w := 0) (ds := []) (by simp)).shp (by decide)
theorem pEq_T0 {xs : List PyData} (h : shp (.tuple xs) = true) : pEq (.tuple xs) (.tuple []) = some (.fr (.bool xs.isEmpty)) := by rw [pEq_T _ _ h shpT0, eqvAll_nil]
theorem pEq_L0 {xs : List PyData} (h : shp (.list xs) = true) : pEq (.list xs) (.list []) = some (.fr (.bool xs.isEmpty)) := by rw [pEq_L _ _ h shpL0, eqvAll_nil]
theorem pNe_L0 {xs : List PyData} (h : shp (.list xs) = true) : pNe (.list xs) (.list []) = some (.fr (.bool (!xs.isEmpty))) := by rw [pNe_L _ _ h shpL0, eqvAll_nil]
theorem atI_nat {α : Type} (xs : List α) (k : Nat) : atI xs (k : Int) = xs[k]? := by
  unfold atI ixN
  rw [if_pos (by omega)]
  by_cases h : k < xs.length
  · rw [if_pos (by omega)]; rfl
  · rw [if_neg (by omega), List.getElem?_eq_none (by omega)]; rfl
theorem atI_0 {α : Type} (xs : List α) : atI xs 0 = xs[0]? := atI_nat xs 0
theorem atI_1 {α : Type} (xs : List α) : atI xs 1 = xs[1]? := atI_nat xs 1
theorem atI_2 {α : Type} (xs : List α) : atI xs 2 = xs[2]? := atI_nat xs 2
theorem atI_3 {α : Type} (xs : List α) : atI xs 3 = xs[3]? := atI_nat xs 3
theorem atI_m1 {α : Type} (xs : List α) : atI xs (-1) = xs.getLast? := by
  cases h : xs.getLast? with
  | none =>
    have : xs = [] := by simpa using h
    subst this; rfl
  | some x =>
    obtain ⟨ys, rfl⟩ := List.getLast?_eq_some_iff.mp h
    exact L2.atI_last ys x
theorem pIxL (xs : List PyData) (i : Int) : pIx (.list xs) (.int i) = (atI xs i).map .fr := rfl
theorem pIxT (xs : List PyData) (i : Int) : pIx (.tuple xs) (.int i) = (atI xs i).map .fr := rfl
theorem ixN_nat (n k : Nat) (h : k < n) : ixN n (k : Int) = some k := by
  unfold ixN; rw [if_pos (by omega), if_pos (by omega)]; rfl
theorem cutHi {α : Type} (xs : List α) (k : Nat) : cutD xs none (some (k : Int)) = xs.take k := by
  unfold cutD
  rw [HT.sIx_none, HT.sIx_nat, List.drop_zero, Nat.sub_zero]
  by_cases h : k ≤ xs.length
  · rw [Nat.min_eq_left h]
  · rw [Nat.min_eq_right (by omega), List.take_length, List.take_of_length_le (by omega)]
theorem cutLo {α : Type} (xs : List α) (k : Nat) : cutD xs (some (k : Int)) none = xs.drop k := by
  unfold cutD
  rw [HT.sIx_none, HT.sIx_nat]
  by_cases h : k ≤ xs.length
  · rw [Nat.min_eq_left h, List.take_of_length_le (by simp)]
  · rw [Nat.min_eq_right (by omega), List.drop_of_length_le (Nat.le_refl _), List.drop_of_length_le (by omega), List.take_nil]
theorem cutLo1 {α : Type} (xs : List α) : cutD xs (some 1) none = xs.drop 1 := cutLo xs 1
theorem cutHi1 {α : Type} (xs : List α) : cutD xs none (some 1) = xs.take 1 := cutHi xs 1
theorem pSum_I (xs : List Int) : pSum (.list (xs.map PyData.int)) = some (.fr (.int xs.sum)) := by
  show (intsOf _).map _ = _
  rw [intsOf_map]; rfl
theorem pAll_B (xs : List Bool) : pAll (.list (xs.map PyData.bool)) = some (.fr (.bool (xs.all id))) := by
  show (boolsOf _).map _ = _
  rw [boolsOf_map]; rfl
theorem pAll_true {α : Type} (xs : List α) : pAll (.list (xs.map fun _ => .bool true)) = some (.fr (.bool true)) := by
  have e : xs.map (fun _ => PyData.bool true) = (xs.map fun _ => true).map PyData.bool := by simp
  rw [e, pAll_B]
  simp
theorem for_l {α σ : Type} {t : Tg} {body : SF} (enc : α → PyData) (S : σ → Dy.Env) (P : List α → σ → Prop) (xs : List α) {s : σ} (h0 : P [] s)
    (step : ∀ pre x post s, xs = pre ++ x :: post → P pre s → ∃ s', P (pre ++ [x]) s' ∧ (asT t (enc x) (S s) >>= body) = .ok (.nx, S s')) :
    ∃ s', P xs s' ∧ fFor t body (xs.map enc) (S s) = .ok (.nx, S s') := by
  suffices h : ∀ (post pre : List α) (s : σ), xs = pre ++ post → P pre s → ∃ s', P xs s' ∧ fFor t body (post.map enc) (S s) = .ok (.nx, S s') from h xs [] s rfl h0
  intro post
  induction post with
  | nil => intro pre s e hp; rw [List.append_nil] at e; subst e; exact ⟨s, hp, rfl⟩
  | cons x post ih =>
    intro pre s e hp
    obtain ⟨s1, p1, e1⟩ := step pre x post s e hp
    obtain ⟨s2, p2, e2⟩ := ih (pre ++ [x]) s1 (by rw [e]; simp) p1
    refine ⟨s2, p2, ?_⟩
    show (asT t (enc x) (S s) >>= fun e => body e >>= fun r => match r.1 with | .nx => fFor t body (post.map enc) r.2 | .ct => fFor t body (post.map enc) r.2 | .bk => .ok (.nx, r.2) | .rt o => .ok (.rt o, r.2)) = _
    cases q : asT t (enc x) (S s) with
    | no => rw [q] at e1; cases e1
    | er x => rw [q] at e1; cases e1
    | ok e =>
      rw [q, bind_ok] at e1
      rw [bind_ok, e1, bind_ok]
      exact e2
theorem for_st {α σ : Type} {t : Tg} {body : SF} {ds : List PyData} {env : Dy.Env} (enc : α → PyData) (S : σ → Dy.Env) (f : σ → α → σ) (xs : List α) (s : σ) (hd : ds = xs.map enc) (he : env = S s)
    (step : ∀ pre x post, xs = pre ++ x :: post → (asT t (enc x) (S (pre.foldl f s)) >>= body) = .ok (.nx, S (f (pre.foldl f s) x))) :
    fFor t body ds env = .ok (.nx, S (xs.foldl f s)) := by
  subst hd; subst he
  obtain ⟨s', p, e⟩ := for_l enc S (fun pre s' => s' = pre.foldl f s) xs (s := s) rfl (fun pre x post s' e hp => ⟨f s' x, by rw [hp, List.foldl_append]; rfl, by rw [hp]; exact step pre x post e⟩)
  rw [e, p]
theorem for_li {α σ : Type} {t : Tg} {body : SF} {ds : List PyData} {env : Dy.Env} (enc : α → PyData) (S : σ → Dy.Env) (f : σ → α → σ) (Inv : σ → Prop) (xs : List α) (s : σ) (hd : ds = xs.map enc) (he : env = S s) (h0 : Inv s)
    (step : ∀ s x, x ∈ xs → Inv s → Inv (f s x) ∧ (asT t (enc x) (S s) >>= body) = .ok (.nx, S (f s x))) :
    fFor t body ds env = .ok (.nx, S (xs.foldl f s)) ∧ Inv (xs.foldl f s) := by
  subst hd; subst he
  obtain ⟨s', ⟨p, q⟩, e⟩ := for_l enc S (fun pre s' => s' = pre.foldl f s ∧ Inv s') xs (s := s) ⟨rfl, h0⟩ (fun pre x post s' e hp => by
    obtain ⟨h1, h2⟩ := step s' x (by rw [e]; simp) hp.2
    exact ⟨f s' x, ⟨by rw [hp.1, List.foldl_append]; rfl, h1⟩, h2⟩)
  subst p
  exact ⟨e, q⟩
theorem rng_eq (n : Nat) : rng 0 n = (List.range n).map dN := by unfold rng; simp
theorem for_ri {σ : Type} {t : Tg} {body : SF} {env : Dy.Env} {n : Nat} (S : σ → Dy.Env) (f : σ → Nat → σ) (Inv : σ → Prop) (s : σ) (he : env = S s) (h0 : Inv s)
    (step : ∀ s k, k < n → Inv s → Inv (f s k) ∧ (asT t (dN k) (S s) >>= body) = .ok (.nx, S (f s k))) :
    fFor t body (rng 0 n) env = .ok (.nx, S ((List.range n).foldl f s)) ∧ Inv ((List.range n).foldl f s) :=
  for_li dN S f Inv (List.range n) s (rng_eq n) he h0 fun s k hk hi => step s k (List.mem_range.mp hk) hi
theorem for_r {σ : Type} {t : Tg} {body : SF} (S : σ → Dy.Env) (P : Nat → σ → Prop) (n : Nat) {s : σ} (h0 : P 0 s)
    (step : ∀ k s, k < n → P k s → ∃ s', P (k + 1) s' ∧ (asT t (.int (k : Int)) (S s) >>= body) = .ok (.nx, S s')) :
    ∃ s', P n s' ∧ fFor t body (rng 0 n) (S s) = .ok (.nx, S s') := by
  have e : rng 0 n = (List.range n).map fun k : Nat => PyData.int (k : Int) := by unfold rng; simp
  rw [e]
  obtain ⟨s', p, q⟩ := for_l (fun k : Nat => PyData.int (k : Int)) S (fun pre s => pre.length ≤ n ∧ P pre.length s) (List.range n) (s := s) ⟨Nat.zero_le _, h0⟩ (fun pre x post s e hp => by
    have hx : x = pre.length := by
      have h1 : (List.range n)[pre.length]? = some x := by rw [e]; simp
      obtain ⟨h2, h3⟩ := List.getElem?_eq_some_iff.mp h1
      rw [List.getElem_range] at h3; exact h3.symm
    have hn : pre.length < n := by
      have := congrArg List.length e
      simp at this; omega
    subst hx
    obtain ⟨s', p', q'⟩ := step pre.length s hn hp.2
    exact ⟨s', by simp; exact ⟨hn, p'⟩, q'⟩)
  simp only [List.length_range] at p
  exact ⟨s', p.2, q⟩
theorem lc_fl {α : Type} {vs : List Nat} {t : Tg} {test : TF} {elt : EF} {ds : List PyData} {e : Dy.Env} (enc : α → PyData) (g : α → Option PyData) (xs : List α) (hd : ds = xs.map enc)
    (hs : ∀ x ∈ xs, (asT t (enc x) e >>= fun e1 => test e1 >>= fun b => if b.1 = true then elt b.2 >>= fun r => Res.ok (some r.1.data, wipeE r.2 vs) else Res.ok (none, wipeE b.2 vs)) = .ok (g x, e)) (hl : xs.length ≤ 100000) :
    lcL vs t test elt ds e [] = .ok (xs.filterMap g, e) := by
  subst hd
  suffices h : ∀ (ys : List α) (acc : List PyData), (∀ x ∈ ys, x ∈ xs) → acc.length + ys.length ≤ 100000 → lcL vs t test elt (ys.map enc) e acc = .ok (acc ++ ys.filterMap g, e) by
    have := h xs [] (fun _ z => z) (by simpa using hl)
    simpa using this
  intro ys
  induction ys with
  | nil => intro acc _ _; simp [lcL]
  | cons y ys ih =>
    intro acc hm hl
    have hy := hs y (hm y (by simp))
    have ihy := fun acc => ih acc fun x hx => hm x (by simp [hx])
    rw [List.length_cons] at hl
    show (asT t (enc y) e >>= fun e1 => nE (test e1) >>= fun b => if b.1 = true then nE (elt b.2) >>= fun r => if acc.length < 100000 then lcL vs t test elt (ys.map enc) (wipeE r.2 vs) (acc ++ [r.1.data]) else .no else lcL vs t test elt (ys.map enc) (wipeE b.2 vs) acc) = _
    cases q : asT t (enc y) e with
    | no => rw [q] at hy; cases hy
    | er x => rw [q] at hy; cases hy
    | ok e1 =>
      rw [q, bind_ok] at hy
      rw [bind_ok]
      cases q2 : test e1 with
      | no => rw [q2] at hy; cases hy
      | er x => rw [q2] at hy; cases hy
      | ok b =>
        rw [q2, bind_ok] at hy
        show (if b.1 = true then _ else _) = _
        by_cases hb : b.1 = true
        · rw [if_pos hb] at hy ⊢
          cases q3 : elt b.2 with
          | no => rw [q3] at hy; cases hy
          | er x => rw [q3] at hy; cases hy
          | ok r =>
            rw [q3, bind_ok] at hy
            injection hy with hy
            have h1 := congrArg Prod.fst hy
            have h2 := congrArg Prod.snd hy
            show (if acc.length < 100000 then lcL vs t test elt (ys.map enc) (wipeE r.2 vs) (acc ++ [r.1.data]) else .no) = _
            dsimp only at h1 h2
            rw [if_pos (by omega), h2, ihy _ (by simp; omega), List.filterMap_cons, ← h1]
            simp
        · rw [if_neg hb] at hy ⊢
          injection hy with hy
          have h1 := congrArg Prod.fst hy
          have h2 := congrArg Prod.snd hy
          dsimp only at h1 h2
          rw [h2, ihy _ (by omega), List.filterMap_cons, ← h1]
theorem lc_tm {α : Type} {vs : List Nat} {t : Tg} {elt : EF} {ds : List PyData} {e : Dy.Env} (enc : α → PyData) (g : α → PyData) (xs : List α) (hd : ds = xs.map enc)
    (hs : ∀ x ∈ xs, (asT t (enc x) e >>= fun e1 => elt e1 >>= fun r => Res.ok (r.1.data, wipeE r.2 vs)) = .ok (g x, e)) (hl : xs.length ≤ 100000) :
    lcL vs t fYes elt ds e [] = .ok (xs.map g, e) := by
  rw [lc_fl (g := fun x => some (g x)) (enc := enc) (xs := xs) hd (fun x hx => ?_) hl]
  · simp
  · have h := hs x hx
    cases q : asT t (enc x) e with
    | no => rw [q] at h; cases h
    | er x => rw [q] at h; cases h
    | ok e1 =>
      rw [q, bind_ok] at h
      rw [bind_ok]
      show (if true = true then elt e1 >>= fun r => Res.ok (some r.1.data, wipeE r.2 vs) else Res.ok (none, wipeE e1 vs)) = _
      rw [if_pos rfl]
      cases q3 : elt e1 with
      | no => rw [q3] at h; cases h
      | er x => rw [q3] at h; cases h
      | ok r =>
        rw [q3, bind_ok] at h
        rw [bind_ok]
        injection h with h
        have h1 := congrArg Prod.fst h
        have h2 := congrArg Prod.snd h
        dsimp only at h1 h2
        rw [h1, h2]
/-- a comprehension over a range whose elements change a state -/
theorem lc_r {α σ : Type} {vs : List Nat} {t : Tg} {elt : EF} (enc : α → PyData) (S : σ → Dy.Env) (P : Nat → σ → Prop) (R : α → Prop) (n : Nat) {s : σ} (h0 : P 0 s) (hn : n ≤ 100000)
    (step : ∀ k s, k < n → P k s → ∃ x s', P (k + 1) s' ∧ R x ∧ (asT t (.int (k : Int)) (S s) >>= fun e1 => elt e1 >>= fun r => Res.ok (r.1.data, wipeE r.2 vs)) = .ok (enc x, S s')) :
    ∃ (xs : List α) (s' : σ), P n s' ∧ xs.length = n ∧ (∀ x ∈ xs, R x) ∧ lcL vs t fYes elt (rng 0 n) (S s) [] = .ok (xs.map enc, S s') := by
  obtain ⟨e, acc, h, xs, s', p, r, l, ea, ee⟩ := lc_inv (vs := vs) (t := t) (test := fYes) (elt := elt) (fun k e acc => ∃ (xs : List α) (s' : σ), P k s' ∧ (∀ x ∈ xs, R x) ∧ xs.length = k ∧ acc = xs.map enc ∧ e = S s') (rng 0 n) (env := S s) (acc := []) ⟨[], s, h0, by simp, rfl, rfl, rfl⟩ (fun k d e acc hd hP => by
    obtain ⟨xs, s1, p1, r1, l1, rfl, rfl⟩ := hP
    obtain ⟨hk, rfl⟩ := rng_at hd
    rw [Int.zero_add]
    obtain ⟨x, s2, p2, r2, e2⟩ := step k s1 hk p1
    cases q : asT t (.int (k : Int)) (S s1) with
    | no => rw [q] at e2; cases e2
    | er x => rw [q] at e2; cases e2
    | ok e1 =>
      rw [q, bind_ok] at e2
      refine ⟨e1, true, e1, rfl, rfl, fun z => (by cases z), fun _ => ?_⟩
      cases q3 : elt e1 with
      | no => rw [q3] at e2; cases e2
      | er x => rw [q3] at e2; cases e2
      | ok r =>
        rw [q3, bind_ok] at e2
        injection e2 with e2
        have h1 := congrArg Prod.fst e2
        have h2 := congrArg Prod.snd e2
        dsimp only at h1 h2
        refine ⟨r.1, r.2, rfl, by rw [List.length_map, l1]; omega, xs ++ [x], s2, p2, ?_, by simp [l1], by rw [h1]; simp, h2⟩
        intro y hy
        rcases List.mem_append.mp hy with z | z
        · exact r1 y z
        · simp at z; subst z; exact r2)
  rw [rng_len] at l p
  exact ⟨xs, s', p, l, r, by rw [h, ea, ee]⟩
theorem enumD_map {α : Type} (enc : α → PyData) (xs : List α) : ∀ k : Nat, enumD k (xs.map enc) = (List.zip (List.range' k xs.length) xs).map fun p => PyData.tuple [.int (p.1 : Int), enc p.2] := by
  induction xs with
  | nil => intro k; rfl
  | cons x xs ih => intro k; rw [List.length_cons, List.range'_succ, List.zip_cons_cons, List.map_cons, List.map_cons, ← ih (k + 1)]; rfl
/-- the items with their places -/
def ens {α : Type} (xs : List α) : List (Nat × α) := List.zip (List.range' 0 xs.length) xs
theorem ens_mem {α : Type} {xs : List α} {p : Nat × α} (h : p ∈ ens xs) : xs[p.1]? = some p.2 := by
  obtain ⟨k, hk⟩ := List.getElem?_of_mem h
  unfold ens at hk
  rw [List.getElem?_zip_eq_some] at hk
  obtain ⟨h1, h2⟩ := hk
  obtain ⟨h3, h4⟩ := List.getElem?_eq_some_iff.mp h1
  rw [List.getElem_range'] at h4
  have : k = p.1 := by omega
  rw [← this]; exact h2
theorem mem_ens {α : Type} {xs : List α} {k : Nat} {x : α} (h : xs[k]? = some x) : (k, x) ∈ ens xs := by
  have hk : k < xs.length := (List.getElem?_eq_some_iff.mp h).1
  refine List.mem_of_getElem? (i := k) ?_
  unfold ens
  rw [List.getElem?_zip_eq_some]
  refine ⟨?_, h⟩
  rw [List.getElem?_eq_some_iff]
  refine ⟨by simpa using hk, ?_⟩
  rw [List.getElem_range']; omega
theorem ens_len {α : Type} (xs : List α) : (ens xs).length = xs.length := by simp [ens]
theorem enumD_ens {α : Type} (enc : α → PyData) (xs : List α) : enumD 0 (xs.map enc) = (ens xs).map fun p => PyData.tuple [.int (p.1 : Int), enc p.2] := enumD_map enc xs 0
theorem lcO_r {α : Type} {vs : List Nat} {t : Tg} {elt : EF} {e : Dy.Env} (g : Nat → List PyData) (n : Nat)
    (hs : ∀ k, k < n → (asT t (dN k) e >>= fun e1 => elt e1 >>= fun r => Res.ok (r.1, wipeE r.2 vs)) = .ok (.ol (g k), e)) (hl : n ≤ 100000) :
    lcO vs t elt (rng 0 n) e [] = .ok ((List.range n).map g, e) := by
  rw [rng_eq]
  suffices h : ∀ (ys : List Nat) (acc : List (List PyData)), (∀ y ∈ ys, y < n) → acc.length + ys.length ≤ 100000 → lcO vs t elt (ys.map dN) e acc = .ok (acc ++ ys.map g, e) by
    have := h (List.range n) [] (fun y hy => List.mem_range.mp hy) (by simpa using hl)
    simpa using this
  intro ys
  induction ys with
  | nil => intro acc _ _; simp [lcO]
  | cons y ys ih =>
    intro acc hm hl
    have hy := hs y (hm y (by simp))
    rw [List.length_cons] at hl
    show (asT t (dN y) e >>= fun e1 => nE (elt e1) >>= fun r => match r.1 with | .ol x => if acc.length < 100000 then lcO vs t elt (ys.map dN) (wipeE r.2 vs) (acc ++ [x]) else .no | _ => .no) = _
    cases q : asT t (dN y) e with
    | no => rw [q] at hy; cases hy
    | er x => rw [q] at hy; cases hy
    | ok e1 =>
      rw [q, bind_ok] at hy
      rw [bind_ok]
      cases q3 : elt e1 with
      | no => rw [q3] at hy; cases hy
      | er x => rw [q3] at hy; cases hy
      | ok r =>
        rw [q3, bind_ok] at hy
        injection hy with hy
        have h1 := congrArg Prod.fst hy
        have h2 := congrArg Prod.snd hy
        dsimp only at h1 h2
        show (match r.1 with | .ol x => if acc.length < 100000 then lcO vs t elt (ys.map dN) (wipeE r.2 vs) (acc ++ [x]) else .no | _ => .no) = _
        rw [h1, h2]
        show (if acc.length < 100000 then lcO vs t elt (ys.map dN) e (acc ++ [g y]) else .no) = _
        rw [if_pos (by omega), ih _ (fun z hz => hm z (by simp [hz])) (by simp; omega)]
        simp
theorem zipD_map {α β : Type} (f : α → PyData) (g : β → PyData) : ∀ (xs : List α) (ys : List β), zipD (xs.map f) (ys.map g) = (xs.zip ys).map fun p => PyData.tuple [f p.1, g p.2]
  | [], _ => rfl
  | _ :: _, [] => rfl
  | x :: xs, y :: ys => by rw [List.zip_cons_cons, List.map_cons, List.map_cons, List.map_cons, ← zipD_map f g xs ys]; rfl
theorem lt_of_get {α : Type} {xs : List α} {k : Nat} {x : α} (h : xs[k]? = some x) : k < xs.length := (List.getElem?_eq_some_iff.mp h).1
theorem get_of_lt {α : Type} {xs : List α} {k : Nat} (h : k < xs.length) : ∃ x, xs[k]? = some x ∧ x ∈ xs := ⟨xs[k], List.getElem?_eq_getElem h, List.getElem_mem h⟩
theorem get_split {α : Type} {xs pre post : List α} {x : α} (h : xs = pre ++ x :: post) : xs[pre.length]? = some x := by rw [h]; simp
end Q
namespace Q
open PySem Dy
def b__law_cell_at : SF := fSeq (fIfS (fB (fOp (on2 (cmI (fun i j => decide (i < j)))) [.s 1, .v (fOp (on1 pLen) [.s 0])])) (fRet (fOp (on2 pIx) [.s 0, .s 1])) (fSkip))
  (fRet (fC (.int 0)))
def M__law_cell_at : Fn := fnM 2 2 [] b__law_cell_at
def b_is_between : SF := fRet (fAnd (fOp (on1 fun d => some (.fr (.bool (isA .int d)))) [.s 0]) (fAnd (fNotV (fOp (on1 fun d => some (.fr (.bool (isA .bool d)))) [.s 0])) (fChI (fun i j => decide (i ≤ j)) (fun i j => decide (i ≤ j)) (.s 1) (.s 0) (.s 2))))
def M_is_between : Fn := fnM 3 3 [] b_is_between
def E1_is_arities : EF := fCall M_is_between [.v (fV 1), .v (fC (.int 0)), .v (fC (.int 2))]
def b_is_arities : SF := fSeq (fIfS (fOrT (fNot (fB (fOp (on1 fun d => some (.fr (.bool (isA .tuple d)))) [.s 0]))) (fNot (fB (fChI (fun i j => decide (i ≤ j)) (fun i j => decide (i ≤ j)) (.v (fC (.int 1))) (.v (fOp (on1 pLen) [.s 0])) (.v (fC (.int 6))))))) (fRet (fC (.bool false))) (fSkip))
  (fRet (fOp (on1 pAll) [.v (fLc (fSq (.v (fV 0))) [1] (.nm 1) (fYes) (E1_is_arities))]))
def M_is_arities : Fn := fnM 1 2 [] b_is_arities
def E1_is_node : EF := fCall M_is_between [.v (fV 3), .v (fC (.int 0)), .v (fOp (on2 pSub) [.s 2, .v (fC (.int 1))])]
def b_is_node : SF := fSeq (fIfS (fOrT (fNot (fB (fOp (on1 fun d => some (.fr (.bool (isA .tuple d)))) [.s 1]))) (fOrT (fB (fOp (on2 pEq) [.s 1, .v (fOv pTup [])])) (fNot (fB (fCall M_is_between [.v (fOp (on2 pIx) [.s 1, .v (fC (.int 0))]), .v (fC (.int 0)), .v (fOp (on2 pSub) [.v (fOp (on1 pLen) [.s 0]), .v (fC (.int 1))])]))))) (fRet (fC (.bool false))) (fSkip))
  (fSeq (fIfS (fB (fOp (on2 pNe) [.v (fOp (on1 pLen) [.s 1]), .v (fOp (on2 pAdd) [.v (fC (.int 1)), .v (fOp (on2 pIx) [.s 0, .v (fOp (on2 pIx) [.s 1, .v (fC (.int 0))])])])])) (fRet (fC (.bool false))) (fSkip))
  (fRet (fOp (on1 pAll) [.v (fLc (fSq (.v (fOp (on2 pSl2l) [.s 1, .v (fC (.int 1))]))) [3] (.nm 3) (fYes) (E1_is_node))])))
def M_is_node : Fn := fnM 3 4 [] b_is_node
def E1_is_written : EF := fCall M_is_node [.v (fV 0), .v (fV 3), .v (fV 2)]
def b_is_written : SF := fSeq (fIfS (fOrT (fNot (fB (fOp (on1 fun d => some (.fr (.bool (isA .tuple d)))) [.s 1]))) (fB (fOp (on2 pEq) [.s 1, .v (fOv pTup [])]))) (fRet (fC (.bool false))) (fSkip))
  (fRet (fOp (on1 pAll) [.v (fLc (fEn (.v (fV 1))) [2, 3] (.tu [2, 3]) (fYes) (E1_is_written))]))
def M_is_written : Fn := fnM 2 4 [] b_is_written
def b__law_pen_2 : SF := fRet (fOv pLst [.v (fOp (pMax) [.v (fC (.int 0)), .v (fOp (on2 pSub) [.s 0, .v (fOp (on2 pPow) [.v (fC (.int 10)), .v (fC (.int 18))])])]), .v (fOp (on2 pAdd) [.v (fOp (on2 pMod) [.s 0, .v (fC (.int 2147483629))]), .v (fC (.int 1))]), .v (fC (.int 0))])
def M__law_pen_2 : Fn := fnM 1 1 [] b__law_pen_2
def b__law_draw_2 : SF := fSeq (fIfS (fB (fOp (on2 (cmI (fun i j => decide (j < i)))) [.v (fOp (on2 pIx) [.s 0, .v (fC (.int 0))]), .v (fC (.int 0))])) (fSeq (fSet 3 (fOp (on2 pMod) [.v (fOp (on2 pIx) [.s 0, .v (fC (.int 0))]), .s 1]))
  (fSeq (fSetI 0 (.v (fC (.int 0))) (fOp (on2 pDivW) [.v (fOp (on2 pIx) [.s 0, .v (fC (.int 0))]), .s 1]))
  (fRet (fM 3)))) (fSkip))
  (fSeq (fSetI 0 (.v (fC (.int 2))) (fOp (on2 pAdd) [.v (fOp (on2 pIx) [.s 0, .v (fC (.int 2))]), .v (fC (.int 1))]))
  (fSeq (fSetI 0 (.v (fC (.int 1))) (fOp (on2 pMod) [.v (fOp (on2 pAdd) [.v (fOp (on2 pAdd) [.v (fOp (on2 pMulA) [.v (fOp (on2 pIx) [.s 0, .v (fC (.int 1))]), .v (fC (.int 48271))]), .v (fOp (on2 pMulA) [.v (fC (.int 1009)), .v (fOp (on2 pIx) [.s 0, .v (fC (.int 2))])])]), .v (fC (.int 7))]), .v (fC (.int 2147483647))]))
  (fSeq (fSet 2 (fOp (on2 pMod) [.v (fOp (on2 pAdd) [.v (fOp (on2 pAdd) [.v (fOp (on2 pMulA) [.v (fOp (on2 pIx) [.s 0, .v (fC (.int 1))]), .v (fOp (on2 pIx) [.s 0, .v (fC (.int 1))])]), .v (fOp (on2 pMulA) [.v (fC (.int 69621)), .v (fOp (on2 pIx) [.s 0, .v (fC (.int 1))])])]), .v (fC (.int 11))]), .v (fC (.int 2147483629))]))
  (fSeq (fSet 2 (fOp (on2 pMod) [.v (fOp (on2 pAdd) [.v (fOp (on2 pMulA) [.s 2, .s 2]), .v (fOp (on2 pMulA) [.v (fC (.int 40014)), .s 2])]), .v (fC (.int 2147483587))]))
  (fRet (fOp (on2 pMod) [.v (fOp (on2 pDivW) [.s 2, .v (fC (.int 16))]), .s 1]))))))
def M__law_draw_2 : Fn := fnM 2 4 [0] b__law_draw_2
def b__law_pick_2 : SF := fRet (fOp (on2 pIx) [.s 1, .v (fCall M__law_draw_2 [.s 0, .v (fOp (on1 pLen) [.s 1])])])
def M__law_pick_2 : Fn := fnM 2 2 [0] b__law_pick_2
def b__law_same : SF := fRet (fOp (on2 pEq) [.v (fOp (on1 pRepr) [.s 0]), .v (fOp (on1 pRepr) [.s 1])])
def M__law_same : Fn := fnM 2 2 [] b__law_same
def b_is_conversion : SF := fSeq (fIfS (fOrT (fNot (fB (fOp (on1 fun d => some (.fr (.bool (isA .tuple d)))) [.s 1]))) (fOrT (fB (fOp (on2 pNe) [.v (fOp (on1 pLen) [.s 1]), .v (fC (.int 3))])) (fNot (fB (fCall M_is_between [.v (fOp (on2 pIx) [.s 1, .v (fC (.int 2))]), .v (fC (.int 0)), .v (fC (.int 20))]))))) (fRet (fC (.bool false))) (fSkip))
  (fRet (fAnd (fCall M_is_between [.v (fOp (on2 pIx) [.s 1, .v (fC (.int 0))]), .v (fC (.int 0)), .v (fOp (on2 pSub) [.s 0, .v (fC (.int 1))])]) (fAnd (fCall M_is_between [.v (fOp (on2 pIx) [.s 1, .v (fC (.int 1))]), .v (fC (.int 0)), .v (fOp (on2 pSub) [.s 0, .v (fC (.int 1))])]) (fOp (on2 pNe) [.v (fOp (on2 pIx) [.s 1, .v (fC (.int 0))]), .v (fOp (on2 pIx) [.s 1, .v (fC (.int 1))])]))))
def M_is_conversion : Fn := fnM 2 2 [] b_is_conversion
def E1_is_instruction : EF := fCall M_is_between [.v (fV 3), .v (fC (.int 0)), .v (fOp (on2 pSub) [.s 1, .v (fC (.int 1))])]
def b_is_instruction : SF := fSeq (fIfS (fOrT (fNot (fB (fOp (on1 fun d => some (.fr (.bool (isA .tuple d)))) [.s 2]))) (fOrT (fB (fOp (on2 pNe) [.v (fOp (on1 pLen) [.s 2]), .v (fC (.int 4))])) (fNot (fB (fCall M_is_between [.v (fOp (on2 pIx) [.s 2, .v (fC (.int 0))]), .v (fC (.int 0)), .v (fOp (on2 pSub) [.s 1, .v (fC (.int 1))])]))))) (fRet (fC (.bool false))) (fSkip))
  (fSeq (fIfS (fOrT (fNot (fB (fCall M_is_between [.v (fOp (on2 pIx) [.s 2, .v (fC (.int 1))]), .v (fC (.int 0)), .v (fOp (on2 pSub) [.v (fOp (on1 pLen) [.s 0]), .v (fC (.int 1))])]))) (fNot (fB (fCall M_is_between [.v (fOp (on2 pIx) [.s 2, .v (fC (.int 3))]), .v (fC (.int 0)), .v (fC (.int 20))])))) (fRet (fC (.bool false))) (fSkip))
  (fSeq (fIfS (fOrT (fNot (fB (fOp (on1 fun d => some (.fr (.bool (isA .tuple d)))) [.v (fOp (on2 pIx) [.s 2, .v (fC (.int 2))])]))) (fB (fOp (on2 pNe) [.v (fOp (on1 pLen) [.v (fOp (on2 pIx) [.s 2, .v (fC (.int 2))])]), .v (fOp (on2 pIx) [.s 0, .v (fOp (on2 pIx) [.s 2, .v (fC (.int 1))])])]))) (fRet (fC (.bool false))) (fSkip))
  (fRet (fOp (on1 pAll) [.v (fLc (fSq (.v (fOp (on2 pIx) [.s 2, .v (fC (.int 2))]))) [3] (.nm 3) (fYes) (E1_is_instruction))]))))
def M_is_instruction : Fn := fnM 3 4 [] b_is_instruction
def E1_is_machine : EF := fCall M_is_instruction [.v (fV 1), .v (fV 2), .v (fV 5)]
def E2_is_machine : EF := fCall M_is_conversion [.v (fV 2), .v (fV 5)]
def b_is_machine : SF := fSeq (fIfS (fOrT (fNot (fB (fOp (on1 fun d => some (.fr (.bool (isA .tuple d)))) [.s 0]))) (fB (fOp (on2 pNe) [.v (fOp (on1 pLen) [.s 0]), .v (fC (.int 4))]))) (fRet (fC (.bool false))) (fSkip))
  (fSeq (fAsT (.tu [1, 2, 3, 4]) (fV 0))
  (fSeq (fIfS (fOrT (fNot (fB (fCall M_is_arities [.v (fV 1)]))) (fNot (fB (fCall M_is_between [.v (fV 2), .v (fC (.int 1)), .v (fC (.int 4))])))) (fRet (fC (.bool false))) (fSkip))
  (fSeq (fIfS (fOrT (fNot (fB (fOp (on1 fun d => some (.fr (.bool (isA .tuple d)))) [.s 3]))) (fB (fOp (on2 (cmI (fun i j => decide (j < i)))) [.v (fOp (on1 pLen) [.s 3]), .v (fC (.int 24))]))) (fRet (fC (.bool false))) (fSkip))
  (fSeq (fIfS (fOrT (fNot (fB (fOp (on1 fun d => some (.fr (.bool (isA .tuple d)))) [.s 4]))) (fB (fOp (on2 (cmI (fun i j => decide (j < i)))) [.v (fOp (on1 pLen) [.s 4]), .v (fC (.int 12))]))) (fRet (fC (.bool false))) (fSkip))
  (fSeq (fIfS (fNot (fB (fOp (on1 pAll) [.v (fLc (fSq (.v (fV 3))) [5] (.nm 5) (fYes) (E1_is_machine))]))) (fRet (fC (.bool false))) (fSkip))
  (fRet (fOp (on1 pAll) [.v (fLc (fSq (.v (fV 4))) [5] (.nm 5) (fYes) (E2_is_machine))])))))))
def M_is_machine : Fn := fnM 1 6 [] b_is_machine
def b_need_machine : SF := fIfS (fNot (fB (fCall M_is_machine [.v (fV 0)]))) (fNo) (fSkip)
def M_need_machine : Fn := fnM 1 1 [] b_need_machine
def b_less : SF := fSeq (fIfS (fOrT (fB (fOp (on2 pIs) [.s 0, .v (fC .none)])) (fB (fOp (on2 pIs) [.s 1, .v (fC .none)]))) (fRet (fIf (fB (fOp (on2 pIs) [.s 0, .v (fC .none)])) (fV 1) (fV 0))) (fSkip))
  (fRet (fOp (pMin) [.s 0, .s 1]))
def M_less : Fn := fnM 2 2 [] b_less
def b_total : SF := fRet (fIf (fB (fOp (on2 pInA) [.v (fC .none), .s 0])) (fC .none) (fOp (on1 pSum) [.s 0]))
def M_total : Fn := fnM 1 1 [] b_total
def L1_converted : SF := fWp [5, 6] (fSetI 2 (.s 5) (fCall M_less [.v (fOp (on2 pIx) [.s 2, .s 5]), .v (fCall M_total [.v (fOv pLst [.v (fV 4), .v (fV 6)])])]))
def L2_converted : SF := fWp [3, 4, 5, 6] (fForS (fEn (.v (fOp (on2 pIx) [.s 0, .s 3]))) (.tu [5, 6]) (L1_converted))
def b_converted : SF := fSeq (fSet 2 (fOp (on1 pList) [.s 1]))
  (fSeq (fWp [0, 1, 3, 4, 5, 6] (fForS (fEn (.v (fV 1))) (.tu [3, 4]) (L2_converted)))
  (fRet (fOp (on1 pTuple) [.s 2])))
def M_converted : Fn := fnM 2 7 [] b_converted
abbrev V_converted (ways : Option O := none) (row : Option O := none) (found : Option O := none) (first : Option O := none) (price : Option O := none) (last : Option O := none) (more : Option O := none) : Dy.Env := [ways, row, found, first, price, last, more]
def E1_computed : EF := fOp (on2 pIx) [.s 9, .s 10]
def L1_computed : SF := fWp [4, 5, 6, 7, 8] (fIfS (fB (fOp (on2 pEq) [.s 5, .s 1])) (fSeq (fFz [8] (fSet 8 (fLc (fZp (.v (fV 2)) (.v (fV 6))) [9, 10] (.tu [9, 10]) (fYes) (E1_computed))))
  (fSetI 3 (.s 4) (fCall M_less [.v (fOp (on2 pIx) [.s 3, .s 4]), .v (fCall M_total [.v (fOp (on2 pAdd) [.v (fOv pLst [.v (fV 7)]), .s 8])])]))) (fSkip))
def b_computed : SF := fSeq (fSet 3 (fOp (on2 pMulA) [.v (fOv pLst [.v (fC .none)]), .v (fOp (on2 pIx) [.s 0, .v (fC (.int 1))])]))
  (fSeq (fWp [0, 1, 2, 4, 5, 6, 7, 8] (fForS (fSq (.v (fOp (on2 pIx) [.s 0, .v (fC (.int 2))]))) (.tu [4, 5, 6, 7]) (L1_computed)))
  (fRet (fM 3)))
def M_computed : Fn := fnM 3 11 [] b_computed
abbrev V_computed (machine : Option O := none) (operator : Option O := none) (rows : Option O := none) (found : Option O := none) (form : Option O := none) (its_operator : Option O := none) (arguments : Option O := none) (price : Option O := none) (parts : Option O := none) (row : Option O := none) (argument : Option O := none) : Dy.Env := [machine, operator, rows, found, form, its_operator, arguments, price, parts, row, argument]
def b_joined_row : SF := fRet (fCall M_converted [.v (fV 1), .v (fCall M_computed [.v (fV 0), .v (fV 2), .v (fV 3)])])
def M_joined_row : Fn := fnM 4 4 [] b_joined_row
def E1_ways_of : EF := fOp (on2 pMulA) [.v (fOv pLst [.v (fC .none)]), .v (fOp (on2 pIx) [.s 0, .v (fC (.int 1))])]
def L1_ways_of : SF := fWp [2] (fSetII 1 (zN 2) (zN 2) (fC (.int 0)))
def L2_ways_of : SF := fWp [4, 5, 6] (fSetII 1 (zN 4) (zN 5) (fCall M_less [.v (fIx2 1 (zN 4) (zN 5)), .v (fV 6)]))
def L3_ways_of : SF := fSeq (fSet 7 (fCall M_total [.v (fOv pLst [.v (fIx2 1 (zN 4) (zN 3)), .v (fIx2 1 (zN 3) (zN 5))])]))
  (fWp [5, 7] (fSetII 1 (zN 4) (zN 5) (fCall M_less [.v (fIx2 1 (zN 4) (zN 5)), .v (fV 7)])))
def L4_ways_of : SF := fWp [4, 5, 7] (fForS (fR1 (.v (fOp (on2 pIx) [.s 0, .v (fC (.int 1))]))) (.nm 5) (L3_ways_of))
def L5_ways_of : SF := fWp [3, 4, 5, 7] (fForS (fR1 (.v (fOp (on2 pIx) [.s 0, .v (fC (.int 1))]))) (.nm 4) (L4_ways_of))
def b_ways_of : SF := fSeq (fSet 1 (fLcO (fR1 (.v (fOp (on2 pIx) [.s 0, .v (fC (.int 1))]))) [2] (.nm 2) (E1_ways_of)))
  (fSeq (fWp [2] (fForS (fR1 (.v (fOp (on2 pIx) [.s 0, .v (fC (.int 1))]))) (.nm 2) (L1_ways_of)))
  (fSeq (fWp [4, 5, 6] (fForS (fSq (.v (fOp (on2 pIx) [.s 0, .v (fC (.int 3))]))) (.tu [4, 5, 6]) (L2_ways_of)))
  (fSeq (fWp [0, 3, 4, 5, 7] (fForS (fR1 (.v (fOp (on2 pIx) [.s 0, .v (fC (.int 1))]))) (.nm 3) (L5_ways_of)))
  (fRet (fM 1)))))
def M_ways_of : Fn := fnM 1 8 [] b_ways_of
abbrev V_ways_of (machine : Option O := none) (found : Option O := none) (form : Option O := none) (amid : Option O := none) (first : Option O := none) (last : Option O := none) (price : Option O := none) (by_amid : Option O := none) : Dy.Env := [machine, found, form, amid, first, last, price, by_amid]
def E1_rows_of : EF := fOp (on2 pIx) [.s 4, .s 5]
def L1_rows_of : SF := fWp [2] (fApp 4 (fCall M_joined_row [.v (fV 0), .v (fV 3), .v (fOp (on2 pIx) [.s 2, .v (fC (.int 0))]), .v (fLc (fSq (.v (fOp (on2 pSl2l) [.s 2, .v (fC (.int 1))]))) [5] (.nm 5) (fYes) (E1_rows_of))]))
def b_rows_of : SF := fSeq (fFz [3] (fPar 3 4 (fCall M_ways_of [.v (fV 0)]) (fOv pLst [])))
  (fSeq (fWp [0, 1, 2, 3] (fForS (fSq (.v (fV 1))) (.nm 2) (L1_rows_of)))
  (fRet (fM 4)))
def M_rows_of : Fn := fnM 2 6 [] b_rows_of
abbrev V_rows_of (machine : Option O := none) (tree : Option O := none) (node : Option O := none) (ways : Option O := none) (found : Option O := none) (part : Option O := none) : Dy.Env := [machine, tree, node, ways, found, part]
end Q
namespace Q
open PySem Dy
end Q
namespace Q
open PySem Dy
end Q
namespace Q
open PySem Dy
end Q
namespace Q
open PySem Dy
end Q
namespace Q
open PySem Dy
end Q
namespace Q
open PySem Dy
def E1__law_instruction : EF := fCall M__law_draw_2 [.s 0, .v (fV 2)]
def b__law_instruction : SF := fSeq (fSet 4 (fOp (on1 pTuple) [.v (fLc (fR1 (.v (fOp (on2 pIx) [.s 1, .s 3]))) [5] (.nm 5) (fYes) (E1__law_instruction))]))
  (fRet (fOv pTup [.v (fCall M__law_draw_2 [.s 0, .v (fV 2)]), .v (fV 3), .v (fV 4), .v (fCall M__law_pick_2 [.s 0, .v (fOv pLst [.v (fC (.int 0)), .v (fC (.int 1)), .v (fC (.int 1)), .v (fC (.int 2)), .v (fC (.int 3))])])]))
def M__law_instruction : Fn := fnM 4 6 [0] b__law_instruction
abbrev V__law_instruction (pen : Option O := none) (arities : Option O := none) (forms : Option O := none) (operator : Option O := none) (wanted : Option O := none) (lap : Option O := none) : Dy.Env := [pen, arities, forms, operator, wanted, lap]
def L1__law_machine_of : SF := fWp [7] (fApp 5 (fCall M__law_instruction [.s 0, .v (fV 1), .v (fV 4), .v (fV 3)]))
def L2__law_machine_of : SF := fWp [3, 7] (fForS (fR1 (.v (fCall M__law_pick_2 [.s 0, .v (fOv pLst [.v (fC (.int 1)), .v (fC (.int 1)), .v (fC (.int 2)), .v (fC (.int 2)), .v (fC (.int 3)), .v (fIf (fB (fOp (on2 (cmI (fun i j => decide (j < i)))) [.v (fOp (on2 pIx) [.s 1, .s 3]), .v (fC (.int 0))])) (fC (.int 0)) (fC (.int 1)))])]))) (.nm 7) (L1__law_machine_of))
def E1__law_machine_of : EF := fOv pTup [.v (fV 8), .v (fOp (on2 pMod) [.v (fOp (on2 pAdd) [.s 8, .v (fC (.int 1))]), .s 4]), .v (fCall M__law_pick_2 [.s 0, .v (fOv pLst [.v (fC (.int 0)), .v (fC (.int 1)), .v (fC (.int 1)), .v (fC (.int 2))])])]
def b__law_machine_of : SF := fSeq (fWp [2] (fParN [4, 5, 6] [fOp (on2 pAdd) [.v (fC (.int 1)), .v (fCall M__law_draw_2 [.s 0, .v (fIf (fB (fOp (on2 pInA) [.v (fC (.int 2)), .s 1])) (fC (.int 2)) (fV 2))])], fOv pLst [], fOv pLst []]))
  (fSeq (fWp [3, 7] (fForS (fR1 (.v (fOp (on1 pLen) [.s 1]))) (.nm 3) (L2__law_machine_of)))
  (fSeq (fIfS (fAndT (fB (fOp (on2 (cmI (fun i j => decide (j < i)))) [.s 4, .v (fC (.int 1))])) (fOrT (fB (fOp (on2 (cmI (fun i j => decide (j < i)))) [.s 4, .v (fC (.int 2))])) (fB (fOp (on2 (cmI (fun i j => decide (j < i)))) [.v (fCall M__law_draw_2 [.s 0, .v (fC (.int 3))]), .v (fC (.int 0))])))) (fSet 6 (fLc (fR1 (.s 4)) [8] (.nm 8) (fYes) (E1__law_machine_of))) (fSkip))
  (fSeq (fIfS (fAndT (fB (fOp (on2 (cmI (fun i j => decide (j < i)))) [.s 4, .v (fC (.int 1))])) (fB (fOp (on2 pEq) [.v (fCall M__law_draw_2 [.s 0, .v (fC (.int 3))]), .v (fC (.int 0))]))) (fSeq (fSet 8 (fCall M__law_draw_2 [.s 0, .v (fV 4)]))
  (fApp 6 (fOv pTup [.v (fV 8), .v (fOp (on2 pMod) [.v (fOp (on2 pAdd) [.v (fOp (on2 pAdd) [.s 8, .v (fC (.int 1))]), .v (fCall M__law_draw_2 [.s 0, .v (fOp (on2 pSub) [.s 4, .v (fC (.int 1))])])]), .s 4]), .v (fCall M__law_pick_2 [.s 0, .v (fOv pLst [.v (fC (.int 0)), .v (fC (.int 1)), .v (fC (.int 2)), .v (fC (.int 4))])])]))) (fSkip))
  (fRet (fOv pTup [.v (fV 1), .v (fV 4), .v (fOp (on1 pTuple) [.s 5]), .v (fOp (on1 pTuple) [.s 6])])))))
def M__law_machine_of : Fn := fnM 3 9 [0] b__law_machine_of
abbrev V__law_machine_of (pen : Option O := none) (arities : Option O := none) (far : Option O := none) (operator : Option O := none) (forms : Option O := none) (found : Option O := none) (ways : Option O := none) (lap : Option O := none) (form : Option O := none) : Dy.Env := [pen, arities, far, operator, forms, found, ways, lap, form]
def E1__law_written_of (R__law_written_of : Fn) : EF := fOp (on2 pAdd) [.s 4, .s 6]
def L1__law_written_of (R__law_written_of : Fn) : SF := fWp [5] (fApp 2 (fOp (on2 pAdd) [.v (fOv pTup [.v (fOp (on2 pIx) [.s 5, .v (fC (.int 0))])]), .v (fOp (on1 pTuple) [.v (fLc (fSq (.v (fOp (on2 pSl2l) [.s 5, .v (fC (.int 1))]))) [6] (.nm 6) (fYes) ((E1__law_written_of R__law_written_of)))])]))
def L2__law_written_of (R__law_written_of : Fn) : SF := fSeq (fSet 4 (fOp (on1 pLen) [.s 2]))
  (fSeq (fWp [1, 4, 5] (fForS (fSq (.v (fCall R__law_written_of [.v (fV 1)]))) (.nm 5) ((L1__law_written_of R__law_written_of))))
  (fApp 3 (fOp (on2 pSub) [.v (fOp (on1 pLen) [.s 2]), .v (fC (.int 1))])))
def b__law_written_of (R__law_written_of : Fn) : SF := fSeq (fPar 2 3 (fOv pLst []) (fOv pLst []))
  (fSeq (fWp [1, 4, 5] (fForS (fSq (.v (fOp (on2 pSl2l) [.s 0, .v (fC (.int 1))]))) (.nm 1) ((L2__law_written_of R__law_written_of))))
  (fRet (fOp (on2 pAdd) [.v (fOp (on1 pTuple) [.s 2]), .v (fOv pTup [.v (fOp (on2 pAdd) [.v (fOv pTup [.v (fOp (on2 pIx) [.s 0, .v (fC (.int 0))])]), .v (fOp (on1 pTuple) [.s 3])])])])))
def M__law_written_of : Nat → Fn := Dy.rec 1 7 [] b__law_written_of
abbrev V__law_written_of (nested_here : Option O := none) (part : Option O := none) (found : Option O := none) (ends : Option O := none) (ahead : Option O := none) (node : Option O := none) (one : Option O := none) : Dy.Env := [nested_here, part, found, ends, ahead, node, one]
def E1__law_nested (R__law_nested : Fn) : EF := fV 4
def T1__law_nested (R__law_nested : Fn) : TF := fB (fOp (on2 pEq) [.s 5, .v (fC (.int 0))])
def E2__law_nested (R__law_nested : Fn) : EF := fCall R__law_nested [.s 0, .v (fV 1), .v (fOp (on2 pSub) [.s 2, .v (fC (.int 1))])]
def b__law_nested (R__law_nested : Fn) : SF := fSeq (fFz [3] (fSet 3 (fLc (fEn (.v (fV 1))) [4, 5] (.tu [4, 5]) ((T1__law_nested R__law_nested)) ((E1__law_nested R__law_nested)))))
  (fSeq (fSet 4 (fIf (fB (fOp (on2 (cmI (fun i j => decide (j < i)))) [.s 2, .v (fC (.int 1))])) (fCall M__law_draw_2 [.s 0, .v (fOp (on1 pLen) [.s 1])]) (fCall M__law_pick_2 [.s 0, .v (fV 3)])))
  (fRet (fOp (on2 pAdd) [.v (fOv pTup [.v (fV 4)]), .v (fOp (on1 pTuple) [.v (fLc (fR1 (.v (fOp (on2 pIx) [.s 1, .s 4]))) [6] (.nm 6) (fYes) ((E2__law_nested R__law_nested)))])])))
def M__law_nested : Nat → Fn := Dy.rec 3 7 [0] b__law_nested
abbrev V__law_nested (pen : Option O := none) (arities : Option O := none) (far : Option O := none) (bare_here : Option O := none) (operator : Option O := none) (arity : Option O := none) (lap : Option O := none) : Dy.Env := [pen, arities, far, bare_here, operator, arity, lap]
def E1__law_chain : EF := fV 7
def T1__law_chain : TF := fB (fOp (on2 pEq) [.s 9, .v (fC (.int 0))])
def E2__law_chain : EF := fV 7
def T2__law_chain : TF := fB (fOp (on2 (cmI (fun i j => decide (j < i)))) [.s 9, .v (fC (.int 0))])
def E3__law_chain : EF := fCall M__law_draw_2 [.s 0, .v (fOp (on1 pLen) [.s 5])]
def L1__law_chain : SF := fSeq (fSet 7 (fCall M__law_pick_2 [.s 0, .v (fV 4)]))
  (fSeq (fFz [8] (fSet 8 (fOp (on2 pAdd) [.v (fOv pLst [.v (fOp (on2 pSub) [.v (fOp (on1 pLen) [.s 5]), .v (fC (.int 1))])]), .v (fLc (fR1 (.v (fOp (on2 pSub) [.v (fOp (on2 pIx) [.s 1, .s 7]), .v (fC (.int 1))]))) [10] (.nm 10) (fYes) (E3__law_chain))])))
  (fWp [6, 7, 8] (fApp 5 (fOp (on2 pAdd) [.v (fOv pTup [.v (fV 7)]), .v (fOp (on1 pTuple) [.v (fIf (fB (fOp (on2 pEq) [.v (fCall M__law_draw_2 [.s 0, .v (fC (.int 2))]), .v (fC (.int 0))])) (fV 8) (fOp (on1 pRev) [.s 8]))])]))))
def b__law_chain : SF := fSeq (fFz [3] (fSet 3 (fLc (fEn (.v (fV 1))) [7, 9] (.tu [7, 9]) (T1__law_chain) (E1__law_chain))))
  (fSeq (fFz [4] (fSet 4 (fLc (fEn (.v (fV 1))) [7, 9] (.tu [7, 9]) (T2__law_chain) (E2__law_chain))))
  (fSeq (fWp [3] (fSet 5 (fOv pLst [.v (fOv pTup [.v (fCall M__law_pick_2 [.s 0, .v (fV 3)])])])))
  (fSeq (fWp [1, 2, 4, 6, 7, 8] (fForS (fR1 (.v (fOp (on2 pMulA) [.s 2, .v (fOp (on1 pInt) [.v (fOp (on2 pNe) [.s 4, .v (fOv pLst [])])])]))) (.nm 6) (L1__law_chain)))
  (fRet (fOp (on1 pTuple) [.s 5])))))
def M__law_chain : Fn := fnM 3 11 [0] b__law_chain
abbrev V__law_chain (pen : Option O := none) (arities : Option O := none) (many_here : Option O := none) (bare_here : Option O := none) (more : Option O := none) (found : Option O := none) (lap : Option O := none) (operator : Option O := none) (parts : Option O := none) (arity : Option O := none) (turn : Option O := none) : Dy.Env := [pen, arities, many_here, bare_here, more, found, lap, operator, parts, arity, turn]
def E1__law_some_trees : EF := fCall (M__law_written_of 20) [.v (fCall (M__law_nested 20) [.s 0, .v (fV 1), .v (fOp (on2 pAdd) [.v (fC (.int 1)), .v (fCall M__law_draw_2 [.s 0, .v (fC (.int 4))])])])]
def E2__law_some_trees : EF := fCall M__law_chain [.s 0, .v (fV 1), .v (fOp (on2 pAdd) [.v (fC (.int 1)), .v (fCall M__law_draw_2 [.s 0, .v (fC (.int 7))])])]
def b__law_some_trees : SF := fSeq (fFz [2] (fSet 2 (fLc (fR1 (.v (fC (.int 8)))) [3] (.nm 3) (fYes) (E1__law_some_trees))))
  (fRet (fOp (on2 pAdd) [.s 2, .v (fLc (fR1 (.v (fC (.int 6)))) [3] (.nm 3) (fYes) (E2__law_some_trees))]))
def M__law_some_trees : Fn := fnM 2 4 [0] b__law_some_trees
abbrev V__law_some_trees (pen : Option O := none) (arities : Option O := none) (found : Option O := none) (lap : Option O := none) : Dy.Env := [pen, arities, found, lap]
def E1__law_all_trees : EF := fOv pTup [.v (fV 6), .v (fV 9)]
def E2__law_all_trees : EF := fOv pTup [.v (fV 6), .v (fV 9), .v (fV 11)]
def L1__law_all_trees : SF := fWp [9] (fSet 5 (fOp (on2 pAdd) [.s 5, .v (fLc (fSq (.v (fOp (on2 pIx) [.s 3, .v (fOp (on2 pSub) [.v (fOp (on2 pSub) [.s 2, .v (fC (.int 1))]), .s 8])]))) [11] (.nm 11) (fYes) (E2__law_all_trees))]))
def L2__law_all_trees : SF := fWp [8, 9] (fForS (fSq (.v (fOp (on2 pIx) [.s 3, .s 8]))) (.nm 9) (L1__law_all_trees))
def L3__law_all_trees : SF := fSeq (fIfS (fAndT (fB (fOp (on2 pEq) [.s 7, .v (fC (.int 0))])) (fB (fOp (on2 pEq) [.s 2, .v (fC (.int 1))]))) (fApp 5 (fOv pTup [.v (fV 6)])) (fSkip))
  (fSeq (fIfS (fB (fOp (on2 pEq) [.s 7, .v (fC (.int 1))])) (fSet 5 (fOp (on2 pAdd) [.s 5, .v (fLc (fSq (.v (fOp (on2 pIx) [.s 3, .v (fOp (on2 pSub) [.s 2, .v (fC (.int 1))])]))) [9] (.nm 9) (fYes) (E1__law_all_trees))])) (fSkip))
  (fWp [6, 7, 8, 9] (fForS (fR2 (.v (fC (.int 1))) (.v (fOp (on2 pMulA) [.v (fOp (on2 pSub) [.s 2, .v (fC (.int 1))]), .v (fOp (on1 pInt) [.v (fOp (on2 pEq) [.s 7, .v (fC (.int 2))])])]))) (.nm 8) (L2__law_all_trees))))
def E3__law_all_trees : EF := fCall (M__law_written_of 20) [.v (fV 10)]
def L4__law_all_trees : SF := fSeq (fSet 5 (fOv pLst []))
  (fSeq (fWp [2, 6, 7, 8, 9] (fForS (fEn (.v (fV 0))) (.tu [6, 7]) (L3__law_all_trees)))
  (fSeq (fApp 3 (fOp (on2 pSl2h) [.s 5, .v (fC (.int 24))]))
  (fWp [5] (fFz [4] (fSet 4 (fOp (on2 pAdd) [.s 4, .v (fLc (fSq (.v (fOp (on2 pSl2h) [.s 5, .v (fC (.int 24))]))) [10] (.nm 10) (fYes) (E3__law_all_trees))]))))))
def b__law_all_trees : SF := fSeq (fFz [4] (fPar 3 4 (fOv pLst [.v (fOv pLst [])]) (fOv pLst [])))
  (fSeq (fWp [0, 1, 2, 3, 5, 6, 7, 8, 9] (fForS (fR2 (.v (fC (.int 1))) (.v (fOp (on2 pAdd) [.s 1, .v (fC (.int 1))]))) (.nm 2) (L4__law_all_trees)))
  (fRet (fM 4)))
def M__law_all_trees : Fn := fnM 2 12 [] b__law_all_trees
def E1__law_is_tree : EF := fC (.int 1)
def T1__law_is_tree : TF := fOrT (fNot (fB (fOp (on1 fun d => some (.fr (.bool (isA .int d)))) [.s 4]))) (fOrT (fB (fOp (on1 fun d => some (.fr (.bool (isA .bool d)))) [.s 4])) (fB (fOp (on2 (cmI (fun i j => decide (i < j)))) [.s 4, .v (fC (.int 0))])))
def E2__law_is_tree : EF := fC (.int 1)
def T2__law_is_tree : TF := fB (fOp (on2 (cmI (fun i j => decide (j ≤ i)))) [.s 4, .s 2])
def L1__law_is_tree : SF := fSeq (fIfS (fOrT (fNot (fB (fOp (on1 fun d => some (.fr (.bool (isA .tuple d)))) [.s 3]))) (fB (fOp (on2 pEq) [.s 3, .v (fOv pTup [])]))) (fRet (fC (.bool false))) (fSkip))
  (fSeq (fIfS (fB (fOp (on2 pNe) [.v (fLc (fSq (.v (fV 3))) [4] (.nm 4) (T1__law_is_tree) (E1__law_is_tree)), .v (fOv pLst [])])) (fRet (fC (.bool false))) (fSkip))
  (fSeq (fIfS (fOrT (fB (fOp (on2 (cmI (fun i j => decide (j ≤ i)))) [.v (fOp (on2 pIx) [.s 3, .v (fC (.int 0))]), .v (fOp (on1 pLen) [.s 0])])) (fB (fOp (on2 pNe) [.v (fOp (on1 pLen) [.s 3]), .v (fOp (on2 pAdd) [.v (fC (.int 1)), .v (fOp (on2 pIx) [.s 0, .v (fOp (on2 pIx) [.s 3, .v (fC (.int 0))])])])]))) (fRet (fC (.bool false))) (fSkip))
  (fWp [2, 3] (fIfS (fB (fOp (on2 pNe) [.v (fLc (fSq (.v (fOp (on2 pSl2l) [.s 3, .v (fC (.int 1))]))) [4] (.nm 4) (T2__law_is_tree) (E2__law_is_tree)), .v (fOv pLst [])])) (fRet (fC (.bool false))) (fSkip)))))
def b__law_is_tree : SF := fSeq (fIfS (fOrT (fNot (fB (fOp (on1 fun d => some (.fr (.bool (isA .tuple d)))) [.s 1]))) (fB (fOp (on2 pEq) [.s 1, .v (fOv pTup [])]))) (fRet (fC (.bool false))) (fSkip))
  (fSeq (fWp [0, 1, 2, 3] (fForS (fEn (.v (fV 1))) (.tu [2, 3]) (L1__law_is_tree)))
  (fRet (fC (.bool true))))
def M__law_is_tree : Fn := fnM 2 5 [] b__law_is_tree
abbrev V__law_is_tree (arities : Option O := none) (thing : Option O := none) (at_ : Option O := none) (node : Option O := none) (one : Option O := none) : Dy.Env := [arities, thing, at_, node, one]
def E1__law_no_trees : EF := fV 2
def T1__law_no_trees : TF := fNot (fB (fCall M__law_is_tree [.v (fV 0), .v (fV 2)]))
def b__law_no_trees : SF := fSeq (fSet 1 (fOv pLst [.v (fC .none), .v (fC (.int 0)), .v (fOv pTup []), .v (fOv pLst []), .v (fC (.str "")), .v (fC (.bool true)), .v (fNewD), .v (fOv pTup [.v (fOv pTup [])]), .v (fOv pTup [.v (fC (.int 0))]), .v (fOv pLst [.v (fOv pTup [.v (fC (.int 0))])]), .v (fOv pTup [.v (fOv pLst [.v (fC (.int 0))])]), .v (fOv pTup [.v (fOv pTup [.v (fOp (on1 pLen) [.s 0])])]), .v (fOv pTup [.v (fOv pTup [.v (fOp (on1 pNeg) [.v (fC (.int 1))])])]), .v (fOv pTup [.v (fOv pTup [.v (fC (.bool true))])])]))
  (fSeq (fSet 1 (fOp (on2 pAdd) [.s 1, .v (fOv pLst [.v (fOv pTup [.v (fOv pTup [.v (fC (.int 0)), .v (fC (.int 0))])]), .v (fOv pTup [.v (fOv pTup [.v (fC (.int 1)), .v (fC (.int 0))])]), .v (fOv pTup [.v (fOv pTup [.v (fC (.int 0))]), .v (fC .none)]), .v (fOv pTup [.v (fOv pTup [.v (fC (.int 0))]), .v (fOv pTup [])]), .v (fOv pTup [.v (fOv pTup [.v (fC (.int 0)), .v (fC (.int 1))]), .v (fOv pTup [.v (fC (.int 0))])]), .v (fC (.str "0")), .v (fOv pTup [.v (fOv pTup [.v (fC .none)])]), .v (fOv pTup [.v (fOv pTup [.v (fC (.str "0"))])])])]))
  (fSeq (fApp 1 (fOv pTup [.v (fOv pTup [.v (fC (.int 0)), .v (fC (.int 0)), .v (fC (.int 0))])]))
  (fRet (fLc (fSq (.v (fV 1))) [2] (.nm 2) (T1__law_no_trees) (E1__law_no_trees)))))
def M__law_no_trees : Fn := fnM 1 3 [] b__law_no_trees
def b__law_things_4 : SF := fSeq (fFz [2] (fSet 2 (fOp (on2 pAdd) [.v (fCall M__law_some_trees [.s 0, .v (fOp (on2 pIx) [.s 1, .v (fC (.int 0))])]), .v (fCall M__law_all_trees [.v (fOp (on2 pIx) [.s 1, .v (fC (.int 0))]), .v (fC (.int 4))])])))
  (fSeq (fSet 3 (fCall M__law_pick_2 [.s 0, .v (fV 2)]))
  (fSeq (fSet 4 (fCall M__law_draw_2 [.s 0, .v (fOp (on1 pLen) [.s 3])]))
  (fSeq (fSet 5 (fOp (on2 pAdd) [.v (fOp (on2 pAdd) [.s 2, .v (fCall M__law_no_trees [.v (fOp (on2 pIx) [.s 1, .v (fC (.int 0))])])]), .v (fOv pLst [.v (fOp (on1 pList) [.s 3]), .v (fOp (on1 pRevA) [.s 3]), .v (fOp (on2 pAdd) [.s 3, .v (fOp (on2 pSl2h) [.s 3, .v (fC (.int 1))])]), .v (fOp (on2 pSl2l) [.s 3, .v (fC (.int 1))])])]))
  (fSeq (fApp 5 (fOv pTup [.v (fV 3)]))
  (fSeq (fApp 5 (fOp (on2 pAdd) [.v (fOp (on2 pAdd) [.v (fOp (on2 pSl2h) [.s 3, .s 4]), .v (fOv pTup [.v (fOp (on1 pList) [.v (fOp (on2 pIx) [.s 3, .s 4])])])]), .v (fOp (on2 pSl2l) [.s 3, .v (fOp (on2 pAdd) [.s 4, .v (fC (.int 1))])])]))
  (fSeq (fApp 5 (fOp (on2 pAdd) [.v (fOp (on2 pAdd) [.v (fOp (on2 pSl2h) [.s 3, .s 4]), .v (fOv pTup [.v (fOp (on2 pAdd) [.v (fOp (on2 pIx) [.s 3, .s 4]), .v (fOv pTup [.v (fC (.int 0))])])])]), .v (fOp (on2 pSl2l) [.s 3, .v (fOp (on2 pAdd) [.s 4, .v (fC (.int 1))])])]))
  (fRet (fOp (on2 pAdd) [.s 5, .v (fOv pLst [.v (fOp (on2 pAdd) [.v (fOp (on2 pAdd) [.v (fOp (on2 pSl2h) [.s 3, .s 4]), .v (fOv pTup [.v (fOp (on2 pSl2h) [.v (fOp (on2 pIx) [.s 3, .s 4]), .v (fOp (on1 pNeg) [.v (fC (.int 1))])])])]), .v (fOp (on2 pSl2l) [.s 3, .v (fOp (on2 pAdd) [.s 4, .v (fC (.int 1))])])]), .v (fOp (on2 pAdd) [.v (fOp (on2 pSl2h) [.s 3, .s 4]), .v (fOp (on2 pSl2l) [.s 3, .v (fOp (on2 pAdd) [.s 4, .v (fC (.int 1))])])])])]))))))))
def M__law_things_4 : Fn := fnM 2 6 [0] b__law_things_4
abbrev V__law_things_4 (pen : Option O := none) (made : Option O := none) (some_ : Option O := none) (written : Option O := none) (at_ : Option O := none) (found : Option O := none) : Dy.Env := [pen, made, some_, written, at_, found]
def b__law_arities_of : SF := fRet (fCall M__law_pick_2 [.s 0, .v (fOv pLst [.v (fOv pTup [.v (fC (.int 0)), .v (fC (.int 1))]), .v (fOv pTup [.v (fC (.int 0)), .v (fC (.int 2))]), .v (fOv pTup [.v (fC (.int 0)), .v (fC (.int 1)), .v (fC (.int 2))]), .v (fOv pTup [.v (fC (.int 0)), .v (fC (.int 0)), .v (fC (.int 2))]), .v (fOv pTup [.v (fC (.int 1)), .v (fC (.int 0))]), .v (fOv pTup [.v (fC (.int 0)), .v (fC (.int 0)), .v (fC (.int 1))]), .v (fOv pTup [.v (fC (.int 2)), .v (fC (.int 0))]), .v (fOv pTup [.v (fC (.int 0))]), .v (fOv pTup [.v (fC (.int 0)), .v (fC (.int 2))])])])
def M__law_arities_of : Fn := fnM 1 1 [0] b__law_arities_of
def b__law_many : SF := fRet (fOp (on2 pAdd) [.v (fOp (on1 pLen) [.v (fOp (on2 pIx) [.s 0, .v (fC (.int 2))])]), .v (fOp (on1 pLen) [.v (fOp (on2 pIx) [.s 0, .v (fC (.int 3))])])])
def M__law_many : Fn := fnM 1 1 [] b__law_many
def L1__law_closed_2 : SF := fWp [3, 4, 5] (fIfS (fAndT (fB (fOp (on2 pIsn) [.v (fOp (on2 pIx) [.s 1, .s 3]), .v (fC .none)])) (fOrT (fB (fOp (on2 pIs) [.v (fOp (on2 pIx) [.s 1, .s 4]), .v (fC .none)])) (fB (fOp (on2 (cmI (fun i j => decide (i < j)))) [.v (fOp (on2 pAdd) [.v (fOp (on2 pIx) [.s 1, .s 3]), .s 5]), .v (fOp (on2 pIx) [.s 1, .s 4])])))) (fSetI 1 (.s 4) (fOp (on2 pAdd) [.v (fOp (on2 pIx) [.s 1, .s 3]), .s 5])) (fSkip))
def L2__law_closed_2 : SF := fWp [3, 4, 5] (fWb [2] (fForS (fSq (.v (fOp (on2 pIx) [.s 0, .v (fC (.int 3))]))) (.tu [3, 4, 5]) (L1__law_closed_2)))
def b__law_closed_2 : SF := fSeq (fSet 1 (fOp (on1 pList) [.s 1]))
  (fSeq (fWp [0, 2, 3, 4, 5] (fForS (fR1 (.v (fOp (on1 pLen) [.s 1]))) (.nm 2) (L2__law_closed_2)))
  (fRet (fOp (on1 pTuple) [.s 1])))
def M__law_closed_2 : Fn := fnM 2 6 [] b__law_closed_2
abbrev V__law_closed_2 (made : Option O := none) (row : Option O := none) (lap : Option O := none) (first : Option O := none) (last : Option O := none) (price : Option O := none) : Dy.Env := [made, row, lap, first, last, price]
def E1__law_over_3 : EF := fOp (on2 pIx) [.s 9, .s 10]
def L1__law_over_3 : SF := fSeq (fFz [8] (fSet 8 (fLc (fZp (.v (fV 2)) (.v (fV 6))) [9, 10] (.tu [9, 10]) (fYes) (E1__law_over_3))))
  (fWp [4, 5, 6, 7, 8] (fIfS (fAndT (fB (fOp (on2 pEq) [.s 5, .s 1])) (fB (fOp (on2 pNinA) [.v (fC .none), .s 8]))) (fIfS (fOrT (fB (fOp (on2 pIs) [.v (fOp (on2 pIx) [.s 3, .s 4]), .v (fC .none)])) (fB (fOp (on2 (cmI (fun i j => decide (i < j)))) [.v (fOp (on2 pAdd) [.s 7, .v (fOp (on1 pSum) [.s 8])]), .v (fOp (on2 pIx) [.s 3, .s 4])]))) (fSetI 3 (.s 4) (fOp (on2 pAdd) [.s 7, .v (fOp (on1 pSum) [.s 8])])) (fSkip)) (fSkip)))
def b__law_over_3 : SF := fSeq (fSet 3 (fOp (on2 pMulA) [.v (fOv pLst [.v (fC .none)]), .v (fOp (on2 pIx) [.s 0, .v (fC (.int 1))])]))
  (fSeq (fWp [1, 2, 4, 5, 6, 7, 8] (fForS (fSq (.v (fOp (on2 pIx) [.s 0, .v (fC (.int 2))]))) (.tu [4, 5, 6, 7]) (L1__law_over_3)))
  (fRet (fCall M__law_closed_2 [.v (fV 0), .v (fV 3)])))
def M__law_over_3 : Fn := fnM 3 11 [] b__law_over_3
abbrev V__law_over_3 (made : Option O := none) (operator : Option O := none) (rows : Option O := none) (found : Option O := none) (form : Option O := none) (its : Option O := none) (wanted : Option O := none) (price : Option O := none) (parts : Option O := none) (row : Option O := none) (want : Option O := none) : Dy.Env := [made, operator, rows, found, form, its, wanted, price, parts, row, want]
def E1__law_rows_for_2 : EF := fOp (on2 pIx) [.s 2, .s 4]
def L1__law_rows_for_2 : SF := fWp [3] (fApp 2 (fCall M__law_over_3 [.v (fV 0), .v (fOp (on2 pIx) [.s 3, .v (fC (.int 0))]), .v (fLc (fSq (.v (fOp (on2 pSl2l) [.s 3, .v (fC (.int 1))]))) [4] (.nm 4) (fYes) (E1__law_rows_for_2))]))
def b__law_rows_for_2 : SF := fSeq (fSet 2 (fOv pLst []))
  (fSeq (fWp [0, 1, 3] (fForS (fSq (.v (fV 1))) (.nm 3) (L1__law_rows_for_2)))
  (fRet (fM 2)))
def M__law_rows_for_2 : Fn := fnM 2 5 [] b__law_rows_for_2
abbrev V__law_rows_for_2 (made : Option O := none) (written : Option O := none) (found : Option O := none) (node : Option O := none) (part : Option O := none) : Dy.Env := [made, written, found, node, part]
def b__law_goal_of_2 : SF := fRet (fOp (on2 pIx) [.v (fOp (on2 pIx) [.v (fCall M__law_rows_for_2 [.v (fV 0), .v (fV 1)]), .v (fOp (on1 pNeg) [.v (fC (.int 1))])]), .v (fC (.int 0))])
def M__law_goal_of_2 : Fn := fnM 2 2 [] b__law_goal_of_2
def E1__law_bare : EF := fV 6
def T1__law_bare : TF := fB (fOp (on2 pNinA) [.s 5, .s 1])
def E2__law_bare : EF := fV 6
def T2__law_bare : TF := fB (fOp (on2 pNinA) [.v (fOp (on2 pAdd) [.s 3, .s 5]), .s 1])
def b__law_bare : SF := fSeq (fSet 2 (fOp (on1 pTuple) [.v (fLc (fEn (.v (fOp (on2 pIx) [.s 0, .v (fC (.int 2))]))) [5, 6] (.tu [5, 6]) (T1__law_bare) (E1__law_bare))]))
  (fSeq (fSet 3 (fOp (on1 pLen) [.v (fOp (on2 pIx) [.s 0, .v (fC (.int 2))])]))
  (fSeq (fFz [4] (fSet 4 (fLc (fEn (.v (fOp (on2 pIx) [.s 0, .v (fC (.int 3))]))) [5, 6] (.tu [5, 6]) (T2__law_bare) (E2__law_bare))))
  (fRet (fOp (on2 pAdd) [.v (fOp (on2 pSl2h) [.s 0, .v (fC (.int 2))]), .v (fOv pTup [.v (fV 2), .v (fOp (on1 pTuple) [.s 4])])]))))
def M__law_bare : Fn := fnM 2 7 [] b__law_bare
abbrev V__law_bare (made : Option O := none) (gone : Option O := none) (first : Option O := none) (ahead : Option O := none) (last : Option O := none) (at_ : Option O := none) (one : Option O := none) : Dy.Env := [made, gone, first, ahead, last, at_, one]
def b__law_due_5 : SF := fSeq (fIfS (fNot (fB (fCall M__law_is_tree [.v (fOp (on2 pIx) [.s 0, .v (fC (.int 0))]), .v (fV 2)]))) (fRet (fC (.bool false))) (fSkip))
  (fSeq (fSet 3 (fCall M__law_goal_of_2 [.v (fV 0), .v (fV 2)]))
  (fRet (fAnd (fOp (on2 pIsn) [.s 3, .v (fC .none)]) (fOp (on2 pNe) [.v (fCall M__law_goal_of_2 [.v (fCall M__law_bare [.v (fV 0), .v (fOv pTup [.v (fV 1)])]), .v (fV 2)]), .s 3]))))
def M__law_due_5 : Fn := fnM 3 4 [] b__law_due_5
def b_need_number : SF := fIfS (fNot (fB (fCall M_is_between [.v (fV 1), .v (fC (.int 0)), .v (fOp (on2 pSub) [.v (fCall M__law_many [.v (fV 0)]), .v (fC (.int 1))])]))) (fNo) (fSkip)
def M_need_number : Fn := fnM 2 2 [] b_need_number
def E1_without : EF := fV 9
def T1_without : TF := fB (fOp (on2 pNinA) [.s 8, .s 1])
def E2_without : EF := fV 9
def T2_without : TF := fB (fOp (on2 pNinA) [.v (fOp (on2 pAdd) [.s 3, .s 10]), .s 1])
def b_without : SF := fSeq (fAsT (.tu [4, 5, 6, 7]) (fV 0))
  (fSeq (fSet 2 (fOp (on1 pTuple) [.v (fLc (fEn (.v (fV 6))) [8, 9] (.tu [8, 9]) (T1_without) (E1_without))]))
  (fSeq (fSet 3 (fOp (on1 pLen) [.s 6]))
  (fRet (fOv pTup [.v (fV 4), .v (fV 5), .v (fV 2), .v (fOp (on1 pTuple) [.v (fLc (fEn (.v (fV 7))) [10, 9] (.tu [10, 9]) (T2_without) (E2_without))])]))))
def M_without : Fn := fnM 2 11 [] b_without
abbrev V_without (machine : Option O := none) (numbers : Option O := none) (first : Option O := none) (ahead : Option O := none) (arities : Option O := none) (forms : Option O := none) (instructions : Option O := none) (conversions : Option O := none) (number : Option O := none) (one : Option O := none) (at_ : Option O := none) : Dy.Env := [machine, numbers, first, ahead, arities, forms, instructions, conversions, number, one, at_]
def b_shows_needing : SF := fSeq (fEx (fCall M_need_machine [.v (fV 0)]))
  (fSeq (fEx (fCall M_need_number [.v (fV 0), .v (fV 1)]))
  (fSeq (fIfS (fNot (fB (fCall M_is_written [.v (fOp (on2 pIx) [.s 0, .v (fC (.int 0))]), .v (fV 2)]))) (fRet (fC (.bool false))) (fSkip))
  (fSeq (fSet 3 (fOp (on2 pIx) [.v (fOp (on2 pIx) [.v (fCall M_rows_of [.v (fV 0), .v (fV 2)]), .v (fOp (on1 pNeg) [.v (fC (.int 1))])]), .v (fC (.int 0))]))
  (fRet (fAnd (fOp (on2 pIsn) [.s 3, .v (fC .none)]) (fOp (on2 pNe) [.v (fOp (on2 pIx) [.v (fOp (on2 pIx) [.v (fCall M_rows_of [.v (fCall M_without [.v (fV 0), .v (fOv pTup [.v (fV 1)])]), .v (fV 2)]), .v (fOp (on1 pNeg) [.v (fC (.int 1))])]), .v (fC (.int 0))]), .s 3]))))))
def M_shows_needing : Fn := fnM 3 4 [] b_shows_needing
def E1_law_17 : EF := fCall M_shows_needing [.v (fV 4), .v (fV 6), .v (fV 5)]
def L1_law_17 : SF := fSeq (fSet 6 (fCall M__law_draw_2 [.s 2, .v (fOp (pMax) [.v (fC (.int 1)), .v (fCall M__law_many [.v (fV 4)])])]))
  (fWp [5, 6, 7, 8, 9] (fIfS (fB (fOp (on2 (cmI (fun i j => decide (i < j)))) [.s 6, .v (fCall M__law_many [.v (fV 4)])])) (fSeq (fPar 8 9 (fCall M__law_due_5 [.v (fV 4), .v (fV 6), .v (fV 5)]) (fOp (on1 pReprD) [.v (fOv pTup [.v (fV 4), .v (fV 5)])]))
  (fSeq (fFz [7] (fSet 7 (fLc (fR1 (.v (fC (.int 2)))) [10] (.nm 10) (fYes) (E1_law_17))))
  (fIfS (fOrT (fNot (fB (fCall M__law_same [.v (fV 7), .v (fOv pLst [.v (fV 8), .v (fV 8)])]))) (fB (fOp (on2 pNe) [.v (fOp (on1 pReprD) [.v (fOv pTup [.v (fV 4), .v (fV 5)])]), .s 9]))) (fRet (fC (.bool false))) (fSkip)))) (fSkip)))
def L2_law_17 : SF := fSeq (fWp [3] (fSet 4 (fCall M__law_machine_of [.s 2, .v (fCall M__law_arities_of [.s 2]), .v (fC (.int 3))])))
  (fWp [4, 5, 6, 7, 8, 9] (fForS (fSq (.v (fCall M__law_things_4 [.s 2, .v (fV 4)]))) (.nm 5) (L1_law_17)))
def L3_law_17 : SF := fSeq (fWp [1] (fSet 2 (fCall M__law_pen_2 [.v (fCall M__law_cell_at [.v (fV 0), .v (fV 1)])])))
  (fWp [2, 3, 4, 5, 6, 7, 8, 9] (fForS (fR1 (.v (fC (.int 3)))) (.nm 3) (L2_law_17)))
def b_law_17 : SF := fSeq (fWp [0, 1, 2, 3, 4, 5, 6, 7, 8, 9] (fForS (fR1 (.v (fOp (pMax) [.v (fC (.int 1)), .v (fOp (pMin) [.v (fOp (on1 pLen) [.s 0]), .v (fC (.int 3))])]))) (.nm 1) (L3_law_17)))
  (fRet (fC (.bool true)))
def M_law_17 : Fn := fnM 1 11 [] b_law_17
abbrev V_law_17 (script : Option O := none) (k : Option O := none) (pen : Option O := none) (lap : Option O := none) (made : Option O := none) (thing : Option O := none) (number : Option O := none) (told : Option O := none) (due_here : Option O := none) (before : Option O := none) (again : Option O := none) : Dy.Env := [script, k, pen, lap, made, thing, number, told, due_here, before, again]
end Q
namespace Q
open PySem Dy
open L2 (atI ixN)
/-- arities -/
structure ArOk (as : List Nat) : Prop where
  le2 : ∀ a ∈ as, a ≤ 2
  len : as.length ≤ 6
  pos : 0 < as.length
abbrev encA (as : List Nat) : PyData := .tuple (as.map dN)
theorem rkNs {as : List Nat} (h : ∀ a ∈ as, a < 1000000) : ∀ d ∈ as.map dN, Rk 0 1100 d := fun d hd => by
  obtain ⟨a, ha, rfl⟩ := List.mem_map.mp hd
  exact Rk.nat (Nat.lt_trans (h a ha) (by decide))
theorem between_ok {a lo hi : Int} : M_is_between [.fr (.int a), .fr (.int lo), .fr (.int hi)] = .ok (.fr (.bool (decide (lo ≤ a) && decide (a ≤ hi))), [.fr (.int a), .fr (.int lo), .fr (.int hi)]) := by
  by_cases h : lo ≤ a
  · simp [M_is_between, b_is_between, q_mulAI, q_mulAL, a_wb, q_divW, Function.comp_def, q_starI, q_starIT, a_wp, a_fz, a_fz0, a_fz1, a_ext, a_ins, a_insA, a_pop, a_parN, a_evO0, a_evO1, a_setO0, a_setO1, a_ix2, a_setII, a_zN, a_zC, a_lcO, d_oo, pEq_int, pNe_int, pIxL, pIxT, atI_nat, atI_0, atI_1, atI_2, atI_3, atI_m1, cutLo, cutHi, cutLo1, cutHi1, a_seq, a_ifS, a_B, a_op, a_ov, a_ev0, a_evv, a_evs, a_C, a_V, a_M, a_set, a_setI, a_app, a_ret, a_ex, a_skip, a_no, a_not, a_andT, a_orT, a_and, a_or, a_notV, a_if, a_par, a_call, a_forS, a_sq, a_r1, a_r2, a_en, a_zp, a_asT, a_chI, a_yes, a_lc, a_fn, okA, f_fr, bkA, rsvs, rsv, dvs, on1, on2, d_fr, d_ol, rsO, ndS, sl, putB, asT, setAll, ofO, Dy.ints1, Dy.ints2, nE, wipeE, unw, frO, q_addI, q_addL, q_addT, q_addS, q_sub, q_div, q_mod, q_pow, q_neg, q_cm, pIs, pIsn, q_isN, q_isI, q_isS, q_isT, q_isL, q_isB, q_lenL, q_lenT, pTup, pLst, q_tupL, q_tupT, q_lstL, q_lstT, q_revL, q_slL, q_slT, q_shL, q_shT, q_sqL, q_sqT, q_intI, q_max2, q_min2, q_aII, q_aBI, q_aTI, q_aTT, q_aLL, q_aTL, q_aIT, h]
  · simp [M_is_between, b_is_between, q_mulAI, q_mulAL, a_wb, q_divW, Function.comp_def, q_starI, q_starIT, a_wp, a_fz, a_fz0, a_fz1, a_ext, a_ins, a_insA, a_pop, a_parN, a_evO0, a_evO1, a_setO0, a_setO1, a_ix2, a_setII, a_zN, a_zC, a_lcO, d_oo, pEq_int, pNe_int, pIxL, pIxT, atI_nat, atI_0, atI_1, atI_2, atI_3, atI_m1, cutLo, cutHi, cutLo1, cutHi1, a_seq, a_ifS, a_B, a_op, a_ov, a_ev0, a_evv, a_evs, a_C, a_V, a_M, a_set, a_setI, a_app, a_ret, a_ex, a_skip, a_no, a_not, a_andT, a_orT, a_and, a_or, a_notV, a_if, a_par, a_call, a_forS, a_sq, a_r1, a_r2, a_en, a_zp, a_asT, a_chI, a_yes, a_lc, a_fn, okA, f_fr, bkA, rsvs, rsv, dvs, on1, on2, d_fr, d_ol, rsO, ndS, sl, putB, asT, setAll, ofO, Dy.ints1, Dy.ints2, nE, wipeE, unw, frO, q_addI, q_addL, q_addT, q_addS, q_sub, q_div, q_mod, q_pow, q_neg, q_cm, pIs, pIsn, q_isN, q_isI, q_isS, q_isT, q_isL, q_isB, q_lenL, q_lenT, pTup, pLst, q_tupL, q_tupT, q_lstL, q_lstT, q_revL, q_slL, q_slT, q_shL, q_shT, q_sqL, q_sqT, q_intI, q_max2, q_min2, q_aII, q_aBI, q_aTI, q_aTT, q_aLL, q_aTL, q_aIT, h]
theorem arities_ok {as : List Nat} (h : ArOk as) : M_is_arities [.fr (encA as)] = .ok (.fr (.bool true), [.fr (encA as)]) := by
  have h1 : (1 : Int) ≤ as.length := by have := h.pos; omega
  have h2 : (as.length : Int) ≤ 6 := by have := h.len; omega
  simp [M_is_arities, b_is_arities, q_mulAI, q_mulAL, a_wb, q_divW, Function.comp_def, q_starI, q_starIT, a_wp, a_fz, a_fz0, a_fz1, a_ext, a_ins, a_insA, a_pop, a_parN, a_evO0, a_evO1, a_setO0, a_setO1, a_ix2, a_setII, a_zN, a_zC, a_lcO, d_oo, pEq_int, pNe_int, pIxL, pIxT, atI_nat, atI_0, atI_1, atI_2, atI_3, atI_m1, cutLo, cutHi, cutLo1, cutHi1, a_seq, a_ifS, a_B, a_op, a_ov, a_ev0, a_evv, a_evs, a_C, a_V, a_M, a_set, a_setI, a_app, a_ret, a_ex, a_skip, a_no, a_not, a_andT, a_orT, a_and, a_or, a_notV, a_if, a_par, a_call, a_forS, a_sq, a_r1, a_r2, a_en, a_zp, a_asT, a_chI, a_yes, a_lc, a_fn, okA, f_fr, bkA, rsvs, rsv, dvs, on1, on2, d_fr, d_ol, rsO, ndS, sl, putB, asT, setAll, ofO, Dy.ints1, Dy.ints2, nE, wipeE, unw, frO, q_addI, q_addL, q_addT, q_addS, q_sub, q_div, q_mod, q_pow, q_neg, q_cm, pIs, pIsn, q_isN, q_isI, q_isS, q_isT, q_isL, q_isB, q_lenL, q_lenT, pTup, pLst, q_tupL, q_tupT, q_lstL, q_lstT, q_revL, q_slL, q_slT, q_shL, q_shT, q_sqL, q_sqT, q_intI, q_max2, q_min2, q_aII, q_aBI, q_aTI, q_aTT, q_aLL, q_aTL, q_aIT, h1, h2]
  rw [lc_tm dN (fun _ => .bool true) as rfl (fun a ha => ?_) (by have := h.len; omega)]
  · simp [q_mulAI, q_mulAL, a_wb, q_divW, Function.comp_def, q_starI, q_starIT, a_wp, a_fz, a_fz0, a_fz1, a_ext, a_ins, a_insA, a_pop, a_parN, a_evO0, a_evO1, a_setO0, a_setO1, a_ix2, a_setII, a_zN, a_zC, a_lcO, d_oo, pEq_int, pNe_int, pIxL, pIxT, atI_nat, atI_0, atI_1, atI_2, atI_3, atI_m1, cutLo, cutHi, cutLo1, cutHi1, a_seq, a_ifS, a_B, a_op, a_ov, a_ev0, a_evv, a_evs, a_C, a_V, a_M, a_set, a_setI, a_app, a_ret, a_ex, a_skip, a_no, a_not, a_andT, a_orT, a_and, a_or, a_notV, a_if, a_par, a_call, a_forS, a_sq, a_r1, a_r2, a_en, a_zp, a_asT, a_chI, a_yes, a_lc, a_fn, okA, f_fr, bkA, rsvs, rsv, dvs, on1, on2, d_fr, d_ol, rsO, ndS, sl, putB, asT, setAll, ofO, Dy.ints1, Dy.ints2, nE, wipeE, unw, frO, q_addI, q_addL, q_addT, q_addS, q_sub, q_div, q_mod, q_pow, q_neg, q_cm, pIs, pIsn, q_isN, q_isI, q_isS, q_isT, q_isL, q_isB, q_lenL, q_lenT, pTup, pLst, q_tupL, q_tupT, q_lstL, q_lstT, q_revL, q_slL, q_slT, q_shL, q_shT, q_sqL, q_sqT, q_intI, q_max2, q_min2, q_aII, q_aBI, q_aTI, q_aTT, q_aLL, q_aTL, q_aIT, pAll_true]
  · have := h.le2 a ha
    simp [E1_is_arities, q_mulAI, q_mulAL, a_wb, q_divW, Function.comp_def, q_starI, q_starIT, a_wp, a_fz, a_fz0, a_fz1, a_ext, a_ins, a_insA, a_pop, a_parN, a_evO0, a_evO1, a_setO0, a_setO1, a_ix2, a_setII, a_zN, a_zC, a_lcO, d_oo, pEq_int, pNe_int, pIxL, pIxT, atI_nat, atI_0, atI_1, atI_2, atI_3, atI_m1, cutLo, cutHi, cutLo1, cutHi1, a_seq, a_ifS, a_B, a_op, a_ov, a_ev0, a_evv, a_evs, a_C, a_V, a_M, a_set, a_setI, a_app, a_ret, a_ex, a_skip, a_no, a_not, a_andT, a_orT, a_and, a_or, a_notV, a_if, a_par, a_call, a_forS, a_sq, a_r1, a_r2, a_en, a_zp, a_asT, a_chI, a_yes, a_lc, a_fn, okA, f_fr, bkA, rsvs, rsv, dvs, on1, on2, d_fr, d_ol, rsO, ndS, sl, putB, asT, setAll, ofO, Dy.ints1, Dy.ints2, nE, wipeE, unw, frO, q_addI, q_addL, q_addT, q_addS, q_sub, q_div, q_mod, q_pow, q_neg, q_cm, pIs, pIsn, q_isN, q_isI, q_isS, q_isT, q_isL, q_isB, q_lenL, q_lenT, pTup, pLst, q_tupL, q_tupT, q_lstL, q_lstT, q_revL, q_slL, q_slT, q_shL, q_shT, q_sqL, q_sqT, q_intI, q_max2, q_min2, q_aII, q_aBI, q_aTI, q_aTT, q_aLL, q_aTL, q_aIT, between_ok]; omega
abbrev Nd := Nat × List Nat
abbrev encN (n : Nd) : PyData := .tuple (dN n.1 :: n.2.map dN)
abbrev encT (t : List Nd) : PyData := .tuple (t.map encN)
def NdOk (as : List Nat) (k : Nat) (n : Nd) : Prop := as[n.1]? = some n.2.length ∧ ∀ p ∈ n.2, p < k
def WF (as : List Nat) (t : List Nd) : Prop := ∀ k n, t[k]? = some n → NdOk as k n
structure TrOk (as : List Nat) (t : List Nd) : Prop where
  wf : WF as t
  ne : t ≠ []
  len : t.length ≤ 1000
theorem NdOk.mono {as : List Nat} {k l : Nat} {n : Nd} (h : NdOk as k n) (hl : k ≤ l) : NdOk as l n := ⟨h.1, fun p hp => Nat.lt_of_lt_of_le (h.2 p hp) hl⟩
theorem NdOk.le2 {as : List Nat} {k : Nat} {n : Nd} (ha : ArOk as) (h : NdOk as k n) : n.2.length ≤ 2 := ha.le2 _ (List.mem_of_getElem? h.1)
theorem WF.nil {as : List Nat} : WF as [] := fun k n h => by simp at h
theorem WF.snoc {as : List Nat} {t : List Nd} {n : Nd} (h : WF as t) (hn : NdOk as t.length n) : WF as (t ++ [n]) := by
  intro k m hk
  by_cases h1 : k < t.length
  · rw [List.getElem?_append_left h1] at hk; exact h k m hk
  · have h2 := lt_of_get hk
    have : k = t.length := by simp at h2; omega
    subst this
    simp at hk; subst hk; exact hn
theorem WF.pre {as : List Nat} {t u : List Nd} (h : WF as (t ++ u)) : WF as t := fun k n hk => h k n (by rw [List.getElem?_append_left (lt_of_get hk)]; exact hk)
theorem WF.mem {as : List Nat} {t : List Nd} {n : Nd} (h : WF as t) (hn : n ∈ t) : NdOk as t.length n := by
  obtain ⟨k, hk⟩ := List.getElem?_of_mem hn
  exact (h k n hk).mono (Nat.le_of_lt (lt_of_get hk))
def shift (k : Nat) (t : List Nd) : List Nd := t.map fun n => (n.1, n.2.map (k + ·))
def jn1 (s : List Nd × List Nat) (p : List Nd) : List Nd × List Nat := (s.1 ++ shift s.1.length p, s.2 ++ [s.1.length + p.length - 1])
def joinT (op : Nat) (parts : List (List Nd)) : List Nd := (parts.foldl jn1 ([], [])).1 ++ [(op, (parts.foldl jn1 ([], [])).2)]
theorem shift_len (k : Nat) (t : List Nd) : (shift k t).length = t.length := by simp [shift]
end Q
namespace Q
open PySem Dy
open L2 (atI ixN)
section
variable {β : Type} (f : Nat → List β → β) (d : β)
def alg1 (acc : List β) (n : Nd) : List β := acc ++ [f n.1 (n.2.map (acc.getD · d))]
def alg (t : List Nd) : List β := t.foldl (alg1 f d) []
def lastA (t : List Nd) : β := (alg f d t).getLast?.getD d
theorem alg_snoc (t : List Nd) (n : Nd) : alg f d (t ++ [n]) = alg f d t ++ [f n.1 (n.2.map ((alg f d t).getD · d))] := by
  unfold alg; rw [List.foldl_append]; rfl
theorem rev_ind {α : Type} {P : List α → Prop} (h0 : P []) (h1 : ∀ l x, P l → P (l ++ [x])) : ∀ l, P l := by
  intro l
  have : ∀ r : List α, P r.reverse := by
    intro r
    induction r with
    | nil => exact h0
    | cons x r ih => rw [List.reverse_cons]; exact h1 _ _ ih
  have h := this l.reverse
  rwa [List.reverse_reverse] at h
theorem alg_len (t : List Nd) : (alg f d t).length = t.length := by
  induction t using rev_ind with
  | h0 => rfl
  | h1 l x ih => rw [alg_snoc]; simp [ih]
end
theorem joinT_ne (op : Nat) (parts : List (List Nd)) : joinT op parts ≠ [] := by unfold joinT; simp
theorem WF.shift {as : List Nat} {t u : List Nd} (h : WF as t) (k : WF as u) : WF as (t ++ shift t.length u) := by
  intro i n hi
  by_cases h1 : i < t.length
  · rw [List.getElem?_append_left h1] at hi; exact h i n hi
  · rw [List.getElem?_append_right (by omega)] at hi
    unfold Q.shift at hi
    rw [List.getElem?_map] at hi
    cases q : u[i - t.length]? with
    | none => rw [q] at hi; cases hi
    | some m =>
      rw [q] at hi
      cases hi
      obtain ⟨k1, k2⟩ := k _ m q
      refine ⟨by simpa using k1, fun p hp => ?_⟩
      obtain ⟨p', hp', rfl⟩ := List.mem_map.mp hp
      have := k2 p' hp'
      omega
theorem joinT_wf {as : List Nat} {op : Nat} {parts : List (List Nd)} (h : ∀ p ∈ parts, WF as p ∧ p ≠ []) (ho : as[op]? = some parts.length) : WF as (joinT op parts) := by
  have key : WF as (parts.foldl jn1 ([], [])).1 ∧ (∀ e ∈ (parts.foldl jn1 ([], [])).2, e < (parts.foldl jn1 ([], [])).1.length) ∧ (parts.foldl jn1 ([], [])).2.length = parts.length := by
    clear ho
    induction parts using rev_ind with
    | h0 => exact ⟨WF.nil, by simp, rfl⟩
    | h1 l p ih =>
      obtain ⟨h1, h2, h3⟩ := ih fun q hq => h q (by simp [hq])
      obtain ⟨hp1, hp⟩ := h p (by simp)
      have hp0 : 0 < p.length := List.length_pos_iff.mpr hp
      rw [List.foldl_append]
      generalize l.foldl jn1 ([], []) = s at *
      show WF as (jn1 s p).1 ∧ (∀ e ∈ (jn1 s p).2, e < (jn1 s p).1.length) ∧ (jn1 s p).2.length = _
      simp only [jn1]
      refine ⟨h1.shift hp1, fun e he => ?_, by simp [h3]⟩
      rw [List.length_append, shift_len]
      rcases List.mem_append.mp he with z | z
      · have := h2 e z; omega
      · simp at z; omega
  unfold joinT
  exact key.1.snoc ⟨by rw [key.2.2]; exact ho, key.2.1⟩
end Q
namespace Q
open PySem Dy
open L2 (atI ixN)
def PenB (n : Nat) (o : O) : Prop := ∃ a b c : Int, o = .ol [.int a, .int b, .int c] ∧ 0 ≤ b ∧ b < 1000000007 ∧ 0 ≤ c ∧ c ≤ n
theorem PenB.mono {n m : Nat} {o : O} (h : PenB n o) (l : n ≤ m) : PenB m o := by
  obtain ⟨a, b, c, e, h1, h2, h3, h4⟩ := h
  exact ⟨a, b, c, e, h1, h2, h3, by omega⟩
theorem cellB_ok {ns : List Int} {k : Nat} : ∃ z : Int, M__law_cell_at [.fr (.list (ns.map PyData.int)), .fr (dN k)] = .ok (.fr (.int z), [.fr (.list (ns.map PyData.int)), .fr (dN k)]) := by
  by_cases hk : k < ns.length
  · exact ⟨ns[k], by simp [M__law_cell_at, b__law_cell_at, q_mulAI, q_mulAL, a_wb, q_divW, Function.comp_def, q_starI, q_starIT, a_wp, a_fz, a_fz0, a_fz1, a_ext, a_ins, a_insA, a_pop, a_parN, a_evO0, a_evO1, a_setO0, a_setO1, a_ix2, a_setII, a_zN, a_zC, a_lcO, d_oo, pEq_int, pNe_int, pIxL, pIxT, atI_nat, atI_0, atI_1, atI_2, atI_3, atI_m1, cutLo, cutHi, cutLo1, cutHi1, a_seq, a_ifS, a_B, a_op, a_ov, a_ev0, a_evv, a_evs, a_C, a_V, a_M, a_set, a_setI, a_app, a_ret, a_ex, a_skip, a_no, a_not, a_andT, a_orT, a_and, a_or, a_notV, a_if, a_par, a_call, a_forS, a_sq, a_r1, a_r2, a_en, a_zp, a_asT, a_chI, a_yes, a_lc, a_fn, okA, f_fr, bkA, rsvs, rsv, dvs, on1, on2, d_fr, d_ol, rsO, ndS, sl, putB, asT, setAll, ofO, Dy.ints1, Dy.ints2, nE, wipeE, unw, frO, q_addI, q_addL, q_addT, q_addS, q_sub, q_div, q_mod, q_pow, q_neg, q_cm, pIs, pIsn, q_isN, q_isI, q_isS, q_isT, q_isL, q_isB, q_lenL, q_lenT, pTup, pLst, q_tupL, q_tupT, q_lstL, q_lstT, q_revL, q_slL, q_slT, q_shL, q_shT, q_sqL, q_sqT, q_intI, q_max2, q_min2, q_aII, q_aBI, q_aTI, q_aTT, q_aLL, q_aTL, q_aIT, hk]⟩
  · exact ⟨0, by simp [M__law_cell_at, b__law_cell_at, q_mulAI, q_mulAL, a_wb, q_divW, Function.comp_def, q_starI, q_starIT, a_wp, a_fz, a_fz0, a_fz1, a_ext, a_ins, a_insA, a_pop, a_parN, a_evO0, a_evO1, a_setO0, a_setO1, a_ix2, a_setII, a_zN, a_zC, a_lcO, d_oo, pEq_int, pNe_int, pIxL, pIxT, atI_nat, atI_0, atI_1, atI_2, atI_3, atI_m1, cutLo, cutHi, cutLo1, cutHi1, a_seq, a_ifS, a_B, a_op, a_ov, a_ev0, a_evv, a_evs, a_C, a_V, a_M, a_set, a_setI, a_app, a_ret, a_ex, a_skip, a_no, a_not, a_andT, a_orT, a_and, a_or, a_notV, a_if, a_par, a_call, a_forS, a_sq, a_r1, a_r2, a_en, a_zp, a_asT, a_chI, a_yes, a_lc, a_fn, okA, f_fr, bkA, rsvs, rsv, dvs, on1, on2, d_fr, d_ol, rsO, ndS, sl, putB, asT, setAll, ofO, Dy.ints1, Dy.ints2, nE, wipeE, unw, frO, q_addI, q_addL, q_addT, q_addS, q_sub, q_div, q_mod, q_pow, q_neg, q_cm, pIs, pIsn, q_isN, q_isI, q_isS, q_isT, q_isL, q_isB, q_lenL, q_lenT, pTup, pLst, q_tupL, q_tupT, q_lstL, q_lstT, q_revL, q_slL, q_slT, q_shL, q_shT, q_sqL, q_sqT, q_intI, q_max2, q_min2, q_aII, q_aBI, q_aTI, q_aTT, q_aLL, q_aTL, q_aIT, hk]⟩
def lvs (p : Nat → Bool) (as : List Nat) : List Nat := (ens as).filterMap fun q => if p q.2 = true then some q.1 else none
theorem lvs_enc (p : Nat → Bool) (as : List Nat) : ((ens as).filterMap fun q => if p q.2 = true then some (dN q.1) else none) = (lvs p as).map dN := by
  unfold lvs
  rw [List.map_filterMap]
  congr 1; funext q; split <;> rfl
theorem lvs_mem {p : Nat → Bool} {as : List Nat} {x : Nat} : x ∈ lvs p as ↔ ∃ a, as[x]? = some a ∧ p a = true := by
  unfold lvs
  rw [List.mem_filterMap]
  constructor
  · rintro ⟨⟨i, a⟩, h1, h2⟩
    have := ens_mem h1
    dsimp only at h2
    split at h2
    · rename_i hp; cases h2; exact ⟨a, this, hp⟩
    · cases h2
  · rintro ⟨a, h1, h2⟩
    exact ⟨(x, a), mem_ens h1, by simp [h2]⟩
theorem lvs_len (p : Nat → Bool) (as : List Nat) : (lvs p as).length ≤ as.length := by
  unfold lvs
  exact Nat.le_trans (List.length_filterMap_le _ _) (by rw [ens_len]; exact Nat.le_refl _)
end Q
namespace Q
open PySem Dy
open L2 (atI ixN)
abbrev Pr := Option Nat
def dP : Pr → PyData
  | none => .none
  | some n => .int (n : Int)
theorem dP_none : dP none = .none := rfl
theorem dP_some (n : Nat) : dP (some n) = .int (n : Int) := rfl
def lessP : Pr → Pr → Pr
  | none, b => b
  | a, none => a
  | some a, some b => some (min a b)
def sumP (xs : List Pr) : Pr := if none ∈ xs then none else some ((xs.map (·.getD 0)).sum)
abbrev rowL (r : List Pr) : List PyData := r.map dP
abbrev encR (r : List Pr) : PyData := .tuple (r.map dP)
theorem canLayP : ∀ xs : List Pr, PyData.canLayAll0 (xs.map dP) = true
  | [] => rfl
  | x :: xs => by
    show (PyData.canLay0 (dP x) && PyData.canLayAll0 (xs.map dP)) = true
    rw [canLayP xs]; cases x <;> rfl
theorem depP : ∀ xs : List Pr, PyData.depthAll (xs.map dP) = 0
  | [] => rfl
  | x :: xs => by
    show max (PyData.depth (dP x)) (PyData.depthAll (xs.map dP)) = 0
    rw [depP xs]; cases x <;> rfl
theorem shpLP (xs : List Pr) : shp (.list (xs.map dP)) = true := by
  unfold Dy.shp SeqAt.shaped
  have h1 : (PyData.list (xs.map dP)).canLay0 = true := by simpa [PyData.canLay0] using canLayP xs
  have h2 : (PyData.list (xs.map dP)).depth ≤ 64 := by simp [PyData.depth, depP]
  rw [h1, decide_eq_true h2]; rfl
theorem shpN : shp .none = true := by unfold Dy.shp SeqAt.shaped; simp [PyData.canLay0, PyData.depth]
theorem any_none : ∀ xs : List Pr, ((xs.map dP).any fun z => PyData.eqv z .none) = decide (none ∈ xs)
  | [] => rfl
  | x :: xs => by
    rw [List.map_cons, List.any_cons, any_none xs]
    cases x <;> simp [dP, PyData.eqv]
theorem noneIn (xs : List Pr) : pInA .none (.list (xs.map dP)) = some (.fr (.bool (decide (none ∈ xs)))) := by
  show (if _ then _ else _) = _
  rw [if_pos ⟨shpN, shpLP xs⟩, any_none]
theorem noneNin (xs : List Pr) : pNinA .none (.list (xs.map dP)) = some (.fr (.bool (!decide (none ∈ xs)))) := by
  show (if _ then _ else _) = _
  rw [if_pos ⟨shpN, shpLP xs⟩, any_none]
theorem ints_dP : ∀ {xs : List Pr}, none ∉ xs → xs.map dP = (xs.map fun x => ((x.getD 0 : Nat) : Int)).map PyData.int
  | [], _ => rfl
  | none :: xs, h => by simp at h
  | some n :: xs, h => by
    rw [List.map_cons, ints_dP (xs := xs) (by simpa using h)]; rfl
theorem sum_cast : ∀ xs : List Pr, (xs.map fun x => ((x.getD 0 : Nat) : Int)).sum = (((xs.map (·.getD 0)).sum : Nat) : Int)
  | [] => rfl
  | x :: xs => by simp [sum_cast xs]
theorem sum_dP {xs : List Pr} (h : none ∉ xs) : pSum (.list (xs.map dP)) = some (.fr (.int (((xs.map (·.getD 0)).sum : Nat) : Int))) := by
  rw [ints_dP h, pSum_I, sum_cast]
theorem less_ok (a b : Pr) : M_less [.fr (dP a), .fr (dP b)] = .ok (.fr (dP (lessP a b)), [.fr (dP a), .fr (dP b)]) := by
  cases a with
  | none => cases b <;> simp [M_less, b_less, q_mulAI, q_mulAL, a_wb, q_divW, Function.comp_def, q_starI, q_starIT, a_wp, a_fz, a_fz0, a_fz1, a_ext, a_ins, a_insA, a_pop, a_parN, a_evO0, a_evO1, a_setO0, a_setO1, a_ix2, a_setII, a_zN, a_zC, a_lcO, d_oo, pEq_int, pNe_int, pIxL, pIxT, atI_nat, atI_0, atI_1, atI_2, atI_3, atI_m1, cutLo, cutHi, cutLo1, cutHi1, a_seq, a_ifS, a_B, a_op, a_ov, a_ev0, a_evv, a_evs, a_C, a_V, a_M, a_set, a_setI, a_app, a_ret, a_ex, a_skip, a_no, a_not, a_andT, a_orT, a_and, a_or, a_notV, a_if, a_par, a_call, a_forS, a_sq, a_r1, a_r2, a_en, a_zp, a_asT, a_chI, a_yes, a_lc, a_fn, okA, f_fr, bkA, rsvs, rsv, dvs, on1, on2, d_fr, d_ol, rsO, ndS, sl, putB, asT, setAll, ofO, Dy.ints1, Dy.ints2, nE, wipeE, unw, frO, q_addI, q_addL, q_addT, q_addS, q_sub, q_div, q_mod, q_pow, q_neg, q_cm, pIs, pIsn, q_isN, q_isI, q_isS, q_isT, q_isL, q_isB, q_lenL, q_lenT, pTup, pLst, q_tupL, q_tupT, q_lstL, q_lstT, q_revL, q_slL, q_slT, q_shL, q_shT, q_sqL, q_sqT, q_intI, q_max2, q_min2, q_aII, q_aBI, q_aTI, q_aTT, q_aLL, q_aTL, q_aIT, dP, lessP]
  | some a => cases b <;> simp [M_less, b_less, q_mulAI, q_mulAL, a_wb, q_divW, Function.comp_def, q_starI, q_starIT, a_wp, a_fz, a_fz0, a_fz1, a_ext, a_ins, a_insA, a_pop, a_parN, a_evO0, a_evO1, a_setO0, a_setO1, a_ix2, a_setII, a_zN, a_zC, a_lcO, d_oo, pEq_int, pNe_int, pIxL, pIxT, atI_nat, atI_0, atI_1, atI_2, atI_3, atI_m1, cutLo, cutHi, cutLo1, cutHi1, a_seq, a_ifS, a_B, a_op, a_ov, a_ev0, a_evv, a_evs, a_C, a_V, a_M, a_set, a_setI, a_app, a_ret, a_ex, a_skip, a_no, a_not, a_andT, a_orT, a_and, a_or, a_notV, a_if, a_par, a_call, a_forS, a_sq, a_r1, a_r2, a_en, a_zp, a_asT, a_chI, a_yes, a_lc, a_fn, okA, f_fr, bkA, rsvs, rsv, dvs, on1, on2, d_fr, d_ol, rsO, ndS, sl, putB, asT, setAll, ofO, Dy.ints1, Dy.ints2, nE, wipeE, unw, frO, q_addI, q_addL, q_addT, q_addS, q_sub, q_div, q_mod, q_pow, q_neg, q_cm, pIs, pIsn, q_isN, q_isI, q_isS, q_isT, q_isL, q_isB, q_lenL, q_lenT, pTup, pLst, q_tupL, q_tupT, q_lstL, q_lstT, q_revL, q_slL, q_slT, q_shL, q_shT, q_sqL, q_sqT, q_intI, q_max2, q_min2, q_aII, q_aBI, q_aTI, q_aTT, q_aLL, q_aTL, q_aIT, dP, lessP] <;> omega
theorem total_ok (xs : List Pr) : M_total [.fr (.list (xs.map dP))] = .ok (.fr (dP (sumP xs)), [.fr (.list (xs.map dP))]) := by
  by_cases h : none ∈ xs
  · simp [M_total, b_total, q_mulAI, q_mulAL, a_wb, q_divW, Function.comp_def, q_starI, q_starIT, a_wp, a_fz, a_fz0, a_fz1, a_ext, a_ins, a_insA, a_pop, a_parN, a_evO0, a_evO1, a_setO0, a_setO1, a_ix2, a_setII, a_zN, a_zC, a_lcO, d_oo, pEq_int, pNe_int, pIxL, pIxT, atI_nat, atI_0, atI_1, atI_2, atI_3, atI_m1, cutLo, cutHi, cutLo1, cutHi1, a_seq, a_ifS, a_B, a_op, a_ov, a_ev0, a_evv, a_evs, a_C, a_V, a_M, a_set, a_setI, a_app, a_ret, a_ex, a_skip, a_no, a_not, a_andT, a_orT, a_and, a_or, a_notV, a_if, a_par, a_call, a_forS, a_sq, a_r1, a_r2, a_en, a_zp, a_asT, a_chI, a_yes, a_lc, a_fn, okA, f_fr, bkA, rsvs, rsv, dvs, on1, on2, d_fr, d_ol, rsO, ndS, sl, putB, asT, setAll, ofO, Dy.ints1, Dy.ints2, nE, wipeE, unw, frO, q_addI, q_addL, q_addT, q_addS, q_sub, q_div, q_mod, q_pow, q_neg, q_cm, pIs, pIsn, q_isN, q_isI, q_isS, q_isT, q_isL, q_isB, q_lenL, q_lenT, pTup, pLst, q_tupL, q_tupT, q_lstL, q_lstT, q_revL, q_slL, q_slT, q_shL, q_shT, q_sqL, q_sqT, q_intI, q_max2, q_min2, q_aII, q_aBI, q_aTI, q_aTT, q_aLL, q_aTL, q_aIT, noneIn, h, sumP, dP]
  · simp [M_total, b_total, q_mulAI, q_mulAL, a_wb, q_divW, Function.comp_def, q_starI, q_starIT, a_wp, a_fz, a_fz0, a_fz1, a_ext, a_ins, a_insA, a_pop, a_parN, a_evO0, a_evO1, a_setO0, a_setO1, a_ix2, a_setII, a_zN, a_zC, a_lcO, d_oo, pEq_int, pNe_int, pIxL, pIxT, atI_nat, atI_0, atI_1, atI_2, atI_3, atI_m1, cutLo, cutHi, cutLo1, cutHi1, a_seq, a_ifS, a_B, a_op, a_ov, a_ev0, a_evv, a_evs, a_C, a_V, a_M, a_set, a_setI, a_app, a_ret, a_ex, a_skip, a_no, a_not, a_andT, a_orT, a_and, a_or, a_notV, a_if, a_par, a_call, a_forS, a_sq, a_r1, a_r2, a_en, a_zp, a_asT, a_chI, a_yes, a_lc, a_fn, okA, f_fr, bkA, rsvs, rsv, dvs, on1, on2, d_fr, d_ol, rsO, ndS, sl, putB, asT, setAll, ofO, Dy.ints1, Dy.ints2, nE, wipeE, unw, frO, q_addI, q_addL, q_addT, q_addS, q_sub, q_div, q_mod, q_pow, q_neg, q_cm, pIs, pIsn, q_isN, q_isI, q_isS, q_isT, q_isL, q_isB, q_lenL, q_lenT, pTup, pLst, q_tupL, q_tupT, q_lstL, q_lstT, q_revL, q_slL, q_slT, q_shL, q_shT, q_sqL, q_sqT, q_intI, q_max2, q_min2, q_aII, q_aBI, q_aTI, q_aTT, q_aLL, q_aTL, q_aIT, noneIn, h, sumP, dP, sum_dP h]
structure Ins where
  form : Nat
  op : Nat
  args : List Nat
  pr : Nat
structure Con where
  a : Nat
  b : Nat
  pr : Nat
structure Mach where
  ar : List Nat
  fs : Nat
  ins : List Ins
  con : List Con
abbrev encI (i : Ins) : PyData := .tuple [dN i.form, dN i.op, .tuple (i.args.map dN), dN i.pr]
abbrev encK (c : Con) : PyData := .tuple [dN c.a, dN c.b, dN c.pr]
abbrev encM (m : Mach) : PyData := .tuple [encA m.ar, dN m.fs, .tuple (m.ins.map encI), .tuple (m.con.map encK)]
structure InsOk (ar : List Nat) (fs : Nat) (i : Ins) : Prop where
  form : i.form < fs
  ar : ar[i.op]? = some i.args.length
  args : ∀ a ∈ i.args, a < fs
  pr : i.pr ≤ 20
structure ConOk (fs : Nat) (c : Con) : Prop where
  a : c.a < fs
  b : c.b < fs
  ne : c.a ≠ c.b
  pr : c.pr ≤ 20
structure MOk (m : Mach) : Prop where
  ar : ArOk m.ar
  f1 : 1 ≤ m.fs
  f4 : m.fs ≤ 4
  il : m.ins.length ≤ 24
  cl : m.con.length ≤ 12
  ins : ∀ i ∈ m.ins, InsOk m.ar m.fs i
  con : ∀ c ∈ m.con, ConOk m.fs c
theorem ins_ok {ar : List Nat} {fs : Nat} {i : Ins} (ha : ArOk ar) (h : InsOk ar fs i) : M_is_instruction [.fr (encA ar), .fr (dN fs), .fr (encI i)] = .ok (.fr (.bool true), [.fr (encA ar), .fr (dN fs), .fr (encI i)]) := by
  have h1 := lt_of_get h.ar
  have h2 := ha.le2 _ (List.mem_of_getElem? h.ar)
  have c1 : (i.op : Int) ≤ ar.length - 1 := by omega
  have c2 : (i.form : Int) ≤ fs - 1 := by have := h.form; omega
  have c3 := h.pr
  have c4 : (i.pr : Int) ≤ 20 := by omega
  simp [M_is_instruction, b_is_instruction, q_mulAI, q_mulAL, a_wb, q_divW, Function.comp_def, q_starI, q_starIT, a_wp, a_fz, a_fz0, a_fz1, a_ext, a_ins, a_insA, a_pop, a_parN, a_evO0, a_evO1, a_setO0, a_setO1, a_ix2, a_setII, a_zN, a_zC, a_lcO, d_oo, pEq_int, pNe_int, pIxL, pIxT, atI_nat, atI_0, atI_1, atI_2, atI_3, atI_m1, cutLo, cutHi, cutLo1, cutHi1, a_seq, a_ifS, a_B, a_op, a_ov, a_ev0, a_evv, a_evs, a_C, a_V, a_M, a_set, a_setI, a_app, a_ret, a_ex, a_skip, a_no, a_not, a_andT, a_orT, a_and, a_or, a_notV, a_if, a_par, a_call, a_forS, a_sq, a_r1, a_r2, a_en, a_zp, a_asT, a_chI, a_yes, a_lc, a_fn, okA, f_fr, bkA, rsvs, rsv, dvs, on1, on2, d_fr, d_ol, rsO, ndS, sl, putB, asT, setAll, ofO, Dy.ints1, Dy.ints2, nE, wipeE, unw, frO, q_addI, q_addL, q_addT, q_addS, q_sub, q_div, q_mod, q_pow, q_neg, q_cm, pIs, pIsn, q_isN, q_isI, q_isS, q_isT, q_isL, q_isB, q_lenL, q_lenT, pTup, pLst, q_tupL, q_tupT, q_lstL, q_lstT, q_revL, q_slL, q_slT, q_shL, q_shT, q_sqL, q_sqT, q_intI, q_max2, q_min2, q_aII, q_aBI, q_aTI, q_aTT, q_aLL, q_aTL, q_aIT, between_ok, c1, c2, c4, h.ar]
  rw [lc_tm dN (fun _ => .bool true) i.args rfl (fun a ha => ?_) (by omega)]
  · simp [q_mulAI, q_mulAL, a_wb, q_divW, Function.comp_def, q_starI, q_starIT, a_wp, a_fz, a_fz0, a_fz1, a_ext, a_ins, a_insA, a_pop, a_parN, a_evO0, a_evO1, a_setO0, a_setO1, a_ix2, a_setII, a_zN, a_zC, a_lcO, d_oo, pEq_int, pNe_int, pIxL, pIxT, atI_nat, atI_0, atI_1, atI_2, atI_3, atI_m1, cutLo, cutHi, cutLo1, cutHi1, a_seq, a_ifS, a_B, a_op, a_ov, a_ev0, a_evv, a_evs, a_C, a_V, a_M, a_set, a_setI, a_app, a_ret, a_ex, a_skip, a_no, a_not, a_andT, a_orT, a_and, a_or, a_notV, a_if, a_par, a_call, a_forS, a_sq, a_r1, a_r2, a_en, a_zp, a_asT, a_chI, a_yes, a_lc, a_fn, okA, f_fr, bkA, rsvs, rsv, dvs, on1, on2, d_fr, d_ol, rsO, ndS, sl, putB, asT, setAll, ofO, Dy.ints1, Dy.ints2, nE, wipeE, unw, frO, q_addI, q_addL, q_addT, q_addS, q_sub, q_div, q_mod, q_pow, q_neg, q_cm, pIs, pIsn, q_isN, q_isI, q_isS, q_isT, q_isL, q_isB, q_lenL, q_lenT, pTup, pLst, q_tupL, q_tupT, q_lstL, q_lstT, q_revL, q_slL, q_slT, q_shL, q_shT, q_sqL, q_sqT, q_intI, q_max2, q_min2, q_aII, q_aBI, q_aTI, q_aTT, q_aLL, q_aTL, q_aIT, pAll_true]
  · have := h.args a ha
    simp [E1_is_instruction, q_mulAI, q_mulAL, a_wb, q_divW, Function.comp_def, q_starI, q_starIT, a_wp, a_fz, a_fz0, a_fz1, a_ext, a_ins, a_insA, a_pop, a_parN, a_evO0, a_evO1, a_setO0, a_setO1, a_ix2, a_setII, a_zN, a_zC, a_lcO, d_oo, pEq_int, pNe_int, pIxL, pIxT, atI_nat, atI_0, atI_1, atI_2, atI_3, atI_m1, cutLo, cutHi, cutLo1, cutHi1, a_seq, a_ifS, a_B, a_op, a_ov, a_ev0, a_evv, a_evs, a_C, a_V, a_M, a_set, a_setI, a_app, a_ret, a_ex, a_skip, a_no, a_not, a_andT, a_orT, a_and, a_or, a_notV, a_if, a_par, a_call, a_forS, a_sq, a_r1, a_r2, a_en, a_zp, a_asT, a_chI, a_yes, a_lc, a_fn, okA, f_fr, bkA, rsvs, rsv, dvs, on1, on2, d_fr, d_ol, rsO, ndS, sl, putB, asT, setAll, ofO, Dy.ints1, Dy.ints2, nE, wipeE, unw, frO, q_addI, q_addL, q_addT, q_addS, q_sub, q_div, q_mod, q_pow, q_neg, q_cm, pIs, pIsn, q_isN, q_isI, q_isS, q_isT, q_isL, q_isB, q_lenL, q_lenT, pTup, pLst, q_tupL, q_tupT, q_lstL, q_lstT, q_revL, q_slL, q_slT, q_shL, q_shT, q_sqL, q_sqT, q_intI, q_max2, q_min2, q_aII, q_aBI, q_aTI, q_aTT, q_aLL, q_aTL, q_aIT, between_ok]; omega
theorem con_ok {fs : Nat} {c : Con} (h : ConOk fs c) : M_is_conversion [.fr (dN fs), .fr (encK c)] = .ok (.fr (.bool true), [.fr (dN fs), .fr (encK c)]) := by
  have c1 : (c.a : Int) ≤ fs - 1 := by have := h.a; omega
  have c2 : (c.b : Int) ≤ fs - 1 := by have := h.b; omega
  have c3 : (c.pr : Int) ≤ 20 := by have := h.pr; omega
  have c4 : ¬ (c.a : Int) = c.b := by have := h.ne; omega
  simp [M_is_conversion, b_is_conversion, q_mulAI, q_mulAL, a_wb, q_divW, Function.comp_def, q_starI, q_starIT, a_wp, a_fz, a_fz0, a_fz1, a_ext, a_ins, a_insA, a_pop, a_parN, a_evO0, a_evO1, a_setO0, a_setO1, a_ix2, a_setII, a_zN, a_zC, a_lcO, d_oo, pEq_int, pNe_int, pIxL, pIxT, atI_nat, atI_0, atI_1, atI_2, atI_3, atI_m1, cutLo, cutHi, cutLo1, cutHi1, a_seq, a_ifS, a_B, a_op, a_ov, a_ev0, a_evv, a_evs, a_C, a_V, a_M, a_set, a_setI, a_app, a_ret, a_ex, a_skip, a_no, a_not, a_andT, a_orT, a_and, a_or, a_notV, a_if, a_par, a_call, a_forS, a_sq, a_r1, a_r2, a_en, a_zp, a_asT, a_chI, a_yes, a_lc, a_fn, okA, f_fr, bkA, rsvs, rsv, dvs, on1, on2, d_fr, d_ol, rsO, ndS, sl, putB, asT, setAll, ofO, Dy.ints1, Dy.ints2, nE, wipeE, unw, frO, q_addI, q_addL, q_addT, q_addS, q_sub, q_div, q_mod, q_pow, q_neg, q_cm, pIs, pIsn, q_isN, q_isI, q_isS, q_isT, q_isL, q_isB, q_lenL, q_lenT, pTup, pLst, q_tupL, q_tupT, q_lstL, q_lstT, q_revL, q_slL, q_slT, q_shL, q_shT, q_sqL, q_sqT, q_intI, q_max2, q_min2, q_aII, q_aBI, q_aTI, q_aTT, q_aLL, q_aTL, q_aIT, between_ok, c1, c2, c3, c4]
theorem machine_ok {m : Mach} (h : MOk m) : M_is_machine [.fr (encM m)] = .ok (.fr (.bool true), [.fr (encM m)]) := by
  have c1 : (1 : Int) ≤ m.fs := by have := h.f1; omega
  have c2 : (m.fs : Int) ≤ 4 := by have := h.f4; omega
  have c3 : ¬ (24 : Int) < m.ins.length := by have := h.il; omega
  have c4 : ¬ (12 : Int) < m.con.length := by have := h.cl; omega
  simp [M_is_machine, b_is_machine, q_mulAI, q_mulAL, a_wb, q_divW, Function.comp_def, q_starI, q_starIT, a_wp, a_fz, a_fz0, a_fz1, a_ext, a_ins, a_insA, a_pop, a_parN, a_evO0, a_evO1, a_setO0, a_setO1, a_ix2, a_setII, a_zN, a_zC, a_lcO, d_oo, pEq_int, pNe_int, pIxL, pIxT, atI_nat, atI_0, atI_1, atI_2, atI_3, atI_m1, cutLo, cutHi, cutLo1, cutHi1, a_seq, a_ifS, a_B, a_op, a_ov, a_ev0, a_evv, a_evs, a_C, a_V, a_M, a_set, a_setI, a_app, a_ret, a_ex, a_skip, a_no, a_not, a_andT, a_orT, a_and, a_or, a_notV, a_if, a_par, a_call, a_forS, a_sq, a_r1, a_r2, a_en, a_zp, a_asT, a_chI, a_yes, a_lc, a_fn, okA, f_fr, bkA, rsvs, rsv, dvs, on1, on2, d_fr, d_ol, rsO, ndS, sl, putB, asT, setAll, ofO, Dy.ints1, Dy.ints2, nE, wipeE, unw, frO, q_addI, q_addL, q_addT, q_addS, q_sub, q_div, q_mod, q_pow, q_neg, q_cm, pIs, pIsn, q_isN, q_isI, q_isS, q_isT, q_isL, q_isB, q_lenL, q_lenT, pTup, pLst, q_tupL, q_tupT, q_lstL, q_lstT, q_revL, q_slL, q_slT, q_shL, q_shT, q_sqL, q_sqT, q_intI, q_max2, q_min2, q_aII, q_aBI, q_aTI, q_aTT, q_aLL, q_aTL, q_aIT, arities_ok h.ar, between_ok, c1, c2, c3, c4]
  rw [lc_tm encI (fun _ => .bool true) m.ins rfl (fun i hi => ?_) (by have := h.il; omega)]
  · simp [q_mulAI, q_mulAL, a_wb, q_divW, Function.comp_def, q_starI, q_starIT, a_wp, a_fz, a_fz0, a_fz1, a_ext, a_ins, a_insA, a_pop, a_parN, a_evO0, a_evO1, a_setO0, a_setO1, a_ix2, a_setII, a_zN, a_zC, a_lcO, d_oo, pEq_int, pNe_int, pIxL, pIxT, atI_nat, atI_0, atI_1, atI_2, atI_3, atI_m1, cutLo, cutHi, cutLo1, cutHi1, a_seq, a_ifS, a_B, a_op, a_ov, a_ev0, a_evv, a_evs, a_C, a_V, a_M, a_set, a_setI, a_app, a_ret, a_ex, a_skip, a_no, a_not, a_andT, a_orT, a_and, a_or, a_notV, a_if, a_par, a_call, a_forS, a_sq, a_r1, a_r2, a_en, a_zp, a_asT, a_chI, a_yes, a_lc, a_fn, okA, f_fr, bkA, rsvs, rsv, dvs, on1, on2, d_fr, d_ol, rsO, ndS, sl, putB, asT, setAll, ofO, Dy.ints1, Dy.ints2, nE, wipeE, unw, frO, q_addI, q_addL, q_addT, q_addS, q_sub, q_div, q_mod, q_pow, q_neg, q_cm, pIs, pIsn, q_isN, q_isI, q_isS, q_isT, q_isL, q_isB, q_lenL, q_lenT, pTup, pLst, q_tupL, q_tupT, q_lstL, q_lstT, q_revL, q_slL, q_slT, q_shL, q_shT, q_sqL, q_sqT, q_intI, q_max2, q_min2, q_aII, q_aBI, q_aTI, q_aTT, q_aLL, q_aTL, q_aIT, pAll_true]
    rw [lc_tm encK (fun _ => .bool true) m.con rfl (fun c hc => ?_) (by have := h.cl; omega)]
    · simp [q_mulAI, q_mulAL, a_wb, q_divW, Function.comp_def, q_starI, q_starIT, a_wp, a_fz, a_fz0, a_fz1, a_ext, a_ins, a_insA, a_pop, a_parN, a_evO0, a_evO1, a_setO0, a_setO1, a_ix2, a_setII, a_zN, a_zC, a_lcO, d_oo, pEq_int, pNe_int, pIxL, pIxT, atI_nat, atI_0, atI_1, atI_2, atI_3, atI_m1, cutLo, cutHi, cutLo1, cutHi1, a_seq, a_ifS, a_B, a_op, a_ov, a_ev0, a_evv, a_evs, a_C, a_V, a_M, a_set, a_setI, a_app, a_ret, a_ex, a_skip, a_no, a_not, a_andT, a_orT, a_and, a_or, a_notV, a_if, a_par, a_call, a_forS, a_sq, a_r1, a_r2, a_en, a_zp, a_asT, a_chI, a_yes, a_lc, a_fn, okA, f_fr, bkA, rsvs, rsv, dvs, on1, on2, d_fr, d_ol, rsO, ndS, sl, putB, asT, setAll, ofO, Dy.ints1, Dy.ints2, nE, wipeE, unw, frO, q_addI, q_addL, q_addT, q_addS, q_sub, q_div, q_mod, q_pow, q_neg, q_cm, pIs, pIsn, q_isN, q_isI, q_isS, q_isT, q_isL, q_isB, q_lenL, q_lenT, pTup, pLst, q_tupL, q_tupT, q_lstL, q_lstT, q_revL, q_slL, q_slT, q_shL, q_shT, q_sqL, q_sqT, q_intI, q_max2, q_min2, q_aII, q_aBI, q_aTI, q_aTT, q_aLL, q_aTL, q_aIT, pAll_true]
    · simp [E2_is_machine, q_mulAI, q_mulAL, a_wb, q_divW, Function.comp_def, q_starI, q_starIT, a_wp, a_fz, a_fz0, a_fz1, a_ext, a_ins, a_insA, a_pop, a_parN, a_evO0, a_evO1, a_setO0, a_setO1, a_ix2, a_setII, a_zN, a_zC, a_lcO, d_oo, pEq_int, pNe_int, pIxL, pIxT, atI_nat, atI_0, atI_1, atI_2, atI_3, atI_m1, cutLo, cutHi, cutLo1, cutHi1, a_seq, a_ifS, a_B, a_op, a_ov, a_ev0, a_evv, a_evs, a_C, a_V, a_M, a_set, a_setI, a_app, a_ret, a_ex, a_skip, a_no, a_not, a_andT, a_orT, a_and, a_or, a_notV, a_if, a_par, a_call, a_forS, a_sq, a_r1, a_r2, a_en, a_zp, a_asT, a_chI, a_yes, a_lc, a_fn, okA, f_fr, bkA, rsvs, rsv, dvs, on1, on2, d_fr, d_ol, rsO, ndS, sl, putB, asT, setAll, ofO, Dy.ints1, Dy.ints2, nE, wipeE, unw, frO, q_addI, q_addL, q_addT, q_addS, q_sub, q_div, q_mod, q_pow, q_neg, q_cm, pIs, pIsn, q_isN, q_isI, q_isS, q_isT, q_isL, q_isB, q_lenL, q_lenT, pTup, pLst, q_tupL, q_tupT, q_lstL, q_lstT, q_revL, q_slL, q_slT, q_shL, q_shT, q_sqL, q_sqT, q_intI, q_max2, q_min2, q_aII, q_aBI, q_aTI, q_aTT, q_aLL, q_aTL, q_aIT, con_ok (h.con c hc)]
  · simp [E1_is_machine, q_mulAI, q_mulAL, a_wb, q_divW, Function.comp_def, q_starI, q_starIT, a_wp, a_fz, a_fz0, a_fz1, a_ext, a_ins, a_insA, a_pop, a_parN, a_evO0, a_evO1, a_setO0, a_setO1, a_ix2, a_setII, a_zN, a_zC, a_lcO, d_oo, pEq_int, pNe_int, pIxL, pIxT, atI_nat, atI_0, atI_1, atI_2, atI_3, atI_m1, cutLo, cutHi, cutLo1, cutHi1, a_seq, a_ifS, a_B, a_op, a_ov, a_ev0, a_evv, a_evs, a_C, a_V, a_M, a_set, a_setI, a_app, a_ret, a_ex, a_skip, a_no, a_not, a_andT, a_orT, a_and, a_or, a_notV, a_if, a_par, a_call, a_forS, a_sq, a_r1, a_r2, a_en, a_zp, a_asT, a_chI, a_yes, a_lc, a_fn, okA, f_fr, bkA, rsvs, rsv, dvs, on1, on2, d_fr, d_ol, rsO, ndS, sl, putB, asT, setAll, ofO, Dy.ints1, Dy.ints2, nE, wipeE, unw, frO, q_addI, q_addL, q_addT, q_addS, q_sub, q_div, q_mod, q_pow, q_neg, q_cm, pIs, pIsn, q_isN, q_isI, q_isS, q_isT, q_isL, q_isB, q_lenL, q_lenT, pTup, pLst, q_tupL, q_tupT, q_lstL, q_lstT, q_revL, q_slL, q_slT, q_shL, q_shT, q_sqL, q_sqT, q_intI, q_max2, q_min2, q_aII, q_aBI, q_aTI, q_aTT, q_aLL, q_aTL, q_aIT, ins_ok h.ar (h.ins i hi)]
theorem need_machine_ok {m : Mach} (h : MOk m) : M_need_machine [.fr (encM m)] = .ok (.fr .none, [.fr (encM m)]) := by
  simp [M_need_machine, b_need_machine, q_mulAI, q_mulAL, a_wb, q_divW, Function.comp_def, q_starI, q_starIT, a_wp, a_fz, a_fz0, a_fz1, a_ext, a_ins, a_insA, a_pop, a_parN, a_evO0, a_evO1, a_setO0, a_setO1, a_ix2, a_setII, a_zN, a_zC, a_lcO, d_oo, pEq_int, pNe_int, pIxL, pIxT, atI_nat, atI_0, atI_1, atI_2, atI_3, atI_m1, cutLo, cutHi, cutLo1, cutHi1, a_seq, a_ifS, a_B, a_op, a_ov, a_ev0, a_evv, a_evs, a_C, a_V, a_M, a_set, a_setI, a_app, a_ret, a_ex, a_skip, a_no, a_not, a_andT, a_orT, a_and, a_or, a_notV, a_if, a_par, a_call, a_forS, a_sq, a_r1, a_r2, a_en, a_zp, a_asT, a_chI, a_yes, a_lc, a_fn, okA, f_fr, bkA, rsvs, rsv, dvs, on1, on2, d_fr, d_ol, rsO, ndS, sl, putB, asT, setAll, ofO, Dy.ints1, Dy.ints2, nE, wipeE, unw, frO, q_addI, q_addL, q_addT, q_addS, q_sub, q_div, q_mod, q_pow, q_neg, q_cm, pIs, pIsn, q_isN, q_isI, q_isS, q_isT, q_isL, q_isB, q_lenL, q_lenT, pTup, pLst, q_tupL, q_tupT, q_lstL, q_lstT, q_revL, q_slL, q_slT, q_shL, q_shT, q_sqL, q_sqT, q_intI, q_max2, q_min2, q_aII, q_aBI, q_aTI, q_aTT, q_aLL, q_aTL, q_aIT, machine_ok h]
abbrev Mat := List (List Pr)
def getM (w : Mat) (i j : Nat) : Pr := (w.getD i []).getD j none
def setM (w : Mat) (i j : Nat) (v : Pr) : Mat := w.set i ((w.getD i []).set j v)
def Sq (n : Nat) (w : Mat) : Prop := w.length = n ∧ ∀ r ∈ w, r.length = n
theorem getD_mem {α : Type} {xs : List α} {k : Nat} {d : α} (h : k < xs.length) : xs[k]? = some (xs.getD k d) := by
  rw [List.getD_eq_getElem?_getD, List.getElem?_eq_getElem h]; rfl
theorem Sq.row {n : Nat} {w : Mat} (h : Sq n w) {i : Nat} (hi : i < n) : w[i]? = some (w.getD i []) ∧ (w.getD i []).length = n := by
  have e := getD_mem (xs := w) (d := []) (show i < w.length by rw [h.1]; exact hi)
  exact ⟨e, h.2 _ (List.mem_of_getElem? e)⟩
theorem Sq.at {n : Nat} {w : Mat} (h : Sq n w) {i j : Nat} (hi : i < n) (hj : j < n) : (w.getD i [])[j]? = some (getM w i j) :=
  getD_mem (by rw [(h.row hi).2]; exact hj)
theorem Sq.set {n : Nat} {w : Mat} (h : Sq n w) {i j : Nat} {v : Pr} (hi : i < n) : Sq n (setM w i j v) := by
  refine ⟨by simp [setM, h.1], fun r hr => ?_⟩
  unfold setM at hr
  rcases List.mem_or_eq_of_mem_set hr with z | z
  · exact h.2 r z
  · subst z; rw [List.length_set]; exact (h.row hi).2
theorem getM_set {n : Nat} {w : Mat} (h : Sq n w) {i j i' j' : Nat} {v : Pr} (hi : i < n) (hj : j < n) : getM (setM w i j v) i' j' = if i' = i ∧ j' = j then v else getM w i' j' := by
  unfold getM setM
  have hr := h.row hi
  rw [List.getD_eq_getElem?_getD (l := w.set i _), List.getElem?_set]
  by_cases e : i = i'
  · subst e
    rw [if_pos rfl, if_pos (by rw [h.1]; exact hi)]
    show ((w.getD i []).set j v).getD j' none = _
    rw [List.getD_eq_getElem?_getD, List.getElem?_set]
    by_cases e2 : j = j'
    · subst e2
      rw [if_pos rfl, if_pos (by rw [hr.2]; exact hj), if_pos ⟨rfl, rfl⟩]; rfl
    · rw [if_neg e2, if_neg (fun z => e2 z.2.symm), ← List.getD_eq_getElem?_getD]
  · rw [if_neg e, if_neg (fun z => e z.1.symm), List.getD_eq_getElem?_getD (l := w)]
theorem Sq.rw {n : Nat} {w : Mat} (h : Sq n w) {i : Nat} (hi : i < n) : ∃ r : List Pr, w[i]? = some r ∧ r.length = n ∧ (∀ j, j < n → r[j]? = some (getM w i j)) ∧ ∀ j v, setM w i j v = w.set i (r.set j v) :=
  ⟨w.getD i [], (h.row hi).1, (h.row hi).2, fun j hj => h.at hi hj, fun j v => rfl⟩
abbrev matO (w : Mat) : Option O := some (.oo (w.map rowL))
abbrev encWays (w : Mat) : PyData := .list (w.map fun r => .list (rowL r))
theorem sumP2 (a b : Pr) : M_total [.fr (.list [dP a, dP b])] = .ok (.fr (dP (sumP [a, b])), [.fr (.list [dP a, dP b])]) := total_ok [a, b]
def wy0 (n : Nat) : Mat := (List.range n).map fun _ => List.replicate n none
def wy1 (n : Nat) : Mat := (List.range n).foldl (fun w i => setM w i i (some 0)) (wy0 n)
def wy2 (m : Mach) : Mat := m.con.foldl (fun w c => setM w c.a c.b (lessP (getM w c.a c.b) (some c.pr))) (wy1 m.fs)
def fw3 (k i : Nat) (w : Mat) (j : Nat) : Mat := setM w i j (lessP (getM w i j) (sumP [getM w i k, getM w k j]))
def fw2 (n k : Nat) (w : Mat) (i : Nat) : Mat := (List.range n).foldl (fw3 k i) w
def fw1 (n : Nat) (w : Mat) (k : Nat) : Mat := (List.range n).foldl (fw2 n k) w
def waysT (m : Mach) : Mat := (List.range m.fs).foldl (fw1 m.fs) (wy2 m)
theorem sq_fw3 {n k i j : Nat} {w : Mat} (h : Sq n w) (hi : i < n) : Sq n (fw3 k i w j) := h.set hi
theorem foldl_inv {α σ : Type} {f : σ → α → σ} {Inv : σ → Prop} {xs : List α} {s : σ} (h0 : Inv s) (step : ∀ s x, x ∈ xs → Inv s → Inv (f s x)) : Inv (xs.foldl f s) := by
  induction xs generalizing s with
  | nil => exact h0
  | cons x xs ih => exact ih (step s x (by simp) h0) fun s y hy hs => step s y (by simp [hy]) hs
theorem sq_fw2 {n k i : Nat} {w : Mat} (h : Sq n w) (hi : i < n) : Sq n (fw2 n k w i) := foldl_inv h fun s j _ hs => sq_fw3 hs hi
theorem sq_fw1 {n k : Nat} {w : Mat} (h : Sq n w) : Sq n (fw1 n w k) := foldl_inv h fun s i hi hs => sq_fw2 hs (List.mem_range.mp hi)
theorem sq_wy0 (n : Nat) : Sq n (wy0 n) := ⟨by simp [wy0], fun r hr => by unfold wy0 at hr; obtain ⟨_, _, rfl⟩ := List.mem_map.mp hr; simp⟩
theorem sq_wy1 (n : Nat) : Sq n (wy1 n) := foldl_inv (sq_wy0 n) fun s i hi hs => hs.set (List.mem_range.mp hi)
theorem sq_wy2 {m : Mach} (h : MOk m) : Sq m.fs (wy2 m) := foldl_inv (sq_wy1 _) fun s c hc hs => hs.set (h.con c hc).a
theorem sq_ways {m : Mach} (h : MOk m) : Sq m.fs (waysT m) := foldl_inv (sq_wy2 h) fun s i hi hs => sq_fw1 hs
theorem ways_ok {m : Mach} (h : MOk m) : M_ways_of [.fr (encM m)] = .ok (.oo ((waysT m).map rowL), [.fr (encM m)]) := by
  have f1 := h.f1
  have f4 := h.f4
  have cr : (m.fs : Int) ≤ 1000000000 ∧ (-1000000000 : Int) ≤ m.fs := by omega
  have e0 : ∀ e : Dy.Env, e = V_ways_of (machine := fr (encM m)) → lcO [2] (.nm 2) E1_ways_of (rng 0 m.fs) e [] = .ok ((wy0 m.fs).map rowL, e) := fun e he => by
    rw [lcO_r (α := Nat) (fun _ => List.replicate m.fs .none) m.fs (fun k hk => ?_) (by omega)]
    · simp [wy0, dP]
    · subst he
      have cm : pMul (.list [.none]) (.int (m.fs : Int)) = some (.ol (List.replicate m.fs .none)) := by
        rcases (by omega : m.fs = 1 ∨ m.fs = 2 ∨ m.fs = 3 ∨ m.fs = 4) with z | z | z | z <;> rw [z] <;> rfl
      simp [E1_ways_of, q_mulAI, q_mulAL, a_wb, q_divW, Function.comp_def, q_starI, q_starIT, a_wp, a_fz, a_fz0, a_fz1, a_ext, a_ins, a_insA, a_pop, a_parN, a_evO0, a_evO1, a_setO0, a_setO1, a_ix2, a_setII, a_zN, a_zC, a_lcO, d_oo, pEq_int, pNe_int, pIxL, pIxT, atI_nat, atI_0, atI_1, atI_2, atI_3, atI_m1, cutLo, cutHi, cutLo1, cutHi1, a_seq, a_ifS, a_B, a_op, a_ov, a_ev0, a_evv, a_evs, a_C, a_V, a_M, a_set, a_setI, a_app, a_ret, a_ex, a_skip, a_no, a_not, a_andT, a_orT, a_and, a_or, a_notV, a_if, a_par, a_call, a_forS, a_sq, a_r1, a_r2, a_en, a_zp, a_asT, a_chI, a_yes, a_lc, a_fn, okA, f_fr, bkA, rsvs, rsv, dvs, on1, on2, d_fr, d_ol, rsO, ndS, sl, putB, asT, setAll, ofO, Dy.ints1, Dy.ints2, nE, wipeE, unw, frO, q_addI, q_addL, q_addT, q_addS, q_sub, q_div, q_mod, q_pow, q_neg, q_cm, pIs, pIsn, q_isN, q_isI, q_isS, q_isT, q_isL, q_isB, q_lenL, q_lenT, pTup, pLst, q_tupL, q_tupT, q_lstL, q_lstT, q_revL, q_slL, q_slT, q_shL, q_shT, q_sqL, q_sqT, q_intI, q_max2, q_min2, q_aII, q_aBI, q_aTI, q_aTT, q_aLL, q_aTL, q_aIT, cm]
  have e0 := e0 _ rfl
  obtain ⟨e1, q1⟩ := for_ri (t := .nm 2) (body := L1_ways_of) (n := m.fs) (fun w => V_ways_of (machine := fr (encM m)) (found := matO w)) (fun w i => setM w i i (some 0)) (Sq m.fs) (wy0 m.fs) rfl (sq_wy0 _) (fun w k hk hw => ⟨hw.set hk, by
    obtain ⟨r, h1, h2, h3, h4⟩ := hw.rw hk
    rw [h4]
    simp [L1_ways_of, q_mulAI, q_mulAL, a_wb, q_divW, Function.comp_def, q_starI, q_starIT, a_wp, a_fz, a_fz0, a_fz1, a_ext, a_ins, a_insA, a_pop, a_parN, a_evO0, a_evO1, a_setO0, a_setO1, a_ix2, a_setII, a_zN, a_zC, a_lcO, d_oo, pEq_int, pNe_int, pIxL, pIxT, atI_nat, atI_0, atI_1, atI_2, atI_3, atI_m1, cutLo, cutHi, cutLo1, cutHi1, a_seq, a_ifS, a_B, a_op, a_ov, a_ev0, a_evv, a_evs, a_C, a_V, a_M, a_set, a_setI, a_app, a_ret, a_ex, a_skip, a_no, a_not, a_andT, a_orT, a_and, a_or, a_notV, a_if, a_par, a_call, a_forS, a_sq, a_r1, a_r2, a_en, a_zp, a_asT, a_chI, a_yes, a_lc, a_fn, okA, f_fr, bkA, rsvs, rsv, dvs, on1, on2, d_fr, d_ol, rsO, ndS, sl, putB, asT, setAll, ofO, Dy.ints1, Dy.ints2, nE, wipeE, unw, frO, q_addI, q_addL, q_addT, q_addS, q_sub, q_div, q_mod, q_pow, q_neg, q_cm, pIs, pIsn, q_isN, q_isI, q_isS, q_isT, q_isL, q_isB, q_lenL, q_lenT, pTup, pLst, q_tupL, q_tupT, q_lstL, q_lstT, q_revL, q_slL, q_slT, q_shL, q_shT, q_sqL, q_sqT, q_intI, q_max2, q_min2, q_aII, q_aBI, q_aTI, q_aTT, q_aLL, q_aTL, q_aIT, hw.1, h2, ixN_nat _ _ hk, h1, List.map_set, dP]⟩)
  obtain ⟨e2, q2⟩ := for_li (t := .tu [4, 5, 6]) (body := L2_ways_of) encK (fun w => V_ways_of (machine := fr (encM m)) (found := matO w)) (fun w c => setM w c.a c.b (lessP (getM w c.a c.b) (some c.pr))) (Sq m.fs) m.con (wy1 m.fs) rfl rfl q1 (fun w c hc hw => ⟨hw.set (h.con c hc).a, by
    have ha := (h.con c hc).a
    have hb := (h.con c hc).b
    obtain ⟨r, h1, h2, h3, h4⟩ := hw.rw ha
    rw [h4]
    have el := less_ok (getM w c.a c.b) (some c.pr)
    rw [dP_some] at el
    simp [L2_ways_of, q_mulAI, q_mulAL, a_wb, q_divW, Function.comp_def, q_starI, q_starIT, a_wp, a_fz, a_fz0, a_fz1, a_ext, a_ins, a_insA, a_pop, a_parN, a_evO0, a_evO1, a_setO0, a_setO1, a_ix2, a_setII, a_zN, a_zC, a_lcO, d_oo, pEq_int, pNe_int, pIxL, pIxT, atI_nat, atI_0, atI_1, atI_2, atI_3, atI_m1, cutLo, cutHi, cutLo1, cutHi1, a_seq, a_ifS, a_B, a_op, a_ov, a_ev0, a_evv, a_evs, a_C, a_V, a_M, a_set, a_setI, a_app, a_ret, a_ex, a_skip, a_no, a_not, a_andT, a_orT, a_and, a_or, a_notV, a_if, a_par, a_call, a_forS, a_sq, a_r1, a_r2, a_en, a_zp, a_asT, a_chI, a_yes, a_lc, a_fn, okA, f_fr, bkA, rsvs, rsv, dvs, on1, on2, d_fr, d_ol, rsO, ndS, sl, putB, asT, setAll, ofO, Dy.ints1, Dy.ints2, nE, wipeE, unw, frO, q_addI, q_addL, q_addT, q_addS, q_sub, q_div, q_mod, q_pow, q_neg, q_cm, pIs, pIsn, q_isN, q_isI, q_isS, q_isT, q_isL, q_isB, q_lenL, q_lenT, pTup, pLst, q_tupL, q_tupT, q_lstL, q_lstT, q_revL, q_slL, q_slT, q_shL, q_shT, q_sqL, q_sqT, q_intI, q_max2, q_min2, q_aII, q_aBI, q_aTI, q_aTT, q_aLL, q_aTL, q_aIT, hw.1, h2, ixN_nat _ _ ha, ixN_nat _ _ hb, h1, h3 _ hb, List.map_set, el]⟩)
  obtain ⟨e3, q3⟩ := for_ri (t := .nm 3) (body := L5_ways_of) (n := m.fs) (fun w => V_ways_of (machine := fr (encM m)) (found := matO w)) (fw1 m.fs) (Sq m.fs) (wy2 m) rfl q2 (fun w k hk hw => ⟨sq_fw1 hw, by
    obtain ⟨e4, q4⟩ := for_ri (t := .nm 4) (body := L4_ways_of) (n := m.fs) (fun w => V_ways_of (machine := fr (encM m)) (found := matO w) (amid := fr (dN k))) (fw2 m.fs k) (Sq m.fs) w rfl hw (fun w i hi hw => ⟨sq_fw2 hw hi, by
      obtain ⟨e5, q5⟩ := for_ri (t := .nm 5) (body := L3_ways_of) (n := m.fs) (fun w => V_ways_of (machine := fr (encM m)) (found := matO w) (amid := fr (dN k)) (first := fr (dN i))) (fw3 k i) (Sq m.fs) w rfl hw (fun w j hj hw => ⟨sq_fw3 hw hi, by
        obtain ⟨r, h1, h2, h3, h4⟩ := hw.rw hi
        obtain ⟨u, k1, k2, k3, k4⟩ := hw.rw hk
        have el := less_ok (getM w i j) (sumP [getM w i k, getM w k j])
        have et := sumP2 (getM w i k) (getM w k j)
        unfold fw3
        rw [h4]
        simp [L3_ways_of, q_mulAI, q_mulAL, a_wb, q_divW, Function.comp_def, q_starI, q_starIT, a_wp, a_fz, a_fz0, a_fz1, a_ext, a_ins, a_insA, a_pop, a_parN, a_evO0, a_evO1, a_setO0, a_setO1, a_ix2, a_setII, a_zN, a_zC, a_lcO, d_oo, pEq_int, pNe_int, pIxL, pIxT, atI_nat, atI_0, atI_1, atI_2, atI_3, atI_m1, cutLo, cutHi, cutLo1, cutHi1, a_seq, a_ifS, a_B, a_op, a_ov, a_ev0, a_evv, a_evs, a_C, a_V, a_M, a_set, a_setI, a_app, a_ret, a_ex, a_skip, a_no, a_not, a_andT, a_orT, a_and, a_or, a_notV, a_if, a_par, a_call, a_forS, a_sq, a_r1, a_r2, a_en, a_zp, a_asT, a_chI, a_yes, a_lc, a_fn, okA, f_fr, bkA, rsvs, rsv, dvs, on1, on2, d_fr, d_ol, rsO, ndS, sl, putB, asT, setAll, ofO, Dy.ints1, Dy.ints2, nE, wipeE, unw, frO, q_addI, q_addL, q_addT, q_addS, q_sub, q_div, q_mod, q_pow, q_neg, q_cm, pIs, pIsn, q_isN, q_isI, q_isS, q_isT, q_isL, q_isB, q_lenL, q_lenT, pTup, pLst, q_tupL, q_tupT, q_lstL, q_lstT, q_revL, q_slL, q_slT, q_shL, q_shT, q_sqL, q_sqT, q_intI, q_max2, q_min2, q_aII, q_aBI, q_aTI, q_aTT, q_aLL, q_aTL, q_aIT, hw.1, h2, k2, ixN_nat _ _ hi, ixN_nat _ _ hk, ixN_nat _ _ hj, h1, k1, h3 _ hj, h3 _ hk, k3 _ hj, List.map_set, el, et]⟩)
      simp [L4_ways_of, q_mulAI, q_mulAL, a_wb, q_divW, Function.comp_def, q_starI, q_starIT, a_wp, a_fz, a_fz0, a_fz1, a_ext, a_ins, a_insA, a_pop, a_parN, a_evO0, a_evO1, a_setO0, a_setO1, a_ix2, a_setII, a_zN, a_zC, a_lcO, d_oo, pEq_int, pNe_int, pIxL, pIxT, atI_nat, atI_0, atI_1, atI_2, atI_3, atI_m1, cutLo, cutHi, cutLo1, cutHi1, a_seq, a_ifS, a_B, a_op, a_ov, a_ev0, a_evv, a_evs, a_C, a_V, a_M, a_set, a_setI, a_app, a_ret, a_ex, a_skip, a_no, a_not, a_andT, a_orT, a_and, a_or, a_notV, a_if, a_par, a_call, a_forS, a_sq, a_r1, a_r2, a_en, a_zp, a_asT, a_chI, a_yes, a_lc, a_fn, okA, f_fr, bkA, rsvs, rsv, dvs, on1, on2, d_fr, d_ol, rsO, ndS, sl, putB, asT, setAll, ofO, Dy.ints1, Dy.ints2, nE, wipeE, unw, frO, q_addI, q_addL, q_addT, q_addS, q_sub, q_div, q_mod, q_pow, q_neg, q_cm, pIs, pIsn, q_isN, q_isI, q_isS, q_isT, q_isL, q_isB, q_lenL, q_lenT, pTup, pLst, q_tupL, q_tupT, q_lstL, q_lstT, q_revL, q_slL, q_slT, q_shL, q_shT, q_sqL, q_sqT, q_intI, q_max2, q_min2, q_aII, q_aBI, q_aTI, q_aTT, q_aLL, q_aTL, q_aIT, cr, e5, fw2]⟩)
    simp [L5_ways_of, q_mulAI, q_mulAL, a_wb, q_divW, Function.comp_def, q_starI, q_starIT, a_wp, a_fz, a_fz0, a_fz1, a_ext, a_ins, a_insA, a_pop, a_parN, a_evO0, a_evO1, a_setO0, a_setO1, a_ix2, a_setII, a_zN, a_zC, a_lcO, d_oo, pEq_int, pNe_int, pIxL, pIxT, atI_nat, atI_0, atI_1, atI_2, atI_3, atI_m1, cutLo, cutHi, cutLo1, cutHi1, a_seq, a_ifS, a_B, a_op, a_ov, a_ev0, a_evv, a_evs, a_C, a_V, a_M, a_set, a_setI, a_app, a_ret, a_ex, a_skip, a_no, a_not, a_andT, a_orT, a_and, a_or, a_notV, a_if, a_par, a_call, a_forS, a_sq, a_r1, a_r2, a_en, a_zp, a_asT, a_chI, a_yes, a_lc, a_fn, okA, f_fr, bkA, rsvs, rsv, dvs, on1, on2, d_fr, d_ol, rsO, ndS, sl, putB, asT, setAll, ofO, Dy.ints1, Dy.ints2, nE, wipeE, unw, frO, q_addI, q_addL, q_addT, q_addS, q_sub, q_div, q_mod, q_pow, q_neg, q_cm, pIs, pIsn, q_isN, q_isI, q_isS, q_isT, q_isL, q_isB, q_lenL, q_lenT, pTup, pLst, q_tupL, q_tupT, q_lstL, q_lstT, q_revL, q_slL, q_slT, q_shL, q_shT, q_sqL, q_sqT, q_intI, q_max2, q_min2, q_aII, q_aBI, q_aTI, q_aTT, q_aLL, q_aTL, q_aIT, cr, e4, fw1]⟩)
  simp only [V_ways_of, matO] at e1 e2 e3
  simp [M_ways_of, b_ways_of, q_mulAI, q_mulAL, a_wb, q_divW, Function.comp_def, q_starI, q_starIT, a_wp, a_fz, a_fz0, a_fz1, a_ext, a_ins, a_insA, a_pop, a_parN, a_evO0, a_evO1, a_setO0, a_setO1, a_ix2, a_setII, a_zN, a_zC, a_lcO, d_oo, pEq_int, pNe_int, pIxL, pIxT, atI_nat, atI_0, atI_1, atI_2, atI_3, atI_m1, cutLo, cutHi, cutLo1, cutHi1, a_seq, a_ifS, a_B, a_op, a_ov, a_ev0, a_evv, a_evs, a_C, a_V, a_M, a_set, a_setI, a_app, a_ret, a_ex, a_skip, a_no, a_not, a_andT, a_orT, a_and, a_or, a_notV, a_if, a_par, a_call, a_forS, a_sq, a_r1, a_r2, a_en, a_zp, a_asT, a_chI, a_yes, a_lc, a_fn, okA, f_fr, bkA, rsvs, rsv, dvs, on1, on2, d_fr, d_ol, rsO, ndS, sl, putB, asT, setAll, ofO, Dy.ints1, Dy.ints2, nE, wipeE, unw, frO, q_addI, q_addL, q_addT, q_addS, q_sub, q_div, q_mod, q_pow, q_neg, q_cm, pIs, pIsn, q_isN, q_isI, q_isS, q_isT, q_isL, q_isB, q_lenL, q_lenT, pTup, pLst, q_tupL, q_tupT, q_lstL, q_lstT, q_revL, q_slL, q_slT, q_shL, q_shT, q_sqL, q_sqT, q_intI, q_max2, q_min2, q_aII, q_aBI, q_aTI, q_aTT, q_aLL, q_aTL, q_aIT, cr, e0]
  rw [e1]
  simp [q_mulAI, q_mulAL, a_wb, q_divW, Function.comp_def, q_starI, q_starIT, a_wp, a_fz, a_fz0, a_fz1, a_ext, a_ins, a_insA, a_pop, a_parN, a_evO0, a_evO1, a_setO0, a_setO1, a_ix2, a_setII, a_zN, a_zC, a_lcO, d_oo, pEq_int, pNe_int, pIxL, pIxT, atI_nat, atI_0, atI_1, atI_2, atI_3, atI_m1, cutLo, cutHi, cutLo1, cutHi1, a_seq, a_ifS, a_B, a_op, a_ov, a_ev0, a_evv, a_evs, a_C, a_V, a_M, a_set, a_setI, a_app, a_ret, a_ex, a_skip, a_no, a_not, a_andT, a_orT, a_and, a_or, a_notV, a_if, a_par, a_call, a_forS, a_sq, a_r1, a_r2, a_en, a_zp, a_asT, a_chI, a_yes, a_lc, a_fn, okA, f_fr, bkA, rsvs, rsv, dvs, on1, on2, d_fr, d_ol, rsO, ndS, sl, putB, asT, setAll, ofO, Dy.ints1, Dy.ints2, nE, wipeE, unw, frO, q_addI, q_addL, q_addT, q_addS, q_sub, q_div, q_mod, q_pow, q_neg, q_cm, pIs, pIsn, q_isN, q_isI, q_isS, q_isT, q_isL, q_isB, q_lenL, q_lenT, pTup, pLst, q_tupL, q_tupT, q_lstL, q_lstT, q_revL, q_slL, q_slT, q_shL, q_shT, q_sqL, q_sqT, q_intI, q_max2, q_min2, q_aII, q_aBI, q_aTI, q_aTT, q_aLL, q_aTL, q_aIT, cr]
  have e2' := e2
  unfold wy1 at e2'
  rw [e2']
  simp [q_mulAI, q_mulAL, a_wb, q_divW, Function.comp_def, q_starI, q_starIT, a_wp, a_fz, a_fz0, a_fz1, a_ext, a_ins, a_insA, a_pop, a_parN, a_evO0, a_evO1, a_setO0, a_setO1, a_ix2, a_setII, a_zN, a_zC, a_lcO, d_oo, pEq_int, pNe_int, pIxL, pIxT, atI_nat, atI_0, atI_1, atI_2, atI_3, atI_m1, cutLo, cutHi, cutLo1, cutHi1, a_seq, a_ifS, a_B, a_op, a_ov, a_ev0, a_evv, a_evs, a_C, a_V, a_M, a_set, a_setI, a_app, a_ret, a_ex, a_skip, a_no, a_not, a_andT, a_orT, a_and, a_or, a_notV, a_if, a_par, a_call, a_forS, a_sq, a_r1, a_r2, a_en, a_zp, a_asT, a_chI, a_yes, a_lc, a_fn, okA, f_fr, bkA, rsvs, rsv, dvs, on1, on2, d_fr, d_ol, rsO, ndS, sl, putB, asT, setAll, ofO, Dy.ints1, Dy.ints2, nE, wipeE, unw, frO, q_addI, q_addL, q_addT, q_addS, q_sub, q_div, q_mod, q_pow, q_neg, q_cm, pIs, pIsn, q_isN, q_isI, q_isS, q_isT, q_isL, q_isB, q_lenL, q_lenT, pTup, pLst, q_tupL, q_tupT, q_lstL, q_lstT, q_revL, q_slL, q_slT, q_shL, q_shT, q_sqL, q_sqT, q_intI, q_max2, q_min2, q_aII, q_aBI, q_aTI, q_aTT, q_aLL, q_aTL, q_aIT, cr]
  have e3' := e3
  unfold wy2 wy1 at e3'
  rw [e3']
  simp [q_mulAI, q_mulAL, a_wb, q_divW, Function.comp_def, q_starI, q_starIT, a_wp, a_fz, a_fz0, a_fz1, a_ext, a_ins, a_insA, a_pop, a_parN, a_evO0, a_evO1, a_setO0, a_setO1, a_ix2, a_setII, a_zN, a_zC, a_lcO, d_oo, pEq_int, pNe_int, pIxL, pIxT, atI_nat, atI_0, atI_1, atI_2, atI_3, atI_m1, cutLo, cutHi, cutLo1, cutHi1, a_seq, a_ifS, a_B, a_op, a_ov, a_ev0, a_evv, a_evs, a_C, a_V, a_M, a_set, a_setI, a_app, a_ret, a_ex, a_skip, a_no, a_not, a_andT, a_orT, a_and, a_or, a_notV, a_if, a_par, a_call, a_forS, a_sq, a_r1, a_r2, a_en, a_zp, a_asT, a_chI, a_yes, a_lc, a_fn, okA, f_fr, bkA, rsvs, rsv, dvs, on1, on2, d_fr, d_ol, rsO, ndS, sl, putB, asT, setAll, ofO, Dy.ints1, Dy.ints2, nE, wipeE, unw, frO, q_addI, q_addL, q_addT, q_addS, q_sub, q_div, q_mod, q_pow, q_neg, q_cm, pIs, pIsn, q_isN, q_isI, q_isS, q_isT, q_isL, q_isB, q_lenL, q_lenT, pTup, pLst, q_tupL, q_tupT, q_lstL, q_lstT, q_revL, q_slL, q_slT, q_shL, q_shT, q_sqL, q_sqT, q_intI, q_max2, q_min2, q_aII, q_aBI, q_aTI, q_aTT, q_aLL, q_aTL, q_aIT, waysT, wy2, wy1]
end Q
namespace Q
open PySem Dy
open L2 (atI ixN)
def gP (r : List Pr) (i : Nat) : Pr := r.getD i none
theorem gP_at {r : List Pr} {i : Nat} (h : i < r.length) : r[i]? = some (gP r i) := getD_mem h
theorem gP_some {r : List Pr} {i : Nat} {v : Pr} (h : r[i]? = some v) : gP r i = v := by unfold gP; rw [List.getD_eq_getElem?_getD, h]; rfl
theorem gP_set {r : List Pr} {i j : Nat} {v : Pr} (h : i < r.length) : gP (r.set i v) j = if j = i then v else gP r j := by
  unfold gP
  rw [List.getD_eq_getElem?_getD, List.getElem?_set]
  by_cases e : i = j
  · subst e; rw [if_pos rfl, if_pos h, if_pos rfl]; rfl
  · rw [if_neg e, if_neg (fun z => e z.symm), ← List.getD_eq_getElem?_getD]
def insP (rows : List (List Pr)) (i : Ins) : Pr := sumP (some i.pr :: (rows.zip i.args).map fun z => gP z.1 z.2)
def cm1 (op : Nat) (rows : List (List Pr)) (f : List Pr) (i : Ins) : List Pr := if i.op = op then f.set i.form (lessP (gP f i.form) (insP rows i)) else f
def compT (m : Mach) (op : Nat) (rows : List (List Pr)) : List Pr := m.ins.foldl (cm1 op rows) (List.replicate m.fs none)
theorem len_cm1 {op : Nat} {rows : List (List Pr)} {f : List Pr} {i : Ins} : (cm1 op rows f i).length = f.length := by unfold cm1; split <;> simp
theorem len_compT (m : Mach) (op : Nat) (rows : List (List Pr)) : (compT m op rows).length = m.fs := foldl_inv (Inv := fun f : List Pr => f.length = m.fs) (by simp) fun s x _ h => by rw [len_cm1]; exact h
theorem mulN {m : Mach} (h : MOk m) : pMul (.list [.none]) (.int (m.fs : Int)) = some (.ol (List.replicate m.fs .none)) := by
  have := h.f1; have := h.f4
  rcases (by omega : m.fs = 1 ∨ m.fs = 2 ∨ m.fs = 3 ∨ m.fs = 4) with z | z | z | z <;> rw [z] <;> rfl
theorem total1 (n : Nat) (xs : List Pr) : M_total [.fr (.list (.int (n : Int) :: xs.map dP))] = .ok (.fr (dP (sumP (some n :: xs))), [.fr (.list (.int (n : Int) :: xs.map dP))]) := total_ok (some n :: xs)
theorem rep_none (n : Nat) : rowL (List.replicate n none) = List.replicate n PyData.none := by simp [dP]
theorem computed_ok {m : Mach} {op : Nat} {rows : List (List Pr)} {d : PyData} (h : MOk m) (ha : m.ar[op]? = some rows.length) (hr : ∀ r ∈ rows, r.length = m.fs) (hd : seqOf d = some (rows.map encR)) :
    M_computed [.fr (encM m), .fr (dN op), .fr d] = .ok (.ol (rowL (compT m op rows)), [.fr (encM m), .fr (dN op), .fr d]) := by
  have f4 := h.f4
  have a2 := h.ar.le2 _ (List.mem_of_getElem? ha)
  obtain ⟨e, q⟩ := for_li (t := .tu [4, 5, 6, 7]) (body := L1_computed) encI (fun f : List Pr => V_computed (machine := fr (encM m)) (operator := fr (dN op)) (rows := fr d) (found := ol (rowL f))) (cm1 op rows) (fun f => f.length = m.fs) m.ins (List.replicate m.fs none) rfl rfl (by simp) (fun f i hi hf => ⟨by rw [len_cm1]; exact hf, by
    have io := h.ins i hi
    by_cases z : i.op = op
    · have hf1 : i.form < f.length := by rw [hf]; exact io.form
      have hg := gP_at hf1
      have el := less_ok (gP f i.form) (insP rows i)
      have et := total1 i.pr ((rows.zip i.args).map fun z => gP z.1 z.2)
      have c0 : (rows.zip i.args).length ≤ 2 := by rw [List.length_zip]; omega
      have c1 : 1 + min rows.length i.args.length ≤ 1000000 := by omega
      have c2 : i.form < m.fs := io.form
      unfold cm1
      rw [if_pos z]
      simp only [insP] at el ⊢
      have zi : (i.op : Int) = op := by omega
      simp [L1_computed, q_mulAI, q_mulAL, a_wb, q_divW, Function.comp_def, q_starI, q_starIT, a_wp, a_fz, a_fz0, a_fz1, a_ext, a_ins, a_insA, a_pop, a_parN, a_evO0, a_evO1, a_setO0, a_setO1, a_ix2, a_setII, a_zN, a_zC, a_lcO, d_oo, pEq_int, pNe_int, pIxL, pIxT, atI_nat, atI_0, atI_1, atI_2, atI_3, atI_m1, cutLo, cutHi, cutLo1, cutHi1, a_seq, a_ifS, a_B, a_op, a_ov, a_ev0, a_evv, a_evs, a_C, a_V, a_M, a_set, a_setI, a_app, a_ret, a_ex, a_skip, a_no, a_not, a_andT, a_orT, a_and, a_or, a_notV, a_if, a_par, a_call, a_forS, a_sq, a_r1, a_r2, a_en, a_zp, a_asT, a_chI, a_yes, a_lc, a_fn, okA, f_fr, bkA, rsvs, rsv, dvs, on1, on2, d_fr, d_ol, rsO, ndS, sl, putB, asT, setAll, ofO, Dy.ints1, Dy.ints2, nE, wipeE, unw, frO, q_addI, q_addL, q_addT, q_addS, q_sub, q_div, q_mod, q_pow, q_neg, q_cm, pIs, pIsn, q_isN, q_isI, q_isS, q_isT, q_isL, q_isB, q_lenL, q_lenT, pTup, pLst, q_tupL, q_tupT, q_lstL, q_lstT, q_revL, q_slL, q_slT, q_shL, q_shT, q_sqL, q_sqT, q_intI, q_max2, q_min2, q_aII, q_aBI, q_aTI, q_aTT, q_aLL, q_aTL, q_aIT, zi, hd]
      rw [zipD_map]
      rw [lc_tm (fun z : List Pr × Nat => .tuple [encR z.1, dN z.2]) (fun z => dP (gP z.1 z.2)) (rows.zip i.args) rfl (fun q hq => ?_) (by omega)]
      · simp [Function.comp_def] at et
        simp [q_mulAI, q_mulAL, a_wb, q_divW, Function.comp_def, q_starI, q_starIT, a_wp, a_fz, a_fz0, a_fz1, a_ext, a_ins, a_insA, a_pop, a_parN, a_evO0, a_evO1, a_setO0, a_setO1, a_ix2, a_setII, a_zN, a_zC, a_lcO, d_oo, pEq_int, pNe_int, pIxL, pIxT, atI_nat, atI_0, atI_1, atI_2, atI_3, atI_m1, cutLo, cutHi, cutLo1, cutHi1, a_seq, a_ifS, a_B, a_op, a_ov, a_ev0, a_evv, a_evs, a_C, a_V, a_M, a_set, a_setI, a_app, a_ret, a_ex, a_skip, a_no, a_not, a_andT, a_orT, a_and, a_or, a_notV, a_if, a_par, a_call, a_forS, a_sq, a_r1, a_r2, a_en, a_zp, a_asT, a_chI, a_yes, a_lc, a_fn, okA, f_fr, bkA, rsvs, rsv, dvs, on1, on2, d_fr, d_ol, rsO, ndS, sl, putB, asT, setAll, ofO, Dy.ints1, Dy.ints2, nE, wipeE, unw, frO, q_addI, q_addL, q_addT, q_addS, q_sub, q_div, q_mod, q_pow, q_neg, q_cm, pIs, pIsn, q_isN, q_isI, q_isS, q_isT, q_isL, q_isB, q_lenL, q_lenT, pTup, pLst, q_tupL, q_tupT, q_lstL, q_lstT, q_revL, q_slL, q_slT, q_shL, q_shT, q_sqL, q_sqT, q_intI, q_max2, q_min2, q_aII, q_aBI, q_aTI, q_aTT, q_aLL, q_aTL, q_aIT, c1, hg, ixN_nat _ _ c2, hf, List.map_set, et, el]
      · have q1 := hr q.1 (List.of_mem_zip hq).1
        have q2 := io.args q.2 (List.of_mem_zip hq).2
        have := gP_at (r := q.1) (i := q.2) (by omega)
        simp [E1_computed, q_mulAI, q_mulAL, a_wb, q_divW, Function.comp_def, q_starI, q_starIT, a_wp, a_fz, a_fz0, a_fz1, a_ext, a_ins, a_insA, a_pop, a_parN, a_evO0, a_evO1, a_setO0, a_setO1, a_ix2, a_setII, a_zN, a_zC, a_lcO, d_oo, pEq_int, pNe_int, pIxL, pIxT, atI_nat, atI_0, atI_1, atI_2, atI_3, atI_m1, cutLo, cutHi, cutLo1, cutHi1, a_seq, a_ifS, a_B, a_op, a_ov, a_ev0, a_evv, a_evs, a_C, a_V, a_M, a_set, a_setI, a_app, a_ret, a_ex, a_skip, a_no, a_not, a_andT, a_orT, a_and, a_or, a_notV, a_if, a_par, a_call, a_forS, a_sq, a_r1, a_r2, a_en, a_zp, a_asT, a_chI, a_yes, a_lc, a_fn, okA, f_fr, bkA, rsvs, rsv, dvs, on1, on2, d_fr, d_ol, rsO, ndS, sl, putB, asT, setAll, ofO, Dy.ints1, Dy.ints2, nE, wipeE, unw, frO, q_addI, q_addL, q_addT, q_addS, q_sub, q_div, q_mod, q_pow, q_neg, q_cm, pIs, pIsn, q_isN, q_isI, q_isS, q_isT, q_isL, q_isB, q_lenL, q_lenT, pTup, pLst, q_tupL, q_tupT, q_lstL, q_lstT, q_revL, q_slL, q_slT, q_shL, q_shT, q_sqL, q_sqT, q_intI, q_max2, q_min2, q_aII, q_aBI, q_aTI, q_aTT, q_aLL, q_aTL, q_aIT, this]
    · have zi : ¬ (i.op : Int) = op := by omega
      simp [L1_computed, q_mulAI, q_mulAL, a_wb, q_divW, Function.comp_def, q_starI, q_starIT, a_wp, a_fz, a_fz0, a_fz1, a_ext, a_ins, a_insA, a_pop, a_parN, a_evO0, a_evO1, a_setO0, a_setO1, a_ix2, a_setII, a_zN, a_zC, a_lcO, d_oo, pEq_int, pNe_int, pIxL, pIxT, atI_nat, atI_0, atI_1, atI_2, atI_3, atI_m1, cutLo, cutHi, cutLo1, cutHi1, a_seq, a_ifS, a_B, a_op, a_ov, a_ev0, a_evv, a_evs, a_C, a_V, a_M, a_set, a_setI, a_app, a_ret, a_ex, a_skip, a_no, a_not, a_andT, a_orT, a_and, a_or, a_notV, a_if, a_par, a_call, a_forS, a_sq, a_r1, a_r2, a_en, a_zp, a_asT, a_chI, a_yes, a_lc, a_fn, okA, f_fr, bkA, rsvs, rsv, dvs, on1, on2, d_fr, d_ol, rsO, ndS, sl, putB, asT, setAll, ofO, Dy.ints1, Dy.ints2, nE, wipeE, unw, frO, q_addI, q_addL, q_addT, q_addS, q_sub, q_div, q_mod, q_pow, q_neg, q_cm, pIs, pIsn, q_isN, q_isI, q_isS, q_isT, q_isL, q_isB, q_lenL, q_lenT, pTup, pLst, q_tupL, q_tupT, q_lstL, q_lstT, q_revL, q_slL, q_slT, q_shL, q_shT, q_sqL, q_sqT, q_intI, q_max2, q_min2, q_aII, q_aBI, q_aTI, q_aTT, q_aLL, q_aTL, q_aIT, cm1, z, zi]⟩)
  rw [rep_none] at e
  simp [M_computed, b_computed, q_mulAI, q_mulAL, a_wb, q_divW, Function.comp_def, q_starI, q_starIT, a_wp, a_fz, a_fz0, a_fz1, a_ext, a_ins, a_insA, a_pop, a_parN, a_evO0, a_evO1, a_setO0, a_setO1, a_ix2, a_setII, a_zN, a_zC, a_lcO, d_oo, pEq_int, pNe_int, pIxL, pIxT, atI_nat, atI_0, atI_1, atI_2, atI_3, atI_m1, cutLo, cutHi, cutLo1, cutHi1, a_seq, a_ifS, a_B, a_op, a_ov, a_ev0, a_evv, a_evs, a_C, a_V, a_M, a_set, a_setI, a_app, a_ret, a_ex, a_skip, a_no, a_not, a_andT, a_orT, a_and, a_or, a_notV, a_if, a_par, a_call, a_forS, a_sq, a_r1, a_r2, a_en, a_zp, a_asT, a_chI, a_yes, a_lc, a_fn, okA, f_fr, bkA, rsvs, rsv, dvs, on1, on2, d_fr, d_ol, rsO, ndS, sl, putB, asT, setAll, ofO, Dy.ints1, Dy.ints2, nE, wipeE, unw, frO, q_addI, q_addL, q_addT, q_addS, q_sub, q_div, q_mod, q_pow, q_neg, q_cm, pIs, pIsn, q_isN, q_isI, q_isS, q_isT, q_isL, q_isB, q_lenL, q_lenT, pTup, pLst, q_tupL, q_tupT, q_lstL, q_lstT, q_revL, q_slL, q_slT, q_shL, q_shT, q_sqL, q_sqT, q_intI, q_max2, q_min2, q_aII, q_aBI, q_aTI, q_aTT, q_aLL, q_aTL, q_aIT, mulN h, e, compT]
def cv2 (p : Pr) (f : List Pr) (q : Nat × Pr) : List Pr := f.set q.1 (lessP (gP f q.1) (sumP [p, q.2]))
def rowW (w : Mat) (i : Nat) : List Pr := w.getD i []
def cv1 (w : Mat) (f : List Pr) (q : Nat × Pr) : List Pr := (ens (rowW w q.1)).foldl (cv2 q.2) f
def convT (w : Mat) (row : List Pr) : List Pr := (ens row).foldl (cv1 w) row
theorem len_cv2 {p : Pr} {f : List Pr} {q : Nat × Pr} : (cv2 p f q).length = f.length := by unfold cv2; simp
theorem len_cv1 {w : Mat} {f : List Pr} {q : Nat × Pr} : (cv1 w f q).length = f.length := foldl_inv (Inv := fun g : List Pr => g.length = f.length) rfl fun s x _ h => by rw [len_cv2]; exact h
theorem len_convT (w : Mat) (row : List Pr) : (convT w row).length = row.length := foldl_inv (Inv := fun g : List Pr => g.length = row.length) rfl fun s x _ h => by rw [len_cv1]; exact h
theorem converted_ok {n : Nat} {w : Mat} {row : List Pr} (hw : Sq n w) (hl : row.length = n) (hn : n ≤ 1000) : M_converted [.fr (encWays w), .fr (.list (rowL row))] = .ok (.fr (encR (convT w row)), [.fr (encWays w), .fr (.list (rowL row))]) := by
  obtain ⟨e, q⟩ := for_li (t := .tu [3, 4]) (body := L2_converted) (fun q : Nat × Pr => .tuple [.int (q.1 : Int), dP q.2]) (fun f : List Pr => V_converted (ways := fr (encWays w)) (row := fr (.list (rowL row))) (found := ol (rowL f))) (cv1 w) (fun f => f.length = n) (ens row) row (enumD_ens dP row) rfl hl (fun f q hq hf => ⟨by rw [len_cv1]; exact hf, by
    have hi : q.1 < n := by have := lt_of_get (ens_mem hq); omega
    have hr : w[q.1]? = some (rowW w q.1) := (hw.row hi).1
    have hrl : (rowW w q.1).length = n := (hw.row hi).2
    obtain ⟨e2, q2⟩ := for_li (t := .tu [5, 6]) (body := L1_converted) (fun q : Nat × Pr => .tuple [.int (q.1 : Int), dP q.2]) (fun f : List Pr => V_converted (ways := fr (encWays w)) (row := fr (.list (rowL row))) (found := ol (rowL f)) (first := fr (dN q.1)) (price := fr (dP q.2))) (cv2 q.2) (fun f => f.length = n) (ens (rowW w q.1)) f (enumD_ens dP _) rfl hf (fun f r hr hf => ⟨by rw [len_cv2]; exact hf, by
      have hj : r.1 < n := by have := lt_of_get (ens_mem hr); omega
      have hg := gP_at (r := f) (i := r.1) (by omega)
      have el := less_ok (gP f r.1) (sumP [q.2, r.2])
      have et := sumP2 q.2 r.2
      simp [L1_converted, q_mulAI, q_mulAL, a_wb, q_divW, Function.comp_def, q_starI, q_starIT, a_wp, a_fz, a_fz0, a_fz1, a_ext, a_ins, a_insA, a_pop, a_parN, a_evO0, a_evO1, a_setO0, a_setO1, a_ix2, a_setII, a_zN, a_zC, a_lcO, d_oo, pEq_int, pNe_int, pIxL, pIxT, atI_nat, atI_0, atI_1, atI_2, atI_3, atI_m1, cutLo, cutHi, cutLo1, cutHi1, a_seq, a_ifS, a_B, a_op, a_ov, a_ev0, a_evv, a_evs, a_C, a_V, a_M, a_set, a_setI, a_app, a_ret, a_ex, a_skip, a_no, a_not, a_andT, a_orT, a_and, a_or, a_notV, a_if, a_par, a_call, a_forS, a_sq, a_r1, a_r2, a_en, a_zp, a_asT, a_chI, a_yes, a_lc, a_fn, okA, f_fr, bkA, rsvs, rsv, dvs, on1, on2, d_fr, d_ol, rsO, ndS, sl, putB, asT, setAll, ofO, Dy.ints1, Dy.ints2, nE, wipeE, unw, frO, q_addI, q_addL, q_addT, q_addS, q_sub, q_div, q_mod, q_pow, q_neg, q_cm, pIs, pIsn, q_isN, q_isI, q_isS, q_isT, q_isL, q_isB, q_lenL, q_lenT, pTup, pLst, q_tupL, q_tupT, q_lstL, q_lstT, q_revL, q_slL, q_slT, q_shL, q_shT, q_sqL, q_sqT, q_intI, q_max2, q_min2, q_aII, q_aBI, q_aTI, q_aTT, q_aLL, q_aTL, q_aIT, hg, hf, ixN_nat _ _ hj, List.map_set, el, et, cv2]⟩)
    simp [L2_converted, q_mulAI, q_mulAL, a_wb, q_divW, Function.comp_def, q_starI, q_starIT, a_wp, a_fz, a_fz0, a_fz1, a_ext, a_ins, a_insA, a_pop, a_parN, a_evO0, a_evO1, a_setO0, a_setO1, a_ix2, a_setII, a_zN, a_zC, a_lcO, d_oo, pEq_int, pNe_int, pIxL, pIxT, atI_nat, atI_0, atI_1, atI_2, atI_3, atI_m1, cutLo, cutHi, cutLo1, cutHi1, a_seq, a_ifS, a_B, a_op, a_ov, a_ev0, a_evv, a_evs, a_C, a_V, a_M, a_set, a_setI, a_app, a_ret, a_ex, a_skip, a_no, a_not, a_andT, a_orT, a_and, a_or, a_notV, a_if, a_par, a_call, a_forS, a_sq, a_r1, a_r2, a_en, a_zp, a_asT, a_chI, a_yes, a_lc, a_fn, okA, f_fr, bkA, rsvs, rsv, dvs, on1, on2, d_fr, d_ol, rsO, ndS, sl, putB, asT, setAll, ofO, Dy.ints1, Dy.ints2, nE, wipeE, unw, frO, q_addI, q_addL, q_addT, q_addS, q_sub, q_div, q_mod, q_pow, q_neg, q_cm, pIs, pIsn, q_isN, q_isI, q_isS, q_isT, q_isL, q_isB, q_lenL, q_lenT, pTup, pLst, q_tupL, q_tupT, q_lstL, q_lstT, q_revL, q_slL, q_slT, q_shL, q_shT, q_sqL, q_sqT, q_intI, q_max2, q_min2, q_aII, q_aBI, q_aTI, q_aTT, q_aLL, q_aTL, q_aIT, hr, e2, cv1]⟩)
  simp [M_converted, b_converted, q_mulAI, q_mulAL, a_wb, q_divW, Function.comp_def, q_starI, q_starIT, a_wp, a_fz, a_fz0, a_fz1, a_ext, a_ins, a_insA, a_pop, a_parN, a_evO0, a_evO1, a_setO0, a_setO1, a_ix2, a_setII, a_zN, a_zC, a_lcO, d_oo, pEq_int, pNe_int, pIxL, pIxT, atI_nat, atI_0, atI_1, atI_2, atI_3, atI_m1, cutLo, cutHi, cutLo1, cutHi1, a_seq, a_ifS, a_B, a_op, a_ov, a_ev0, a_evv, a_evs, a_C, a_V, a_M, a_set, a_setI, a_app, a_ret, a_ex, a_skip, a_no, a_not, a_andT, a_orT, a_and, a_or, a_notV, a_if, a_par, a_call, a_forS, a_sq, a_r1, a_r2, a_en, a_zp, a_asT, a_chI, a_yes, a_lc, a_fn, okA, f_fr, bkA, rsvs, rsv, dvs, on1, on2, d_fr, d_ol, rsO, ndS, sl, putB, asT, setAll, ofO, Dy.ints1, Dy.ints2, nE, wipeE, unw, frO, q_addI, q_addL, q_addT, q_addS, q_sub, q_div, q_mod, q_pow, q_neg, q_cm, pIs, pIsn, q_isN, q_isI, q_isS, q_isT, q_isL, q_isB, q_lenL, q_lenT, pTup, pLst, q_tupL, q_tupT, q_lstL, q_lstT, q_revL, q_slL, q_slT, q_shL, q_shT, q_sqL, q_sqT, q_intI, q_max2, q_min2, q_aII, q_aBI, q_aTI, q_aTT, q_aLL, q_aTL, q_aIT, e, convT]
def rowF (m : Mach) (op : Nat) (rs : List (List Pr)) : List Pr := convT (waysT m) (compT m op rs)
theorem len_rowF (m : Mach) (op : Nat) (rs : List (List Pr)) : (rowF m op rs).length = m.fs := by unfold rowF; rw [len_convT, len_compT]
theorem joined_row_ok {m : Mach} {op : Nat} {rows : List (List Pr)} {d : PyData} (h : MOk m) (ha : m.ar[op]? = some rows.length) (hr : ∀ r ∈ rows, r.length = m.fs) (hd : seqOf d = some (rows.map encR)) :
    M_joined_row [.fr (encM m), .fr (encWays (waysT m)), .fr (dN op), .fr d] = .ok (.fr (encR (rowF m op rows)), [.fr (encM m), .fr (encWays (waysT m)), .fr (dN op), .fr d]) := by
  have f4 := h.f4
  have e1 := computed_ok h ha hr hd
  have e2 := converted_ok (row := compT m op rows) (sq_ways h) (len_compT _ _ _) (by omega)
  simp [M_joined_row, b_joined_row, q_mulAI, q_mulAL, a_wb, q_divW, Function.comp_def, q_starI, q_starIT, a_wp, a_fz, a_fz0, a_fz1, a_ext, a_ins, a_insA, a_pop, a_parN, a_evO0, a_evO1, a_setO0, a_setO1, a_ix2, a_setII, a_zN, a_zC, a_lcO, d_oo, pEq_int, pNe_int, pIxL, pIxT, atI_nat, atI_0, atI_1, atI_2, atI_3, atI_m1, cutLo, cutHi, cutLo1, cutHi1, a_seq, a_ifS, a_B, a_op, a_ov, a_ev0, a_evv, a_evs, a_C, a_V, a_M, a_set, a_setI, a_app, a_ret, a_ex, a_skip, a_no, a_not, a_andT, a_orT, a_and, a_or, a_notV, a_if, a_par, a_call, a_forS, a_sq, a_r1, a_r2, a_en, a_zp, a_asT, a_chI, a_yes, a_lc, a_fn, okA, f_fr, bkA, rsvs, rsv, dvs, on1, on2, d_fr, d_ol, rsO, ndS, sl, putB, asT, setAll, ofO, Dy.ints1, Dy.ints2, nE, wipeE, unw, frO, q_addI, q_addL, q_addT, q_addS, q_sub, q_div, q_mod, q_pow, q_neg, q_cm, pIs, pIsn, q_isN, q_isI, q_isS, q_isT, q_isL, q_isB, q_lenL, q_lenT, pTup, pLst, q_tupL, q_tupT, q_lstL, q_lstT, q_revL, q_slL, q_slT, q_shL, q_shT, q_sqL, q_sqT, q_intI, q_max2, q_min2, q_aII, q_aBI, q_aTI, q_aTT, q_aLL, q_aTL, q_aIT, e1, e2, rowF]
theorem rows_len {m : Mach} {t : List Nd} : ∀ r ∈ alg (rowF m) [] t, r.length = m.fs := by
  induction t using rev_ind with
  | h0 => intro r hr; cases hr
  | h1 l n ih =>
    intro r hr
    rw [alg_snoc] at hr
    rcases List.mem_append.mp hr with z | z
    · exact ih r z
    · simp only [List.mem_singleton] at z; subst z; exact len_rowF _ _ _
def atR (acc : List (List Pr)) (p : Nat) : List Pr := acc.getD p []
theorem rows_ok {m : Mach} {t : List Nd} (h : MOk m) (ht : TrOk m.ar t) : M_rows_of [.fr (encM m), .fr (encT t)] = .ok (.ol ((alg (rowF m) [] t).map encR), [.fr (encM m), .fr (encT t)]) := by
  have hl := ht.len
  have e := for_st (t := .nm 2) (body := L1_rows_of) encN (fun acc : List (List Pr) => V_rows_of (machine := fr (encM m)) (tree := fr (encT t)) (ways := fr (encWays (waysT m))) (found := ol (acc.map encR))) (alg1 (rowF m) []) t [] rfl rfl (fun pre n post e => by
    have hn := ht.wf pre.length n (get_split e)
    have n2 := hn.le2 h.ar
    have hpl : pre.length < t.length := lt_of_get (get_split e)
    show (asT _ _ (V_rows_of (machine := fr (encM m)) (tree := fr (encT t)) (ways := fr (encWays (waysT m))) (found := ol ((alg (rowF m) [] pre).map encR))) >>= _) = Res.ok (Fl.nx, V_rows_of (machine := fr (encM m)) (tree := fr (encT t)) (ways := fr (encWays (waysT m))) (found := ol ((alg1 (rowF m) [] (alg (rowF m) [] pre) n).map encR)))
    have al := alg_len (rowF m) [] pre
    have rl := rows_len (m := m) (t := pre)
    generalize alg (rowF m) [] pre = acc at *
    have hat : ∀ p ∈ n.2, acc[p]? = some (atR acc p) := fun p hp => getD_mem (by have := hn.2 p hp; omega)
    have ej := joined_row_ok (op := n.1) (rows := n.2.map (atR acc)) (d := .list ((n.2.map (atR acc)).map encR)) h (by rw [List.length_map]; exact hn.1) (fun r hr => by
      obtain ⟨p, hp, rfl⟩ := List.mem_map.mp hr
      exact rl _ (List.mem_of_getElem? (hat p hp))) rfl
    have eg : alg1 (rowF m) [] acc n = acc ++ [rowF m n.1 (n.2.map (atR acc))] := rfl
    rw [eg]
    have c2 : acc.length < 1000000 := by omega
    simp [Function.comp_def] at ej
    simp [L1_rows_of, q_mulAI, q_mulAL, a_wb, q_divW, Function.comp_def, q_starI, q_starIT, a_wp, a_fz, a_fz0, a_fz1, a_ext, a_ins, a_insA, a_pop, a_parN, a_evO0, a_evO1, a_setO0, a_setO1, a_ix2, a_setII, a_zN, a_zC, a_lcO, d_oo, pEq_int, pNe_int, pIxL, pIxT, atI_nat, atI_0, atI_1, atI_2, atI_3, atI_m1, cutLo, cutHi, cutLo1, cutHi1, a_seq, a_ifS, a_B, a_op, a_ov, a_ev0, a_evv, a_evs, a_C, a_V, a_M, a_set, a_setI, a_app, a_ret, a_ex, a_skip, a_no, a_not, a_andT, a_orT, a_and, a_or, a_notV, a_if, a_par, a_call, a_forS, a_sq, a_r1, a_r2, a_en, a_zp, a_asT, a_chI, a_yes, a_lc, a_fn, okA, f_fr, bkA, rsvs, rsv, dvs, on1, on2, d_fr, d_ol, rsO, ndS, sl, putB, asT, setAll, ofO, Dy.ints1, Dy.ints2, nE, wipeE, unw, frO, q_addI, q_addL, q_addT, q_addS, q_sub, q_div, q_mod, q_pow, q_neg, q_cm, pIs, pIsn, q_isN, q_isI, q_isS, q_isT, q_isL, q_isB, q_lenL, q_lenT, pTup, pLst, q_tupL, q_tupT, q_lstL, q_lstT, q_revL, q_slL, q_slT, q_shL, q_shT, q_sqL, q_sqT, q_intI, q_max2, q_min2, q_aII, q_aBI, q_aTI, q_aTT, q_aLL, q_aTL, q_aIT]
    rw [lc_tm dN (fun p => encR (atR acc p)) n.2 rfl (fun p hp => ?_) (by omega)]
    · simp [q_mulAI, q_mulAL, a_wb, q_divW, Function.comp_def, q_starI, q_starIT, a_wp, a_fz, a_fz0, a_fz1, a_ext, a_ins, a_insA, a_pop, a_parN, a_evO0, a_evO1, a_setO0, a_setO1, a_ix2, a_setII, a_zN, a_zC, a_lcO, d_oo, pEq_int, pNe_int, pIxL, pIxT, atI_nat, atI_0, atI_1, atI_2, atI_3, atI_m1, cutLo, cutHi, cutLo1, cutHi1, a_seq, a_ifS, a_B, a_op, a_ov, a_ev0, a_evv, a_evs, a_C, a_V, a_M, a_set, a_setI, a_app, a_ret, a_ex, a_skip, a_no, a_not, a_andT, a_orT, a_and, a_or, a_notV, a_if, a_par, a_call, a_forS, a_sq, a_r1, a_r2, a_en, a_zp, a_asT, a_chI, a_yes, a_lc, a_fn, okA, f_fr, bkA, rsvs, rsv, dvs, on1, on2, d_fr, d_ol, rsO, ndS, sl, putB, asT, setAll, ofO, Dy.ints1, Dy.ints2, nE, wipeE, unw, frO, q_addI, q_addL, q_addT, q_addS, q_sub, q_div, q_mod, q_pow, q_neg, q_cm, pIs, pIsn, q_isN, q_isI, q_isS, q_isT, q_isL, q_isB, q_lenL, q_lenT, pTup, pLst, q_tupL, q_tupT, q_lstL, q_lstT, q_revL, q_slL, q_slT, q_shL, q_shT, q_sqL, q_sqT, q_intI, q_max2, q_min2, q_aII, q_aBI, q_aTI, q_aTT, q_aLL, q_aTL, q_aIT, ej, c2]
    · simp [E1_rows_of, q_mulAI, q_mulAL, a_wb, q_divW, Function.comp_def, q_starI, q_starIT, a_wp, a_fz, a_fz0, a_fz1, a_ext, a_ins, a_insA, a_pop, a_parN, a_evO0, a_evO1, a_setO0, a_setO1, a_ix2, a_setII, a_zN, a_zC, a_lcO, d_oo, pEq_int, pNe_int, pIxL, pIxT, atI_nat, atI_0, atI_1, atI_2, atI_3, atI_m1, cutLo, cutHi, cutLo1, cutHi1, a_seq, a_ifS, a_B, a_op, a_ov, a_ev0, a_evv, a_evs, a_C, a_V, a_M, a_set, a_setI, a_app, a_ret, a_ex, a_skip, a_no, a_not, a_andT, a_orT, a_and, a_or, a_notV, a_if, a_par, a_call, a_forS, a_sq, a_r1, a_r2, a_en, a_zp, a_asT, a_chI, a_yes, a_lc, a_fn, okA, f_fr, bkA, rsvs, rsv, dvs, on1, on2, d_fr, d_ol, rsO, ndS, sl, putB, asT, setAll, ofO, Dy.ints1, Dy.ints2, nE, wipeE, unw, frO, q_addI, q_addL, q_addT, q_addS, q_sub, q_div, q_mod, q_pow, q_neg, q_cm, pIs, pIsn, q_isN, q_isI, q_isS, q_isT, q_isL, q_isB, q_lenL, q_lenT, pTup, pLst, q_tupL, q_tupT, q_lstL, q_lstT, q_revL, q_slL, q_slT, q_shL, q_shT, q_sqL, q_sqT, q_intI, q_max2, q_min2, q_aII, q_aBI, q_aTI, q_aTT, q_aLL, q_aTL, q_aIT, hat p hp])
  have e' : (t.foldl (alg1 (rowF m) []) []) = alg (rowF m) [] t := rfl
  rw [e'] at e
  dsimp only [List.map] at e
  simp [M_rows_of, b_rows_of, q_mulAI, q_mulAL, a_wb, q_divW, Function.comp_def, q_starI, q_starIT, a_wp, a_fz, a_fz0, a_fz1, a_ext, a_ins, a_insA, a_pop, a_parN, a_evO0, a_evO1, a_setO0, a_setO1, a_ix2, a_setII, a_zN, a_zC, a_lcO, d_oo, pEq_int, pNe_int, pIxL, pIxT, atI_nat, atI_0, atI_1, atI_2, atI_3, atI_m1, cutLo, cutHi, cutLo1, cutHi1, a_seq, a_ifS, a_B, a_op, a_ov, a_ev0, a_evv, a_evs, a_C, a_V, a_M, a_set, a_setI, a_app, a_ret, a_ex, a_skip, a_no, a_not, a_andT, a_orT, a_and, a_or, a_notV, a_if, a_par, a_call, a_forS, a_sq, a_r1, a_r2, a_en, a_zp, a_asT, a_chI, a_yes, a_lc, a_fn, okA, f_fr, bkA, rsvs, rsv, dvs, on1, on2, d_fr, d_ol, rsO, ndS, sl, putB, asT, setAll, ofO, Dy.ints1, Dy.ints2, nE, wipeE, unw, frO, q_addI, q_addL, q_addT, q_addS, q_sub, q_div, q_mod, q_pow, q_neg, q_cm, pIs, pIsn, q_isN, q_isI, q_isS, q_isT, q_isL, q_isB, q_lenL, q_lenT, pTup, pLst, q_tupL, q_tupT, q_lstL, q_lstT, q_revL, q_slL, q_slT, q_shL, q_shT, q_sqL, q_sqT, q_intI, q_max2, q_min2, q_aII, q_aBI, q_aTI, q_aTT, q_aLL, q_aTL, q_aIT, ways_ok h, e]
def minN : List Nat → Nat
  | [] => 0
  | [x] => x
  | x :: y :: r => min x (minN (y :: r))
theorem minN_mem : ∀ {ns : List Nat}, ns ≠ [] → minN ns ∈ ns
  | [x], _ => by simp [minN]
  | x :: z :: r, _ => by
    have ih := minN_mem (ns := z :: r) (by simp)
    unfold minN
    by_cases h : x ≤ minN (z :: r)
    · rw [Nat.min_eq_left h]; simp
    · rw [Nat.min_eq_right (by omega)]; exact List.mem_cons_of_mem _ ih
def baseP (row : List Pr) : Pr := if row.filterMap id = [] then none else some (minN (row.filterMap id))
def rowsLast (m : Mach) (t : List Nd) : List Pr := lastA (rowF m) [] t
theorem last_some {β : Type} (f : Nat → List β → β) (d : β) {t : List Nd} (h : t ≠ []) : (alg f d t).getLast? = some (lastA f d t) := by
  unfold lastA
  cases q : (alg f d t).getLast? with
  | none =>
    have := List.getLast?_eq_none_iff.mp q
    have l := alg_len f d t
    rw [this] at l
    exact absurd (List.length_eq_zero_iff.mp l.symm) h
  | some x => rfl
theorem len_last {m : Mach} {t : List Nd} (h : t ≠ []) : (rowsLast m t).length = m.fs := rows_len _ (List.mem_of_getLast? (last_some (rowF m) [] h))
end Q
namespace Q
def Least (A : Nat → Prop) (v : Pr) : Prop := (∀ x, v = some x → A x) ∧ ∀ y, A y → ∃ x, v = some x ∧ x ≤ y
theorem Least.uniq {A : Nat → Prop} {v w : Pr} (h : Least A v) (k : Least A w) : v = w := by
  cases v with
  | none => cases w with
    | none => rfl
    | some y => obtain ⟨x, e, _⟩ := h.2 y (k.1 y rfl); cases e
  | some x => cases w with
    | none => obtain ⟨y, e, _⟩ := k.2 x (h.1 x rfl); cases e
    | some y =>
      obtain ⟨x', e1, l1⟩ := h.2 y (k.1 y rfl)
      obtain ⟨y', e2, l2⟩ := k.2 x (h.1 x rfl)
      cases e1; cases e2
      congr 1; omega
theorem Least.congr {A B : Nat → Prop} {v : Pr} (h : Least A v) (e : ∀ x, A x ↔ B x) : Least B v := ⟨fun x q => (e x).mp (h.1 x q), fun y q => h.2 y ((e y).mpr q)⟩
def leP (a b : Pr) : Prop := ∀ y, b = some y → ∃ x, a = some x ∧ x ≤ y
theorem leP.refl (a : Pr) : leP a a := fun y e => ⟨y, e, Nat.le_refl _⟩
theorem leP.trans {a b c : Pr} (h : leP a b) (k : leP b c) : leP a c := fun z e => by
  obtain ⟨y, e1, l1⟩ := k z e
  obtain ⟨x, e2, l2⟩ := h y e1
  exact ⟨x, e2, by omega⟩
theorem leP.none (a : Pr) : leP a none := fun y e => by cases e
theorem less_l (a b : Pr) : leP (lessP a b) a := fun y e => by
  subst e
  cases b with
  | none => exact ⟨y, rfl, Nat.le_refl _⟩
  | some b => exact ⟨min y b, rfl, by omega⟩
theorem less_r (a b : Pr) : leP (lessP a b) b := fun y e => by
  subst e
  cases a with
  | none => exact ⟨y, rfl, Nat.le_refl _⟩
  | some a => exact ⟨min a y, rfl, by omega⟩
theorem less_cases (a b : Pr) : lessP a b = a ∨ lessP a b = b := by
  cases a with
  | none => exact .inr rfl
  | some a => cases b with
    | none => exact .inl rfl
    | some b =>
      by_cases h : a ≤ b
      · left; show some (min a b) = _; rw [Nat.min_eq_left h]
      · right; show some (min a b) = _; rw [Nat.min_eq_right (by omega)]
theorem sum2_some {a b : Pr} {z : Nat} : sumP [a, b] = some z ↔ ∃ x y, a = some x ∧ b = some y ∧ z = x + y := by
  cases a with
  | none => simp [sumP]
  | some a => cases b with
    | none => simp [sumP]
    | some b => simp [sumP]; exact eq_comm
theorem sum2_mono {a b a' b' : Pr} (h : leP a a') (k : leP b b') : leP (sumP [a, b]) (sumP [a', b']) := fun z e => by
  obtain ⟨x', y', rfl, rfl, rfl⟩ := sum2_some.mp e
  obtain ⟨x, e1, l1⟩ := h x' rfl
  obtain ⟨y, e2, l2⟩ := k y' rfl
  exact ⟨x + y, sum2_some.mpr ⟨x, y, e1, e2, rfl⟩, by omega⟩
theorem foldl_all {α σ : Type} {f : σ → α → σ} {Inv : σ → Prop} {Q : α → σ → Prop} : ∀ {xs : List α} {s : σ}, Inv s → (∀ s x, x ∈ xs → Inv s → Inv (f s x)) → (∀ s x, x ∈ xs → Inv s → Q x (f s x)) → (∀ s x y, x ∈ xs → Inv s → Q y s → Q y (f s x)) →
    ∀ x ∈ xs, Q x (xs.foldl f s)
  | [], _, _, _, _, _, x, h => by cases h
  | y :: ys, s, h0, h1, h2, h3, x, h => by
    have i1 := h1 s y (by simp) h0
    rcases List.mem_cons.mp h with rfl | h
    · have q0 := h2 s x (by simp) h0
      exact (foldl_inv (Inv := fun s => Inv s ∧ Q x s) ⟨i1, q0⟩ fun s z hz hs => ⟨h1 s z (by simp [hz]) hs.1, h3 s z x (by simp [hz]) hs.1 hs.2⟩).2
    · exact foldl_all (xs := ys) i1 (fun s z hz => h1 s z (by simp [hz])) (fun s z hz => h2 s z (by simp [hz])) (fun s z w hz => h3 s z w (by simp [hz])) x h
inductive Wk (cs : List Con) : Nat → Nat → Nat → Prop
  | refl (i : Nat) : Wk cs i i 0
  | step {j c : Nat} (k : Con) : k ∈ cs → Wk cs k.b j c → Wk cs k.a j (k.pr + c)
theorem Wk.edge {cs : List Con} {k : Con} (h : k ∈ cs) : Wk cs k.a k.b k.pr := Wk.step k h (.refl _)
theorem Wk.trans {cs : List Con} {i j l c d : Nat} (h : Wk cs i j c) (g : Wk cs j l d) : Wk cs i l (c + d) := by
  induction h with
  | refl i => rw [Nat.zero_add]; exact g
  | step k hk _ ih => rw [Nat.add_assoc]; exact .step k hk (ih g)
inductive WU (cs : List Con) (u : Nat) : Nat → Nat → Nat → Prop
  | refl (i : Nat) : WU cs u i i 0
  | edge (k : Con) : k ∈ cs → WU cs u k.a k.b k.pr
  | cons {j c : Nat} (k : Con) : k ∈ cs → k.b < u → WU cs u k.b j c → WU cs u k.a j (k.pr + c)
theorem WU.split {cs : List Con} {u i j c : Nat} (h : WU cs (u + 1) i j c) : WU cs u i j c ∨ ∃ c1 c2, WU cs u i u c1 ∧ WU cs u u j c2 ∧ c1 + c2 ≤ c := by
  induction h with
  | refl i => exact .inl (.refl i)
  | edge k hk => exact .inl (.edge k hk)
  | @cons j c k hk hu _ ih =>
    by_cases e : k.b < u
    · rcases ih with z | ⟨c1, c2, z1, z2, z3⟩
      · exact .inl (.cons k hk e z)
      · exact .inr ⟨k.pr + c1, c2, .cons k hk e z1, z2, by omega⟩
    · have e : k.b = u := by omega
      have ed : WU cs u k.a u k.pr := by have := WU.edge (u := u) k hk; rw [e] at this; exact this
      rcases ih with z | ⟨c1, c2, z1, z2, z3⟩
      · rw [e] at z; exact .inr ⟨k.pr, c, ed, z, Nat.le_refl _⟩
      · exact .inr ⟨k.pr, c2, ed, z2, by omega⟩
theorem Wk.wu {cs : List Con} {n i j c : Nat} (hn : ∀ k ∈ cs, k.b < n) (h : Wk cs i j c) : WU cs n i j c := by
  induction h with
  | refl i => exact .refl i
  | step k hk _ ih => exact .cons k hk (hn k hk) ih
theorem Wk.lt {cs : List Con} {n i j c : Nat} (hn : ∀ k ∈ cs, k.b < n) (h : Wk cs i j c) (hi : i < n) : j < n := by
  induction h with
  | refl i => exact hi
  | step k hk _ ih => exact ih (hn k hk)
section
variable {m : Mach}
def Snd (m : Mach) (w : Mat) : Prop := ∀ i j x, getM w i j = some x → i < m.fs → j < m.fs → Wk m.con i j x
def leM (n : Nat) (w w' : Mat) : Prop := ∀ i j, i < n → j < n → leP (getM w i j) (getM w' i j)
theorem leM.refl (n : Nat) (w : Mat) : leM n w w := fun _ _ _ _ => leP.refl _
theorem leM.trans {n : Nat} {a b c : Mat} (h : leM n a b) (k : leM n b c) : leM n a c := fun i j hi hj => (h i j hi hj).trans (k i j hi hj)
theorem leM_set {n : Nat} {w : Mat} (h : Sq n w) {i j : Nat} {v : Pr} (hi : i < n) (hj : j < n) : leM n (setM w i j (lessP (getM w i j) v)) w := fun i' j' _ _ => by
  rw [getM_set h hi hj]
  split
  · rename_i e; rw [e.1, e.2]; exact less_l _ _
  · exact leP.refl _
theorem getM_wy0 (n i j : Nat) : getM (wy0 n) i j = none := by
  unfold getM wy0
  rw [List.getD_eq_getElem?_getD (l := (List.range n).map _), List.getElem?_map]
  cases q : (List.range n)[i]? with
  | none => rfl
  | some k =>
    show (List.replicate n none).getD j none = none
    rw [List.getD_eq_getElem?_getD, List.getElem?_replicate]
    split <;> rfl
theorem wy1_spec : Sq m.fs (wy1 m.fs) ∧ Snd m (wy1 m.fs) ∧ ∀ i, i < m.fs → getM (wy1 m.fs) i i = some 0 := by
  have hq := sq_wy1 m.fs
  have h2 : Snd m (wy1 m.fs) := (foldl_inv (Inv := fun w => Sq m.fs w ∧ Snd m w) ⟨sq_wy0 _, fun i j x e => by rw [getM_wy0] at e; cases e⟩ fun w k hk hw => ⟨hw.1.set (List.mem_range.mp hk), fun i j x e hi hj => by
    rw [getM_set hw.1 (List.mem_range.mp hk) (List.mem_range.mp hk)] at e
    split at e
    · rename_i z; cases e; rw [z.1, z.2]; exact .refl k
    · exact hw.2 i j x e hi hj⟩).2
  refine ⟨hq, h2, fun i hi => ?_⟩
  exact foldl_all (Inv := fun w => Sq m.fs w) (Q := fun i w => getM w i i = some 0) (sq_wy0 _) (fun w k hk hw => hw.set (List.mem_range.mp hk)) (fun w k hk hw => by
    rw [getM_set hw (List.mem_range.mp hk) (List.mem_range.mp hk), if_pos ⟨rfl, rfl⟩]) (fun w k l hk hw q => by
    rw [getM_set hw (List.mem_range.mp hk) (List.mem_range.mp hk)]
    split
    · rfl
    · exact q) i (List.mem_range.mpr hi)
theorem wy2_spec (h : MOk m) : Sq m.fs (wy2 m) ∧ Snd m (wy2 m) ∧ (∀ i, i < m.fs → leP (getM (wy2 m) i i) (some 0)) ∧ ∀ k ∈ m.con, leP (getM (wy2 m) k.a k.b) (some k.pr) := by
  obtain ⟨a1, a2, a3⟩ := wy1_spec (m := m)
  have inv := foldl_inv (Inv := fun w => Sq m.fs w ∧ Snd m w ∧ leM m.fs w (wy1 m.fs)) (xs := m.con) (f := fun w c => setM w c.a c.b (lessP (getM w c.a c.b) (some c.pr))) ⟨a1, a2, leM.refl _ _⟩ (fun w k hk hw => by
    have ka := (h.con k hk).a
    have kb := (h.con k hk).b
    refine ⟨hw.1.set ka, fun i j x e hi hj => ?_, (leM_set hw.1 ka kb).trans hw.2.2⟩
    rw [getM_set hw.1 ka kb] at e
    split at e
    · rename_i z
      rcases less_cases (getM w k.a k.b) (some k.pr) with y | y <;> rw [y] at e
      · rw [z.1, z.2]; exact hw.2.1 _ _ x e ka kb
      · cases e; rw [z.1, z.2]; exact Wk.edge hk
    · exact hw.2.1 i j x e hi hj)
  refine ⟨inv.1, inv.2.1, fun i hi => (inv.2.2 i i hi hi).trans (by rw [a3 i hi]; exact leP.refl _), ?_⟩
  exact foldl_all (f := fun (w : Mat) (c : Con) => setM w c.a c.b (lessP (getM w c.a c.b) (some c.pr))) (xs := m.con) (Inv := fun w => Sq m.fs w) (Q := fun k w => leP (getM w k.a k.b) (some k.pr)) a1 (fun w k hk hw => hw.set (h.con k hk).a) (fun w k hk hw => by
    rw [getM_set hw (h.con k hk).a (h.con k hk).b, if_pos ⟨rfl, rfl⟩]; exact less_r _ _) (fun w k l hk hw q => by
    rw [getM_set hw (h.con k hk).a (h.con k hk).b]
    split
    · rename_i z; rw [z.1, z.2] at q; exact (less_l _ _).trans q
    · exact q)
theorem snd_fw3 {k i j : Nat} {w : Mat} (hq : Sq m.fs w) (hs : Snd m w) (hk : k < m.fs) (hi : i < m.fs) (hj : j < m.fs) : Snd m (fw3 k i w j) := fun i' j' x e hi' hj' => by
  unfold fw3 at e
  rw [getM_set hq hi hj] at e
  split at e
  · rename_i z
    rcases less_cases (getM w i j) (sumP [getM w i k, getM w k j]) with y | y <;> rw [y] at e
    · rw [z.1, z.2]; exact hs _ _ x e hi hj
    · obtain ⟨c, d, e1, e2, rfl⟩ := sum2_some.mp e
      rw [z.1, z.2]; exact (hs _ _ c e1 hi hk).trans (hs _ _ d e2 hk hj)
  · exact hs i' j' x e hi' hj'
theorem fw1_spec {k : Nat} {w : Mat} (hq : Sq m.fs w) (hs : Snd m w) (hk : k < m.fs) : Sq m.fs (fw1 m.fs w k) ∧ Snd m (fw1 m.fs w k) ∧ leM m.fs (fw1 m.fs w k) w ∧ ∀ i j, i < m.fs → j < m.fs → leP (getM (fw1 m.fs w k) i j) (sumP [getM w i k, getM w k j]) := by
  let I := fun v : Mat => Sq m.fs v ∧ Snd m v ∧ leM m.fs v w
  have s3 : ∀ i, i < m.fs → ∀ v j, j < m.fs → I v → I (fw3 k i v j) := fun i hi v j hj hv => ⟨sq_fw3 hv.1 hi, snd_fw3 hv.1 hv.2.1 hk hi hj, (leM_set hv.1 hi hj).trans hv.2.2⟩
  have s2 : ∀ v i, i < m.fs → I v → I (fw2 m.fs k v i) := fun v i hi hv => foldl_inv hv fun v j hj hv => s3 i hi v j (List.mem_range.mp hj) hv
  have s1 : I (fw1 m.fs w k) := foldl_inv ⟨hq, hs, leM.refl _ _⟩ fun v i hi hv => s2 v i (List.mem_range.mp hi) hv
  refine ⟨s1.1, s1.2.1, s1.2.2, fun i j hi hj => ?_⟩
  have dec3 : ∀ i', i' < m.fs → ∀ v j', j' < m.fs → I v → leM m.fs (fw3 k i' v j') v := fun i' hi' v j' hj' hv => leM_set hv.1 hi' hj'
  have dec2 : ∀ v i', i' < m.fs → I v → leM m.fs (fw2 m.fs k v i') v := fun v i' hi' hv => (foldl_inv (Inv := fun u => I u ∧ leM m.fs u v) ⟨hv, leM.refl _ _⟩ fun u j' hj' hu => ⟨s3 i' hi' u j' (List.mem_range.mp hj') hu.1, (dec3 i' hi' u j' (List.mem_range.mp hj') hu.1).trans hu.2⟩).2
  refine foldl_all (Inv := I) (Q := fun i v => ∀ j, j < m.fs → leP (getM v i j) (sumP [getM w i k, getM w k j])) ⟨hq, hs, leM.refl _ _⟩ (fun v i hi hv => s2 v i (List.mem_range.mp hi) hv) (fun v i hi hv j hj => ?_) (fun v i l hi hv q j hj => ?_) i (List.mem_range.mpr hi) j hj
  · have hi := List.mem_range.mp hi
    refine foldl_all (Inv := I) (Q := fun j v => leP (getM v i j) (sumP [getM w i k, getM w k j])) hv (fun u j hj hu => s3 i hi u j (List.mem_range.mp hj) hu) (fun u j hj hu => ?_) (fun u j l hj hu q => ?_) j (List.mem_range.mpr hj)
    · have hj := List.mem_range.mp hj
      unfold fw3
      rw [getM_set hu.1 hi hj, if_pos ⟨rfl, rfl⟩]
      exact (less_r _ _).trans (sum2_mono (hu.2.2 i k hi hk) (hu.2.2 k j hk hj))
    · have hj := List.mem_range.mp hj
      unfold fw3
      rw [getM_set hu.1 hi hj]
      split
      · rename_i z; rw [← z.2]; rw [z.2] at q ⊢; exact (less_l _ _).trans q
      · exact q
  · by_cases hl : l < m.fs
    · exact (dec2 v i (List.mem_range.mp hi) hv l j hl hj).trans (q j hj)
    · have e : ∀ u : Mat, Sq m.fs u → getM u l j = none := fun u hu => by
        unfold getM
        rw [List.getD_eq_getElem?_getD (l := u), List.getElem?_eq_none (by rw [hu.1]; omega)]; rfl
      rw [e _ (s2 v i (List.mem_range.mp hi) hv).1]
      have := q j hj
      rw [e _ hv.1] at this
      exact this
theorem ways_spec (h : MOk m) : ∀ u, u ≤ m.fs → Sq m.fs ((List.range u).foldl (fw1 m.fs) (wy2 m)) ∧ Snd m ((List.range u).foldl (fw1 m.fs) (wy2 m)) ∧ ∀ i j c, i < m.fs → j < m.fs → WU m.con u i j c → leP (getM ((List.range u).foldl (fw1 m.fs) (wy2 m)) i j) (some c)
  | 0, _ => by
    obtain ⟨a1, a2, a3, a4⟩ := wy2_spec h
    refine ⟨a1, a2, fun i j c hi hj w => ?_⟩
    cases w with
    | refl i => exact a3 i hi
    | edge k hk => exact a4 k hk
    | cons k hk hu _ => omega
  | u + 1, hu => by
    obtain ⟨a1, a2, a3⟩ := ways_spec h u (by omega)
    rw [List.range_succ, List.foldl_append]
    generalize (List.range u).foldl (fw1 m.fs) (wy2 m) = w at *
    obtain ⟨b1, b2, b3, b4⟩ := fw1_spec (k := u) a1 a2 (by omega)
    refine ⟨b1, b2, fun i j c hi hj q => ?_⟩
    rcases q.split with z | ⟨c1, c2, z1, z2, z3⟩
    · exact (b3 i j hi hj).trans (a3 i j c hi hj z)
    · refine (b4 i j hi hj).trans ((sum2_mono (a3 i u c1 hi (by omega) z1) (a3 u j c2 (by omega) hj z2)).trans fun y e => ?_)
      cases e
      exact ⟨c1 + c2, rfl, z3⟩
theorem ways_least (h : MOk m) {i j : Nat} (hi : i < m.fs) (hj : j < m.fs) : Least (Wk m.con i j) (getM (waysT m) i j) := by
  obtain ⟨a1, a2, a3⟩ := ways_spec h m.fs (Nat.le_refl _)
  exact ⟨fun x e => a2 i j x e hi hj, fun y w => a3 i j y hi hj (w.wu fun k hk => (h.con k hk).b) y rfl⟩
def leR (n : Nat) (f g : List Pr) : Prop := ∀ j, j < n → leP (gP f j) (gP g j)
theorem leR.refl (n : Nat) (f : List Pr) : leR n f f := fun _ _ => leP.refl _
theorem leR.trans {n : Nat} {a b c : List Pr} (h : leR n a b) (k : leR n b c) : leR n a c := fun j hj => (h j hj).trans (k j hj)
theorem leR_set {n : Nat} {f : List Pr} (h : f.length = n) {i : Nat} {v : Pr} (hi : i < n) : leR n (f.set i (lessP (gP f i) v)) f := fun j _ => by
  rw [gP_set (by omega)]
  split
  · rename_i e; rw [e]; exact less_l _ _
  · exact leP.refl _
/-- what can be reached from a row -/
def Rch (cs : List Con) (row : List Pr) (j z : Nat) : Prop := ∃ i x c, i < row.length ∧ gP row i = some x ∧ Wk cs i j c ∧ z = x + c
theorem ens_gP {row : List Pr} {q : Nat × Pr} (h : q ∈ ens row) : q.1 < row.length ∧ q.2 = gP row q.1 := ⟨lt_of_get (ens_mem h), (gP_some (ens_mem h)).symm⟩
theorem conv_least (h : MOk m) {row : List Pr} (hl : row.length = m.fs) {j : Nat} (hj : j < m.fs) : Least (Rch m.con row j) (gP (convT (waysT m) row) j) := by
  have hq := sq_ways h
  have rl : ∀ i, i < m.fs → (rowW (waysT m) i).length = m.fs := fun i hi => (hq.row hi).2
  have rg : ∀ i j, gP (rowW (waysT m) i) j = getM (waysT m) i j := fun i j => rfl
  let I := fun f : List Pr => f.length = m.fs ∧ (∀ j x, j < m.fs → gP f j = some x → Rch m.con row j x) ∧ leR m.fs f row
  have i0 : I row := ⟨hl, fun j x hj e => ⟨j, x, 0, by omega, e, .refl j, rfl⟩, leR.refl _ _⟩
  have s2 : ∀ i, i < m.fs → ∀ f q, q ∈ ens (rowW (waysT m) i) → I f → I (cv2 (gP row i) f q) := fun i hi f q hq hf => by
    obtain ⟨q1, q2⟩ := ens_gP hq
    rw [rl i hi] at q1
    refine ⟨by rw [len_cv2]; exact hf.1, fun j x hj e => ?_, (leR_set hf.1 q1).trans hf.2.2⟩
    unfold cv2 at e
    rw [gP_set (by rw [hf.1]; exact q1)] at e
    split at e
    · rename_i z
      rcases less_cases (gP f q.1) (sumP [gP row i, q.2]) with y | y <;> rw [y] at e
      · rw [z]; exact hf.2.1 q.1 x q1 e
      · obtain ⟨a, c, e1, e2, rfl⟩ := sum2_some.mp e
        rw [q2, rg] at e2
        rw [z]; exact ⟨i, a, c, by omega, e1, (ways_least h hi q1).1 c e2, rfl⟩
    · exact hf.2.1 j x hj e
  have s1 : ∀ f q, q ∈ ens row → I f → I (cv1 (waysT m) f q) := fun f q hq hf => by
    obtain ⟨q1, q2⟩ := ens_gP hq
    unfold cv1
    rw [q2]
    exact foldl_inv hf fun f r hr hf => s2 q.1 (by omega) f r hr hf
  have d2 : ∀ i, i < m.fs → ∀ f q, q ∈ ens (rowW (waysT m) i) → I f → leR m.fs (cv2 (gP row i) f q) f := fun i hi f q hq hf => by
    obtain ⟨q1, q2⟩ := ens_gP hq
    rw [rl i hi] at q1
    exact leR_set hf.1 q1
  have d1 : ∀ f q, q ∈ ens row → I f → leR m.fs (cv1 (waysT m) f q) f := fun f q hq hf => by
    obtain ⟨q1, q2⟩ := ens_gP hq
    unfold cv1
    rw [q2]
    exact (foldl_inv (Inv := fun g => I g ∧ leR m.fs g f) ⟨hf, leR.refl _ _⟩ fun g r hr hg => ⟨s2 q.1 (by omega) g r hr hg.1, (d2 q.1 (by omega) g r hr hg.1).trans hg.2⟩).2
  have fin : I (convT (waysT m) row) := foldl_inv i0 s1
  have key : ∀ q ∈ ens row, ∀ j, j < m.fs → leP (gP (convT (waysT m) row) j) (sumP [gP row q.1, getM (waysT m) q.1 j]) := by
    refine foldl_all (f := cv1 (waysT m)) (xs := ens row) (Inv := I) (Q := fun (q : Nat × Pr) (f : List Pr) => ∀ j, j < m.fs → leP (gP f j) (sumP [gP row q.1, getM (waysT m) q.1 j])) i0 s1 (fun f q hq hf j hj => ?_) (fun f q r hq hf k j hj => (d1 f q hq hf j hj).trans (k j hj))
    obtain ⟨q1, q2⟩ := ens_gP hq
    unfold cv1
    rw [q2]
    have hi : q.1 < m.fs := by omega
    have := foldl_all (Inv := I) (Q := fun (r : Nat × Pr) f => leP (gP f r.1) (sumP [gP row q.1, r.2])) (xs := ens (rowW (waysT m) q.1)) (f := cv2 (gP row q.1)) hf (fun f r hr hf => s2 q.1 hi f r hr hf) (fun f r hr hf => by
      obtain ⟨r1, r2⟩ := ens_gP hr
      rw [rl q.1 hi] at r1
      unfold cv2
      rw [gP_set (by rw [hf.1]; exact r1), if_pos rfl]
      exact less_r _ _) (fun f r s hr hf k => by
      by_cases hs : s.1 < m.fs
      · exact (d2 q.1 hi f r hr hf s.1 hs).trans k
      · have e : ∀ g : List Pr, g.length = m.fs → gP g s.1 = none := fun g hg => by unfold gP; rw [List.getD_eq_getElem?_getD, List.getElem?_eq_none (by omega)]; rfl
        rw [e _ (s2 q.1 hi f r hr hf).1]
        rw [e _ hf.1] at k
        exact k) (j, gP (rowW (waysT m) q.1) j) (mem_ens (gP_at (by rw [rl q.1 hi]; exact hj)))
    rw [rg] at this
    exact this
  refine ⟨fun x e => fin.2.1 j x hj e, fun y hy => ?_⟩
  obtain ⟨i, x, c, hi, e, w, rfl⟩ := hy
  obtain ⟨d, e2, l2⟩ := (ways_least h (show i < m.fs by omega) hj).2 c w
  obtain ⟨z, e3, l3⟩ := key (i, gP row i) (mem_ens (gP_at hi)) j hj (x + d) (sum2_some.mpr ⟨x, d, e, e2, rfl⟩)
  exact ⟨z, e3, by omega⟩
end
end Q
namespace Q
open PySem Dy
open L2 (atI ixN)
theorem mulA (i j : Int) (h : -18446744073709551616 < i ∧ i < 18446744073709551616) : pMul (.int i) (.int j) = some (.fr (.int (i * j))) := by
  have : smI i = true := by unfold smI; exact decide_eq_true ⟨by omega, by omega⟩
  simp [pMul, muOk, this]
theorem mulA' (i j : Int) (h : -18446744073709551616 < j ∧ j < 18446744073709551616) : pMul (.int i) (.int j) = some (.fr (.int (i * j))) := by
  have : smI j = true := by unfold smI; exact decide_eq_true ⟨by omega, by omega⟩
  simp [pMul, muOk, this]
def PenA (o : O) : Prop := ∃ a b c : Int, o = .ol [.int a, .int b, .int c]
theorem penA_ok (z : Int) : ∃ o, PenA o ∧ M__law_pen_2 [.fr (.int z)] = .ok (o, [.fr (.int z)]) := by
  refine ⟨_, ⟨max 0 (z - 10 ^ 18), z % 2147483629 + 1, 0, rfl⟩, ?_⟩
  simp [M__law_pen_2, b__law_pen_2, q_mulAI, q_mulAL, a_wb, q_divW, Function.comp_def, q_starI, q_starIT, a_wp, a_fz, a_fz0, a_fz1, a_ext, a_ins, a_insA, a_pop, a_parN, a_evO0, a_evO1, a_setO0, a_setO1, a_ix2, a_setII, a_zN, a_zC, a_lcO, d_oo, pEq_int, pNe_int, pIxL, pIxT, atI_nat, atI_0, atI_1, atI_2, atI_3, atI_m1, cutLo, cutHi, cutLo1, cutHi1, a_seq, a_ifS, a_B, a_op, a_ov, a_ev0, a_evv, a_evs, a_C, a_V, a_M, a_set, a_setI, a_app, a_ret, a_ex, a_skip, a_no, a_not, a_andT, a_orT, a_and, a_or, a_notV, a_if, a_par, a_call, a_forS, a_sq, a_r1, a_r2, a_en, a_zp, a_asT, a_chI, a_yes, a_lc, a_fn, okA, f_fr, bkA, rsvs, rsv, dvs, on1, on2, d_fr, d_ol, rsO, ndS, sl, putB, asT, setAll, ofO, Dy.ints1, Dy.ints2, nE, wipeE, unw, frO, q_addI, q_addL, q_addT, q_addS, q_sub, q_div, q_mod, q_pow, q_neg, q_cm, pIs, pIsn, q_isN, q_isI, q_isS, q_isT, q_isL, q_isB, q_lenL, q_lenT, pTup, pLst, q_tupL, q_tupT, q_lstL, q_lstT, q_revL, q_slL, q_slT, q_shL, q_shT, q_sqL, q_sqT, q_intI, q_max2, q_min2, q_aII, q_aBI, q_aTI, q_aTT, q_aLL, q_aTL, q_aIT]
theorem drawA {o : O} {m : Int} (h : PenA o) (h1 : 0 < m) (h3 : m < 1000000000000000000000000000000) : ∃ (r : Nat) (o' : O), (r : Int) < m ∧ PenA o' ∧ M__law_draw_2 [o, .fr (.int m)] = .ok (.fr (dN r), [o', .fr (.int m)]) := by
  obtain ⟨a, b, c, rfl⟩ := h
  by_cases ha : 0 < a
  · have q0 := Int.emod_nonneg a (show m ≠ 0 by omega)
    have q1 := Int.emod_lt_of_pos a h1
    have e0 : ((a % m).toNat : Int) = a % m := by omega
    refine ⟨(a % m).toNat, _, by omega, ⟨a / m, b, c, rfl⟩, ?_⟩
    show _ = Res.ok (O.fr (.int ((a % m).toNat : Int)), _)
    rw [e0]
    simp [M__law_draw_2, b__law_draw_2, q_mulAI, q_mulAL, a_wb, q_divW, Function.comp_def, q_starI, q_starIT, a_wp, a_fz, a_fz0, a_fz1, a_ext, a_ins, a_insA, a_pop, a_parN, a_evO0, a_evO1, a_setO0, a_setO1, a_ix2, a_setII, a_zN, a_zC, a_lcO, d_oo, pEq_int, pNe_int, pIxL, pIxT, atI_nat, atI_0, atI_1, atI_2, atI_3, atI_m1, cutLo, cutHi, cutLo1, cutHi1, a_seq, a_ifS, a_B, a_op, a_ov, a_ev0, a_evv, a_evs, a_C, a_V, a_M, a_set, a_setI, a_app, a_ret, a_ex, a_skip, a_no, a_not, a_andT, a_orT, a_and, a_or, a_notV, a_if, a_par, a_call, a_forS, a_sq, a_r1, a_r2, a_en, a_zp, a_asT, a_chI, a_yes, a_lc, a_fn, okA, f_fr, bkA, rsvs, rsv, dvs, on1, on2, d_fr, d_ol, rsO, ndS, sl, putB, asT, setAll, ofO, Dy.ints1, Dy.ints2, nE, wipeE, unw, frO, q_addI, q_addL, q_addT, q_addS, q_sub, q_div, q_mod, q_pow, q_neg, q_cm, pIs, pIsn, q_isN, q_isI, q_isS, q_isT, q_isL, q_isB, q_lenL, q_lenT, pTup, pLst, q_tupL, q_tupT, q_lstL, q_lstT, q_revL, q_slL, q_slT, q_shL, q_shT, q_sqL, q_sqT, q_intI, q_max2, q_min2, q_aII, q_aBI, q_aTI, q_aTT, q_aLL, q_aTL, q_aIT, ixN, ha, h1, h3]
  · have m1 : ∀ i, pMul (.int i) (.int 48271) = some (.fr (.int (i * 48271))) := fun i => mulA' _ _ (by decide)
    have m2 : ∀ i, pMul (.int 1009) (.int i) = some (.fr (.int (1009 * i))) := fun i => mulA _ _ (by decide)
    have m3 : ∀ i, pMul (.int 69621) (.int i) = some (.fr (.int (69621 * i))) := fun i => mulA _ _ (by decide)
    have m4 : ∀ i, pMul (.int 40014) (.int i) = some (.fr (.int (40014 * i))) := fun i => mulA _ _ (by decide)
    generalize hx : (b * 48271 + 1009 * (c + 1) + 7) % 2147483647 = x
    have x0 : 0 ≤ x ∧ x < 2147483647 := by rw [← hx]; exact ⟨Int.emod_nonneg _ (by decide), Int.emod_lt_of_pos _ (by decide)⟩
    have m5 : pMul (.int x) (.int x) = some (.fr (.int (x * x))) := mulA _ _ (by omega)
    generalize hy : (x * x + 69621 * x + 11) % 2147483629 = y
    have y0 : 0 ≤ y ∧ y < 2147483647 := by rw [← hy]; exact ⟨Int.emod_nonneg _ (by decide), Int.lt_trans (Int.emod_lt_of_pos _ (by decide)) (by decide)⟩
    have m6 : pMul (.int y) (.int y) = some (.fr (.int (y * y))) := mulA _ _ (by omega)
    generalize hz : (y * y + 40014 * y) % 2147483587 / 16 = z
    have q0 := Int.emod_nonneg z (show m ≠ 0 by omega)
    have q1 := Int.emod_lt_of_pos z h1
    have e0 : ((z % m).toNat : Int) = z % m := by omega
    refine ⟨(z % m).toNat, _, by omega, ⟨a, x, c + 1, rfl⟩, ?_⟩
    show _ = Res.ok (O.fr (.int ((z % m).toNat : Int)), _)
    rw [e0]
    simp [M__law_draw_2, b__law_draw_2, q_mulAI, q_mulAL, a_wb, q_divW, Function.comp_def, q_starI, q_starIT, a_wp, a_fz, a_fz0, a_fz1, a_ext, a_ins, a_insA, a_pop, a_parN, a_evO0, a_evO1, a_setO0, a_setO1, a_ix2, a_setII, a_zN, a_zC, a_lcO, d_oo, pEq_int, pNe_int, pIxL, pIxT, atI_nat, atI_0, atI_1, atI_2, atI_3, atI_m1, cutLo, cutHi, cutLo1, cutHi1, a_seq, a_ifS, a_B, a_op, a_ov, a_ev0, a_evv, a_evs, a_C, a_V, a_M, a_set, a_setI, a_app, a_ret, a_ex, a_skip, a_no, a_not, a_andT, a_orT, a_and, a_or, a_notV, a_if, a_par, a_call, a_forS, a_sq, a_r1, a_r2, a_en, a_zp, a_asT, a_chI, a_yes, a_lc, a_fn, okA, f_fr, bkA, rsvs, rsv, dvs, on1, on2, d_fr, d_ol, rsO, ndS, sl, putB, asT, setAll, ofO, Dy.ints1, Dy.ints2, nE, wipeE, unw, frO, q_addI, q_addL, q_addT, q_addS, q_sub, q_div, q_mod, q_pow, q_neg, q_cm, pIs, pIsn, q_isN, q_isI, q_isS, q_isT, q_isL, q_isB, q_lenL, q_lenT, pTup, pLst, q_tupL, q_tupT, q_lstL, q_lstT, q_revL, q_slL, q_slT, q_shL, q_shT, q_sqL, q_sqT, q_intI, q_max2, q_min2, q_aII, q_aBI, q_aTI, q_aTT, q_aLL, q_aTL, q_aIT, ixN, ha, h1, m1, m2, m3, m4, hx, m5, hy, m6, hz]
theorem drawA_upto {o : O} (h : PenA o) (k : Nat) (h1 : 0 < k) (h2 : k < 1000000) : ∃ (r : Nat) (o' : O), r < k ∧ PenA o' ∧ M__law_draw_2 [o, .fr (.int (k : Int))] = .ok (.fr (dN r), [o', .fr (.int (k : Int))]) := by
  obtain ⟨r, o', q1, q2, q3⟩ := drawA (m := (k : Int)) h (by omega) (by omega)
  exact ⟨r, o', by omega, q2, q3⟩
theorem drawA_lit {o : O} {mi : Int} (k : Nat) (h : PenA o) (h1 : 0 < k) (h2 : k < 1000000) (hm : mi = k) : ∃ (r : Nat) (o' : O), r < k ∧ PenA o' ∧ M__law_draw_2 [o, .fr (.int mi)] = .ok (.fr (dN r), [o', .fr (.int mi)]) := by
  subst hm; exact drawA_upto h k h1 h2
theorem pickA {o : O} {xs : List PyData} (h : PenA o) (hx : xs ≠ []) (hl : xs.length < 1000000) : ∃ (d : PyData) (o' : O), d ∈ xs ∧ PenA o' ∧ M__law_pick_2 [o, .fr (.list xs)] = .ok (.fr d, [o', .fr (.list xs)]) := by
  have h0 : 0 < xs.length := List.length_pos_iff.mpr hx
  obtain ⟨r, o', q1, q2, q3⟩ := drawA_upto h xs.length h0 hl
  obtain ⟨d, hd, hm⟩ := get_of_lt q1
  exact ⟨d, o', hm, q2, by simp [M__law_pick_2, b__law_pick_2, q_mulAI, q_mulAL, a_wb, q_divW, Function.comp_def, q_starI, q_starIT, a_wp, a_fz, a_fz0, a_fz1, a_ext, a_ins, a_insA, a_pop, a_parN, a_evO0, a_evO1, a_setO0, a_setO1, a_ix2, a_setII, a_zN, a_zC, a_lcO, d_oo, pEq_int, pNe_int, pIxL, pIxT, atI_nat, atI_0, atI_1, atI_2, atI_3, atI_m1, cutLo, cutHi, cutLo1, cutHi1, a_seq, a_ifS, a_B, a_op, a_ov, a_ev0, a_evv, a_evs, a_C, a_V, a_M, a_set, a_setI, a_app, a_ret, a_ex, a_skip, a_no, a_not, a_andT, a_orT, a_and, a_or, a_notV, a_if, a_par, a_call, a_forS, a_sq, a_r1, a_r2, a_en, a_zp, a_asT, a_chI, a_yes, a_lc, a_fn, okA, f_fr, bkA, rsvs, rsv, dvs, on1, on2, d_fr, d_ol, rsO, ndS, sl, putB, asT, setAll, ofO, Dy.ints1, Dy.ints2, nE, wipeE, unw, frO, q_addI, q_addL, q_addT, q_addS, q_sub, q_div, q_mod, q_pow, q_neg, q_cm, pIs, pIsn, q_isN, q_isI, q_isS, q_isT, q_isL, q_isB, q_lenL, q_lenT, pTup, pLst, q_tupL, q_tupT, q_lstL, q_lstT, q_revL, q_slL, q_slT, q_shL, q_shT, q_sqL, q_sqT, q_intI, q_max2, q_min2, q_aII, q_aBI, q_aTI, q_aTT, q_aLL, q_aTL, q_aIT, q3, hd]⟩
end Q
namespace Q
/-- a way with t steps whose places all lie in U -/
inductive AW (cs : List Con) (U : List Nat) : Nat → Nat → Nat → Nat → Prop
  | refl (i : Nat) : i ∈ U → AW cs U i i 0 0
  | step {j t c : Nat} (k : Con) : k ∈ cs → k.a ∈ U → AW cs U k.b j t c → AW cs U k.a j (t + 1) (k.pr + c)
theorem AW.start {cs : List Con} {U : List Nat} {i j t c : Nat} (h : AW cs U i j t c) : i ∈ U := by
  cases h with
  | refl i hi => exact hi
  | step k _ hk _ => exact hk
theorem AW.mono {cs : List Con} {U V : List Nat} {i j t c : Nat} (s : ∀ x ∈ U, x ∈ V) (h : AW cs U i j t c) : AW cs V i j t c := by
  induction h with
  | refl i hi => exact .refl i (s i hi)
  | step k hk ha _ ih => exact .step k hk (s _ ha) ih
theorem AW.last {cs : List Con} {U : List Nat} {i j t c : Nat} (x : Nat) (h : AW cs U i j t c) :
    AW cs (U.filter fun y => decide (y ≠ x)) i j t c ∨ x = j ∨ ∃ k ∈ cs, k.a = x ∧ ∃ t' c', AW cs (U.filter fun y => decide (y ≠ x)) k.b j t' c' ∧ k.pr + c' ≤ c := by
  induction h with
  | refl i hi =>
    by_cases e : i = x
    · exact .inr (.inl e.symm)
    · exact .inl (.refl i (List.mem_filter.mpr ⟨hi, by simpa using e⟩))
  | @step j t c k hk ha _ ih =>
    rcases ih with z | z | ⟨k', h1, h2, t', c', h3, h4⟩
    · by_cases e : k.a = x
      · exact .inr (.inr ⟨k, hk, e, t, c, z, Nat.le_refl _⟩)
      · exact .inl (.step k hk (List.mem_filter.mpr ⟨ha, by simpa using e⟩) z)
    · exact .inr (.inl z)
    · exact .inr (.inr ⟨k', h1, h2, t', c', h3, by omega⟩)
theorem AW.short {cs : List Con} : ∀ (n : Nat) {U : List Nat} {i j t c : Nat}, U.length ≤ n → AW cs U i j t c → ∃ t' c', t' < U.length ∧ c' ≤ c ∧ AW cs U i j t' c'
  | 0, U, i, j, t, c, hn, h => by
    have := h.start
    have : U = [] := List.length_eq_zero_iff.mp (by omega)
    subst this; cases h.start
  | n + 1, U, i, j, t, c, hn, h => by
    have hi := h.start
    have hlt : (U.filter fun y => decide (y ≠ i)).length < U.length := List.length_filter_lt_length_iff_exists.mpr ⟨i, hi, by simp⟩
    rcases h.last i with z | z | ⟨k, h1, h2, t', c', h3, h4⟩
    · have := z.start
      simp at this
    · subst z
      exact ⟨0, 0, by omega, Nat.zero_le _, .refl i hi⟩
    · obtain ⟨t2, c2, l2, l3, w⟩ := AW.short n (by omega) h3
      subst h2
      exact ⟨t2 + 1, k.pr + c2, by omega, by omega, .step k h1 hi (w.mono fun x hx => (List.mem_filter.mp hx).1)⟩
/-- a way with t steps, from its end -/
inductive WS (cs : List Con) : Nat → Nat → Nat → Nat → Prop
  | refl (i : Nat) : WS cs i i 0 0
  | snoc {i t c : Nat} (k : Con) : WS cs i k.a t c → k ∈ cs → WS cs i k.b (t + 1) (c + k.pr)
theorem WS.cons {cs : List Con} {j t c : Nat} {k : Con} (hk : k ∈ cs) {i : Nat} (h : WS cs i j t c) (e : i = k.b) : WS cs k.a j (t + 1) (k.pr + c) := by
  induction h with
  | refl => subst e; have := WS.snoc (t := 0) k (.refl k.a) hk; simpa using this
  | snoc l _ hl ih => rw [← Nat.add_assoc]; exact .snoc l ih hl
theorem AW.ws {cs : List Con} {U : List Nat} {i j t c : Nat} (h : AW cs U i j t c) : WS cs i j t c := by
  induction h with
  | refl i _ => exact .refl i
  | step k hk _ _ ih => exact WS.cons hk ih rfl
theorem WS.wk {cs : List Con} {i j t c : Nat} (h : WS cs i j t c) : Wk cs i j c := by
  induction h with
  | refl => exact .refl i
  | snoc k _ hk ih => exact ih.trans (Wk.edge hk)
theorem Wk.aw {cs : List Con} {n i j c : Nat} (ha : ∀ k ∈ cs, k.a < n ∧ k.b < n) (h : Wk cs i j c) (hi : i < n) : ∃ t, AW cs (List.range n) i j t c := by
  induction h with
  | refl i => exact ⟨0, .refl i (List.mem_range.mpr hi)⟩
  | step k hk _ ih =>
    obtain ⟨t, w⟩ := ih (ha k hk).2
    exact ⟨t + 1, .step k hk (List.mem_range.mpr (ha k hk).1) w⟩
theorem Wk.short {cs : List Con} {n i j c : Nat} (ha : ∀ k ∈ cs, k.a < n ∧ k.b < n) (h : Wk cs i j c) (hi : i < n) : ∃ t c', t < n ∧ c' ≤ c ∧ WS cs i j t c' := by
  obtain ⟨t, w⟩ := h.aw ha hi
  obtain ⟨t', c', l1, l2, w'⟩ := AW.short n (by simp) w
  exact ⟨t', c', by simpa using l1, l2, w'.ws⟩
def tn1 (f : List Pr) (c : Con) : List Pr := f.set c.b (lessP (gP f c.b) (sumP [gP f c.a, some c.pr]))
def lap1 (m : Mach) (f : List Pr) (_ : Nat) : List Pr := m.con.foldl tn1 f
def turnT (m : Mach) (row : List Pr) : List Pr := (List.range row.length).foldl (lap1 m) row
section
variable {m : Mach}
theorem len_tn1 {f : List Pr} {c : Con} : (tn1 f c).length = f.length := by unfold tn1; simp
theorem len_lap {f : List Pr} {k : Nat} : (lap1 m f k).length = f.length := foldl_inv (Inv := fun g : List Pr => g.length = f.length) rfl fun s x _ h => by rw [len_tn1]; exact h
theorem len_turn {row : List Pr} : (turnT m row).length = row.length := foldl_inv (Inv := fun g : List Pr => g.length = row.length) rfl fun s x _ h => by rw [len_lap]; exact h
theorem gP_out {r : List Pr} {i : Nat} (h : r.length ≤ i) : gP r i = none := by unfold gP; rw [List.getD_eq_getElem?_getD, List.getElem?_eq_none h]; rfl
theorem lap_spec (h : MOk m) {row f : List Pr} (hf : f.length = m.fs) (hs : ∀ j x, j < m.fs → gP f j = some x → Rch m.con row j x) (k : Nat) :
    (lap1 m f k).length = m.fs ∧ (∀ j x, j < m.fs → gP (lap1 m f k) j = some x → Rch m.con row j x) ∧ leR m.fs (lap1 m f k) f ∧ ∀ c ∈ m.con, leP (gP (lap1 m f k) c.b) (sumP [gP f c.a, some c.pr]) := by
  let I := fun g : List Pr => g.length = m.fs ∧ (∀ j x, j < m.fs → gP g j = some x → Rch m.con row j x) ∧ leR m.fs g f
  have s1 : ∀ g c, c ∈ m.con → I g → I (tn1 g c) := fun g c hc hg => by
    have ca := (h.con c hc).a
    have cb := (h.con c hc).b
    refine ⟨by rw [len_tn1]; exact hg.1, fun j x hj e => ?_, (leR_set hg.1 cb).trans hg.2.2⟩
    unfold tn1 at e
    rw [gP_set (by rw [hg.1]; exact cb)] at e
    split at e
    · rename_i z
      rcases less_cases (gP g c.b) (sumP [gP g c.a, some c.pr]) with y | y <;> rw [y] at e
      · rw [z]; exact hg.2.1 c.b x cb e
      · obtain ⟨a, b, e1, e2, rfl⟩ := sum2_some.mp e
        cases e2
        obtain ⟨i, x0, c0, q1, q2, q3, rfl⟩ := hg.2.1 c.a a ca e1
        rw [z]; exact ⟨i, x0, c0 + c.pr, q1, q2, q3.trans (Wk.edge hc), by omega⟩
    · exact hg.2.1 j x hj e
  have i0 : I f := ⟨hf, hs, leR.refl _ _⟩
  have fin : I (lap1 m f k) := foldl_inv i0 s1
  refine ⟨fin.1, fin.2.1, fin.2.2, ?_⟩
  refine foldl_all (f := tn1) (xs := m.con) (Inv := I) (Q := fun (c : Con) (g : List Pr) => leP (gP g c.b) (sumP [gP f c.a, some c.pr])) i0 s1 (fun g c hc hg => ?_) (fun g c d hc hg q => ?_)
  · have ca := (h.con c hc).a
    have cb := (h.con c hc).b
    unfold tn1
    rw [gP_set (by rw [hg.1]; exact cb), if_pos rfl]
    exact (less_r _ _).trans (sum2_mono (hg.2.2 c.a ca) (leP.refl _))
  · by_cases hd : d.b < m.fs
    · exact (leR_set hg.1 (h.con c hc).b d.b hd).trans q
    · rw [gP_out (by rw [len_tn1, hg.1]; omega)]
      rw [gP_out (by rw [hg.1]; omega)] at q
      exact q
theorem laps_spec (h : MOk m) {row : List Pr} (hl : row.length = m.fs) : ∀ u, ((List.range u).foldl (lap1 m) row).length = m.fs ∧ (∀ j x, j < m.fs → gP ((List.range u).foldl (lap1 m) row) j = some x → Rch m.con row j x) ∧
    ∀ i j t c x, t ≤ u → WS m.con i j t c → i < m.fs → gP row i = some x → leP (gP ((List.range u).foldl (lap1 m) row) j) (some (x + c))
  | 0 => by
    refine ⟨hl, fun j x hj e => ⟨j, x, 0, by omega, e, .refl j, rfl⟩, fun i j t c x ht w hi e => ?_⟩
    cases w with
    | refl => show leP (gP row i) _; rw [e]; exact leP.refl _
    | snoc k _ _ => omega
  | u + 1 => by
    obtain ⟨a1, a2, a3⟩ := laps_spec h hl u
    rw [List.range_succ, List.foldl_append]
    generalize (List.range u).foldl (lap1 m) row = f at *
    obtain ⟨b1, b2, b3, b4⟩ := lap_spec h a1 a2 u
    refine ⟨b1, b2, fun i j t c x ht w hi e => ?_⟩
    have hj : j < m.fs := w.wk.lt (fun k hk => (h.con k hk).b) hi
    by_cases z : t ≤ u
    · exact (b3 j hj).trans (a3 i j t c x z w hi e)
    · cases w with
      | refl => omega
      | snoc k w hk =>
        rename_i t c
        have := a3 i k.a t c x (by omega) w hi e
        refine (b4 k hk).trans ((sum2_mono this (leP.refl _)).trans fun y ey => ?_)
        cases ey
        exact ⟨x + c + k.pr, rfl, by omega⟩
theorem turn_least (h : MOk m) {row : List Pr} (hl : row.length = m.fs) {j : Nat} (hj : j < m.fs) : Least (Rch m.con row j) (gP (turnT m row) j) := by
  obtain ⟨a1, a2, a3⟩ := laps_spec h hl row.length
  refine ⟨fun x e => a2 j x hj e, fun y hy => ?_⟩
  obtain ⟨i, x, c, hi, e, w, rfl⟩ := hy
  obtain ⟨t, c', l1, l2, w'⟩ := w.short (n := m.fs) (fun k hk => ⟨(h.con k hk).a, (h.con k hk).b⟩) (by omega)
  obtain ⟨z, e3, l3⟩ := a3 i j t c' x (by omega) w' (by omega) e (x + c') rfl
  exact ⟨z, e3, by omega⟩
theorem row_ext {f g : List Pr} (h : f.length = g.length) (e : ∀ j, j < f.length → gP f j = gP g j) : f = g := by
  refine List.ext_getElem? fun j => ?_
  by_cases hj : j < f.length
  · rw [gP_at hj, gP_at (by omega), e j hj]
  · rw [List.getElem?_eq_none (by omega), List.getElem?_eq_none (by omega)]
theorem turn_conv (h : MOk m) {row : List Pr} (hl : row.length = m.fs) : turnT m row = convT (waysT m) row := by
  refine row_ext (by rw [len_turn, len_convT]) fun j hj => ?_
  rw [len_turn] at hj
  exact (turn_least h hl (by omega)).uniq (conv_least h hl (by omega))
end
end Q
namespace Q
open PySem Dy
/-- rows whose numbers are less than a bound -/
def Bd (B : Nat) (row : List Pr) : Prop := ∀ x, some x ∈ row → x < B
theorem Bd.mono {B C : Nat} {row : List Pr} (h : Bd B row) (l : B ≤ C) : Bd C row := fun x hx => Nat.lt_of_lt_of_le (h x hx) l
theorem Bd.base {B : Nat} {row : List Pr} (h : Bd B row) {b : Nat} (e : baseP row = some b) : b < B := by
  unfold baseP at e
  split at e
  · cases e
  · rename_i hy
    cases e
    obtain ⟨p, hp, e⟩ := List.mem_filterMap.mp (minN_mem hy)
    have e : p = some (minN (row.filterMap id)) := e
    subst e
    exact h _ hp
theorem Bd.at {B : Nat} {row : List Pr} (h : Bd B row) {i x : Nat} (e : gP row i = some x) : x < B := by
  by_cases hi : i < row.length
  · have := gP_at hi; rw [e] at this; exact h x (List.mem_of_getElem? this)
  · rw [gP_out (by omega)] at e; cases e
end Q
namespace Q
end Q
namespace Q
open PySem Dy
open L2 (atI ixN)
end Q
namespace Q
open PySem Dy
open L2 (atI ixN)
theorem set_gP (f : List Pr) (i : Nat) : f.set i (gP f i) = f := by
  refine List.ext_getElem? fun j => ?_
  rw [List.getElem?_set]
  by_cases e : i = j
  · subst e
    rw [if_pos rfl]
    by_cases h : i < f.length
    · rw [if_pos h, gP_at h]
    · rw [if_neg h, List.getElem?_eq_none (by omega)]
  · rw [if_neg e]
theorem less_none (a : Pr) : lessP a none = a := by cases a <;> rfl
theorem same_ok {n w : Nat} {d : PyData} (h : Rk n w d) (hn : n ≤ 64) (hw : w ≤ 16777216) : M__law_same [.fr d, .fr d] = .ok (.fr (.bool true), [.fr d, .fr d]) := by
  simp [M__law_same, b__law_same, q_mulAI, q_mulAL, a_wb, q_divW, Function.comp_def, q_starI, q_starIT, a_wp, a_fz, a_fz0, a_fz1, a_ext, a_ins, a_insA, a_pop, a_parN, a_evO0, a_evO1, a_setO0, a_setO1, a_ix2, a_setII, a_zN, a_zC, a_lcO, d_oo, pEq_int, pNe_int, pIxL, pIxT, atI_nat, atI_0, atI_1, atI_2, atI_3, atI_m1, cutLo, cutHi, cutLo1, cutHi1, a_seq, a_ifS, a_B, a_op, a_ov, a_ev0, a_evv, a_evs, a_C, a_V, a_M, a_set, a_setI, a_app, a_ret, a_ex, a_skip, a_no, a_not, a_andT, a_orT, a_and, a_or, a_notV, a_if, a_par, a_call, a_forS, a_sq, a_r1, a_r2, a_en, a_zp, a_asT, a_chI, a_yes, a_lc, a_fn, okA, f_fr, bkA, rsvs, rsv, dvs, on1, on2, d_fr, d_ol, rsO, ndS, sl, putB, asT, setAll, ofO, Dy.ints1, Dy.ints2, nE, wipeE, unw, frO, q_addI, q_addL, q_addT, q_addS, q_sub, q_div, q_mod, q_pow, q_neg, q_cm, pIs, pIsn, q_isN, q_isI, q_isS, q_isT, q_isL, q_isB, q_lenL, q_lenT, pTup, pLst, q_tupL, q_tupT, q_lstL, q_lstT, q_revL, q_slL, q_slT, q_shL, q_shT, q_sqL, q_sqT, q_intI, q_max2, q_min2, q_aII, q_aBI, q_aTI, q_aTT, q_aLL, q_aTL, q_aIT, h.repr hn hw, pEq_str]
end Q
namespace Q
open PySem Dy
open L2 (atI ixN)
end Q
namespace Q
open PySem Dy
open L2 (atI ixN)
end Q
namespace Q
open PySem Dy
open L2 (atI ixN)
end Q
namespace Q
open PySem Dy
open L2 (atI ixN)
section
variable (env : Dy.Env) (i : Nat) (f : EF) (y : AF) (as : List AF) (es : List (PyData × PyData)) (k d : PyData)
end
section
variable {κ β : Type} [DecidableEq κ]
variable {f : κ → PyData} {g : β → PyData}
end
end Q
namespace Q
open PySem Dy
open L2 (atI ixN)
end Q
namespace Q
open PySem Dy
open L2 (atI ixN)
end Q
namespace Q
open PySem Dy
open L2 (atI ixN)
mutual
def gd (B : Nat) : PyData → Bool
  | .none => true
  | .bool _ => true
  | .int i => decide (i.natAbs ≤ B)
  | .str x => PyData.strOk x && decide (x.length ≤ 40)
  | .tuple xs => gds B xs
  | .list xs => gds B xs
  | .dict _ => false
def gds (B : Nat) : List PyData → Bool
  | [] => true
  | d :: ds => gd B d && gds B ds
end
mutual
def sz : PyData → Nat
  | .tuple xs => szs xs + 1
  | .list xs => szs xs + 1
  | .none => 1
  | .bool _ => 1
  | .int _ => 1
  | .str _ => 1
  | .dict _ => 1
def szs : List PyData → Nat
  | [] => 0
  | d :: ds => sz d + szs ds
end
theorem gds_iff {B : Nat} : ∀ {ds : List PyData}, gds B ds = true ↔ ∀ d ∈ ds, gd B d = true
  | [] => by simp [gds]
  | d :: ds => by simp [gds, gds_iff (ds := ds)]
theorem szs_sum : ∀ ds : List PyData, szs ds = (ds.map sz).sum
  | [] => rfl
  | d :: ds => by simp [szs, szs_sum ds]
theorem sz_pos (d : PyData) : 1 ≤ sz d := by cases d <;> simp [sz]
theorem szs_len : ∀ ds : List PyData, ds.length ≤ szs ds
  | [] => Nat.le_refl _
  | d :: ds => by have := szs_len ds; have := sz_pos d; simp [szs]; omega
theorem szs_app (a b : List PyData) : szs (a ++ b) = szs a + szs b := by simp [szs_sum]
theorem sz_mem {d : PyData} : ∀ {ds : List PyData}, d ∈ ds → sz d ≤ szs ds
  | [], h => by cases h
  | e :: ds, h => by
    rcases List.mem_cons.mp h with rfl | h
    · simp [szs]
    · have := sz_mem h; simp [szs]; omega
mutual
theorem gd_mono {B C : Nat} (h : B ≤ C) : ∀ d : PyData, gd B d = true → gd C d = true
  | .none, _ => rfl
  | .bool _, _ => rfl
  | .int i, e => by simp only [gd, decide_eq_true_eq] at e ⊢; omega
  | .str x, e => e
  | .tuple xs, e => by simp only [gd] at e ⊢; exact gds_mono h xs e
  | .list xs, e => by simp only [gd] at e ⊢; exact gds_mono h xs e
  | .dict _, e => by simp [gd] at e
theorem gds_mono {B C : Nat} (h : B ≤ C) : ∀ ds : List PyData, gds B ds = true → gds C ds = true
  | [], _ => rfl
  | d :: ds, e => by
    simp only [gds, Bool.and_eq_true] at e ⊢
    exact ⟨gd_mono h d e.1, gds_mono h ds e.2⟩
end
theorem sok_lt {x : Str} (h : PyData.strOk x = true) : ∀ c ∈ x.cps.toList, c < 16 ^ 8 := by
  intro c hc
  unfold PyData.strOk at h
  have := (Array.all_eq_true_iff_forall_mem.mp h) c (by simpa using hc)
  have := of_decide_eq_true this
  exact Nat.lt_trans this (by decide)
mutual
theorem gd_rk {B : Nat} (hB : B < 10 ^ 100) : ∀ d : PyData, gd B d = true → d.canLay0 = true ∧ d.showable = true ∧ d.depth ≤ sz d ∧ rw8 d + 2 ≤ 1200 * sz d
  | .none, _ => ⟨rfl, rfl, by simp [PyData.depth], by simp [rw8, sz]⟩
  | .bool b, _ => ⟨rfl, rfl, by simp [PyData.depth], by simp [rw8, sz]⟩
  | .int i, e => by
    simp only [gd, decide_eq_true_eq] at e
    have r := Rk.int (i := i) (by omega)
    exact ⟨r.lay, r.sho, by simp [PyData.depth], by have := r.wt; simp [sz]; omega⟩
  | .str x, e => by
    simp only [gd, Bool.and_eq_true, decide_eq_true_eq] at e
    refine ⟨by simpa [PyData.canLay0] using e.1, rfl, by simp [PyData.depth], ?_⟩
    have := StrLaws.reprText_len x (sok_lt e.1)
    show (reprText x).length + 2 ≤ 1200 * 1
    omega
  | .tuple xs, e => by
    simp only [gd] at e
    obtain ⟨h1, h2, h3, h4⟩ := gds_rk hB xs e
    refine ⟨by simpa [PyData.canLay0] using h1, by simpa [PyData.showable] using h2, by simp [PyData.depth, sz]; omega, ?_⟩
    show rw8s xs + 2 + 2 ≤ 1200 * (szs xs + 1)
    omega
  | .list xs, e => by
    simp only [gd] at e
    obtain ⟨h1, h2, h3, h4⟩ := gds_rk hB xs e
    refine ⟨by simpa [PyData.canLay0] using h1, by simpa [PyData.showable] using h2, by simp [PyData.depth, sz]; omega, ?_⟩
    show rw8s xs + 2 + 2 ≤ 1200 * (szs xs + 1)
    omega
  | .dict _, e => by simp [gd] at e
theorem gds_rk {B : Nat} (hB : B < 10 ^ 100) : ∀ ds : List PyData, gds B ds = true → PyData.canLayAll0 ds = true ∧ PyData.showableAll ds = true ∧ PyData.depthAll ds ≤ szs ds ∧ rw8s ds ≤ 1200 * szs ds
  | [], _ => ⟨rfl, rfl, Nat.le_refl _, Nat.le_refl _⟩
  | d :: ds, e => by
    simp only [gds, Bool.and_eq_true] at e
    obtain ⟨h1, h2, h3, h4⟩ := gd_rk hB d e.1
    obtain ⟨k1, k2, k3, k4⟩ := gds_rk hB ds e.2
    refine ⟨by simp [PyData.canLayAll0, h1, k1], by simp [PyData.showableAll, h2, k2], ?_, ?_⟩
    · show max d.depth (PyData.depthAll ds) ≤ sz d + szs ds; omega
    · show rw8 d + 2 + rw8s ds ≤ 1200 * (sz d + szs ds); omega
end
/-- any value: numbers up to B, so deep, so great -/
structure Gd (B n m : Nat) (d : PyData) : Prop where
  gd : gd B d = true
  dep : d.depth ≤ n
  sz : sz d ≤ m
theorem Gd.mono {B n m B' n' m' : Nat} {d : PyData} (h : Gd B n m d) (a : B ≤ B') (b : n ≤ n') (c : m ≤ m') : Gd B' n' m' d := ⟨gd_mono a d h.gd, Nat.le_trans h.dep b, Nat.le_trans h.sz c⟩
theorem Gd.rk {B n m : Nat} {d : PyData} (h : Gd B n m d) (hB : B < 10 ^ 100) : Rk n (1200 * m) d := by
  obtain ⟨h1, h2, h3, h4⟩ := gd_rk hB d h.gd
  exact ⟨h1, h2, h.dep, by have := h.sz; omega⟩
theorem dep_all {n : Nat} : ∀ {ds : List PyData}, PyData.depthAll ds ≤ n ↔ ∀ d ∈ ds, d.depth ≤ n
  | [] => by simp [PyData.depthAll]
  | d :: ds => by
    have := dep_all (n := n) (ds := ds)
    simp only [List.mem_cons, forall_eq_or_imp, ← this]
    show max d.depth (PyData.depthAll ds) ≤ n ↔ _
    omega
theorem Gd.tup_iff {B n m : Nat} {xs : List PyData} : Gd B (n + 1) (m + 1) (.tuple xs) ↔ gds B xs = true ∧ (∀ d ∈ xs, d.depth ≤ n) ∧ szs xs ≤ m := by
  constructor
  · intro h
    exact ⟨by simpa [Q.gd] using h.gd, dep_all.mp (by have := h.dep; simp [PyData.depth] at this; omega), by have := h.sz; simp [Q.sz] at this; omega⟩
  · rintro ⟨h1, h2, h3⟩
    exact ⟨by simpa [Q.gd] using h1, by have := dep_all.mpr h2; simp [PyData.depth]; omega, by simp [Q.sz]; omega⟩
theorem Gd.mem {B n m : Nat} {xs : List PyData} {d : PyData} (h : Gd B (n + 1) (m + 1) (.tuple xs)) (hd : d ∈ xs) : Gd B n m d := by
  obtain ⟨h1, h2, h3⟩ := Gd.tup_iff.mp h
  exact ⟨gds_iff.mp h1 d hd, h2 d hd, Nat.le_trans (sz_mem hd) h3⟩
theorem Gd.len {B n m : Nat} {xs : List PyData} (h : Gd B n m (.tuple xs)) : xs.length < m := by
  have := h.sz
  have := szs_len xs
  simp [Q.sz] at *; omega
def btw (lo hi : Int) : PyData → Bool
  | .int i => decide (lo ≤ i) && decide (i ≤ hi)
  | _ => false
theorem q_iI (i : Int) : isA .int (.int i) = true := rfl
theorem isA_cases (d : PyData) : (∃ i, d = .int i) ∨ (∃ b, d = .bool b) ∨ isA .int d = false := by
  cases d with
  | int i => exact .inl ⟨i, rfl⟩
  | bool b => exact .inr (.inl ⟨b, rfl⟩)
  | _ => exact .inr (.inr rfl)
theorem q_iB (b : Bool) : isA .int (.bool b) = true := rfl
theorem q_bB (b : Bool) : isA .bool (.bool b) = true := rfl
theorem btwD (d : PyData) (lo hi : Int) : M_is_between [.fr d, .fr (.int lo), .fr (.int hi)] = .ok (.fr (.bool (btw lo hi d)), [.fr d, .fr (.int lo), .fr (.int hi)]) := by
  rcases isA_cases d with ⟨i, rfl⟩ | ⟨b, rfl⟩ | h
  · exact between_ok
  · simp [M_is_between, b_is_between, q_mulAI, q_mulAL, a_wb, q_divW, Function.comp_def, q_starI, q_starIT, a_wp, a_fz, a_fz0, a_fz1, a_ext, a_ins, a_insA, a_pop, a_parN, a_evO0, a_evO1, a_setO0, a_setO1, a_ix2, a_setII, a_zN, a_zC, a_lcO, d_oo, pEq_int, pNe_int, pIxL, pIxT, atI_nat, atI_0, atI_1, atI_2, atI_3, atI_m1, cutLo, cutHi, cutLo1, cutHi1, a_seq, a_ifS, a_B, a_op, a_ov, a_ev0, a_evv, a_evs, a_C, a_V, a_M, a_set, a_setI, a_app, a_ret, a_ex, a_skip, a_no, a_not, a_andT, a_orT, a_and, a_or, a_notV, a_if, a_par, a_call, a_forS, a_sq, a_r1, a_r2, a_en, a_zp, a_asT, a_chI, a_yes, a_lc, a_fn, okA, f_fr, bkA, rsvs, rsv, dvs, on1, on2, d_fr, d_ol, rsO, ndS, sl, putB, asT, setAll, ofO, Dy.ints1, Dy.ints2, nE, wipeE, unw, frO, q_addI, q_addL, q_addT, q_addS, q_sub, q_div, q_mod, q_pow, q_neg, q_cm, pIs, pIsn, q_isN, q_isI, q_isS, q_isT, q_isL, q_isB, q_lenL, q_lenT, pTup, pLst, q_tupL, q_tupT, q_lstL, q_lstT, q_revL, q_slL, q_slT, q_shL, q_shT, q_sqL, q_sqT, q_intI, q_max2, q_min2, q_aII, q_aBI, q_aTI, q_aTT, q_aLL, q_aTL, q_aIT, q_iB, q_bB, btw]
  · have hb : btw lo hi d = false := by cases d <;> first | rfl | (exact absurd h (by simp [isA]))
    simp [M_is_between, b_is_between, q_mulAI, q_mulAL, a_wb, q_divW, Function.comp_def, q_starI, q_starIT, a_wp, a_fz, a_fz0, a_fz1, a_ext, a_ins, a_insA, a_pop, a_parN, a_evO0, a_evO1, a_setO0, a_setO1, a_ix2, a_setII, a_zN, a_zC, a_lcO, d_oo, pEq_int, pNe_int, pIxL, pIxT, atI_nat, atI_0, atI_1, atI_2, atI_3, atI_m1, cutLo, cutHi, cutLo1, cutHi1, a_seq, a_ifS, a_B, a_op, a_ov, a_ev0, a_evv, a_evs, a_C, a_V, a_M, a_set, a_setI, a_app, a_ret, a_ex, a_skip, a_no, a_not, a_andT, a_orT, a_and, a_or, a_notV, a_if, a_par, a_call, a_forS, a_sq, a_r1, a_r2, a_en, a_zp, a_asT, a_chI, a_yes, a_lc, a_fn, okA, f_fr, bkA, rsvs, rsv, dvs, on1, on2, d_fr, d_ol, rsO, ndS, sl, putB, asT, setAll, ofO, Dy.ints1, Dy.ints2, nE, wipeE, unw, frO, q_addI, q_addL, q_addT, q_addS, q_sub, q_div, q_mod, q_pow, q_neg, q_cm, pIs, pIsn, q_isN, q_isI, q_isS, q_isT, q_isL, q_isB, q_lenL, q_lenT, pTup, pLst, q_tupL, q_tupT, q_lstL, q_lstT, q_revL, q_slL, q_slT, q_shL, q_shT, q_sqL, q_sqT, q_intI, q_max2, q_min2, q_aII, q_aBI, q_aTI, q_aTT, q_aLL, q_aTL, q_aIT, h, hb]
theorem tup_cases (d : PyData) : (∃ xs, d = .tuple xs) ∨ isA .tuple d = false := by
  cases d with
  | tuple xs => exact .inl ⟨xs, rfl⟩
  | _ => exact .inr rfl
theorem lc_all {p : PyData → Bool} {elt : EF} {e : Dy.Env} {vs : List Nat} {t : Tg} (xs : List PyData) (hl : xs.length ≤ 100000) (hs : ∀ x ∈ xs, (asT t x e >>= fun e1 => elt e1 >>= fun r => Res.ok (r.1.data, wipeE r.2 vs)) = .ok (.bool (p x), e)) :
    lcL vs t fYes elt xs e [] = .ok ((xs.map p).map PyData.bool, e) := by
  rw [lc_tm (fun d : PyData => d) (fun d => .bool (p d)) xs (by simp) hs hl, List.map_map]; rfl
theorem pAll_map (p : PyData → Bool) (xs : List PyData) : pAll (.list ((xs.map p).map PyData.bool)) = some (.fr (.bool (xs.all p))) := by
  rw [pAll_B, List.all_map]; rfl
theorem btw_int {lo hi : Int} {d : PyData} (h : btw lo hi d = true) : ∃ i, d = .int i ∧ lo ≤ i ∧ i ≤ hi := by
  cases d with
  | int i => simp only [btw, Bool.and_eq_true, decide_eq_true_eq] at h; exact ⟨i, rfl, h.1, h.2⟩
  | _ => simp [btw] at h
theorem as_at {as : List PyData} {k : Int} (ha : as.all (btw 0 2) = true) (h0 : 0 ≤ k) (h1 : k ≤ (as.length : Int) - 1) : ∃ n : Int, as[k.toNat]? = some (.int n) ∧ atI as k = some (.int n) := by
  have hk : k.toNat < as.length := by omega
  obtain ⟨d, hd, hm⟩ := get_of_lt hk
  obtain ⟨n, rfl, _, _⟩ := btw_int (List.all_eq_true.mp ha d hm)
  refine ⟨n, hd, ?_⟩
  have : k = ((k.toNat : Nat) : Int) := by omega
  rw [this, atI_nat]; exact hd
theorem lc_one {p : PyData → Bool} {test : TF} {elt : EF} {e : Dy.Env} {vs : List Nat} {t : Tg} (xs : List PyData) (hl : xs.length ≤ 100000)
    (hs : ∀ x ∈ xs, (asT t x e >>= fun e1 => test e1 >>= fun b => if b.1 = true then elt b.2 >>= fun r => Res.ok (some r.1.data, wipeE r.2 vs) else Res.ok (none, wipeE b.2 vs)) = .ok (if p x = true then none else some (.int 1), e)) :
    ∃ ys : List PyData, lcL vs t test elt xs e [] = .ok (ys, e) ∧ pEq (.list ys) (.list []) = some (.fr (.bool (xs.all p))) ∧ pNe (.list ys) (.list []) = some (.fr (.bool (!xs.all p))) := by
  refine ⟨xs.filterMap fun x => if p x = true then none else some (.int 1), lc_fl (fun d : PyData => d) _ xs (by simp) hs hl, ?_⟩
  have hz : ∀ d ∈ (xs.filterMap fun x => if p x = true then none else some (PyData.int 1)), Rk 0 1100 d := fun d hd => by
    obtain ⟨x, _, e⟩ := List.mem_filterMap.mp hd
    split at e
    · cases e
    · cases e; exact Rk.int (by decide)
  have hsh := (Rk.lst hz).shp (by decide)
  have he : (xs.filterMap fun x => if p x = true then none else some (PyData.int 1)).isEmpty = xs.all p := by
    induction xs with
    | nil => rfl
    | cons x xs ih =>
      have ih := ih (by simp at hl; omega) (fun y hy => hs y (by simp [hy])) (fun d hd => hz d (by
        rw [List.filterMap_cons]; split <;> simp [hd])) (Rk.shp (Rk.lst fun d hd => hz d (by rw [List.filterMap_cons]; split <;> simp [hd])) (by decide))
      rw [List.filterMap_cons, List.all_cons]
      cases hp : p x with
      | true => simp [hp]; simpa using ih
      | false => simp [hp]
  exact ⟨by rw [pEq_L0 hsh, he], by rw [pNe_L0 hsh, he]⟩
end Q
namespace Q
open PySem Dy
open L2 (atI ixN)
theorem reprD_of {n w : Nat} {d : PyData} (h : Rk n w d) (hn : n ≤ 64) (hw : w ≤ 16777216) : pReprD d = some (.fr (.str d.shown)) := by
  unfold pReprD; rw [if_pos (h.rOk hn hw)]
theorem reprD_ofD {d : PyData} (h : rOkD d = true) : pReprD d = some (.fr (.str d.shown)) := by
  unfold pReprD; rw [if_pos h]; split <;> rfl
theorem szs_sub {a b : List PyData} (h : a.Sublist b) : szs a ≤ szs b := by
  induction h with
  | slnil => exact Nat.le_refl _
  | cons _ _ ih => simp [szs]; omega
  | cons_cons _ _ ih => simp [szs]; omega
theorem cut_sub (xs : List PyData) (a b : Option Int) : (cutD xs a b).Sublist xs := by
  unfold cutD
  exact (List.take_sublist _ _).trans (List.drop_sublist _ _)
theorem Gd.tupI {B n m : Nat} {xs : List PyData} (h : ∀ d ∈ xs, Q.gd B d = true ∧ d.depth ≤ n) (hs : szs xs ≤ m) : Gd B (n + 1) (m + 1) (.tuple xs) :=
  Gd.tup_iff.mpr ⟨gds_iff.mpr fun d hd => (h d hd).1, fun d hd => (h d hd).2, hs⟩
theorem Gd.lstI {B n m : Nat} {xs : List PyData} (h : ∀ d ∈ xs, Q.gd B d = true ∧ d.depth ≤ n) (hs : szs xs ≤ m) : Gd B (n + 1) (m + 1) (.list xs) := by
  have := Gd.tupI h hs
  exact ⟨this.gd, this.dep, this.sz⟩
theorem Gd.tupE {B n m : Nat} {xs : List PyData} (h : Gd B n m (.tuple xs)) : (∀ d ∈ xs, Q.gd B d = true ∧ d.depth + 1 ≤ n) ∧ szs xs + 1 ≤ m := by
  have h1 := h.dep
  have h2 := h.sz
  have h3 := h.gd
  simp only [PyData.depth, Q.sz, Q.gd] at h1 h2 h3
  exact ⟨fun d hd => ⟨gds_iff.mp h3 d hd, by have := dep_all.mp (Nat.le_refl (PyData.depthAll xs)) d hd; omega⟩, h2⟩
theorem q_revAT (xs : List PyData) : pRevA (.tuple xs) = some (.fr (.tuple xs.reverse)) := rfl
theorem gd_nat {B n : Nat} (h : n ≤ B) : gd B (dN n) = true := by simp [gd, dN, h]
theorem gd_ns {B : Nat} {ns : List Nat} (h : ∀ n ∈ ns, n ≤ B) : gds B (ns.map dN) = true := gds_iff.mpr fun d hd => by
  obtain ⟨n, hn, rfl⟩ := List.mem_map.mp hd
  exact gd_nat (h n hn)
theorem szs_ns : ∀ ns : List Nat, szs (ns.map dN) = ns.length
  | [] => rfl
  | n :: ns => by simp [szs, szs_ns ns, sz, dN]; omega
theorem dep_ns : ∀ ns : List Nat, PyData.depthAll (ns.map dN) = 0
  | [] => rfl
  | n :: ns => by
    show max 0 (PyData.depthAll (ns.map dN)) = 0
    rw [dep_ns ns]; rfl
theorem szs_le {α : Type} (f : α → PyData) (c : Nat) : ∀ (xs : List α), (∀ x ∈ xs, sz (f x) ≤ c) → szs (xs.map f) ≤ c * xs.length
  | [], _ => by simp [szs]
  | x :: xs, h => by
    have := szs_le f c xs fun y hy => h y (by simp [hy])
    have := h x (by simp)
    simp only [List.map_cons, szs, List.length_cons, Nat.mul_succ]
    omega
theorem gdM {m : Mach} (h : MOk m) : Gd 25 4 300 (encM m) := by
  have hl := h.ar.len
  have i1 : ∀ i ∈ m.ins, Gd 25 2 8 (encI i) := fun i hi => by
    have io := h.ins i hi
    have a2 := h.ar.le2 _ (List.mem_of_getElem? io.ar)
    have f4 := h.f4
    have o1 := lt_of_get io.ar
    have o2 := io.form
    have o3 := io.pr
    refine ⟨?_, ?_, ?_⟩
    · simp only [gd, gds, gd_ns (B := 25) (ns := i.args) (fun a ha => by have := io.args a ha; omega), Bool.and_true, Bool.true_and, Bool.and_eq_true, decide_eq_true_eq, dN]
      omega
    · simp [PyData.depth, PyData.depthAll, dep_ns]
    · simp [sz, szs, szs_ns]; omega
  have c1 : ∀ c ∈ m.con, Gd 25 2 8 (encK c) := fun c hc => by
    have co := h.con c hc
    have f4 := h.f4
    have := co.a; have := co.b; have := co.pr
    refine ⟨?_, ?_, ?_⟩
    · simp only [gd, gds, Bool.and_true, Bool.and_eq_true, decide_eq_true_eq, dN]; omega
    · simp [PyData.depth, PyData.depthAll]
    · simp [sz, szs]
  have f4 := h.f4
  have il := h.il
  have cl := h.cl
  have s1 := szs_le encI 8 m.ins fun i hi => (i1 i hi).sz
  have s2 := szs_le encK 8 m.con fun c hc => (c1 c hc).sz
  refine Gd.tupI (n := 3) (m := 299) (fun d hd => ?_) ?_
  · simp only [List.mem_cons, List.not_mem_nil, or_false] at hd
    rcases hd with rfl | rfl | rfl | rfl
    · exact ⟨by simp only [gd]; exact gd_ns fun a ha => by have := h.ar.le2 a ha; omega, by simp [PyData.depth, dep_ns]⟩
    · exact ⟨gd_nat (by omega), by simp [PyData.depth]⟩
    · refine ⟨by simp only [gd]; exact gds_iff.mpr fun d hd => by obtain ⟨i, hi, rfl⟩ := List.mem_map.mp hd; exact (i1 i hi).gd, ?_⟩
      have : PyData.depthAll (m.ins.map encI) ≤ 2 := dep_all.mpr fun d hd => by obtain ⟨i, hi, rfl⟩ := List.mem_map.mp hd; exact (i1 i hi).dep
      simp only [PyData.depth]; omega
    · refine ⟨by simp only [gd]; exact gds_iff.mpr fun d hd => by obtain ⟨i, hi, rfl⟩ := List.mem_map.mp hd; exact (c1 i hi).gd, ?_⟩
      have : PyData.depthAll (m.con.map encK) ≤ 2 := dep_all.mpr fun d hd => by obtain ⟨i, hi, rfl⟩ := List.mem_map.mp hd; exact (c1 i hi).dep
      simp only [PyData.depth]; omega
  · simp only [szs, sz, szs_ns, Nat.add_zero]; omega
theorem fnM1' {N : Nat} {b : SF} {d : PyData} {o : O} {e : Dy.Env} (h : b (some (.fr d) :: List.replicate N none) = .ok (.rt o, e)) : fnM 1 (N + 1) [] b [.fr d] = .ok (o, [.fr d]) := by
  show (b (some (.fr d) :: List.replicate (N + 1 - 1) none) >>= fun r => match bkA [] r.2 0 [.fr d] with | none => .no | some os' => match r.1 with | .rt o => .ok (o, os') | .nx => .ok (.fr .none, os') | _ => .no) = _
  rw [show N + 1 - 1 = N from rfl, h]; rfl
end Q
namespace Q
open PySem Dy
open L2 (atI ixN)
/-- one node -/
def ndD (as : List PyData) (at_ : Int) : PyData → Bool
  | .tuple (x :: ps) => btw 0 ((as.length : Int) - 1) x && ((match x with
    | .int k => (match as[k.toNat]? with
      | some (.int n) => decide ((ps.length : Int) = n)
      | _ => false)
    | _ => false) && ps.all (btw 0 (at_ - 1)))
  | _ => false
/-- what may be compared with () -/
def shD (d : PyData) : Prop := ∀ xs, d = .tuple xs → shp (.tuple xs) = true ∧ xs.length ≤ 100000
theorem cutS1 (x : PyData) (ps : List PyData) : cutD (x :: ps) (some 1) none = ps := cutLo (x :: ps) 1
theorem nodeD {as : List PyData} (ha : as.all (btw 0 2) = true) (d : PyData) (at_ : Int) (hs : shD d) : M_is_node [.fr (.tuple as), .fr d, .fr (.int at_)] = .ok (.fr (.bool (ndD as at_ d)), [.fr (.tuple as), .fr d, .fr (.int at_)]) := by
  rcases tup_cases d with ⟨xs, rfl⟩ | h
  · obtain ⟨h1, h2⟩ := hs xs rfl
    have h0 := pEq_T0 h1
    cases xs with
    | nil => simp [M_is_node, b_is_node, q_mulAI, q_mulAL, a_wb, q_divW, Function.comp_def, q_starI, q_starIT, a_wp, a_fz, a_fz0, a_fz1, a_ext, a_ins, a_insA, a_pop, a_parN, a_evO0, a_evO1, a_setO0, a_setO1, a_ix2, a_setII, a_zN, a_zC, a_lcO, d_oo, pEq_int, pNe_int, pIxL, pIxT, atI_nat, atI_0, atI_1, atI_2, atI_3, atI_m1, cutLo, cutHi, cutLo1, cutHi1, a_seq, a_ifS, a_B, a_op, a_ov, a_ev0, a_evv, a_evs, a_C, a_V, a_M, a_set, a_setI, a_app, a_ret, a_ex, a_skip, a_no, a_not, a_andT, a_orT, a_and, a_or, a_notV, a_if, a_par, a_call, a_forS, a_sq, a_r1, a_r2, a_en, a_zp, a_asT, a_chI, a_yes, a_lc, a_fn, okA, f_fr, bkA, rsvs, rsv, dvs, on1, on2, d_fr, d_ol, rsO, ndS, sl, putB, asT, setAll, ofO, Dy.ints1, Dy.ints2, nE, wipeE, unw, frO, q_addI, q_addL, q_addT, q_addS, q_sub, q_div, q_mod, q_pow, q_neg, q_cm, pIs, pIsn, q_isN, q_isI, q_isS, q_isT, q_isL, q_isB, q_lenL, q_lenT, pTup, pLst, q_tupL, q_tupT, q_lstL, q_lstT, q_revL, q_slL, q_slT, q_shL, q_shT, q_sqL, q_sqT, q_intI, q_max2, q_min2, q_aII, q_aBI, q_aTI, q_aTT, q_aLL, q_aTL, q_aIT, h0, ndD]
    | cons x ps =>
      cases bx : btw 0 ((as.length : Int) - 1) x with
      | false => simp [M_is_node, b_is_node, q_mulAI, q_mulAL, a_wb, q_divW, Function.comp_def, q_starI, q_starIT, a_wp, a_fz, a_fz0, a_fz1, a_ext, a_ins, a_insA, a_pop, a_parN, a_evO0, a_evO1, a_setO0, a_setO1, a_ix2, a_setII, a_zN, a_zC, a_lcO, d_oo, pEq_int, pNe_int, pIxL, pIxT, atI_nat, atI_0, atI_1, atI_2, atI_3, atI_m1, cutLo, cutHi, cutLo1, cutHi1, a_seq, a_ifS, a_B, a_op, a_ov, a_ev0, a_evv, a_evs, a_C, a_V, a_M, a_set, a_setI, a_app, a_ret, a_ex, a_skip, a_no, a_not, a_andT, a_orT, a_and, a_or, a_notV, a_if, a_par, a_call, a_forS, a_sq, a_r1, a_r2, a_en, a_zp, a_asT, a_chI, a_yes, a_lc, a_fn, okA, f_fr, bkA, rsvs, rsv, dvs, on1, on2, d_fr, d_ol, rsO, ndS, sl, putB, asT, setAll, ofO, Dy.ints1, Dy.ints2, nE, wipeE, unw, frO, q_addI, q_addL, q_addT, q_addS, q_sub, q_div, q_mod, q_pow, q_neg, q_cm, pIs, pIsn, q_isN, q_isI, q_isS, q_isT, q_isL, q_isB, q_lenL, q_lenT, pTup, pLst, q_tupL, q_tupT, q_lstL, q_lstT, q_revL, q_slL, q_slT, q_shL, q_shT, q_sqL, q_sqT, q_intI, q_max2, q_min2, q_aII, q_aBI, q_aTI, q_aTT, q_aLL, q_aTL, q_aIT, h0, btwD, bx, ndD]
      | true =>
        obtain ⟨k, rfl, k0, k1⟩ := btw_int bx
        obtain ⟨n, n1, n2⟩ := as_at ha k0 k1
        by_cases hn : (ps.length : Int) = n
        · have cn : n + 1 = 1 + n := by omega
          simp [M_is_node, b_is_node, q_mulAI, q_mulAL, a_wb, q_divW, Function.comp_def, q_starI, q_starIT, a_wp, a_fz, a_fz0, a_fz1, a_ext, a_ins, a_insA, a_pop, a_parN, a_evO0, a_evO1, a_setO0, a_setO1, a_ix2, a_setII, a_zN, a_zC, a_lcO, d_oo, pEq_int, pNe_int, pIxL, pIxT, atI_nat, atI_0, atI_1, atI_2, atI_3, atI_m1, cutLo, cutHi, cutLo1, cutHi1, a_seq, a_ifS, a_B, a_op, a_ov, a_ev0, a_evv, a_evs, a_C, a_V, a_M, a_set, a_setI, a_app, a_ret, a_ex, a_skip, a_no, a_not, a_andT, a_orT, a_and, a_or, a_notV, a_if, a_par, a_call, a_forS, a_sq, a_r1, a_r2, a_en, a_zp, a_asT, a_chI, a_yes, a_lc, a_fn, okA, f_fr, bkA, rsvs, rsv, dvs, on1, on2, d_fr, d_ol, rsO, ndS, sl, putB, asT, setAll, ofO, Dy.ints1, Dy.ints2, nE, wipeE, unw, frO, q_addI, q_addL, q_addT, q_addS, q_sub, q_div, q_mod, q_pow, q_neg, q_cm, pIs, pIsn, q_isN, q_isI, q_isS, q_isT, q_isL, q_isB, q_lenL, q_lenT, pTup, pLst, q_tupL, q_tupT, q_lstL, q_lstT, q_revL, q_slL, q_slT, q_shL, q_shT, q_sqL, q_sqT, q_intI, q_max2, q_min2, q_aII, q_aBI, q_aTI, q_aTT, q_aLL, q_aTL, q_aIT, h0, btwD, bx, n2, hn, cn, cutS1]
          rw [lc_all (p := btw 0 (at_ - 1)) ps (by simp at h2; omega) (fun x hx => by simp [E1_is_node, q_mulAI, q_mulAL, a_wb, q_divW, Function.comp_def, q_starI, q_starIT, a_wp, a_fz, a_fz0, a_fz1, a_ext, a_ins, a_insA, a_pop, a_parN, a_evO0, a_evO1, a_setO0, a_setO1, a_ix2, a_setII, a_zN, a_zC, a_lcO, d_oo, pEq_int, pNe_int, pIxL, pIxT, atI_nat, atI_0, atI_1, atI_2, atI_3, atI_m1, cutLo, cutHi, cutLo1, cutHi1, a_seq, a_ifS, a_B, a_op, a_ov, a_ev0, a_evv, a_evs, a_C, a_V, a_M, a_set, a_setI, a_app, a_ret, a_ex, a_skip, a_no, a_not, a_andT, a_orT, a_and, a_or, a_notV, a_if, a_par, a_call, a_forS, a_sq, a_r1, a_r2, a_en, a_zp, a_asT, a_chI, a_yes, a_lc, a_fn, okA, f_fr, bkA, rsvs, rsv, dvs, on1, on2, d_fr, d_ol, rsO, ndS, sl, putB, asT, setAll, ofO, Dy.ints1, Dy.ints2, nE, wipeE, unw, frO, q_addI, q_addL, q_addT, q_addS, q_sub, q_div, q_mod, q_pow, q_neg, q_cm, pIs, pIsn, q_isN, q_isI, q_isS, q_isT, q_isL, q_isB, q_lenL, q_lenT, pTup, pLst, q_tupL, q_tupT, q_lstL, q_lstT, q_revL, q_slL, q_slT, q_shL, q_shT, q_sqL, q_sqT, q_intI, q_max2, q_min2, q_aII, q_aBI, q_aTI, q_aTT, q_aLL, q_aTL, q_aIT, btwD])]
          have pa := pAll_map (btw 0 (at_ - 1)) ps
          simp only [List.map_map, Function.comp_def] at pa
          simp [q_mulAI, q_mulAL, a_wb, q_divW, Function.comp_def, q_starI, q_starIT, a_wp, a_fz, a_fz0, a_fz1, a_ext, a_ins, a_insA, a_pop, a_parN, a_evO0, a_evO1, a_setO0, a_setO1, a_ix2, a_setII, a_zN, a_zC, a_lcO, d_oo, pEq_int, pNe_int, pIxL, pIxT, atI_nat, atI_0, atI_1, atI_2, atI_3, atI_m1, cutLo, cutHi, cutLo1, cutHi1, a_seq, a_ifS, a_B, a_op, a_ov, a_ev0, a_evv, a_evs, a_C, a_V, a_M, a_set, a_setI, a_app, a_ret, a_ex, a_skip, a_no, a_not, a_andT, a_orT, a_and, a_or, a_notV, a_if, a_par, a_call, a_forS, a_sq, a_r1, a_r2, a_en, a_zp, a_asT, a_chI, a_yes, a_lc, a_fn, okA, f_fr, bkA, rsvs, rsv, dvs, on1, on2, d_fr, d_ol, rsO, ndS, sl, putB, asT, setAll, ofO, Dy.ints1, Dy.ints2, nE, wipeE, unw, frO, q_addI, q_addL, q_addT, q_addS, q_sub, q_div, q_mod, q_pow, q_neg, q_cm, pIs, pIsn, q_isN, q_isI, q_isS, q_isT, q_isL, q_isB, q_lenL, q_lenT, pTup, pLst, q_tupL, q_tupT, q_lstL, q_lstT, q_revL, q_slL, q_slT, q_shL, q_shT, q_sqL, q_sqT, q_intI, q_max2, q_min2, q_aII, q_aBI, q_aTI, q_aTT, q_aLL, q_aTL, q_aIT, pa, ndD, bx, n1, hn]
        · have cn : ¬ ((ps.length : Int) + 1 = 1 + n) := by omega
          simp [M_is_node, b_is_node, q_mulAI, q_mulAL, a_wb, q_divW, Function.comp_def, q_starI, q_starIT, a_wp, a_fz, a_fz0, a_fz1, a_ext, a_ins, a_insA, a_pop, a_parN, a_evO0, a_evO1, a_setO0, a_setO1, a_ix2, a_setII, a_zN, a_zC, a_lcO, d_oo, pEq_int, pNe_int, pIxL, pIxT, atI_nat, atI_0, atI_1, atI_2, atI_3, atI_m1, cutLo, cutHi, cutLo1, cutHi1, a_seq, a_ifS, a_B, a_op, a_ov, a_ev0, a_evv, a_evs, a_C, a_V, a_M, a_set, a_setI, a_app, a_ret, a_ex, a_skip, a_no, a_not, a_andT, a_orT, a_and, a_or, a_notV, a_if, a_par, a_call, a_forS, a_sq, a_r1, a_r2, a_en, a_zp, a_asT, a_chI, a_yes, a_lc, a_fn, okA, f_fr, bkA, rsvs, rsv, dvs, on1, on2, d_fr, d_ol, rsO, ndS, sl, putB, asT, setAll, ofO, Dy.ints1, Dy.ints2, nE, wipeE, unw, frO, q_addI, q_addL, q_addT, q_addS, q_sub, q_div, q_mod, q_pow, q_neg, q_cm, pIs, pIsn, q_isN, q_isI, q_isS, q_isT, q_isL, q_isB, q_lenL, q_lenT, pTup, pLst, q_tupL, q_tupT, q_lstL, q_lstT, q_revL, q_slL, q_slT, q_shL, q_shT, q_sqL, q_sqT, q_intI, q_max2, q_min2, q_aII, q_aBI, q_aTI, q_aTT, q_aLL, q_aTL, q_aIT, h0, btwD, bx, n2, cn, hn, ndD, n1]
  · have ht : ndD as at_ d = false := by cases d <;> first | rfl | (exact absurd h (by simp [isA]))
    simp [M_is_node, b_is_node, q_mulAI, q_mulAL, a_wb, q_divW, Function.comp_def, q_starI, q_starIT, a_wp, a_fz, a_fz0, a_fz1, a_ext, a_ins, a_insA, a_pop, a_parN, a_evO0, a_evO1, a_setO0, a_setO1, a_ix2, a_setII, a_zN, a_zC, a_lcO, d_oo, pEq_int, pNe_int, pIxL, pIxT, atI_nat, atI_0, atI_1, atI_2, atI_3, atI_m1, cutLo, cutHi, cutLo1, cutHi1, a_seq, a_ifS, a_B, a_op, a_ov, a_ev0, a_evv, a_evs, a_C, a_V, a_M, a_set, a_setI, a_app, a_ret, a_ex, a_skip, a_no, a_not, a_andT, a_orT, a_and, a_or, a_notV, a_if, a_par, a_call, a_forS, a_sq, a_r1, a_r2, a_en, a_zp, a_asT, a_chI, a_yes, a_lc, a_fn, okA, f_fr, bkA, rsvs, rsv, dvs, on1, on2, d_fr, d_ol, rsO, ndS, sl, putB, asT, setAll, ofO, Dy.ints1, Dy.ints2, nE, wipeE, unw, frO, q_addI, q_addL, q_addT, q_addS, q_sub, q_div, q_mod, q_pow, q_neg, q_cm, pIs, pIsn, q_isN, q_isI, q_isS, q_isT, q_isL, q_isB, q_lenL, q_lenT, pTup, pLst, q_tupL, q_tupT, q_lstL, q_lstT, q_revL, q_slL, q_slT, q_shL, q_shT, q_sqL, q_sqT, q_intI, q_max2, q_min2, q_aII, q_aBI, q_aTI, q_aTT, q_aLL, q_aTL, q_aIT, h, ht]
/-- one of the pairs (at, node) -/
def ndP (as : List PyData) : PyData → Bool
  | .tuple [.int i, x] => ndD as i x
  | _ => false
def wrD (as : List PyData) : PyData → Bool
  | .tuple xs => !xs.isEmpty && (enumD 0 xs).all (ndP as)
  | _ => false
theorem enumD_mem {xs : List PyData} {p : PyData} : ∀ {k : Nat}, p ∈ enumD k xs → ∃ (i : Nat) (x : PyData), x ∈ xs ∧ p = .tuple [.int (i : Int), x] := by
  intro k hp
  have e := enumD_map (fun d : PyData => d) xs k
  rw [List.map_id'] at e
  rw [e] at hp
  obtain ⟨q, hq, rfl⟩ := List.mem_map.mp hp
  exact ⟨q.1, q.2, (List.of_mem_zip hq).2, rfl⟩
theorem enumD_len (xs : List PyData) (k : Nat) : (enumD k xs).length = xs.length := by
  have e := enumD_map (fun d : PyData => d) xs k
  rw [List.map_id'] at e
  rw [e]; simp
/-- what may be asked whether it is a tree -/
def shW (d : PyData) : Prop := shD d ∧ ∀ xs, d = .tuple xs → ∀ x ∈ xs, shD x
theorem writtenD {as : List PyData} (ha : as.all (btw 0 2) = true) (d : PyData) (hs : shW d) : M_is_written [.fr (.tuple as), .fr d] = .ok (.fr (.bool (wrD as d)), [.fr (.tuple as), .fr d]) := by
  rcases tup_cases d with ⟨xs, rfl⟩ | h
  · obtain ⟨h1, h2⟩ := hs.1 xs rfl
    have h0 := pEq_T0 h1
    cases hx : xs.isEmpty with
    | true => simp [M_is_written, b_is_written, q_mulAI, q_mulAL, a_wb, q_divW, Function.comp_def, q_starI, q_starIT, a_wp, a_fz, a_fz0, a_fz1, a_ext, a_ins, a_insA, a_pop, a_parN, a_evO0, a_evO1, a_setO0, a_setO1, a_ix2, a_setII, a_zN, a_zC, a_lcO, d_oo, pEq_int, pNe_int, pIxL, pIxT, atI_nat, atI_0, atI_1, atI_2, atI_3, atI_m1, cutLo, cutHi, cutLo1, cutHi1, a_seq, a_ifS, a_B, a_op, a_ov, a_ev0, a_evv, a_evs, a_C, a_V, a_M, a_set, a_setI, a_app, a_ret, a_ex, a_skip, a_no, a_not, a_andT, a_orT, a_and, a_or, a_notV, a_if, a_par, a_call, a_forS, a_sq, a_r1, a_r2, a_en, a_zp, a_asT, a_chI, a_yes, a_lc, a_fn, okA, f_fr, bkA, rsvs, rsv, dvs, on1, on2, d_fr, d_ol, rsO, ndS, sl, putB, asT, setAll, ofO, Dy.ints1, Dy.ints2, nE, wipeE, unw, frO, q_addI, q_addL, q_addT, q_addS, q_sub, q_div, q_mod, q_pow, q_neg, q_cm, pIs, pIsn, q_isN, q_isI, q_isS, q_isT, q_isL, q_isB, q_lenL, q_lenT, pTup, pLst, q_tupL, q_tupT, q_lstL, q_lstT, q_revL, q_slL, q_slT, q_shL, q_shT, q_sqL, q_sqT, q_intI, q_max2, q_min2, q_aII, q_aBI, q_aTI, q_aTT, q_aLL, q_aTL, q_aIT, h0, hx, wrD]
    | false =>
      simp [M_is_written, b_is_written, q_mulAI, q_mulAL, a_wb, q_divW, Function.comp_def, q_starI, q_starIT, a_wp, a_fz, a_fz0, a_fz1, a_ext, a_ins, a_insA, a_pop, a_parN, a_evO0, a_evO1, a_setO0, a_setO1, a_ix2, a_setII, a_zN, a_zC, a_lcO, d_oo, pEq_int, pNe_int, pIxL, pIxT, atI_nat, atI_0, atI_1, atI_2, atI_3, atI_m1, cutLo, cutHi, cutLo1, cutHi1, a_seq, a_ifS, a_B, a_op, a_ov, a_ev0, a_evv, a_evs, a_C, a_V, a_M, a_set, a_setI, a_app, a_ret, a_ex, a_skip, a_no, a_not, a_andT, a_orT, a_and, a_or, a_notV, a_if, a_par, a_call, a_forS, a_sq, a_r1, a_r2, a_en, a_zp, a_asT, a_chI, a_yes, a_lc, a_fn, okA, f_fr, bkA, rsvs, rsv, dvs, on1, on2, d_fr, d_ol, rsO, ndS, sl, putB, asT, setAll, ofO, Dy.ints1, Dy.ints2, nE, wipeE, unw, frO, q_addI, q_addL, q_addT, q_addS, q_sub, q_div, q_mod, q_pow, q_neg, q_cm, pIs, pIsn, q_isN, q_isI, q_isS, q_isT, q_isL, q_isB, q_lenL, q_lenT, pTup, pLst, q_tupL, q_tupT, q_lstL, q_lstT, q_revL, q_slL, q_slT, q_shL, q_shT, q_sqL, q_sqT, q_intI, q_max2, q_min2, q_aII, q_aBI, q_aTI, q_aTT, q_aLL, q_aTL, q_aIT, h0, hx]
      rw [lc_all (p := ndP as) (enumD 0 xs) (by rw [enumD_len]; exact h2) (fun p hp => by
        obtain ⟨i, x, hx, rfl⟩ := enumD_mem hp
        have e := nodeD ha x (i : Int) (hs.2 xs rfl x hx)
        simp [E1_is_written, q_mulAI, q_mulAL, a_wb, q_divW, Function.comp_def, q_starI, q_starIT, a_wp, a_fz, a_fz0, a_fz1, a_ext, a_ins, a_insA, a_pop, a_parN, a_evO0, a_evO1, a_setO0, a_setO1, a_ix2, a_setII, a_zN, a_zC, a_lcO, d_oo, pEq_int, pNe_int, pIxL, pIxT, atI_nat, atI_0, atI_1, atI_2, atI_3, atI_m1, cutLo, cutHi, cutLo1, cutHi1, a_seq, a_ifS, a_B, a_op, a_ov, a_ev0, a_evv, a_evs, a_C, a_V, a_M, a_set, a_setI, a_app, a_ret, a_ex, a_skip, a_no, a_not, a_andT, a_orT, a_and, a_or, a_notV, a_if, a_par, a_call, a_forS, a_sq, a_r1, a_r2, a_en, a_zp, a_asT, a_chI, a_yes, a_lc, a_fn, okA, f_fr, bkA, rsvs, rsv, dvs, on1, on2, d_fr, d_ol, rsO, ndS, sl, putB, asT, setAll, ofO, Dy.ints1, Dy.ints2, nE, wipeE, unw, frO, q_addI, q_addL, q_addT, q_addS, q_sub, q_div, q_mod, q_pow, q_neg, q_cm, pIs, pIsn, q_isN, q_isI, q_isS, q_isT, q_isL, q_isB, q_lenL, q_lenT, pTup, pLst, q_tupL, q_tupT, q_lstL, q_lstT, q_revL, q_slL, q_slT, q_shL, q_shT, q_sqL, q_sqT, q_intI, q_max2, q_min2, q_aII, q_aBI, q_aTI, q_aTT, q_aLL, q_aTL, q_aIT, e, ndP])]
      have pa := pAll_map (ndP as) (enumD 0 xs)
      simp only [List.map_map, Function.comp_def] at pa
      simp [q_mulAI, q_mulAL, a_wb, q_divW, Function.comp_def, q_starI, q_starIT, a_wp, a_fz, a_fz0, a_fz1, a_ext, a_ins, a_insA, a_pop, a_parN, a_evO0, a_evO1, a_setO0, a_setO1, a_ix2, a_setII, a_zN, a_zC, a_lcO, d_oo, pEq_int, pNe_int, pIxL, pIxT, atI_nat, atI_0, atI_1, atI_2, atI_3, atI_m1, cutLo, cutHi, cutLo1, cutHi1, a_seq, a_ifS, a_B, a_op, a_ov, a_ev0, a_evv, a_evs, a_C, a_V, a_M, a_set, a_setI, a_app, a_ret, a_ex, a_skip, a_no, a_not, a_andT, a_orT, a_and, a_or, a_notV, a_if, a_par, a_call, a_forS, a_sq, a_r1, a_r2, a_en, a_zp, a_asT, a_chI, a_yes, a_lc, a_fn, okA, f_fr, bkA, rsvs, rsv, dvs, on1, on2, d_fr, d_ol, rsO, ndS, sl, putB, asT, setAll, ofO, Dy.ints1, Dy.ints2, nE, wipeE, unw, frO, q_addI, q_addL, q_addT, q_addS, q_sub, q_div, q_mod, q_pow, q_neg, q_cm, pIs, pIsn, q_isN, q_isI, q_isS, q_isT, q_isL, q_isB, q_lenL, q_lenT, pTup, pLst, q_tupL, q_tupT, q_lstL, q_lstT, q_revL, q_slL, q_slT, q_shL, q_shT, q_sqL, q_sqT, q_intI, q_max2, q_min2, q_aII, q_aBI, q_aTI, q_aTT, q_aLL, q_aTL, q_aIT, pa, wrD, hx]
  · have ht : wrD as d = false := by cases d <;> first | rfl | (exact absurd h (by simp [isA]))
    simp [M_is_written, b_is_written, q_mulAI, q_mulAL, a_wb, q_divW, Function.comp_def, q_starI, q_starIT, a_wp, a_fz, a_fz0, a_fz1, a_ext, a_ins, a_insA, a_pop, a_parN, a_evO0, a_evO1, a_setO0, a_setO1, a_ix2, a_setII, a_zN, a_zC, a_lcO, d_oo, pEq_int, pNe_int, pIxL, pIxT, atI_nat, atI_0, atI_1, atI_2, atI_3, atI_m1, cutLo, cutHi, cutLo1, cutHi1, a_seq, a_ifS, a_B, a_op, a_ov, a_ev0, a_evv, a_evs, a_C, a_V, a_M, a_set, a_setI, a_app, a_ret, a_ex, a_skip, a_no, a_not, a_andT, a_orT, a_and, a_or, a_notV, a_if, a_par, a_call, a_forS, a_sq, a_r1, a_r2, a_en, a_zp, a_asT, a_chI, a_yes, a_lc, a_fn, okA, f_fr, bkA, rsvs, rsv, dvs, on1, on2, d_fr, d_ol, rsO, ndS, sl, putB, asT, setAll, ofO, Dy.ints1, Dy.ints2, nE, wipeE, unw, frO, q_addI, q_addL, q_addT, q_addS, q_sub, q_div, q_mod, q_pow, q_neg, q_cm, pIs, pIsn, q_isN, q_isI, q_isS, q_isT, q_isL, q_isB, q_lenL, q_lenT, pTup, pLst, q_tupL, q_tupT, q_lstL, q_lstT, q_revL, q_slL, q_slT, q_shL, q_shT, q_sqL, q_sqT, q_intI, q_max2, q_min2, q_aII, q_aBI, q_aTI, q_aTT, q_aLL, q_aTL, q_aIT, h, ht]
/-- a loop that says no at the first that is none -/
theorem for_chk {t : Tg} {body : SF} {p : PyData → Bool} {env : Dy.Env} {o : O} : ∀ {xs : List PyData}, (∀ x ∈ xs, p x = true → (asT t x env >>= body) = .ok (.nx, env)) → (∀ x ∈ xs, p x = false → ∃ e', (asT t x env >>= body) = .ok (.rt o, e')) →
    (xs.all p = true → fFor t body xs env = .ok (.nx, env)) ∧ (xs.all p = false → ∃ e', fFor t body xs env = .ok (.rt o, e'))
  | [], _, _ => ⟨fun _ => rfl, fun h => by cases h⟩
  | x :: xs, h1, h2 => by
    obtain ⟨i1, i2⟩ := for_chk (xs := xs) (fun y hy => h1 y (by simp [hy])) (fun y hy => h2 y (by simp [hy]))
    have un : fFor t body (x :: xs) env = (asT t x env >>= fun e => body e >>= fun r => match r.1 with | .nx => fFor t body xs r.2 | .ct => fFor t body xs r.2 | .bk => .ok (.nx, r.2) | .rt o => .ok (.rt o, r.2)) := rfl
    have go : ∀ {fl : Fl} {e' : Dy.Env}, (asT t x env >>= body) = .ok (fl, e') → fFor t body (x :: xs) env = (match fl with | .nx => fFor t body xs e' | .ct => fFor t body xs e' | .bk => .ok (.nx, e') | .rt o => .ok (.rt o, e')) := fun {fl e'} e => by
      rw [un]
      cases q : asT t x env with
      | no => rw [q] at e; cases e
      | er y => rw [q] at e; cases e
      | ok e1 =>
        rw [q, bind_ok] at e
        rw [bind_ok, e, bind_ok]
    cases hp : p x with
    | true =>
      have e := go (h1 x (by simp) hp)
      refine ⟨fun h => ?_, fun h => ?_⟩
      · rw [List.all_cons, hp, Bool.true_and] at h
        rw [e]; exact i1 h
      · rw [List.all_cons, hp, Bool.true_and] at h
        obtain ⟨e', q⟩ := i2 h
        exact ⟨e', by rw [e]; exact q⟩
    | false =>
      obtain ⟨e', q⟩ := h2 x (by simp) hp
      refine ⟨fun h => ?_, fun _ => ⟨e', go q⟩⟩
      rw [List.all_cons, hp] at h; cases h
end Q
namespace Q
open PySem Dy
open L2 (atI ixN)
theorem gd_shD {B n m : Nat} {d : PyData} (h : Gd B n m d) (hB : B < 10 ^ 30) (hn : n ≤ 64) (hm : m ≤ 100000) : shD d := fun xs e => by
  subst e
  exact ⟨(h.rk (Nat.lt_trans hB (by decide))).shp hn, by have := h.len; omega⟩
theorem gd_shW {B n m : Nat} {d : PyData} (h : Gd B n m d) (hB : B < 10 ^ 30) (hn : n ≤ 60) (hm : m ≤ 10000) : shW d ∧ pReprD d = some (.fr (.str d.shown)) := by
  refine ⟨⟨gd_shD h hB (by omega) (by omega), fun xs e x hx => ?_⟩, reprD_of (h.rk (Nat.lt_trans hB (by decide))) (by omega) (by omega)⟩
  subst e
  obtain ⟨q1, q2⟩ := h.tupE
  have := sz_mem hx
  exact gd_shD (B := B) (n := n) (m := m) ⟨(q1 x hx).1, by have := (q1 x hx).2; omega, by omega⟩ hB (by omega) (by omega)
theorem gdN {as : List Nat} {k : Nat} {n : Nd} (ha : ArOk as) (h : NdOk as k n) (hk : k ≤ 25) : Gd 25 1 4 (encN n) := by
  have h1 := lt_of_get h.1
  have h2 := h.le2 ha
  have h3 := ha.len
  refine ⟨?_, ?_, ?_⟩
  · simp only [gd, gds, Bool.and_eq_true]
    exact ⟨gd_nat (by omega), gd_ns fun p hp => by have := h.2 p hp; omega⟩
  · simp [PyData.depth, PyData.depthAll, dep_ns]
  · simp [sz, szs, szs_ns]; omega
theorem arA {as : List Nat} (h : ArOk as) : (as.map dN).all (btw 0 2) = true := List.all_eq_true.mpr fun d hd => by
  obtain ⟨a, ha, rfl⟩ := List.mem_map.mp hd
  have := h.le2 a ha
  simp [btw, dN]; omega
end Q
namespace Q
open PySem Dy
open L2 (atI ixN)
theorem btw_nat {hi : Int} {d : PyData} (h : btw 0 hi d = true) : ∃ n : Nat, d = dN n ∧ (n : Int) ≤ hi := by
  obtain ⟨i, rfl, h0, h1⟩ := btw_int h
  refine ⟨i.toNat, ?_, by omega⟩
  have : ((i.toNat : Nat) : Int) = i := by omega
  simp [dN, this]
theorem all_dec {α : Type} {p : PyData → Bool} {P : α → Prop} {enc : α → PyData} (h : ∀ d, p d = true → ∃ x, d = enc x ∧ P x) : ∀ {xs : List PyData}, xs.all p = true → ∃ ys : List α, xs = ys.map enc ∧ ∀ y ∈ ys, P y
  | [], _ => ⟨[], rfl, fun y hy => by cases hy⟩
  | x :: xs, e => by
    rw [List.all_cons, Bool.and_eq_true] at e
    obtain ⟨y, rfl, hy⟩ := h x e.1
    obtain ⟨ys, rfl, hys⟩ := all_dec h e.2
    exact ⟨y :: ys, rfl, fun z hz => by
      rcases List.mem_cons.mp hz with rfl | hz
      · exact hy
      · exact hys z hz⟩
theorem get_dN {as : List Nat} {k : Nat} {n : Int} (h : (as.map dN)[k]? = some (.int n)) : ∃ a : Nat, as[k]? = some a ∧ (a : Int) = n := by
  rw [List.getElem?_map] at h
  cases q : as[k]? with
  | none => rw [q] at h; cases h
  | some a => rw [q] at h; exact ⟨a, rfl, by simpa [dN] using h⟩
theorem ndD_dec {as : List Nat} {k : Nat} {d : PyData} (h : ndD (as.map dN) (k : Int) d = true) : ∃ n : Nd, d = encN n ∧ NdOk as k n := by
  unfold ndD at h
  split at h
  · rename_i x ps
    simp only [Bool.and_eq_true] at h
    obtain ⟨h1, h2, h3⟩ := h
    obtain ⟨b, rfl, hb⟩ := btw_nat h1
    obtain ⟨ns, rfl, hn⟩ := all_dec (P := fun n : Nat => (n : Int) ≤ (k : Int) - 1) (enc := dN) (fun d e => btw_nat e) h3
    simp only [dN] at h2
    split at h2
    · rename_i n q
      rw [show ((b : Nat) : Int).toNat = b from by omega] at q
      obtain ⟨x, hx, rfl⟩ := get_dN q
      simp only [decide_eq_true_eq, List.length_map] at h2
      refine ⟨(b, ns), rfl, ?_, fun p hp => by have := hn p hp; omega⟩
      show as[b]? = some ns.length
      rw [hx]; congr 1; omega
    · cases h2
  · cases h
theorem wr_dec {as : List Nat} : ∀ {xs : List PyData} (k : Nat), (enumD k xs).all (ndP (as.map dN)) = true → ∃ t : List Nd, xs = t.map encN ∧ ∀ j n, t[j]? = some n → NdOk as (k + j) n
  | [], k, _ => ⟨[], rfl, fun j n h => by simp at h⟩
  | x :: xs, k, h => by
    have e : enumD k (x :: xs) = .tuple [.int (k : Int), x] :: enumD (k + 1) xs := rfl
    rw [e, List.all_cons, Bool.and_eq_true] at h
    obtain ⟨n, rfl, hn⟩ := ndD_dec (show ndD (as.map dN) (k : Int) x = true from h.1)
    obtain ⟨t, rfl, ht⟩ := wr_dec (k + 1) h.2
    refine ⟨n :: t, rfl, fun j m hj => ?_⟩
    cases j with
    | zero => simp at hj; subst hj; exact hn
    | succ j => have := ht j m (by simpa using hj); rw [show k + (j + 1) = k + 1 + j from by omega]; exact this
theorem wrD_dec {as : List Nat} {d : PyData} (h : wrD (as.map dN) d = true) (hl : ∀ xs, d = .tuple xs → xs.length ≤ 1000) : ∃ t, d = encT t ∧ TrOk as t := by
  cases d with
  | tuple xs =>
    simp only [wrD, Bool.and_eq_true, Bool.not_eq_true'] at h
    obtain ⟨t, rfl, ht⟩ := wr_dec 0 h.2
    have hl := hl _ rfl
    refine ⟨t, rfl, ⟨fun k n hk => by have := ht k n hk; simpa using this, fun z => ?_, by simpa using hl⟩⟩
    subst z
    simp at h
  | _ => simp [wrD] at h
end Q
namespace Q
open PySem Dy
open L2 (atI ixN)
theorem wrD_dec2 {as : List Nat} {d : PyData} (h : wrD (as.map dN) d = true) : ∃ t, d = encT t ∧ (t.length ≤ 1000 → TrOk as t) := by
  cases d with
  | tuple xs =>
    simp only [wrD, Bool.and_eq_true, Bool.not_eq_true'] at h
    obtain ⟨t, rfl, ht⟩ := wr_dec 0 h.2
    refine ⟨t, rfl, fun hl => ⟨fun k n hk => by have := ht k n hk; simpa using this, fun z => ?_, hl⟩⟩
    subst z
    simp at h
  | _ => simp [wrD] at h
theorem sz_nd (n : Nd) : 2 ≤ sz (encN n) := by
  show 2 ≤ sz (dN n.1) + szs (n.2.map dN) + 1
  have := sz_pos (dN n.1)
  omega
theorem szs_nd : ∀ t : List Nd, 2 * t.length ≤ szs (t.map encN)
  | [] => by simp [szs]
  | n :: t => by have := szs_nd t; have := sz_nd n; simp only [List.map_cons, szs, List.length_cons]; omega
def NdS (d : PyData) : Prop := ndd d = true ∧ d.showable = true ∧ d.depth ≤ 60 ∧ d.shown.length ≤ 1000000
theorem rk_nds {d : PyData} (h : Rk 60 1000000 d) (n : ndd d = true) : NdS d := ⟨n, h.sho, h.dep, Nat.le_trans (shown_len d h.lay) h.wt⟩
theorem repr2 {a b : PyData} (h : (Rk 60 1000000 a ∧ Rk 60 1000000 b) ∨ (NdS a ∧ NdS b)) : pReprD (.tuple [a, b]) = some (.fr (.str (PyData.shown (.tuple [a, b])))) := by
  rcases h with ⟨h1, h2⟩ | ⟨⟨a1, a2, a3, a4⟩, ⟨b1, b2, b3, b4⟩⟩
  · have rk : Rk 61 (2 * (1000000 + 2) + 2) (.tuple [a, b]) := Rk.tup (n := 60) (w := 1000000) (ds := [a, b]) (fun d hd => by
      simp only [List.mem_cons, List.not_mem_nil, or_false] at hd
      rcases hd with rfl | rfl
      · exact h1
      · exact h2)
    exact reprD_of rk (by decide) (by decide)
  · refine reprD_ofD ?_
    unfold rOkD
    have l := fmt_text (PyData.shownAll [a, b])
    have l2 : (PyData.shown (.tuple [a, b])).length ≤ 16777216 := by
      show (tupleText (PyData.shownAll [a, b])).length ≤ 16777216
      have e : piled (PyData.shownAll [a, b]) = a.shown.length + 2 + (b.shown.length + 2) := by
        show piled [a.shown, b.shown] = _
        simp [piled]
      omega
    have s1 : (PyData.tuple [a, b]).showable = true := by simp [PyData.showable, PyData.showableAll, a2, b2]
    have s2 : (PyData.tuple [a, b]).depth ≤ 64 := by simp [PyData.depth, PyData.depthAll]; omega
    have s3 : ndd (.tuple [a, b]) = true := by simp [ndd, ndds, a1, b1]
    rw [s3, s1, decide_eq_true ⟨s2, l2⟩]; rfl
theorem ndds_map {α : Type} {f : α → PyData} : ∀ {xs : List α}, (∀ x ∈ xs, ndd (f x) = true) → ndds (xs.map f) = true
  | [], _ => rfl
  | x :: xs, h => by
    show (ndd (f x) && ndds (xs.map f)) = true
    rw [h x (by simp), ndds_map fun y hy => h y (by simp [hy])]; rfl
theorem nd_ns (ns : List Nat) : ndds (ns.map dN) = true := ndds_map fun _ _ => rfl
theorem nd_M (m : Mach) : ndd (encM m) = true := by
  have h1 : ndds (m.ins.map encI) = true := ndds_map fun i _ => by simp [ndd, ndds, nd_ns, dN]
  have h2 : ndds (m.con.map encK) = true := ndds_map fun i _ => by simp [ndd, ndds, dN]
  simp [ndd, ndds, nd_ns, h1, h2, dN]
theorem Gd.rk9 {B n m : Nat} {d : PyData} (h : Gd B n m d) (hB : B < 10 ^ 30) (hn : n ≤ 60) (hm : m ≤ 800) : Rk 60 1000000 d := (h.rk (Nat.lt_trans hB (by decide))).mono hn (by omega)
theorem law_of0 {S : SF} {vs : List Nat} {e0 e3 : Dy.Env} (hs : S e0 = .ok (.nx, e3)) : fSeq (fWp vs S) (fRet (fC (.bool true))) e0 = .ok (.rt (.fr (.bool true)), wipeE e3 vs) := by
  have e1 : fWp vs S e0 = .ok (.nx, wipeE e3 vs) := by rw [a_wp, hs]; rfl
  show (fWp vs S e0 >>= fun r => match r.1 with | .nx => fRet (fC (.bool true)) r.2 | _ => .ok r) = _
  rw [e1]; rfl
end Q
namespace Q
open PySem Dy
open L2 (atI ixN)
theorem seq_nx {a b : SF} {e e' : Dy.Env} (h : a e = .ok (.nx, e')) : fSeq a b e = b e' := by simp [a_seq, h]
end Q
namespace Q
open PySem Dy
open L2 (atI ixN)
theorem closed30_ok {m : Mach} {row : List Pr} (h : MOk m) (hl : row.length = m.fs) : M__law_closed_2 [.fr (encM m), .fr (.list (rowL row))] = .ok (.fr (encR (turnT m row)), [.fr (encM m), .fr (.list (rowL row))]) := by
  have f4 := h.f4
  have cl := h.cl
  obtain ⟨e, q⟩ := for_ri (t := .nm 2) (body := L2__law_closed_2) (n := row.length) (fun f : List Pr => V__law_closed_2 (made := fr (encM m)) (row := ol (rowL f))) (lap1 m) (fun f => f.length = m.fs) row rfl hl (fun f k hk hf => ⟨by rw [len_lap]; exact hf, by
    obtain ⟨e2, q2⟩ := for_li (t := .tu [3, 4, 5]) (body := L1__law_closed_2) encK (fun f : List Pr => V__law_closed_2 (made := fr (encM m)) (row := ol (rowL f))) tn1 (fun f => f.length = m.fs) m.con f rfl rfl hf (fun f c hc hf => ⟨by rw [len_tn1]; exact hf, by
      have ca := (h.con c hc).a
      have cb := (h.con c hc).b
      have ga := gP_at (r := f) (i := c.a) (by omega)
      have gb := gP_at (r := f) (i := c.b) (by omega)
      unfold tn1
      cases hx : gP f c.a with
      | none =>
        rw [hx] at ga
        rw [show sumP [none, some c.pr] = none from rfl, less_none, set_gP]
        simp [L1__law_closed_2, q_mulAI, q_mulAL, a_wb, q_divW, Function.comp_def, q_starI, q_starIT, a_wp, a_fz, a_fz0, a_fz1, a_ext, a_ins, a_insA, a_pop, a_parN, a_evO0, a_evO1, a_setO0, a_setO1, a_ix2, a_setII, a_zN, a_zC, a_lcO, d_oo, pEq_int, pNe_int, pIxL, pIxT, atI_nat, atI_0, atI_1, atI_2, atI_3, atI_m1, cutLo, cutHi, cutLo1, cutHi1, a_seq, a_ifS, a_B, a_op, a_ov, a_ev0, a_evv, a_evs, a_C, a_V, a_M, a_set, a_setI, a_app, a_ret, a_ex, a_skip, a_no, a_not, a_andT, a_orT, a_and, a_or, a_notV, a_if, a_par, a_call, a_forS, a_sq, a_r1, a_r2, a_en, a_zp, a_asT, a_chI, a_yes, a_lc, a_fn, okA, f_fr, bkA, rsvs, rsv, dvs, on1, on2, d_fr, d_ol, rsO, ndS, sl, putB, asT, setAll, ofO, Dy.ints1, Dy.ints2, nE, wipeE, unw, frO, q_addI, q_addL, q_addT, q_addS, q_sub, q_div, q_mod, q_pow, q_neg, q_cm, pIs, pIsn, q_isN, q_isI, q_isS, q_isT, q_isL, q_isB, q_lenL, q_lenT, pTup, pLst, q_tupL, q_tupT, q_lstL, q_lstT, q_revL, q_slL, q_slT, q_shL, q_shT, q_sqL, q_sqT, q_intI, q_max2, q_min2, q_aII, q_aBI, q_aTI, q_aTT, q_aLL, q_aTL, q_aIT, ga, dP_none, dP_some]
      | some x =>
        rw [hx] at ga
        have ex : sumP [some x, some c.pr] = some (x + c.pr) := by simp [sumP]
        rw [ex]
        cases hy : gP f c.b with
        | none =>
          rw [hy] at gb
          simp [L1__law_closed_2, q_mulAI, q_mulAL, a_wb, q_divW, Function.comp_def, q_starI, q_starIT, a_wp, a_fz, a_fz0, a_fz1, a_ext, a_ins, a_insA, a_pop, a_parN, a_evO0, a_evO1, a_setO0, a_setO1, a_ix2, a_setII, a_zN, a_zC, a_lcO, d_oo, pEq_int, pNe_int, pIxL, pIxT, atI_nat, atI_0, atI_1, atI_2, atI_3, atI_m1, cutLo, cutHi, cutLo1, cutHi1, a_seq, a_ifS, a_B, a_op, a_ov, a_ev0, a_evv, a_evs, a_C, a_V, a_M, a_set, a_setI, a_app, a_ret, a_ex, a_skip, a_no, a_not, a_andT, a_orT, a_and, a_or, a_notV, a_if, a_par, a_call, a_forS, a_sq, a_r1, a_r2, a_en, a_zp, a_asT, a_chI, a_yes, a_lc, a_fn, okA, f_fr, bkA, rsvs, rsv, dvs, on1, on2, d_fr, d_ol, rsO, ndS, sl, putB, asT, setAll, ofO, Dy.ints1, Dy.ints2, nE, wipeE, unw, frO, q_addI, q_addL, q_addT, q_addS, q_sub, q_div, q_mod, q_pow, q_neg, q_cm, pIs, pIsn, q_isN, q_isI, q_isS, q_isT, q_isL, q_isB, q_lenL, q_lenT, pTup, pLst, q_tupL, q_tupT, q_lstL, q_lstT, q_revL, q_slL, q_slT, q_shL, q_shT, q_sqL, q_sqT, q_intI, q_max2, q_min2, q_aII, q_aBI, q_aTI, q_aTT, q_aLL, q_aTL, q_aIT, ga, gb, dP_none, dP_some, hf, ixN_nat _ _ cb, List.map_set, lessP]
        | some y =>
          rw [hy] at gb
          by_cases z : x + c.pr < y
          · have zi : (x : Int) + c.pr < y := by omega
            have el : lessP (some y) (some (x + c.pr)) = some (x + c.pr) := by simp [lessP]; omega
            rw [el]
            simp [L1__law_closed_2, q_mulAI, q_mulAL, a_wb, q_divW, Function.comp_def, q_starI, q_starIT, a_wp, a_fz, a_fz0, a_fz1, a_ext, a_ins, a_insA, a_pop, a_parN, a_evO0, a_evO1, a_setO0, a_setO1, a_ix2, a_setII, a_zN, a_zC, a_lcO, d_oo, pEq_int, pNe_int, pIxL, pIxT, atI_nat, atI_0, atI_1, atI_2, atI_3, atI_m1, cutLo, cutHi, cutLo1, cutHi1, a_seq, a_ifS, a_B, a_op, a_ov, a_ev0, a_evv, a_evs, a_C, a_V, a_M, a_set, a_setI, a_app, a_ret, a_ex, a_skip, a_no, a_not, a_andT, a_orT, a_and, a_or, a_notV, a_if, a_par, a_call, a_forS, a_sq, a_r1, a_r2, a_en, a_zp, a_asT, a_chI, a_yes, a_lc, a_fn, okA, f_fr, bkA, rsvs, rsv, dvs, on1, on2, d_fr, d_ol, rsO, ndS, sl, putB, asT, setAll, ofO, Dy.ints1, Dy.ints2, nE, wipeE, unw, frO, q_addI, q_addL, q_addT, q_addS, q_sub, q_div, q_mod, q_pow, q_neg, q_cm, pIs, pIsn, q_isN, q_isI, q_isS, q_isT, q_isL, q_isB, q_lenL, q_lenT, pTup, pLst, q_tupL, q_tupT, q_lstL, q_lstT, q_revL, q_slL, q_slT, q_shL, q_shT, q_sqL, q_sqT, q_intI, q_max2, q_min2, q_aII, q_aBI, q_aTI, q_aTT, q_aLL, q_aTL, q_aIT, ga, gb, dP_none, dP_some, hf, ixN_nat _ _ cb, List.map_set, zi]
          · have zi : ¬ (x : Int) + c.pr < y := by omega
            have el : lessP (some y) (some (x + c.pr)) = some y := by simp [lessP]; omega
            rw [el, ← hy, set_gP]
            simp [L1__law_closed_2, q_mulAI, q_mulAL, a_wb, q_divW, Function.comp_def, q_starI, q_starIT, a_wp, a_fz, a_fz0, a_fz1, a_ext, a_ins, a_insA, a_pop, a_parN, a_evO0, a_evO1, a_setO0, a_setO1, a_ix2, a_setII, a_zN, a_zC, a_lcO, d_oo, pEq_int, pNe_int, pIxL, pIxT, atI_nat, atI_0, atI_1, atI_2, atI_3, atI_m1, cutLo, cutHi, cutLo1, cutHi1, a_seq, a_ifS, a_B, a_op, a_ov, a_ev0, a_evv, a_evs, a_C, a_V, a_M, a_set, a_setI, a_app, a_ret, a_ex, a_skip, a_no, a_not, a_andT, a_orT, a_and, a_or, a_notV, a_if, a_par, a_call, a_forS, a_sq, a_r1, a_r2, a_en, a_zp, a_asT, a_chI, a_yes, a_lc, a_fn, okA, f_fr, bkA, rsvs, rsv, dvs, on1, on2, d_fr, d_ol, rsO, ndS, sl, putB, asT, setAll, ofO, Dy.ints1, Dy.ints2, nE, wipeE, unw, frO, q_addI, q_addL, q_addT, q_addS, q_sub, q_div, q_mod, q_pow, q_neg, q_cm, pIs, pIsn, q_isN, q_isI, q_isS, q_isT, q_isL, q_isB, q_lenL, q_lenT, pTup, pLst, q_tupL, q_tupT, q_lstL, q_lstT, q_revL, q_slL, q_slT, q_shL, q_shT, q_sqL, q_sqT, q_intI, q_max2, q_min2, q_aII, q_aBI, q_aTI, q_aTT, q_aLL, q_aTL, q_aIT, ga, gb, dP_none, dP_some, hf, ixN_nat _ _ cb, List.map_set, zi]⟩)
    simp [L2__law_closed_2, q_mulAI, q_mulAL, a_wb, q_divW, Function.comp_def, q_starI, q_starIT, a_wp, a_fz, a_fz0, a_fz1, a_ext, a_ins, a_insA, a_pop, a_parN, a_evO0, a_evO1, a_setO0, a_setO1, a_ix2, a_setII, a_zN, a_zC, a_lcO, d_oo, pEq_int, pNe_int, pIxL, pIxT, atI_nat, atI_0, atI_1, atI_2, atI_3, atI_m1, cutLo, cutHi, cutLo1, cutHi1, a_seq, a_ifS, a_B, a_op, a_ov, a_ev0, a_evv, a_evs, a_C, a_V, a_M, a_set, a_setI, a_app, a_ret, a_ex, a_skip, a_no, a_not, a_andT, a_orT, a_and, a_or, a_notV, a_if, a_par, a_call, a_forS, a_sq, a_r1, a_r2, a_en, a_zp, a_asT, a_chI, a_yes, a_lc, a_fn, okA, f_fr, bkA, rsvs, rsv, dvs, on1, on2, d_fr, d_ol, rsO, ndS, sl, putB, asT, setAll, ofO, Dy.ints1, Dy.ints2, nE, wipeE, unw, frO, q_addI, q_addL, q_addT, q_addS, q_sub, q_div, q_mod, q_pow, q_neg, q_cm, pIs, pIsn, q_isN, q_isI, q_isS, q_isT, q_isL, q_isB, q_lenL, q_lenT, pTup, pLst, q_tupL, q_tupT, q_lstL, q_lstT, q_revL, q_slL, q_slT, q_shL, q_shT, q_sqL, q_sqT, q_intI, q_max2, q_min2, q_aII, q_aBI, q_aTI, q_aTT, q_aLL, q_aTL, q_aIT, e2, lap1]⟩)
  have c1 : (row.length : Int) ≤ 1000000000 ∧ (-1000000000 : Int) ≤ row.length := by omega
  simp [M__law_closed_2, b__law_closed_2, q_mulAI, q_mulAL, a_wb, q_divW, Function.comp_def, q_starI, q_starIT, a_wp, a_fz, a_fz0, a_fz1, a_ext, a_ins, a_insA, a_pop, a_parN, a_evO0, a_evO1, a_setO0, a_setO1, a_ix2, a_setII, a_zN, a_zC, a_lcO, d_oo, pEq_int, pNe_int, pIxL, pIxT, atI_nat, atI_0, atI_1, atI_2, atI_3, atI_m1, cutLo, cutHi, cutLo1, cutHi1, a_seq, a_ifS, a_B, a_op, a_ov, a_ev0, a_evv, a_evs, a_C, a_V, a_M, a_set, a_setI, a_app, a_ret, a_ex, a_skip, a_no, a_not, a_andT, a_orT, a_and, a_or, a_notV, a_if, a_par, a_call, a_forS, a_sq, a_r1, a_r2, a_en, a_zp, a_asT, a_chI, a_yes, a_lc, a_fn, okA, f_fr, bkA, rsvs, rsv, dvs, on1, on2, d_fr, d_ol, rsO, ndS, sl, putB, asT, setAll, ofO, Dy.ints1, Dy.ints2, nE, wipeE, unw, frO, q_addI, q_addL, q_addT, q_addS, q_sub, q_div, q_mod, q_pow, q_neg, q_cm, pIs, pIsn, q_isN, q_isI, q_isS, q_isT, q_isL, q_isB, q_lenL, q_lenT, pTup, pLst, q_tupL, q_tupT, q_lstL, q_lstT, q_revL, q_slL, q_slT, q_shL, q_shT, q_sqL, q_sqT, q_intI, q_max2, q_min2, q_aII, q_aBI, q_aTI, q_aTT, q_aLL, q_aTL, q_aIT, c1, e, turnT]
theorem over30_ok {m : Mach} {op : Nat} {rows : List (List Pr)} {d : PyData} (h : MOk m) (ha : m.ar[op]? = some rows.length) (hr : ∀ r ∈ rows, r.length = m.fs) (hd : seqOf d = some (rows.map encR)) :
    M__law_over_3 [.fr (encM m), .fr (dN op), .fr d] = .ok (.fr (encR (rowF m op rows)), [.fr (encM m), .fr (dN op), .fr d]) := by
  have f4 := h.f4
  have a2 := h.ar.le2 _ (List.mem_of_getElem? ha)
  obtain ⟨e, q⟩ := for_li (t := .tu [4, 5, 6, 7]) (body := L1__law_over_3) encI (fun f : List Pr => V__law_over_3 (made := fr (encM m)) (operator := fr (dN op)) (rows := fr d) (found := ol (rowL f))) (cm1 op rows) (fun f => f.length = m.fs) m.ins (List.replicate m.fs none) rfl rfl (by simp) (fun f i hi hf => ⟨by rw [len_cm1]; exact hf, by
    have io := h.ins i hi
    have c0 : (rows.zip i.args).length ≤ 2 := by rw [List.length_zip]; omega
    have hcomp : ∀ e : Dy.Env, e = V__law_over_3 (made := fr (encM m)) (operator := fr (dN op)) (rows := fr d) (found := ol (rowL f)) (form := fr (dN i.form)) (its := fr (dN i.op)) (wanted := fr (.tuple (i.args.map dN))) (price := fr (dN i.pr)) → lcL [9, 10] (.tu [9, 10]) fYes E1__law_over_3 (zipD (rows.map encR) (i.args.map dN)) e [] = .ok (((rows.zip i.args).map fun z => gP z.1 z.2).map dP, e) := fun e he => by
      rw [zipD_map, lc_tm (fun z : List Pr × Nat => .tuple [encR z.1, dN z.2]) (fun z => dP (gP z.1 z.2)) (rows.zip i.args) rfl (fun q hq => ?_) (by omega), List.map_map]
      · rfl
      · have q1 := hr q.1 (List.of_mem_zip hq).1
        have q2 := io.args q.2 (List.of_mem_zip hq).2
        have := gP_at (r := q.1) (i := q.2) (by omega)
        subst he
        simp [E1__law_over_3, q_mulAI, q_mulAL, a_wb, q_divW, Function.comp_def, q_starI, q_starIT, a_wp, a_fz, a_fz0, a_fz1, a_ext, a_ins, a_insA, a_pop, a_parN, a_evO0, a_evO1, a_setO0, a_setO1, a_ix2, a_setII, a_zN, a_zC, a_lcO, d_oo, pEq_int, pNe_int, pIxL, pIxT, atI_nat, atI_0, atI_1, atI_2, atI_3, atI_m1, cutLo, cutHi, cutLo1, cutHi1, a_seq, a_ifS, a_B, a_op, a_ov, a_ev0, a_evv, a_evs, a_C, a_V, a_M, a_set, a_setI, a_app, a_ret, a_ex, a_skip, a_no, a_not, a_andT, a_orT, a_and, a_or, a_notV, a_if, a_par, a_call, a_forS, a_sq, a_r1, a_r2, a_en, a_zp, a_asT, a_chI, a_yes, a_lc, a_fn, okA, f_fr, bkA, rsvs, rsv, dvs, on1, on2, d_fr, d_ol, rsO, ndS, sl, putB, asT, setAll, ofO, Dy.ints1, Dy.ints2, nE, wipeE, unw, frO, q_addI, q_addL, q_addT, q_addS, q_sub, q_div, q_mod, q_pow, q_neg, q_cm, pIs, pIsn, q_isN, q_isI, q_isS, q_isT, q_isL, q_isB, q_lenL, q_lenT, pTup, pLst, q_tupL, q_tupT, q_lstL, q_lstT, q_revL, q_slL, q_slT, q_shL, q_shT, q_sqL, q_sqT, q_intI, q_max2, q_min2, q_aII, q_aBI, q_aTI, q_aTT, q_aLL, q_aTL, q_aIT, this]
    have hcomp := hcomp _ rfl
    generalize hps : (rows.zip i.args).map (fun z => gP z.1 z.2) = ps at *
    by_cases z : i.op = op
    · have zi : (i.op : Int) = op := by omega
      unfold cm1
      rw [if_pos z]
      unfold insP
      rw [hps]
      by_cases hn : none ∈ ps
      · have e1 : sumP (some i.pr :: ps) = none := by unfold sumP; rw [if_pos (List.mem_cons_of_mem _ hn)]
        rw [e1, less_none, set_gP]
        simp [L1__law_over_3, q_mulAI, q_mulAL, a_wb, q_divW, Function.comp_def, q_starI, q_starIT, a_wp, a_fz, a_fz0, a_fz1, a_ext, a_ins, a_insA, a_pop, a_parN, a_evO0, a_evO1, a_setO0, a_setO1, a_ix2, a_setII, a_zN, a_zC, a_lcO, d_oo, pEq_int, pNe_int, pIxL, pIxT, atI_nat, atI_0, atI_1, atI_2, atI_3, atI_m1, cutLo, cutHi, cutLo1, cutHi1, a_seq, a_ifS, a_B, a_op, a_ov, a_ev0, a_evv, a_evs, a_C, a_V, a_M, a_set, a_setI, a_app, a_ret, a_ex, a_skip, a_no, a_not, a_andT, a_orT, a_and, a_or, a_notV, a_if, a_par, a_call, a_forS, a_sq, a_r1, a_r2, a_en, a_zp, a_asT, a_chI, a_yes, a_lc, a_fn, okA, f_fr, bkA, rsvs, rsv, dvs, on1, on2, d_fr, d_ol, rsO, ndS, sl, putB, asT, setAll, ofO, Dy.ints1, Dy.ints2, nE, wipeE, unw, frO, q_addI, q_addL, q_addT, q_addS, q_sub, q_div, q_mod, q_pow, q_neg, q_cm, pIs, pIsn, q_isN, q_isI, q_isS, q_isT, q_isL, q_isB, q_lenL, q_lenT, pTup, pLst, q_tupL, q_tupT, q_lstL, q_lstT, q_revL, q_slL, q_slT, q_shL, q_shT, q_sqL, q_sqT, q_intI, q_max2, q_min2, q_aII, q_aBI, q_aTI, q_aTT, q_aLL, q_aTL, q_aIT, hd, hcomp, zi, noneNin, hn]
      · have hf1 : i.form < f.length := by rw [hf]; exact io.form
        have hg := gP_at hf1
        have c2 : i.form < m.fs := io.form
        have e1 : sumP (some i.pr :: ps) = some (i.pr + (ps.map (·.getD 0)).sum) := by unfold sumP; rw [if_neg (by simp [hn])]; simp
        rw [e1]
        have es := sum_dP hn
        generalize (ps.map (·.getD 0)).sum = S at *
        cases hy : gP f i.form with
        | none =>
          rw [hy] at hg
          simp [L1__law_over_3, q_mulAI, q_mulAL, a_wb, q_divW, Function.comp_def, q_starI, q_starIT, a_wp, a_fz, a_fz0, a_fz1, a_ext, a_ins, a_insA, a_pop, a_parN, a_evO0, a_evO1, a_setO0, a_setO1, a_ix2, a_setII, a_zN, a_zC, a_lcO, d_oo, pEq_int, pNe_int, pIxL, pIxT, atI_nat, atI_0, atI_1, atI_2, atI_3, atI_m1, cutLo, cutHi, cutLo1, cutHi1, a_seq, a_ifS, a_B, a_op, a_ov, a_ev0, a_evv, a_evs, a_C, a_V, a_M, a_set, a_setI, a_app, a_ret, a_ex, a_skip, a_no, a_not, a_andT, a_orT, a_and, a_or, a_notV, a_if, a_par, a_call, a_forS, a_sq, a_r1, a_r2, a_en, a_zp, a_asT, a_chI, a_yes, a_lc, a_fn, okA, f_fr, bkA, rsvs, rsv, dvs, on1, on2, d_fr, d_ol, rsO, ndS, sl, putB, asT, setAll, ofO, Dy.ints1, Dy.ints2, nE, wipeE, unw, frO, q_addI, q_addL, q_addT, q_addS, q_sub, q_div, q_mod, q_pow, q_neg, q_cm, pIs, pIsn, q_isN, q_isI, q_isS, q_isT, q_isL, q_isB, q_lenL, q_lenT, pTup, pLst, q_tupL, q_tupT, q_lstL, q_lstT, q_revL, q_slL, q_slT, q_shL, q_shT, q_sqL, q_sqT, q_intI, q_max2, q_min2, q_aII, q_aBI, q_aTI, q_aTT, q_aLL, q_aTL, q_aIT, hd, hcomp, zi, noneNin, hn, es, hg, hf, ixN_nat _ _ c2, List.map_set, dP_none, dP_some, lessP]
        | some y =>
          rw [hy] at hg
          by_cases z : i.pr + S < y
          · have zi2 : (i.pr : Int) + S < y := by omega
            have el : lessP (some y) (some (i.pr + S)) = some (i.pr + S) := by simp [lessP]; omega
            rw [el]
            simp [L1__law_over_3, q_mulAI, q_mulAL, a_wb, q_divW, Function.comp_def, q_starI, q_starIT, a_wp, a_fz, a_fz0, a_fz1, a_ext, a_ins, a_insA, a_pop, a_parN, a_evO0, a_evO1, a_setO0, a_setO1, a_ix2, a_setII, a_zN, a_zC, a_lcO, d_oo, pEq_int, pNe_int, pIxL, pIxT, atI_nat, atI_0, atI_1, atI_2, atI_3, atI_m1, cutLo, cutHi, cutLo1, cutHi1, a_seq, a_ifS, a_B, a_op, a_ov, a_ev0, a_evv, a_evs, a_C, a_V, a_M, a_set, a_setI, a_app, a_ret, a_ex, a_skip, a_no, a_not, a_andT, a_orT, a_and, a_or, a_notV, a_if, a_par, a_call, a_forS, a_sq, a_r1, a_r2, a_en, a_zp, a_asT, a_chI, a_yes, a_lc, a_fn, okA, f_fr, bkA, rsvs, rsv, dvs, on1, on2, d_fr, d_ol, rsO, ndS, sl, putB, asT, setAll, ofO, Dy.ints1, Dy.ints2, nE, wipeE, unw, frO, q_addI, q_addL, q_addT, q_addS, q_sub, q_div, q_mod, q_pow, q_neg, q_cm, pIs, pIsn, q_isN, q_isI, q_isS, q_isT, q_isL, q_isB, q_lenL, q_lenT, pTup, pLst, q_tupL, q_tupT, q_lstL, q_lstT, q_revL, q_slL, q_slT, q_shL, q_shT, q_sqL, q_sqT, q_intI, q_max2, q_min2, q_aII, q_aBI, q_aTI, q_aTT, q_aLL, q_aTL, q_aIT, hd, hcomp, zi, noneNin, hn, es, hg, hf, ixN_nat _ _ c2, List.map_set, dP_none, dP_some, zi2]
          · have zi2 : ¬ (i.pr : Int) + S < y := by omega
            have el : lessP (some y) (some (i.pr + S)) = some y := by simp [lessP]; omega
            rw [el, ← hy, set_gP]
            simp [L1__law_over_3, q_mulAI, q_mulAL, a_wb, q_divW, Function.comp_def, q_starI, q_starIT, a_wp, a_fz, a_fz0, a_fz1, a_ext, a_ins, a_insA, a_pop, a_parN, a_evO0, a_evO1, a_setO0, a_setO1, a_ix2, a_setII, a_zN, a_zC, a_lcO, d_oo, pEq_int, pNe_int, pIxL, pIxT, atI_nat, atI_0, atI_1, atI_2, atI_3, atI_m1, cutLo, cutHi, cutLo1, cutHi1, a_seq, a_ifS, a_B, a_op, a_ov, a_ev0, a_evv, a_evs, a_C, a_V, a_M, a_set, a_setI, a_app, a_ret, a_ex, a_skip, a_no, a_not, a_andT, a_orT, a_and, a_or, a_notV, a_if, a_par, a_call, a_forS, a_sq, a_r1, a_r2, a_en, a_zp, a_asT, a_chI, a_yes, a_lc, a_fn, okA, f_fr, bkA, rsvs, rsv, dvs, on1, on2, d_fr, d_ol, rsO, ndS, sl, putB, asT, setAll, ofO, Dy.ints1, Dy.ints2, nE, wipeE, unw, frO, q_addI, q_addL, q_addT, q_addS, q_sub, q_div, q_mod, q_pow, q_neg, q_cm, pIs, pIsn, q_isN, q_isI, q_isS, q_isT, q_isL, q_isB, q_lenL, q_lenT, pTup, pLst, q_tupL, q_tupT, q_lstL, q_lstT, q_revL, q_slL, q_slT, q_shL, q_shT, q_sqL, q_sqT, q_intI, q_max2, q_min2, q_aII, q_aBI, q_aTI, q_aTT, q_aLL, q_aTL, q_aIT, hd, hcomp, zi, noneNin, hn, es, hg, hf, ixN_nat _ _ c2, List.map_set, dP_none, dP_some, zi2]
    · have zi : ¬ (i.op : Int) = op := by omega
      unfold cm1
      rw [if_neg z]
      simp [L1__law_over_3, q_mulAI, q_mulAL, a_wb, q_divW, Function.comp_def, q_starI, q_starIT, a_wp, a_fz, a_fz0, a_fz1, a_ext, a_ins, a_insA, a_pop, a_parN, a_evO0, a_evO1, a_setO0, a_setO1, a_ix2, a_setII, a_zN, a_zC, a_lcO, d_oo, pEq_int, pNe_int, pIxL, pIxT, atI_nat, atI_0, atI_1, atI_2, atI_3, atI_m1, cutLo, cutHi, cutLo1, cutHi1, a_seq, a_ifS, a_B, a_op, a_ov, a_ev0, a_evv, a_evs, a_C, a_V, a_M, a_set, a_setI, a_app, a_ret, a_ex, a_skip, a_no, a_not, a_andT, a_orT, a_and, a_or, a_notV, a_if, a_par, a_call, a_forS, a_sq, a_r1, a_r2, a_en, a_zp, a_asT, a_chI, a_yes, a_lc, a_fn, okA, f_fr, bkA, rsvs, rsv, dvs, on1, on2, d_fr, d_ol, rsO, ndS, sl, putB, asT, setAll, ofO, Dy.ints1, Dy.ints2, nE, wipeE, unw, frO, q_addI, q_addL, q_addT, q_addS, q_sub, q_div, q_mod, q_pow, q_neg, q_cm, pIs, pIsn, q_isN, q_isI, q_isS, q_isT, q_isL, q_isB, q_lenL, q_lenT, pTup, pLst, q_tupL, q_tupT, q_lstL, q_lstT, q_revL, q_slL, q_slT, q_shL, q_shT, q_sqL, q_sqT, q_intI, q_max2, q_min2, q_aII, q_aBI, q_aTI, q_aTT, q_aLL, q_aTL, q_aIT, hd, hcomp, zi]⟩)
  have e3 := closed30_ok h (len_compT m op rows)
  have e4 : turnT m (compT m op rows) = rowF m op rows := turn_conv h (len_compT m op rows)
  rw [e4] at e3
  rw [rep_none] at e
  change _ = Res.ok (Fl.nx, V__law_over_3 (made := fr (encM m)) (operator := fr (dN op)) (rows := fr d) (found := ol (rowL (compT m op rows)))) at e
  simp [M__law_over_3, b__law_over_3, q_mulAI, q_mulAL, a_wb, q_divW, Function.comp_def, q_starI, q_starIT, a_wp, a_fz, a_fz0, a_fz1, a_ext, a_ins, a_insA, a_pop, a_parN, a_evO0, a_evO1, a_setO0, a_setO1, a_ix2, a_setII, a_zN, a_zC, a_lcO, d_oo, pEq_int, pNe_int, pIxL, pIxT, atI_nat, atI_0, atI_1, atI_2, atI_3, atI_m1, cutLo, cutHi, cutLo1, cutHi1, a_seq, a_ifS, a_B, a_op, a_ov, a_ev0, a_evv, a_evs, a_C, a_V, a_M, a_set, a_setI, a_app, a_ret, a_ex, a_skip, a_no, a_not, a_andT, a_orT, a_and, a_or, a_notV, a_if, a_par, a_call, a_forS, a_sq, a_r1, a_r2, a_en, a_zp, a_asT, a_chI, a_yes, a_lc, a_fn, okA, f_fr, bkA, rsvs, rsv, dvs, on1, on2, d_fr, d_ol, rsO, ndS, sl, putB, asT, setAll, ofO, Dy.ints1, Dy.ints2, nE, wipeE, unw, frO, q_addI, q_addL, q_addT, q_addS, q_sub, q_div, q_mod, q_pow, q_neg, q_cm, pIs, pIsn, q_isN, q_isI, q_isS, q_isT, q_isL, q_isB, q_lenL, q_lenT, pTup, pLst, q_tupL, q_tupT, q_lstL, q_lstT, q_revL, q_slL, q_slT, q_shL, q_shT, q_sqL, q_sqT, q_intI, q_max2, q_min2, q_aII, q_aBI, q_aTI, q_aTT, q_aLL, q_aTL, q_aIT, mulN h, e, e3]
theorem lrows30_ok {m : Mach} {t : List Nd} (h : MOk m) (ht : TrOk m.ar t) : M__law_rows_for_2 [.fr (encM m), .fr (encT t)] = .ok (.ol ((alg (rowF m) [] t).map encR), [.fr (encM m), .fr (encT t)]) := by
  have hl := ht.len
  have e := for_st (t := .nm 3) (body := L1__law_rows_for_2) encN (fun acc : List (List Pr) => V__law_rows_for_2 (made := fr (encM m)) (written := fr (encT t)) (found := ol (acc.map encR))) (alg1 (rowF m) []) t [] rfl rfl (fun pre n post e => by
    have hn := ht.wf pre.length n (get_split e)
    have n2 := hn.le2 h.ar
    have hpl : pre.length < t.length := lt_of_get (get_split e)
    show (asT _ _ (V__law_rows_for_2 (made := fr (encM m)) (written := fr (encT t)) (found := ol ((alg (rowF m) [] pre).map encR))) >>= _) = Res.ok (Fl.nx, V__law_rows_for_2 (made := fr (encM m)) (written := fr (encT t)) (found := ol ((alg1 (rowF m) [] (alg (rowF m) [] pre) n).map encR)))
    have al := alg_len (rowF m) [] pre
    have rl := rows_len (m := m) (t := pre)
    generalize alg (rowF m) [] pre = acc at *
    have hat : ∀ p ∈ n.2, acc[p]? = some (atR acc p) := fun p hp => getD_mem (by have := hn.2 p hp; omega)
    have ej := over30_ok (op := n.1) (rows := n.2.map (atR acc)) (d := .list ((n.2.map (atR acc)).map encR)) h (by rw [List.length_map]; exact hn.1) (fun r hr => by
      obtain ⟨p, hp, rfl⟩ := List.mem_map.mp hr
      exact rl _ (List.mem_of_getElem? (hat p hp))) rfl
    have eg : alg1 (rowF m) [] acc n = acc ++ [rowF m n.1 (n.2.map (atR acc))] := rfl
    rw [eg]
    have c2 : acc.length < 1000000 := by omega
    simp [Function.comp_def] at ej
    simp [L1__law_rows_for_2, q_mulAI, q_mulAL, a_wb, q_divW, Function.comp_def, q_starI, q_starIT, a_wp, a_fz, a_fz0, a_fz1, a_ext, a_ins, a_insA, a_pop, a_parN, a_evO0, a_evO1, a_setO0, a_setO1, a_ix2, a_setII, a_zN, a_zC, a_lcO, d_oo, pEq_int, pNe_int, pIxL, pIxT, atI_nat, atI_0, atI_1, atI_2, atI_3, atI_m1, cutLo, cutHi, cutLo1, cutHi1, a_seq, a_ifS, a_B, a_op, a_ov, a_ev0, a_evv, a_evs, a_C, a_V, a_M, a_set, a_setI, a_app, a_ret, a_ex, a_skip, a_no, a_not, a_andT, a_orT, a_and, a_or, a_notV, a_if, a_par, a_call, a_forS, a_sq, a_r1, a_r2, a_en, a_zp, a_asT, a_chI, a_yes, a_lc, a_fn, okA, f_fr, bkA, rsvs, rsv, dvs, on1, on2, d_fr, d_ol, rsO, ndS, sl, putB, asT, setAll, ofO, Dy.ints1, Dy.ints2, nE, wipeE, unw, frO, q_addI, q_addL, q_addT, q_addS, q_sub, q_div, q_mod, q_pow, q_neg, q_cm, pIs, pIsn, q_isN, q_isI, q_isS, q_isT, q_isL, q_isB, q_lenL, q_lenT, pTup, pLst, q_tupL, q_tupT, q_lstL, q_lstT, q_revL, q_slL, q_slT, q_shL, q_shT, q_sqL, q_sqT, q_intI, q_max2, q_min2, q_aII, q_aBI, q_aTI, q_aTT, q_aLL, q_aTL, q_aIT]
    rw [lc_tm dN (fun p => encR (atR acc p)) n.2 rfl (fun p hp => ?_) (by omega)]
    · simp [q_mulAI, q_mulAL, a_wb, q_divW, Function.comp_def, q_starI, q_starIT, a_wp, a_fz, a_fz0, a_fz1, a_ext, a_ins, a_insA, a_pop, a_parN, a_evO0, a_evO1, a_setO0, a_setO1, a_ix2, a_setII, a_zN, a_zC, a_lcO, d_oo, pEq_int, pNe_int, pIxL, pIxT, atI_nat, atI_0, atI_1, atI_2, atI_3, atI_m1, cutLo, cutHi, cutLo1, cutHi1, a_seq, a_ifS, a_B, a_op, a_ov, a_ev0, a_evv, a_evs, a_C, a_V, a_M, a_set, a_setI, a_app, a_ret, a_ex, a_skip, a_no, a_not, a_andT, a_orT, a_and, a_or, a_notV, a_if, a_par, a_call, a_forS, a_sq, a_r1, a_r2, a_en, a_zp, a_asT, a_chI, a_yes, a_lc, a_fn, okA, f_fr, bkA, rsvs, rsv, dvs, on1, on2, d_fr, d_ol, rsO, ndS, sl, putB, asT, setAll, ofO, Dy.ints1, Dy.ints2, nE, wipeE, unw, frO, q_addI, q_addL, q_addT, q_addS, q_sub, q_div, q_mod, q_pow, q_neg, q_cm, pIs, pIsn, q_isN, q_isI, q_isS, q_isT, q_isL, q_isB, q_lenL, q_lenT, pTup, pLst, q_tupL, q_tupT, q_lstL, q_lstT, q_revL, q_slL, q_slT, q_shL, q_shT, q_sqL, q_sqT, q_intI, q_max2, q_min2, q_aII, q_aBI, q_aTI, q_aTT, q_aLL, q_aTL, q_aIT, ej, c2]
    · simp [E1__law_rows_for_2, q_mulAI, q_mulAL, a_wb, q_divW, Function.comp_def, q_starI, q_starIT, a_wp, a_fz, a_fz0, a_fz1, a_ext, a_ins, a_insA, a_pop, a_parN, a_evO0, a_evO1, a_setO0, a_setO1, a_ix2, a_setII, a_zN, a_zC, a_lcO, d_oo, pEq_int, pNe_int, pIxL, pIxT, atI_nat, atI_0, atI_1, atI_2, atI_3, atI_m1, cutLo, cutHi, cutLo1, cutHi1, a_seq, a_ifS, a_B, a_op, a_ov, a_ev0, a_evv, a_evs, a_C, a_V, a_M, a_set, a_setI, a_app, a_ret, a_ex, a_skip, a_no, a_not, a_andT, a_orT, a_and, a_or, a_notV, a_if, a_par, a_call, a_forS, a_sq, a_r1, a_r2, a_en, a_zp, a_asT, a_chI, a_yes, a_lc, a_fn, okA, f_fr, bkA, rsvs, rsv, dvs, on1, on2, d_fr, d_ol, rsO, ndS, sl, putB, asT, setAll, ofO, Dy.ints1, Dy.ints2, nE, wipeE, unw, frO, q_addI, q_addL, q_addT, q_addS, q_sub, q_div, q_mod, q_pow, q_neg, q_cm, pIs, pIsn, q_isN, q_isI, q_isS, q_isT, q_isL, q_isB, q_lenL, q_lenT, pTup, pLst, q_tupL, q_tupT, q_lstL, q_lstT, q_revL, q_slL, q_slT, q_shL, q_shT, q_sqL, q_sqT, q_intI, q_max2, q_min2, q_aII, q_aBI, q_aTI, q_aTT, q_aLL, q_aTL, q_aIT, hat p hp])
  unfold alg
  dsimp only [List.map] at e
  simp [M__law_rows_for_2, b__law_rows_for_2, q_mulAI, q_mulAL, a_wb, q_divW, Function.comp_def, q_starI, q_starIT, a_wp, a_fz, a_fz0, a_fz1, a_ext, a_ins, a_insA, a_pop, a_parN, a_evO0, a_evO1, a_setO0, a_setO1, a_ix2, a_setII, a_zN, a_zC, a_lcO, d_oo, pEq_int, pNe_int, pIxL, pIxT, atI_nat, atI_0, atI_1, atI_2, atI_3, atI_m1, cutLo, cutHi, cutLo1, cutHi1, a_seq, a_ifS, a_B, a_op, a_ov, a_ev0, a_evv, a_evs, a_C, a_V, a_M, a_set, a_setI, a_app, a_ret, a_ex, a_skip, a_no, a_not, a_andT, a_orT, a_and, a_or, a_notV, a_if, a_par, a_call, a_forS, a_sq, a_r1, a_r2, a_en, a_zp, a_asT, a_chI, a_yes, a_lc, a_fn, okA, f_fr, bkA, rsvs, rsv, dvs, on1, on2, d_fr, d_ol, rsO, ndS, sl, putB, asT, setAll, ofO, Dy.ints1, Dy.ints2, nE, wipeE, unw, frO, q_addI, q_addL, q_addT, q_addS, q_sub, q_div, q_mod, q_pow, q_neg, q_cm, pIs, pIsn, q_isN, q_isI, q_isS, q_isT, q_isL, q_isB, q_lenL, q_lenT, pTup, pLst, q_tupL, q_tupT, q_lstL, q_lstT, q_revL, q_slL, q_slT, q_shL, q_shT, q_sqL, q_sqT, q_intI, q_max2, q_min2, q_aII, q_aBI, q_aTI, q_aTT, q_aLL, q_aTL, q_aIT, e]
def goalP (m : Mach) (t : List Nd) : Pr := gP (rowsLast m t) 0
theorem goal30_at {m : Mach} {t : List Nd} (h : MOk m) (ht : TrOk m.ar t) : (rowsLast m t)[0]? = some (goalP m t) := gP_at (by rw [len_last ht.ne]; have := h.f1; omega)
theorem goal30_ok {m : Mach} {t : List Nd} (h : MOk m) (ht : TrOk m.ar t) : M__law_goal_of_2 [.fr (encM m), .fr (encT t)] = .ok (.fr (dP (goalP m t)), [.fr (encM m), .fr (encT t)]) := by
  have e := lrows30_ok h ht
  have hv : ((alg (rowF m) [] t).map encR).getLast? = some (encR (rowsLast m t)) := by rw [List.getLast?_map, last_some (rowF m) [] ht.ne]; rfl
  have hg := goal30_at h ht
  generalize (alg (rowF m) [] t).map encR = L at *
  simp [M__law_goal_of_2, b__law_goal_of_2, q_mulAI, q_mulAL, a_wb, q_divW, Function.comp_def, q_starI, q_starIT, a_wp, a_fz, a_fz0, a_fz1, a_ext, a_ins, a_insA, a_pop, a_parN, a_evO0, a_evO1, a_setO0, a_setO1, a_ix2, a_setII, a_zN, a_zC, a_lcO, d_oo, pEq_int, pNe_int, pIxL, pIxT, atI_nat, atI_0, atI_1, atI_2, atI_3, atI_m1, cutLo, cutHi, cutLo1, cutHi1, a_seq, a_ifS, a_B, a_op, a_ov, a_ev0, a_evv, a_evs, a_C, a_V, a_M, a_set, a_setI, a_app, a_ret, a_ex, a_skip, a_no, a_not, a_andT, a_orT, a_and, a_or, a_notV, a_if, a_par, a_call, a_forS, a_sq, a_r1, a_r2, a_en, a_zp, a_asT, a_chI, a_yes, a_lc, a_fn, okA, f_fr, bkA, rsvs, rsv, dvs, on1, on2, d_fr, d_ol, rsO, ndS, sl, putB, asT, setAll, ofO, Dy.ints1, Dy.ints2, nE, wipeE, unw, frO, q_addI, q_addL, q_addT, q_addS, q_sub, q_div, q_mod, q_pow, q_neg, q_cm, pIs, pIsn, q_isN, q_isI, q_isS, q_isT, q_isL, q_isB, q_lenL, q_lenT, pTup, pLst, q_tupL, q_tupT, q_lstL, q_lstT, q_revL, q_slL, q_slT, q_shL, q_shT, q_sqL, q_sqT, q_intI, q_max2, q_min2, q_aII, q_aBI, q_aTI, q_aTT, q_aLL, q_aTL, q_aIT, e, hv, hg]
def bareM (m : Mach) (k : Nat) : Mach := ⟨m.ar, m.fs, (ens m.ins).filterMap fun q => if q.1 = k then none else some q.2, (ens m.con).filterMap fun q => if m.ins.length + q.1 = k then none else some q.2⟩
theorem bare_mok {m : Mach} (h : MOk m) (k : Nat) : MOk (bareM m k) := by
  refine ⟨h.ar, h.f1, h.f4, ?_, ?_, ?_, ?_⟩
  · have := List.length_filterMap_le (fun q : Nat × Ins => if q.1 = k then none else some q.2) (ens m.ins)
    rw [ens_len] at this
    exact Nat.le_trans this h.il
  · have := List.length_filterMap_le (fun q : Nat × Con => if m.ins.length + q.1 = k then none else some q.2) (ens m.con)
    rw [ens_len] at this
    exact Nat.le_trans this h.cl
  · intro i hi
    obtain ⟨q, hq, e⟩ := List.mem_filterMap.mp hi
    split at e
    · cases e
    · cases e
      exact h.ins _ (List.mem_of_getElem? (ens_mem hq))
  · intro i hi
    obtain ⟨q, hq, e⟩ := List.mem_filterMap.mp hi
    split at e
    · cases e
    · cases e
      exact h.con _ (List.mem_of_getElem? (ens_mem hq))
theorem nin1 (a b : Nat) : pNinA (.int (a : Int)) (.tuple [.int (b : Int)]) = some (.fr (.bool (!decide (a = b)))) := by
  have e : ((b : Int) == (a : Int)) = decide (a = b) := by
    by_cases z : a = b
    · subst z; simp
    · rw [decide_eq_false z]
      exact beq_eq_false_iff_ne.mpr (by omega)
  simp [pNinA, flD, eqF, e]
theorem fm_map {α : Type} (enc : α → PyData) (p : Nat × α → Prop) [DecidablePred p] (xs : List (Nat × α)) : (xs.filterMap fun q => if p q then none else some (enc q.2)) = (xs.filterMap fun q => if p q then none else some q.2).map enc := by
  rw [List.map_filterMap]
  congr 1
  funext q
  by_cases h : p q <;> simp [h]
theorem bare_ok {m : Mach} (h : MOk m) (k : Nat) : M__law_bare [.fr (encM m), .fr (.tuple [.int (k : Int)])] = .ok (.fr (encM (bareM m k)), [.fr (encM m), .fr (.tuple [.int (k : Int)])]) := by
  have il := h.il
  have cl := h.cl
  have e1 : ∀ e : Dy.Env, e = V__law_bare (made := fr (encM m)) (gone := fr (.tuple [.int (k : Int)])) → lcL [5, 6] (.tu [5, 6]) T1__law_bare E1__law_bare (enumD 0 (m.ins.map encI)) e [] = .ok ((bareM m k).ins.map encI, e) := fun e he => by
    rw [lc_fl (fun q : Nat × Ins => .tuple [.int (q.1 : Int), encI q.2]) (fun q => if q.1 = k then none else some (encI q.2)) (ens m.ins) (enumD_ens _ _) (fun q hq => ?_) (by rw [ens_len]; omega), fm_map encI (fun q => q.1 = k)]
    · rfl
    · subst he
      by_cases z : q.1 = k <;> simp [T1__law_bare, E1__law_bare, q_mulAI, q_mulAL, a_wb, q_divW, Function.comp_def, q_starI, q_starIT, a_wp, a_fz, a_fz0, a_fz1, a_ext, a_ins, a_insA, a_pop, a_parN, a_evO0, a_evO1, a_setO0, a_setO1, a_ix2, a_setII, a_zN, a_zC, a_lcO, d_oo, pEq_int, pNe_int, pIxL, pIxT, atI_nat, atI_0, atI_1, atI_2, atI_3, atI_m1, cutLo, cutHi, cutLo1, cutHi1, a_seq, a_ifS, a_B, a_op, a_ov, a_ev0, a_evv, a_evs, a_C, a_V, a_M, a_set, a_setI, a_app, a_ret, a_ex, a_skip, a_no, a_not, a_andT, a_orT, a_and, a_or, a_notV, a_if, a_par, a_call, a_forS, a_sq, a_r1, a_r2, a_en, a_zp, a_asT, a_chI, a_yes, a_lc, a_fn, okA, f_fr, bkA, rsvs, rsv, dvs, on1, on2, d_fr, d_ol, rsO, ndS, sl, putB, asT, setAll, ofO, Dy.ints1, Dy.ints2, nE, wipeE, unw, frO, q_addI, q_addL, q_addT, q_addS, q_sub, q_div, q_mod, q_pow, q_neg, q_cm, pIs, pIsn, q_isN, q_isI, q_isS, q_isT, q_isL, q_isB, q_lenL, q_lenT, pTup, pLst, q_tupL, q_tupT, q_lstL, q_lstT, q_revL, q_slL, q_slT, q_shL, q_shT, q_sqL, q_sqT, q_intI, q_max2, q_min2, q_aII, q_aBI, q_aTI, q_aTT, q_aLL, q_aTL, q_aIT, nin1, z]
  have e2 : ∀ e : Dy.Env, e = V__law_bare (made := fr (encM m)) (gone := fr (.tuple [.int (k : Int)])) (first := fr (.tuple ((bareM m k).ins.map encI))) (ahead := fr (dN m.ins.length)) → lcL [5, 6] (.tu [5, 6]) T2__law_bare E2__law_bare (enumD 0 (m.con.map encK)) e [] = .ok ((bareM m k).con.map encK, e) := fun e he => by
    rw [lc_fl (fun q : Nat × Con => .tuple [.int (q.1 : Int), encK q.2]) (fun q => if m.ins.length + q.1 = k then none else some (encK q.2)) (ens m.con) (enumD_ens _ _) (fun q hq => ?_) (by rw [ens_len]; omega), fm_map encK (fun q => m.ins.length + q.1 = k)]
    · rfl
    · subst he
      have := nin1 (m.ins.length + q.1) k
      rw [Int.natCast_add] at this
      by_cases z : m.ins.length + q.1 = k <;> simp [T2__law_bare, E2__law_bare, q_mulAI, q_mulAL, a_wb, q_divW, Function.comp_def, q_starI, q_starIT, a_wp, a_fz, a_fz0, a_fz1, a_ext, a_ins, a_insA, a_pop, a_parN, a_evO0, a_evO1, a_setO0, a_setO1, a_ix2, a_setII, a_zN, a_zC, a_lcO, d_oo, pEq_int, pNe_int, pIxL, pIxT, atI_nat, atI_0, atI_1, atI_2, atI_3, atI_m1, cutLo, cutHi, cutLo1, cutHi1, a_seq, a_ifS, a_B, a_op, a_ov, a_ev0, a_evv, a_evs, a_C, a_V, a_M, a_set, a_setI, a_app, a_ret, a_ex, a_skip, a_no, a_not, a_andT, a_orT, a_and, a_or, a_notV, a_if, a_par, a_call, a_forS, a_sq, a_r1, a_r2, a_en, a_zp, a_asT, a_chI, a_yes, a_lc, a_fn, okA, f_fr, bkA, rsvs, rsv, dvs, on1, on2, d_fr, d_ol, rsO, ndS, sl, putB, asT, setAll, ofO, Dy.ints1, Dy.ints2, nE, wipeE, unw, frO, q_addI, q_addL, q_addT, q_addS, q_sub, q_div, q_mod, q_pow, q_neg, q_cm, pIs, pIsn, q_isN, q_isI, q_isS, q_isT, q_isL, q_isB, q_lenL, q_lenT, pTup, pLst, q_tupL, q_tupT, q_lstL, q_lstT, q_revL, q_slL, q_slT, q_shL, q_shT, q_sqL, q_sqT, q_intI, q_max2, q_min2, q_aII, q_aBI, q_aTI, q_aTT, q_aLL, q_aTL, q_aIT, this, z]
  have e1 := e1 _ rfl
  have e2 := e2 _ rfl
  have c2 : ∀ a b c d : PyData, cutD [a, b, c, d] none (some 2) = [a, b] := fun a b c d => cutHi [a, b, c, d] 2
  have l1 : ((bareM m k).ins.map encI).length ≤ 24 := by rw [List.length_map]; exact (bare_mok h k).il
  have ea : (bareM m k).ar = m.ar := rfl
  have ef : (bareM m k).fs = m.fs := rfl
  generalize bareM m k = mb at *
  rw [show encM mb = .tuple [encA m.ar, dN m.fs, .tuple (mb.ins.map encI), .tuple (mb.con.map encK)] by rw [← ea, ← ef]]
  simp [M__law_bare, b__law_bare, q_mulAI, q_mulAL, a_wb, q_divW, Function.comp_def, q_starI, q_starIT, a_wp, a_fz, a_fz0, a_fz1, a_ext, a_ins, a_insA, a_pop, a_parN, a_evO0, a_evO1, a_setO0, a_setO1, a_ix2, a_setII, a_zN, a_zC, a_lcO, d_oo, pEq_int, pNe_int, pIxL, pIxT, atI_nat, atI_0, atI_1, atI_2, atI_3, atI_m1, cutLo, cutHi, cutLo1, cutHi1, a_seq, a_ifS, a_B, a_op, a_ov, a_ev0, a_evv, a_evs, a_C, a_V, a_M, a_set, a_setI, a_app, a_ret, a_ex, a_skip, a_no, a_not, a_andT, a_orT, a_and, a_or, a_notV, a_if, a_par, a_call, a_forS, a_sq, a_r1, a_r2, a_en, a_zp, a_asT, a_chI, a_yes, a_lc, a_fn, okA, f_fr, bkA, rsvs, rsv, dvs, on1, on2, d_fr, d_ol, rsO, ndS, sl, putB, asT, setAll, ofO, Dy.ints1, Dy.ints2, nE, wipeE, unw, frO, q_addI, q_addL, q_addT, q_addS, q_sub, q_div, q_mod, q_pow, q_neg, q_cm, pIs, pIsn, q_isN, q_isI, q_isS, q_isT, q_isL, q_isB, q_lenL, q_lenT, pTup, pLst, q_tupL, q_tupT, q_lstL, q_lstT, q_revL, q_slL, q_slT, q_shL, q_shT, q_sqL, q_sqT, q_intI, q_max2, q_min2, q_aII, q_aBI, q_aTI, q_aTT, q_aLL, q_aTL, q_aIT, e1, e2, c2]
theorem without_ok {m : Mach} (h : MOk m) (k : Nat) : M_without [.fr (encM m), .fr (.tuple [.int (k : Int)])] = .ok (.fr (encM (bareM m k)), [.fr (encM m), .fr (.tuple [.int (k : Int)])]) := by
  have il := h.il
  have cl := h.cl
  have e1 : ∀ e : Dy.Env, e = V_without (machine := fr (encM m)) (numbers := fr (.tuple [.int (k : Int)])) (arities := fr (encA m.ar)) (forms := fr (dN m.fs)) (instructions := fr (.tuple (m.ins.map encI))) (conversions := fr (.tuple (m.con.map encK))) → lcL [8, 9] (.tu [8, 9]) T1_without E1_without (enumD 0 (m.ins.map encI)) e [] = .ok ((bareM m k).ins.map encI, e) := fun e he => by
    rw [lc_fl (fun q : Nat × Ins => .tuple [.int (q.1 : Int), encI q.2]) (fun q => if q.1 = k then none else some (encI q.2)) (ens m.ins) (enumD_ens _ _) (fun q hq => ?_) (by rw [ens_len]; omega), fm_map encI (fun q => q.1 = k)]
    · rfl
    · subst he
      by_cases z : q.1 = k <;> simp [T1_without, E1_without, q_mulAI, q_mulAL, a_wb, q_divW, Function.comp_def, q_starI, q_starIT, a_wp, a_fz, a_fz0, a_fz1, a_ext, a_ins, a_insA, a_pop, a_parN, a_evO0, a_evO1, a_setO0, a_setO1, a_ix2, a_setII, a_zN, a_zC, a_lcO, d_oo, pEq_int, pNe_int, pIxL, pIxT, atI_nat, atI_0, atI_1, atI_2, atI_3, atI_m1, cutLo, cutHi, cutLo1, cutHi1, a_seq, a_ifS, a_B, a_op, a_ov, a_ev0, a_evv, a_evs, a_C, a_V, a_M, a_set, a_setI, a_app, a_ret, a_ex, a_skip, a_no, a_not, a_andT, a_orT, a_and, a_or, a_notV, a_if, a_par, a_call, a_forS, a_sq, a_r1, a_r2, a_en, a_zp, a_asT, a_chI, a_yes, a_lc, a_fn, okA, f_fr, bkA, rsvs, rsv, dvs, on1, on2, d_fr, d_ol, rsO, ndS, sl, putB, asT, setAll, ofO, Dy.ints1, Dy.ints2, nE, wipeE, unw, frO, q_addI, q_addL, q_addT, q_addS, q_sub, q_div, q_mod, q_pow, q_neg, q_cm, pIs, pIsn, q_isN, q_isI, q_isS, q_isT, q_isL, q_isB, q_lenL, q_lenT, pTup, pLst, q_tupL, q_tupT, q_lstL, q_lstT, q_revL, q_slL, q_slT, q_shL, q_shT, q_sqL, q_sqT, q_intI, q_max2, q_min2, q_aII, q_aBI, q_aTI, q_aTT, q_aLL, q_aTL, q_aIT, nin1, z]
  have e2 : ∀ e : Dy.Env, e = V_without (machine := fr (encM m)) (numbers := fr (.tuple [.int (k : Int)])) (arities := fr (encA m.ar)) (forms := fr (dN m.fs)) (instructions := fr (.tuple (m.ins.map encI))) (conversions := fr (.tuple (m.con.map encK))) (first := fr (.tuple ((bareM m k).ins.map encI))) (ahead := fr (dN m.ins.length)) → lcL [10, 9] (.tu [10, 9]) T2_without E2_without (enumD 0 (m.con.map encK)) e [] = .ok ((bareM m k).con.map encK, e) := fun e he => by
    rw [lc_fl (fun q : Nat × Con => .tuple [.int (q.1 : Int), encK q.2]) (fun q => if m.ins.length + q.1 = k then none else some (encK q.2)) (ens m.con) (enumD_ens _ _) (fun q hq => ?_) (by rw [ens_len]; omega), fm_map encK (fun q => m.ins.length + q.1 = k)]
    · rfl
    · subst he
      have := nin1 (m.ins.length + q.1) k
      rw [Int.natCast_add] at this
      by_cases z : m.ins.length + q.1 = k <;> simp [T2_without, E2_without, q_mulAI, q_mulAL, a_wb, q_divW, Function.comp_def, q_starI, q_starIT, a_wp, a_fz, a_fz0, a_fz1, a_ext, a_ins, a_insA, a_pop, a_parN, a_evO0, a_evO1, a_setO0, a_setO1, a_ix2, a_setII, a_zN, a_zC, a_lcO, d_oo, pEq_int, pNe_int, pIxL, pIxT, atI_nat, atI_0, atI_1, atI_2, atI_3, atI_m1, cutLo, cutHi, cutLo1, cutHi1, a_seq, a_ifS, a_B, a_op, a_ov, a_ev0, a_evv, a_evs, a_C, a_V, a_M, a_set, a_setI, a_app, a_ret, a_ex, a_skip, a_no, a_not, a_andT, a_orT, a_and, a_or, a_notV, a_if, a_par, a_call, a_forS, a_sq, a_r1, a_r2, a_en, a_zp, a_asT, a_chI, a_yes, a_lc, a_fn, okA, f_fr, bkA, rsvs, rsv, dvs, on1, on2, d_fr, d_ol, rsO, ndS, sl, putB, asT, setAll, ofO, Dy.ints1, Dy.ints2, nE, wipeE, unw, frO, q_addI, q_addL, q_addT, q_addS, q_sub, q_div, q_mod, q_pow, q_neg, q_cm, pIs, pIsn, q_isN, q_isI, q_isS, q_isT, q_isL, q_isB, q_lenL, q_lenT, pTup, pLst, q_tupL, q_tupT, q_lstL, q_lstT, q_revL, q_slL, q_slT, q_shL, q_shT, q_sqL, q_sqT, q_intI, q_max2, q_min2, q_aII, q_aBI, q_aTI, q_aTT, q_aLL, q_aTL, q_aIT, this, z]
  have e1 := e1 _ rfl
  have e2 := e2 _ rfl
  have ea : (bareM m k).ar = m.ar := rfl
  have ef : (bareM m k).fs = m.fs := rfl
  generalize bareM m k = mb at *
  rw [show encM mb = .tuple [encA m.ar, dN m.fs, .tuple (mb.ins.map encI), .tuple (mb.con.map encK)] by rw [← ea, ← ef]]
  simp [M_without, b_without, q_mulAI, q_mulAL, a_wb, q_divW, Function.comp_def, q_starI, q_starIT, a_wp, a_fz, a_fz0, a_fz1, a_ext, a_ins, a_insA, a_pop, a_parN, a_evO0, a_evO1, a_setO0, a_setO1, a_ix2, a_setII, a_zN, a_zC, a_lcO, d_oo, pEq_int, pNe_int, pIxL, pIxT, atI_nat, atI_0, atI_1, atI_2, atI_3, atI_m1, cutLo, cutHi, cutLo1, cutHi1, a_seq, a_ifS, a_B, a_op, a_ov, a_ev0, a_evv, a_evs, a_C, a_V, a_M, a_set, a_setI, a_app, a_ret, a_ex, a_skip, a_no, a_not, a_andT, a_orT, a_and, a_or, a_notV, a_if, a_par, a_call, a_forS, a_sq, a_r1, a_r2, a_en, a_zp, a_asT, a_chI, a_yes, a_lc, a_fn, okA, f_fr, bkA, rsvs, rsv, dvs, on1, on2, d_fr, d_ol, rsO, ndS, sl, putB, asT, setAll, ofO, Dy.ints1, Dy.ints2, nE, wipeE, unw, frO, q_addI, q_addL, q_addT, q_addS, q_sub, q_div, q_mod, q_pow, q_neg, q_cm, pIs, pIsn, q_isN, q_isI, q_isS, q_isT, q_isL, q_isB, q_lenL, q_lenT, pTup, pLst, q_tupL, q_tupT, q_lstL, q_lstT, q_revL, q_slL, q_slT, q_shL, q_shT, q_sqL, q_sqT, q_intI, q_max2, q_min2, q_aII, q_aBI, q_aTI, q_aTT, q_aLL, q_aTL, q_aIT, e1, e2]
def manyM (m : Mach) : Nat := m.ins.length + m.con.length
theorem many_ok (m : Mach) : M__law_many [.fr (encM m)] = .ok (.fr (.int (manyM m : Int)), [.fr (encM m)]) := by
  simp [M__law_many, b__law_many, q_mulAI, q_mulAL, a_wb, q_divW, Function.comp_def, q_starI, q_starIT, a_wp, a_fz, a_fz0, a_fz1, a_ext, a_ins, a_insA, a_pop, a_parN, a_evO0, a_evO1, a_setO0, a_setO1, a_ix2, a_setII, a_zN, a_zC, a_lcO, d_oo, pEq_int, pNe_int, pIxL, pIxT, atI_nat, atI_0, atI_1, atI_2, atI_3, atI_m1, cutLo, cutHi, cutLo1, cutHi1, a_seq, a_ifS, a_B, a_op, a_ov, a_ev0, a_evv, a_evs, a_C, a_V, a_M, a_set, a_setI, a_app, a_ret, a_ex, a_skip, a_no, a_not, a_andT, a_orT, a_and, a_or, a_notV, a_if, a_par, a_call, a_forS, a_sq, a_r1, a_r2, a_en, a_zp, a_asT, a_chI, a_yes, a_lc, a_fn, okA, f_fr, bkA, rsvs, rsv, dvs, on1, on2, d_fr, d_ol, rsO, ndS, sl, putB, asT, setAll, ofO, Dy.ints1, Dy.ints2, nE, wipeE, unw, frO, q_addI, q_addL, q_addT, q_addS, q_sub, q_div, q_mod, q_pow, q_neg, q_cm, pIs, pIsn, q_isN, q_isI, q_isS, q_isT, q_isL, q_isB, q_lenL, q_lenT, pTup, pLst, q_tupL, q_tupT, q_lstL, q_lstT, q_revL, q_slL, q_slT, q_shL, q_shT, q_sqL, q_sqT, q_intI, q_max2, q_min2, q_aII, q_aBI, q_aTI, q_aTT, q_aLL, q_aTL, q_aIT, manyM]
def nnD : PyData → Bool
  | .int i => decide (0 ≤ i)
  | _ => false
theorem nnD_int {d : PyData} (h : nnD d = true) : ∃ i : Int, d = .int i ∧ 0 ≤ i := by
  cases d <;> first | (simp [nnD] at h; exact ⟨_, rfl, h⟩) | cases h
theorem btw_nn {hi : Int} {d : PyData} (h : btw 0 hi d = true) : nnD d = true := by
  obtain ⟨i, rfl, h0, _⟩ := btw_int h
  simp [nnD, h0]
theorem ltreeD {as : List PyData} (ha : as.all (btw 0 2) = true) (d : PyData) (hs : shW d) : M__law_is_tree [.fr (.tuple as), .fr d] = .ok (.fr (.bool (wrD as d)), [.fr (.tuple as), .fr d]) := by
  rcases tup_cases d with ⟨xs, rfl⟩ | h
  · obtain ⟨h1, h2⟩ := hs.1 xs rfl
    have h0 := pEq_T0 h1
    cases hx : xs.isEmpty with
    | true => simp [M__law_is_tree, b__law_is_tree, q_mulAI, q_mulAL, a_wb, q_divW, Function.comp_def, q_starI, q_starIT, a_wp, a_fz, a_fz0, a_fz1, a_ext, a_ins, a_insA, a_pop, a_parN, a_evO0, a_evO1, a_setO0, a_setO1, a_ix2, a_setII, a_zN, a_zC, a_lcO, d_oo, pEq_int, pNe_int, pIxL, pIxT, atI_nat, atI_0, atI_1, atI_2, atI_3, atI_m1, cutLo, cutHi, cutLo1, cutHi1, a_seq, a_ifS, a_B, a_op, a_ov, a_ev0, a_evv, a_evs, a_C, a_V, a_M, a_set, a_setI, a_app, a_ret, a_ex, a_skip, a_no, a_not, a_andT, a_orT, a_and, a_or, a_notV, a_if, a_par, a_call, a_forS, a_sq, a_r1, a_r2, a_en, a_zp, a_asT, a_chI, a_yes, a_lc, a_fn, okA, f_fr, bkA, rsvs, rsv, dvs, on1, on2, d_fr, d_ol, rsO, ndS, sl, putB, asT, setAll, ofO, Dy.ints1, Dy.ints2, nE, wipeE, unw, frO, q_addI, q_addL, q_addT, q_addS, q_sub, q_div, q_mod, q_pow, q_neg, q_cm, pIs, pIsn, q_isN, q_isI, q_isS, q_isT, q_isL, q_isB, q_lenL, q_lenT, pTup, pLst, q_tupL, q_tupT, q_lstL, q_lstT, q_revL, q_slL, q_slT, q_shL, q_shT, q_sqL, q_sqT, q_intI, q_max2, q_min2, q_aII, q_aBI, q_aTI, q_aTT, q_aLL, q_aTL, q_aIT, h0, hx, wrD]
    | false =>
      have one : ∀ (i : Nat) (x : PyData), x ∈ xs → (ndD as i x = true → (asT (.tu [2, 3]) (.tuple [.int (i : Int), x]) (V__law_is_tree (arities := fr (.tuple as)) (thing := fr (.tuple xs))) >>= L1__law_is_tree) = .ok (.nx, V__law_is_tree (arities := fr (.tuple as)) (thing := fr (.tuple xs)))) ∧
          (ndD as i x = false → ∃ e', (asT (.tu [2, 3]) (.tuple [.int (i : Int), x]) (V__law_is_tree (arities := fr (.tuple as)) (thing := fr (.tuple xs))) >>= L1__law_is_tree) = .ok (.rt (.fr (.bool false)), e')) := fun i x hxs => by
        have sx := hs.2 xs rfl x hxs
        rcases tup_cases x with ⟨ys, rfl⟩ | h
        · obtain ⟨s1, s2⟩ := sx ys rfl
          have g0 := pEq_T0 s1
          cases ys with
          | nil => exact ⟨fun z => (by cases z), fun _ => ⟨_, by simp [L1__law_is_tree, q_mulAI, q_mulAL, a_wb, q_divW, Function.comp_def, q_starI, q_starIT, a_wp, a_fz, a_fz0, a_fz1, a_ext, a_ins, a_insA, a_pop, a_parN, a_evO0, a_evO1, a_setO0, a_setO1, a_ix2, a_setII, a_zN, a_zC, a_lcO, d_oo, pEq_int, pNe_int, pIxL, pIxT, atI_nat, atI_0, atI_1, atI_2, atI_3, atI_m1, cutLo, cutHi, cutLo1, cutHi1, a_seq, a_ifS, a_B, a_op, a_ov, a_ev0, a_evv, a_evs, a_C, a_V, a_M, a_set, a_setI, a_app, a_ret, a_ex, a_skip, a_no, a_not, a_andT, a_orT, a_and, a_or, a_notV, a_if, a_par, a_call, a_forS, a_sq, a_r1, a_r2, a_en, a_zp, a_asT, a_chI, a_yes, a_lc, a_fn, okA, f_fr, bkA, rsvs, rsv, dvs, on1, on2, d_fr, d_ol, rsO, ndS, sl, putB, asT, setAll, ofO, Dy.ints1, Dy.ints2, nE, wipeE, unw, frO, q_addI, q_addL, q_addT, q_addS, q_sub, q_div, q_mod, q_pow, q_neg, q_cm, pIs, pIsn, q_isN, q_isI, q_isS, q_isT, q_isL, q_isB, q_lenL, q_lenT, pTup, pLst, q_tupL, q_tupT, q_lstL, q_lstT, q_revL, q_slL, q_slT, q_shL, q_shT, q_sqL, q_sqT, q_intI, q_max2, q_min2, q_aII, q_aBI, q_aTI, q_aTT, q_aLL, q_aTL, q_aIT, g0]; rfl⟩⟩
          | cons y ps =>
            obtain ⟨zs, e1, _, e2⟩ := lc_one (p := nnD) (test := T1__law_is_tree) (elt := E1__law_is_tree) (e := V__law_is_tree (arities := fr (.tuple as)) (thing := fr (.tuple xs)) (at_ := fr (.int (i : Int))) (node := fr (.tuple (y :: ps)))) (vs := [4]) (t := .nm 4) (y :: ps) (by omega) (fun x hx => by
              rcases isA_cases x with ⟨j, rfl⟩ | ⟨b, rfl⟩ | hj
              · by_cases zj : j < 0
                · have : ¬ (0 ≤ j) := by omega
                  simp [T1__law_is_tree, E1__law_is_tree, q_mulAI, q_mulAL, a_wb, q_divW, Function.comp_def, q_starI, q_starIT, a_wp, a_fz, a_fz0, a_fz1, a_ext, a_ins, a_insA, a_pop, a_parN, a_evO0, a_evO1, a_setO0, a_setO1, a_ix2, a_setII, a_zN, a_zC, a_lcO, d_oo, pEq_int, pNe_int, pIxL, pIxT, atI_nat, atI_0, atI_1, atI_2, atI_3, atI_m1, cutLo, cutHi, cutLo1, cutHi1, a_seq, a_ifS, a_B, a_op, a_ov, a_ev0, a_evv, a_evs, a_C, a_V, a_M, a_set, a_setI, a_app, a_ret, a_ex, a_skip, a_no, a_not, a_andT, a_orT, a_and, a_or, a_notV, a_if, a_par, a_call, a_forS, a_sq, a_r1, a_r2, a_en, a_zp, a_asT, a_chI, a_yes, a_lc, a_fn, okA, f_fr, bkA, rsvs, rsv, dvs, on1, on2, d_fr, d_ol, rsO, ndS, sl, putB, asT, setAll, ofO, Dy.ints1, Dy.ints2, nE, wipeE, unw, frO, q_addI, q_addL, q_addT, q_addS, q_sub, q_div, q_mod, q_pow, q_neg, q_cm, pIs, pIsn, q_isN, q_isI, q_isS, q_isT, q_isL, q_isB, q_lenL, q_lenT, pTup, pLst, q_tupL, q_tupT, q_lstL, q_lstT, q_revL, q_slL, q_slT, q_shL, q_shT, q_sqL, q_sqT, q_intI, q_max2, q_min2, q_aII, q_aBI, q_aTI, q_aTT, q_aLL, q_aTL, q_aIT, nnD, q_iI, zj, this]
                · have : 0 ≤ j := by omega
                  simp [T1__law_is_tree, E1__law_is_tree, q_mulAI, q_mulAL, a_wb, q_divW, Function.comp_def, q_starI, q_starIT, a_wp, a_fz, a_fz0, a_fz1, a_ext, a_ins, a_insA, a_pop, a_parN, a_evO0, a_evO1, a_setO0, a_setO1, a_ix2, a_setII, a_zN, a_zC, a_lcO, d_oo, pEq_int, pNe_int, pIxL, pIxT, atI_nat, atI_0, atI_1, atI_2, atI_3, atI_m1, cutLo, cutHi, cutLo1, cutHi1, a_seq, a_ifS, a_B, a_op, a_ov, a_ev0, a_evv, a_evs, a_C, a_V, a_M, a_set, a_setI, a_app, a_ret, a_ex, a_skip, a_no, a_not, a_andT, a_orT, a_and, a_or, a_notV, a_if, a_par, a_call, a_forS, a_sq, a_r1, a_r2, a_en, a_zp, a_asT, a_chI, a_yes, a_lc, a_fn, okA, f_fr, bkA, rsvs, rsv, dvs, on1, on2, d_fr, d_ol, rsO, ndS, sl, putB, asT, setAll, ofO, Dy.ints1, Dy.ints2, nE, wipeE, unw, frO, q_addI, q_addL, q_addT, q_addS, q_sub, q_div, q_mod, q_pow, q_neg, q_cm, pIs, pIsn, q_isN, q_isI, q_isS, q_isT, q_isL, q_isB, q_lenL, q_lenT, pTup, pLst, q_tupL, q_tupT, q_lstL, q_lstT, q_revL, q_slL, q_slT, q_shL, q_shT, q_sqL, q_sqT, q_intI, q_max2, q_min2, q_aII, q_aBI, q_aTI, q_aTT, q_aLL, q_aTL, q_aIT, nnD, q_iI, zj, this]
              · simp [T1__law_is_tree, E1__law_is_tree, q_mulAI, q_mulAL, a_wb, q_divW, Function.comp_def, q_starI, q_starIT, a_wp, a_fz, a_fz0, a_fz1, a_ext, a_ins, a_insA, a_pop, a_parN, a_evO0, a_evO1, a_setO0, a_setO1, a_ix2, a_setII, a_zN, a_zC, a_lcO, d_oo, pEq_int, pNe_int, pIxL, pIxT, atI_nat, atI_0, atI_1, atI_2, atI_3, atI_m1, cutLo, cutHi, cutLo1, cutHi1, a_seq, a_ifS, a_B, a_op, a_ov, a_ev0, a_evv, a_evs, a_C, a_V, a_M, a_set, a_setI, a_app, a_ret, a_ex, a_skip, a_no, a_not, a_andT, a_orT, a_and, a_or, a_notV, a_if, a_par, a_call, a_forS, a_sq, a_r1, a_r2, a_en, a_zp, a_asT, a_chI, a_yes, a_lc, a_fn, okA, f_fr, bkA, rsvs, rsv, dvs, on1, on2, d_fr, d_ol, rsO, ndS, sl, putB, asT, setAll, ofO, Dy.ints1, Dy.ints2, nE, wipeE, unw, frO, q_addI, q_addL, q_addT, q_addS, q_sub, q_div, q_mod, q_pow, q_neg, q_cm, pIs, pIsn, q_isN, q_isI, q_isS, q_isT, q_isL, q_isB, q_lenL, q_lenT, pTup, pLst, q_tupL, q_tupT, q_lstL, q_lstT, q_revL, q_slL, q_slT, q_shL, q_shT, q_sqL, q_sqT, q_intI, q_max2, q_min2, q_aII, q_aBI, q_aTI, q_aTT, q_aLL, q_aTL, q_aIT, nnD, q_iB, q_bB]
              · have : nnD x = false := by cases x <;> first | rfl | (simp [isA] at hj)
                simp [T1__law_is_tree, E1__law_is_tree, q_mulAI, q_mulAL, a_wb, q_divW, Function.comp_def, q_starI, q_starIT, a_wp, a_fz, a_fz0, a_fz1, a_ext, a_ins, a_insA, a_pop, a_parN, a_evO0, a_evO1, a_setO0, a_setO1, a_ix2, a_setII, a_zN, a_zC, a_lcO, d_oo, pEq_int, pNe_int, pIxL, pIxT, atI_nat, atI_0, atI_1, atI_2, atI_3, atI_m1, cutLo, cutHi, cutLo1, cutHi1, a_seq, a_ifS, a_B, a_op, a_ov, a_ev0, a_evv, a_evs, a_C, a_V, a_M, a_set, a_setI, a_app, a_ret, a_ex, a_skip, a_no, a_not, a_andT, a_orT, a_and, a_or, a_notV, a_if, a_par, a_call, a_forS, a_sq, a_r1, a_r2, a_en, a_zp, a_asT, a_chI, a_yes, a_lc, a_fn, okA, f_fr, bkA, rsvs, rsv, dvs, on1, on2, d_fr, d_ol, rsO, ndS, sl, putB, asT, setAll, ofO, Dy.ints1, Dy.ints2, nE, wipeE, unw, frO, q_addI, q_addL, q_addT, q_addS, q_sub, q_div, q_mod, q_pow, q_neg, q_cm, pIs, pIsn, q_isN, q_isI, q_isS, q_isT, q_isL, q_isB, q_lenL, q_lenT, pTup, pLst, q_tupL, q_tupT, q_lstL, q_lstT, q_revL, q_slL, q_slT, q_shL, q_shT, q_sqL, q_sqT, q_intI, q_max2, q_min2, q_aII, q_aBI, q_aTI, q_aTT, q_aLL, q_aTL, q_aIT, hj, this])
            cases an : (y :: ps).all nnD with
            | false =>
              rw [an] at e2
              have hf : ndD as i (.tuple (y :: ps)) = false := by
                cases q : ndD as i (.tuple (y :: ps)) with
                | false => rfl
                | true =>
                  exfalso
                  simp only [ndD, Bool.and_eq_true] at q
                  obtain ⟨q1, q2, q3⟩ := q
                  have : (y :: ps).all nnD = true := by
                    rw [List.all_cons, btw_nn q1, Bool.true_and]
                    exact List.all_eq_true.mpr fun z hz => btw_nn (List.all_eq_true.mp q3 z hz)
                  rw [an] at this; cases this
              exact ⟨fun z => (by rw [hf] at z; cases z), fun _ => ⟨_, by simp [L1__law_is_tree, q_mulAI, q_mulAL, a_wb, q_divW, Function.comp_def, q_starI, q_starIT, a_wp, a_fz, a_fz0, a_fz1, a_ext, a_ins, a_insA, a_pop, a_parN, a_evO0, a_evO1, a_setO0, a_setO1, a_ix2, a_setII, a_zN, a_zC, a_lcO, d_oo, pEq_int, pNe_int, pIxL, pIxT, atI_nat, atI_0, atI_1, atI_2, atI_3, atI_m1, cutLo, cutHi, cutLo1, cutHi1, a_seq, a_ifS, a_B, a_op, a_ov, a_ev0, a_evv, a_evs, a_C, a_V, a_M, a_set, a_setI, a_app, a_ret, a_ex, a_skip, a_no, a_not, a_andT, a_orT, a_and, a_or, a_notV, a_if, a_par, a_call, a_forS, a_sq, a_r1, a_r2, a_en, a_zp, a_asT, a_chI, a_yes, a_lc, a_fn, okA, f_fr, bkA, rsvs, rsv, dvs, on1, on2, d_fr, d_ol, rsO, ndS, sl, putB, asT, setAll, ofO, Dy.ints1, Dy.ints2, nE, wipeE, unw, frO, q_addI, q_addL, q_addT, q_addS, q_sub, q_div, q_mod, q_pow, q_neg, q_cm, pIs, pIsn, q_isN, q_isI, q_isS, q_isT, q_isL, q_isB, q_lenL, q_lenT, pTup, pLst, q_tupL, q_tupT, q_lstL, q_lstT, q_revL, q_slL, q_slT, q_shL, q_shT, q_sqL, q_sqT, q_intI, q_max2, q_min2, q_aII, q_aBI, q_aTI, q_aTT, q_aLL, q_aTL, q_aIT, g0, e1, e2]; rfl⟩⟩
            | true =>
              rw [an] at e2
              rw [List.all_cons, Bool.and_eq_true] at an
              obtain ⟨k, rfl, k0⟩ := nnD_int an.1
              by_cases kl : (as.length : Int) ≤ k
              · have hf : ndD as i (.tuple (.int k :: ps)) = false := by
                  have : btw 0 ((as.length : Int) - 1) (.int k) = false := by simp [btw]; omega
                  simp [ndD, this]
                exact ⟨fun z => (by rw [hf] at z; cases z), fun _ => ⟨_, by simp [L1__law_is_tree, q_mulAI, q_mulAL, a_wb, q_divW, Function.comp_def, q_starI, q_starIT, a_wp, a_fz, a_fz0, a_fz1, a_ext, a_ins, a_insA, a_pop, a_parN, a_evO0, a_evO1, a_setO0, a_setO1, a_ix2, a_setII, a_zN, a_zC, a_lcO, d_oo, pEq_int, pNe_int, pIxL, pIxT, atI_nat, atI_0, atI_1, atI_2, atI_3, atI_m1, cutLo, cutHi, cutLo1, cutHi1, a_seq, a_ifS, a_B, a_op, a_ov, a_ev0, a_evv, a_evs, a_C, a_V, a_M, a_set, a_setI, a_app, a_ret, a_ex, a_skip, a_no, a_not, a_andT, a_orT, a_and, a_or, a_notV, a_if, a_par, a_call, a_forS, a_sq, a_r1, a_r2, a_en, a_zp, a_asT, a_chI, a_yes, a_lc, a_fn, okA, f_fr, bkA, rsvs, rsv, dvs, on1, on2, d_fr, d_ol, rsO, ndS, sl, putB, asT, setAll, ofO, Dy.ints1, Dy.ints2, nE, wipeE, unw, frO, q_addI, q_addL, q_addT, q_addS, q_sub, q_div, q_mod, q_pow, q_neg, q_cm, pIs, pIsn, q_isN, q_isI, q_isS, q_isT, q_isL, q_isB, q_lenL, q_lenT, pTup, pLst, q_tupL, q_tupT, q_lstL, q_lstT, q_revL, q_slL, q_slT, q_shL, q_shT, q_sqL, q_sqT, q_intI, q_max2, q_min2, q_aII, q_aBI, q_aTI, q_aTT, q_aLL, q_aTL, q_aIT, g0, e1, e2, kl]; rfl⟩⟩
              · have k1 : k ≤ (as.length : Int) - 1 := by omega
                have bx : btw 0 ((as.length : Int) - 1) (.int k) = true := by simp [btw]; omega
                obtain ⟨n, n1, n2⟩ := as_at ha k0 k1
                by_cases hn : (ps.length : Int) = n
                · have cn : n + 1 = 1 + n := by omega
                  obtain ⟨zs2, f1, _, f2⟩ := lc_one (p := btw 0 ((i : Int) - 1)) (test := T2__law_is_tree) (elt := E2__law_is_tree) (e := V__law_is_tree (arities := fr (.tuple as)) (thing := fr (.tuple xs)) (at_ := fr (.int (i : Int))) (node := fr (.tuple (.int k :: ps)))) (vs := [4]) (t := .nm 4) ps (by simp at s2; omega) (fun x hx => by
                    obtain ⟨j, rfl, j0⟩ := nnD_int (List.all_eq_true.mp an.2 x hx)
                    by_cases zj : (i : Int) ≤ j
                    · have : btw 0 ((i : Int) - 1) (.int j) = false := by simp [btw]; omega
                      simp [T2__law_is_tree, E2__law_is_tree, q_mulAI, q_mulAL, a_wb, q_divW, Function.comp_def, q_starI, q_starIT, a_wp, a_fz, a_fz0, a_fz1, a_ext, a_ins, a_insA, a_pop, a_parN, a_evO0, a_evO1, a_setO0, a_setO1, a_ix2, a_setII, a_zN, a_zC, a_lcO, d_oo, pEq_int, pNe_int, pIxL, pIxT, atI_nat, atI_0, atI_1, atI_2, atI_3, atI_m1, cutLo, cutHi, cutLo1, cutHi1, a_seq, a_ifS, a_B, a_op, a_ov, a_ev0, a_evv, a_evs, a_C, a_V, a_M, a_set, a_setI, a_app, a_ret, a_ex, a_skip, a_no, a_not, a_andT, a_orT, a_and, a_or, a_notV, a_if, a_par, a_call, a_forS, a_sq, a_r1, a_r2, a_en, a_zp, a_asT, a_chI, a_yes, a_lc, a_fn, okA, f_fr, bkA, rsvs, rsv, dvs, on1, on2, d_fr, d_ol, rsO, ndS, sl, putB, asT, setAll, ofO, Dy.ints1, Dy.ints2, nE, wipeE, unw, frO, q_addI, q_addL, q_addT, q_addS, q_sub, q_div, q_mod, q_pow, q_neg, q_cm, pIs, pIsn, q_isN, q_isI, q_isS, q_isT, q_isL, q_isB, q_lenL, q_lenT, pTup, pLst, q_tupL, q_tupT, q_lstL, q_lstT, q_revL, q_slL, q_slT, q_shL, q_shT, q_sqL, q_sqT, q_intI, q_max2, q_min2, q_aII, q_aBI, q_aTI, q_aTT, q_aLL, q_aTL, q_aIT, zj, this]
                    · have : btw 0 ((i : Int) - 1) (.int j) = true := by simp [btw]; omega
                      simp [T2__law_is_tree, E2__law_is_tree, q_mulAI, q_mulAL, a_wb, q_divW, Function.comp_def, q_starI, q_starIT, a_wp, a_fz, a_fz0, a_fz1, a_ext, a_ins, a_insA, a_pop, a_parN, a_evO0, a_evO1, a_setO0, a_setO1, a_ix2, a_setII, a_zN, a_zC, a_lcO, d_oo, pEq_int, pNe_int, pIxL, pIxT, atI_nat, atI_0, atI_1, atI_2, atI_3, atI_m1, cutLo, cutHi, cutLo1, cutHi1, a_seq, a_ifS, a_B, a_op, a_ov, a_ev0, a_evv, a_evs, a_C, a_V, a_M, a_set, a_setI, a_app, a_ret, a_ex, a_skip, a_no, a_not, a_andT, a_orT, a_and, a_or, a_notV, a_if, a_par, a_call, a_forS, a_sq, a_r1, a_r2, a_en, a_zp, a_asT, a_chI, a_yes, a_lc, a_fn, okA, f_fr, bkA, rsvs, rsv, dvs, on1, on2, d_fr, d_ol, rsO, ndS, sl, putB, asT, setAll, ofO, Dy.ints1, Dy.ints2, nE, wipeE, unw, frO, q_addI, q_addL, q_addT, q_addS, q_sub, q_div, q_mod, q_pow, q_neg, q_cm, pIs, pIsn, q_isN, q_isI, q_isS, q_isT, q_isL, q_isB, q_lenL, q_lenT, pTup, pLst, q_tupL, q_tupT, q_lstL, q_lstT, q_revL, q_slL, q_slT, q_shL, q_shT, q_sqL, q_sqT, q_intI, q_max2, q_min2, q_aII, q_aBI, q_aTI, q_aTT, q_aLL, q_aTL, q_aIT, zj, this])
                  cases ab : ps.all (btw 0 ((i : Int) - 1)) with
                  | true =>
                    rw [ab] at f2
                    refine ⟨fun _ => ?_, fun z => by simp [ndD, bx, n1, hn, ab] at z⟩
                    simp [L1__law_is_tree, q_mulAI, q_mulAL, a_wb, q_divW, Function.comp_def, q_starI, q_starIT, a_wp, a_fz, a_fz0, a_fz1, a_ext, a_ins, a_insA, a_pop, a_parN, a_evO0, a_evO1, a_setO0, a_setO1, a_ix2, a_setII, a_zN, a_zC, a_lcO, d_oo, pEq_int, pNe_int, pIxL, pIxT, atI_nat, atI_0, atI_1, atI_2, atI_3, atI_m1, cutLo, cutHi, cutLo1, cutHi1, a_seq, a_ifS, a_B, a_op, a_ov, a_ev0, a_evv, a_evs, a_C, a_V, a_M, a_set, a_setI, a_app, a_ret, a_ex, a_skip, a_no, a_not, a_andT, a_orT, a_and, a_or, a_notV, a_if, a_par, a_call, a_forS, a_sq, a_r1, a_r2, a_en, a_zp, a_asT, a_chI, a_yes, a_lc, a_fn, okA, f_fr, bkA, rsvs, rsv, dvs, on1, on2, d_fr, d_ol, rsO, ndS, sl, putB, asT, setAll, ofO, Dy.ints1, Dy.ints2, nE, wipeE, unw, frO, q_addI, q_addL, q_addT, q_addS, q_sub, q_div, q_mod, q_pow, q_neg, q_cm, pIs, pIsn, q_isN, q_isI, q_isS, q_isT, q_isL, q_isB, q_lenL, q_lenT, pTup, pLst, q_tupL, q_tupT, q_lstL, q_lstT, q_revL, q_slL, q_slT, q_shL, q_shT, q_sqL, q_sqT, q_intI, q_max2, q_min2, q_aII, q_aBI, q_aTI, q_aTT, q_aLL, q_aTL, q_aIT, g0, e1, e2, kl, n2, hn, cn, cutS1, f1, f2]
                  | false =>
                    rw [ab] at f2
                    exact ⟨fun z => by simp [ndD, bx, n1, hn, ab] at z, fun _ => ⟨_, by simp [L1__law_is_tree, q_mulAI, q_mulAL, a_wb, q_divW, Function.comp_def, q_starI, q_starIT, a_wp, a_fz, a_fz0, a_fz1, a_ext, a_ins, a_insA, a_pop, a_parN, a_evO0, a_evO1, a_setO0, a_setO1, a_ix2, a_setII, a_zN, a_zC, a_lcO, d_oo, pEq_int, pNe_int, pIxL, pIxT, atI_nat, atI_0, atI_1, atI_2, atI_3, atI_m1, cutLo, cutHi, cutLo1, cutHi1, a_seq, a_ifS, a_B, a_op, a_ov, a_ev0, a_evv, a_evs, a_C, a_V, a_M, a_set, a_setI, a_app, a_ret, a_ex, a_skip, a_no, a_not, a_andT, a_orT, a_and, a_or, a_notV, a_if, a_par, a_call, a_forS, a_sq, a_r1, a_r2, a_en, a_zp, a_asT, a_chI, a_yes, a_lc, a_fn, okA, f_fr, bkA, rsvs, rsv, dvs, on1, on2, d_fr, d_ol, rsO, ndS, sl, putB, asT, setAll, ofO, Dy.ints1, Dy.ints2, nE, wipeE, unw, frO, q_addI, q_addL, q_addT, q_addS, q_sub, q_div, q_mod, q_pow, q_neg, q_cm, pIs, pIsn, q_isN, q_isI, q_isS, q_isT, q_isL, q_isB, q_lenL, q_lenT, pTup, pLst, q_tupL, q_tupT, q_lstL, q_lstT, q_revL, q_slL, q_slT, q_shL, q_shT, q_sqL, q_sqT, q_intI, q_max2, q_min2, q_aII, q_aBI, q_aTI, q_aTT, q_aLL, q_aTL, q_aIT, g0, e1, e2, kl, n2, hn, cn, cutS1, f1, f2]; rfl⟩⟩
                · have cn : ¬ ((ps.length : Int) + 1 = 1 + n) := by omega
                  exact ⟨fun z => by simp [ndD, bx, n1, hn] at z, fun _ => ⟨_, by simp [L1__law_is_tree, q_mulAI, q_mulAL, a_wb, q_divW, Function.comp_def, q_starI, q_starIT, a_wp, a_fz, a_fz0, a_fz1, a_ext, a_ins, a_insA, a_pop, a_parN, a_evO0, a_evO1, a_setO0, a_setO1, a_ix2, a_setII, a_zN, a_zC, a_lcO, d_oo, pEq_int, pNe_int, pIxL, pIxT, atI_nat, atI_0, atI_1, atI_2, atI_3, atI_m1, cutLo, cutHi, cutLo1, cutHi1, a_seq, a_ifS, a_B, a_op, a_ov, a_ev0, a_evv, a_evs, a_C, a_V, a_M, a_set, a_setI, a_app, a_ret, a_ex, a_skip, a_no, a_not, a_andT, a_orT, a_and, a_or, a_notV, a_if, a_par, a_call, a_forS, a_sq, a_r1, a_r2, a_en, a_zp, a_asT, a_chI, a_yes, a_lc, a_fn, okA, f_fr, bkA, rsvs, rsv, dvs, on1, on2, d_fr, d_ol, rsO, ndS, sl, putB, asT, setAll, ofO, Dy.ints1, Dy.ints2, nE, wipeE, unw, frO, q_addI, q_addL, q_addT, q_addS, q_sub, q_div, q_mod, q_pow, q_neg, q_cm, pIs, pIsn, q_isN, q_isI, q_isS, q_isT, q_isL, q_isB, q_lenL, q_lenT, pTup, pLst, q_tupL, q_tupT, q_lstL, q_lstT, q_revL, q_slL, q_slT, q_shL, q_shT, q_sqL, q_sqT, q_intI, q_max2, q_min2, q_aII, q_aBI, q_aTI, q_aTT, q_aLL, q_aTL, q_aIT, g0, e1, e2, kl, n2, cn]; rfl⟩⟩
        · have hf : ndD as i x = false := by cases x <;> first | rfl | (exact absurd h (by simp [isA]))
          exact ⟨fun z => (by rw [hf] at z; cases z), fun _ => ⟨_, by simp [L1__law_is_tree, q_mulAI, q_mulAL, a_wb, q_divW, Function.comp_def, q_starI, q_starIT, a_wp, a_fz, a_fz0, a_fz1, a_ext, a_ins, a_insA, a_pop, a_parN, a_evO0, a_evO1, a_setO0, a_setO1, a_ix2, a_setII, a_zN, a_zC, a_lcO, d_oo, pEq_int, pNe_int, pIxL, pIxT, atI_nat, atI_0, atI_1, atI_2, atI_3, atI_m1, cutLo, cutHi, cutLo1, cutHi1, a_seq, a_ifS, a_B, a_op, a_ov, a_ev0, a_evv, a_evs, a_C, a_V, a_M, a_set, a_setI, a_app, a_ret, a_ex, a_skip, a_no, a_not, a_andT, a_orT, a_and, a_or, a_notV, a_if, a_par, a_call, a_forS, a_sq, a_r1, a_r2, a_en, a_zp, a_asT, a_chI, a_yes, a_lc, a_fn, okA, f_fr, bkA, rsvs, rsv, dvs, on1, on2, d_fr, d_ol, rsO, ndS, sl, putB, asT, setAll, ofO, Dy.ints1, Dy.ints2, nE, wipeE, unw, frO, q_addI, q_addL, q_addT, q_addS, q_sub, q_div, q_mod, q_pow, q_neg, q_cm, pIs, pIsn, q_isN, q_isI, q_isS, q_isT, q_isL, q_isB, q_lenL, q_lenT, pTup, pLst, q_tupL, q_tupT, q_lstL, q_lstT, q_revL, q_slL, q_slT, q_shL, q_shT, q_sqL, q_sqT, q_intI, q_max2, q_min2, q_aII, q_aBI, q_aTI, q_aTT, q_aLL, q_aTL, q_aIT, h]; rfl⟩⟩
      obtain ⟨c1, c2⟩ := for_chk (t := .tu [2, 3]) (body := L1__law_is_tree) (p := ndP as) (env := V__law_is_tree (arities := fr (.tuple as)) (thing := fr (.tuple xs))) (o := .fr (.bool false)) (xs := enumD 0 xs) (fun p hp z => by
        obtain ⟨i, x, hx, rfl⟩ := enumD_mem hp
        exact (one i x hx).1 z) (fun p hp z => by
        obtain ⟨i, x, hx, rfl⟩ := enumD_mem hp
        exact (one i x hx).2 z)
      cases hw : (enumD 0 xs).all (ndP as) with
      | true => simp [M__law_is_tree, b__law_is_tree, q_mulAI, q_mulAL, a_wb, q_divW, Function.comp_def, q_starI, q_starIT, a_wp, a_fz, a_fz0, a_fz1, a_ext, a_ins, a_insA, a_pop, a_parN, a_evO0, a_evO1, a_setO0, a_setO1, a_ix2, a_setII, a_zN, a_zC, a_lcO, d_oo, pEq_int, pNe_int, pIxL, pIxT, atI_nat, atI_0, atI_1, atI_2, atI_3, atI_m1, cutLo, cutHi, cutLo1, cutHi1, a_seq, a_ifS, a_B, a_op, a_ov, a_ev0, a_evv, a_evs, a_C, a_V, a_M, a_set, a_setI, a_app, a_ret, a_ex, a_skip, a_no, a_not, a_andT, a_orT, a_and, a_or, a_notV, a_if, a_par, a_call, a_forS, a_sq, a_r1, a_r2, a_en, a_zp, a_asT, a_chI, a_yes, a_lc, a_fn, okA, f_fr, bkA, rsvs, rsv, dvs, on1, on2, d_fr, d_ol, rsO, ndS, sl, putB, asT, setAll, ofO, Dy.ints1, Dy.ints2, nE, wipeE, unw, frO, q_addI, q_addL, q_addT, q_addS, q_sub, q_div, q_mod, q_pow, q_neg, q_cm, pIs, pIsn, q_isN, q_isI, q_isS, q_isT, q_isL, q_isB, q_lenL, q_lenT, pTup, pLst, q_tupL, q_tupT, q_lstL, q_lstT, q_revL, q_slL, q_slT, q_shL, q_shT, q_sqL, q_sqT, q_intI, q_max2, q_min2, q_aII, q_aBI, q_aTI, q_aTT, q_aLL, q_aTL, q_aIT, h0, hx, wrD, c1 hw, hw]
      | false =>
        obtain ⟨e', c3⟩ := c2 hw
        simp [M__law_is_tree, b__law_is_tree, q_mulAI, q_mulAL, a_wb, q_divW, Function.comp_def, q_starI, q_starIT, a_wp, a_fz, a_fz0, a_fz1, a_ext, a_ins, a_insA, a_pop, a_parN, a_evO0, a_evO1, a_setO0, a_setO1, a_ix2, a_setII, a_zN, a_zC, a_lcO, d_oo, pEq_int, pNe_int, pIxL, pIxT, atI_nat, atI_0, atI_1, atI_2, atI_3, atI_m1, cutLo, cutHi, cutLo1, cutHi1, a_seq, a_ifS, a_B, a_op, a_ov, a_ev0, a_evv, a_evs, a_C, a_V, a_M, a_set, a_setI, a_app, a_ret, a_ex, a_skip, a_no, a_not, a_andT, a_orT, a_and, a_or, a_notV, a_if, a_par, a_call, a_forS, a_sq, a_r1, a_r2, a_en, a_zp, a_asT, a_chI, a_yes, a_lc, a_fn, okA, f_fr, bkA, rsvs, rsv, dvs, on1, on2, d_fr, d_ol, rsO, ndS, sl, putB, asT, setAll, ofO, Dy.ints1, Dy.ints2, nE, wipeE, unw, frO, q_addI, q_addL, q_addT, q_addS, q_sub, q_div, q_mod, q_pow, q_neg, q_cm, pIs, pIsn, q_isN, q_isI, q_isS, q_isT, q_isL, q_isB, q_lenL, q_lenT, pTup, pLst, q_tupL, q_tupT, q_lstL, q_lstT, q_revL, q_slL, q_slT, q_shL, q_shT, q_sqL, q_sqT, q_intI, q_max2, q_min2, q_aII, q_aBI, q_aTI, q_aTT, q_aLL, q_aTL, q_aIT, h0, hx, wrD, c3, hw]
  · have ht : wrD as d = false := by cases d <;> first | rfl | (exact absurd h (by simp [isA]))
    simp [M__law_is_tree, b__law_is_tree, q_mulAI, q_mulAL, a_wb, q_divW, Function.comp_def, q_starI, q_starIT, a_wp, a_fz, a_fz0, a_fz1, a_ext, a_ins, a_insA, a_pop, a_parN, a_evO0, a_evO1, a_setO0, a_setO1, a_ix2, a_setII, a_zN, a_zC, a_lcO, d_oo, pEq_int, pNe_int, pIxL, pIxT, atI_nat, atI_0, atI_1, atI_2, atI_3, atI_m1, cutLo, cutHi, cutLo1, cutHi1, a_seq, a_ifS, a_B, a_op, a_ov, a_ev0, a_evv, a_evs, a_C, a_V, a_M, a_set, a_setI, a_app, a_ret, a_ex, a_skip, a_no, a_not, a_andT, a_orT, a_and, a_or, a_notV, a_if, a_par, a_call, a_forS, a_sq, a_r1, a_r2, a_en, a_zp, a_asT, a_chI, a_yes, a_lc, a_fn, okA, f_fr, bkA, rsvs, rsv, dvs, on1, on2, d_fr, d_ol, rsO, ndS, sl, putB, asT, setAll, ofO, Dy.ints1, Dy.ints2, nE, wipeE, unw, frO, q_addI, q_addL, q_addT, q_addS, q_sub, q_div, q_mod, q_pow, q_neg, q_cm, pIs, pIsn, q_isN, q_isI, q_isS, q_isT, q_isL, q_isB, q_lenL, q_lenT, pTup, pLst, q_tupL, q_tupT, q_lstL, q_lstT, q_revL, q_slL, q_slT, q_shL, q_shT, q_sqL, q_sqT, q_intI, q_max2, q_min2, q_aII, q_aBI, q_aTI, q_aTT, q_aLL, q_aTL, q_aIT, h, ht]
end Q
namespace Q
open PySem Dy
open L2 (atI ixN)
theorem neP (a b : Pr) : ∃ c : Bool, pNe (dP a) (dP b) = some (.fr (.bool c)) := by
  have h : ∀ p : Pr, shp (dP p) = true := fun p => by
    cases p with
    | none => exact shpN
    | some x => unfold dP shp SeqAt.shaped; simp [PyData.canLay0, PyData.depth]
  have g : ∀ d e : PyData, shp d = true → shp e = true → (if shp d = true ∧ shp e = true then some (O.fr (PyData.bool (!PyData.eqv d e))) else none) = some (.fr (.bool (!PyData.eqv d e))) := fun d e h1 h2 => if_pos ⟨h1, h2⟩
  cases a with
  | none => cases b with
    | none => exact ⟨_, g .none .none (h none) (h none)⟩
    | some y => exact ⟨_, g .none (.int (y : Int)) (h none) (h (some y))⟩
  | some x => cases b with
    | none => exact ⟨_, g (.int (x : Int)) .none (h (some x)) (h none)⟩
    | some y => exact ⟨_, g (.int (x : Int)) (.int (y : Int)) (h (some x)) (h (some y))⟩
theorem due30 {m : Mach} {k : Nat} {d : PyData} (h : MOk m) (hk : k < manyM m) (hs : shW d) (hl : ∀ xs, d = .tuple xs → xs.length ≤ 1000) :
    ∃ b : Bool, M__law_due_5 [.fr (encM m), .fr (dN k), .fr d] = .ok (.fr (.bool b), [.fr (encM m), .fr (dN k), .fr d]) ∧ M_shows_needing [.fr (encM m), .fr (dN k), .fr d] = .ok (.fr (.bool b), [.fr (encM m), .fr (dN k), .fr d]) := by
  have hm := need_machine_ok h
  have hn : M_need_number [.fr (encM m), .fr (dN k)] = .ok (.fr .none, [.fr (encM m), .fr (dN k)]) := by
    have e := many_ok m
    have b := between_ok (a := (k : Int)) (lo := 0) (hi := (manyM m : Int) - 1)
    have c1 : (k : Int) ≤ (manyM m : Int) - 1 := by omega
    have c2 : (0 : Int) ≤ k := by omega
    simp [c1, c2] at b
    simp [M_need_number, b_need_number, q_mulAI, q_mulAL, a_wb, q_divW, Function.comp_def, q_starI, q_starIT, a_wp, a_fz, a_fz0, a_fz1, a_ext, a_ins, a_insA, a_pop, a_parN, a_evO0, a_evO1, a_setO0, a_setO1, a_ix2, a_setII, a_zN, a_zC, a_lcO, d_oo, pEq_int, pNe_int, pIxL, pIxT, atI_nat, atI_0, atI_1, atI_2, atI_3, atI_m1, cutLo, cutHi, cutLo1, cutHi1, a_seq, a_ifS, a_B, a_op, a_ov, a_ev0, a_evv, a_evs, a_C, a_V, a_M, a_set, a_setI, a_app, a_ret, a_ex, a_skip, a_no, a_not, a_andT, a_orT, a_and, a_or, a_notV, a_if, a_par, a_call, a_forS, a_sq, a_r1, a_r2, a_en, a_zp, a_asT, a_chI, a_yes, a_lc, a_fn, okA, f_fr, bkA, rsvs, rsv, dvs, on1, on2, d_fr, d_ol, rsO, ndS, sl, putB, asT, setAll, ofO, Dy.ints1, Dy.ints2, nE, wipeE, unw, frO, q_addI, q_addL, q_addT, q_addS, q_sub, q_div, q_mod, q_pow, q_neg, q_cm, pIs, pIsn, q_isN, q_isI, q_isS, q_isT, q_isL, q_isB, q_lenL, q_lenT, pTup, pLst, q_tupL, q_tupT, q_lstL, q_lstT, q_revL, q_slL, q_slT, q_shL, q_shT, q_sqL, q_sqT, q_intI, q_max2, q_min2, q_aII, q_aBI, q_aTI, q_aTT, q_aLL, q_aTL, q_aIT, e, b]
  have e1 := ltreeD (arA h.ar) d hs
  have e2 := writtenD (arA h.ar) d hs
  cases hw : wrD (m.ar.map dN) d with
  | false =>
    rw [hw] at e1 e2
    exact ⟨false, by simp [M__law_due_5, b__law_due_5, q_mulAI, q_mulAL, a_wb, q_divW, Function.comp_def, q_starI, q_starIT, a_wp, a_fz, a_fz0, a_fz1, a_ext, a_ins, a_insA, a_pop, a_parN, a_evO0, a_evO1, a_setO0, a_setO1, a_ix2, a_setII, a_zN, a_zC, a_lcO, d_oo, pEq_int, pNe_int, pIxL, pIxT, atI_nat, atI_0, atI_1, atI_2, atI_3, atI_m1, cutLo, cutHi, cutLo1, cutHi1, a_seq, a_ifS, a_B, a_op, a_ov, a_ev0, a_evv, a_evs, a_C, a_V, a_M, a_set, a_setI, a_app, a_ret, a_ex, a_skip, a_no, a_not, a_andT, a_orT, a_and, a_or, a_notV, a_if, a_par, a_call, a_forS, a_sq, a_r1, a_r2, a_en, a_zp, a_asT, a_chI, a_yes, a_lc, a_fn, okA, f_fr, bkA, rsvs, rsv, dvs, on1, on2, d_fr, d_ol, rsO, ndS, sl, putB, asT, setAll, ofO, Dy.ints1, Dy.ints2, nE, wipeE, unw, frO, q_addI, q_addL, q_addT, q_addS, q_sub, q_div, q_mod, q_pow, q_neg, q_cm, pIs, pIsn, q_isN, q_isI, q_isS, q_isT, q_isL, q_isB, q_lenL, q_lenT, pTup, pLst, q_tupL, q_tupT, q_lstL, q_lstT, q_revL, q_slL, q_slT, q_shL, q_shT, q_sqL, q_sqT, q_intI, q_max2, q_min2, q_aII, q_aBI, q_aTI, q_aTT, q_aLL, q_aTL, q_aIT, e1], by simp [M_shows_needing, b_shows_needing, q_mulAI, q_mulAL, a_wb, q_divW, Function.comp_def, q_starI, q_starIT, a_wp, a_fz, a_fz0, a_fz1, a_ext, a_ins, a_insA, a_pop, a_parN, a_evO0, a_evO1, a_setO0, a_setO1, a_ix2, a_setII, a_zN, a_zC, a_lcO, d_oo, pEq_int, pNe_int, pIxL, pIxT, atI_nat, atI_0, atI_1, atI_2, atI_3, atI_m1, cutLo, cutHi, cutLo1, cutHi1, a_seq, a_ifS, a_B, a_op, a_ov, a_ev0, a_evv, a_evs, a_C, a_V, a_M, a_set, a_setI, a_app, a_ret, a_ex, a_skip, a_no, a_not, a_andT, a_orT, a_and, a_or, a_notV, a_if, a_par, a_call, a_forS, a_sq, a_r1, a_r2, a_en, a_zp, a_asT, a_chI, a_yes, a_lc, a_fn, okA, f_fr, bkA, rsvs, rsv, dvs, on1, on2, d_fr, d_ol, rsO, ndS, sl, putB, asT, setAll, ofO, Dy.ints1, Dy.ints2, nE, wipeE, unw, frO, q_addI, q_addL, q_addT, q_addS, q_sub, q_div, q_mod, q_pow, q_neg, q_cm, pIs, pIsn, q_isN, q_isI, q_isS, q_isT, q_isL, q_isB, q_lenL, q_lenT, pTup, pLst, q_tupL, q_tupT, q_lstL, q_lstT, q_revL, q_slL, q_slT, q_shL, q_shT, q_sqL, q_sqT, q_intI, q_max2, q_min2, q_aII, q_aBI, q_aTI, q_aTT, q_aLL, q_aTL, q_aIT, e2, hm, hn]⟩
  | true =>
    rw [hw] at e1 e2
    obtain ⟨t, rfl, ht⟩ := wrD_dec hw hl
    have g1 := goal30_ok h ht
    have g2 := goal30_ok (bare_mok h k) (show TrOk (bareM m k).ar t from ht)
    have b1 := bare_ok h k
    have b2 := without_ok h k
    have r1 := rows_ok h ht
    have r2 := rows_ok (bare_mok h k) (show TrOk (bareM m k).ar t from ht)
    have v1 : ((alg (rowF m) [] t).map encR).getLast? = some (encR (rowsLast m t)) := by rw [List.getLast?_map, last_some (rowF m) [] ht.ne]; rfl
    have v2 : ((alg (rowF (bareM m k)) [] t).map encR).getLast? = some (encR (rowsLast (bareM m k) t)) := by rw [List.getLast?_map, last_some (rowF (bareM m k)) [] ht.ne]; rfl
    have a1 := goal30_at h ht
    have a2 := goal30_at (bare_mok h k) (show TrOk (bareM m k).ar t from ht)
    generalize (alg (rowF m) [] t).map encR = L1 at *
    generalize (alg (rowF (bareM m k)) [] t).map encR = L2 at *
    generalize rowsLast m t = R1 at *
    generalize rowsLast (bareM m k) t = R2 at *
    generalize bareM m k = mb at *
    cases hg : goalP m t with
    | none =>
      rw [hg] at g1 a1
      exact ⟨false, by simp [M__law_due_5, b__law_due_5, q_mulAI, q_mulAL, a_wb, q_divW, Function.comp_def, q_starI, q_starIT, a_wp, a_fz, a_fz0, a_fz1, a_ext, a_ins, a_insA, a_pop, a_parN, a_evO0, a_evO1, a_setO0, a_setO1, a_ix2, a_setII, a_zN, a_zC, a_lcO, d_oo, pEq_int, pNe_int, pIxL, pIxT, atI_nat, atI_0, atI_1, atI_2, atI_3, atI_m1, cutLo, cutHi, cutLo1, cutHi1, a_seq, a_ifS, a_B, a_op, a_ov, a_ev0, a_evv, a_evs, a_C, a_V, a_M, a_set, a_setI, a_app, a_ret, a_ex, a_skip, a_no, a_not, a_andT, a_orT, a_and, a_or, a_notV, a_if, a_par, a_call, a_forS, a_sq, a_r1, a_r2, a_en, a_zp, a_asT, a_chI, a_yes, a_lc, a_fn, okA, f_fr, bkA, rsvs, rsv, dvs, on1, on2, d_fr, d_ol, rsO, ndS, sl, putB, asT, setAll, ofO, Dy.ints1, Dy.ints2, nE, wipeE, unw, frO, q_addI, q_addL, q_addT, q_addS, q_sub, q_div, q_mod, q_pow, q_neg, q_cm, pIs, pIsn, q_isN, q_isI, q_isS, q_isT, q_isL, q_isB, q_lenL, q_lenT, pTup, pLst, q_tupL, q_tupT, q_lstL, q_lstT, q_revL, q_slL, q_slT, q_shL, q_shT, q_sqL, q_sqT, q_intI, q_max2, q_min2, q_aII, q_aBI, q_aTI, q_aTT, q_aLL, q_aTL, q_aIT, e1, g1, dP_none], by simp [M_shows_needing, b_shows_needing, q_mulAI, q_mulAL, a_wb, q_divW, Function.comp_def, q_starI, q_starIT, a_wp, a_fz, a_fz0, a_fz1, a_ext, a_ins, a_insA, a_pop, a_parN, a_evO0, a_evO1, a_setO0, a_setO1, a_ix2, a_setII, a_zN, a_zC, a_lcO, d_oo, pEq_int, pNe_int, pIxL, pIxT, atI_nat, atI_0, atI_1, atI_2, atI_3, atI_m1, cutLo, cutHi, cutLo1, cutHi1, a_seq, a_ifS, a_B, a_op, a_ov, a_ev0, a_evv, a_evs, a_C, a_V, a_M, a_set, a_setI, a_app, a_ret, a_ex, a_skip, a_no, a_not, a_andT, a_orT, a_and, a_or, a_notV, a_if, a_par, a_call, a_forS, a_sq, a_r1, a_r2, a_en, a_zp, a_asT, a_chI, a_yes, a_lc, a_fn, okA, f_fr, bkA, rsvs, rsv, dvs, on1, on2, d_fr, d_ol, rsO, ndS, sl, putB, asT, setAll, ofO, Dy.ints1, Dy.ints2, nE, wipeE, unw, frO, q_addI, q_addL, q_addT, q_addS, q_sub, q_div, q_mod, q_pow, q_neg, q_cm, pIs, pIsn, q_isN, q_isI, q_isS, q_isT, q_isL, q_isB, q_lenL, q_lenT, pTup, pLst, q_tupL, q_tupT, q_lstL, q_lstT, q_revL, q_slL, q_slT, q_shL, q_shT, q_sqL, q_sqT, q_intI, q_max2, q_min2, q_aII, q_aBI, q_aTI, q_aTT, q_aLL, q_aTL, q_aIT, e2, hm, hn, r1, v1, a1, dP_none]⟩
    | some x =>
      rw [hg] at g1 a1
      obtain ⟨c, hc⟩ := neP (goalP mb t) (some x)
      rw [dP_some] at hc
      exact ⟨c, by simp [M__law_due_5, b__law_due_5, q_mulAI, q_mulAL, a_wb, q_divW, Function.comp_def, q_starI, q_starIT, a_wp, a_fz, a_fz0, a_fz1, a_ext, a_ins, a_insA, a_pop, a_parN, a_evO0, a_evO1, a_setO0, a_setO1, a_ix2, a_setII, a_zN, a_zC, a_lcO, d_oo, pEq_int, pNe_int, pIxL, pIxT, atI_nat, atI_0, atI_1, atI_2, atI_3, atI_m1, cutLo, cutHi, cutLo1, cutHi1, a_seq, a_ifS, a_B, a_op, a_ov, a_ev0, a_evv, a_evs, a_C, a_V, a_M, a_set, a_setI, a_app, a_ret, a_ex, a_skip, a_no, a_not, a_andT, a_orT, a_and, a_or, a_notV, a_if, a_par, a_call, a_forS, a_sq, a_r1, a_r2, a_en, a_zp, a_asT, a_chI, a_yes, a_lc, a_fn, okA, f_fr, bkA, rsvs, rsv, dvs, on1, on2, d_fr, d_ol, rsO, ndS, sl, putB, asT, setAll, ofO, Dy.ints1, Dy.ints2, nE, wipeE, unw, frO, q_addI, q_addL, q_addT, q_addS, q_sub, q_div, q_mod, q_pow, q_neg, q_cm, pIs, pIsn, q_isN, q_isI, q_isS, q_isT, q_isL, q_isB, q_lenL, q_lenT, pTup, pLst, q_tupL, q_tupT, q_lstL, q_lstT, q_revL, q_slL, q_slT, q_shL, q_shT, q_sqL, q_sqT, q_intI, q_max2, q_min2, q_aII, q_aBI, q_aTI, q_aTT, q_aLL, q_aTL, q_aIT, e1, g1, dP_some, b1, g2, hc], by simp [M_shows_needing, b_shows_needing, q_mulAI, q_mulAL, a_wb, q_divW, Function.comp_def, q_starI, q_starIT, a_wp, a_fz, a_fz0, a_fz1, a_ext, a_ins, a_insA, a_pop, a_parN, a_evO0, a_evO1, a_setO0, a_setO1, a_ix2, a_setII, a_zN, a_zC, a_lcO, d_oo, pEq_int, pNe_int, pIxL, pIxT, atI_nat, atI_0, atI_1, atI_2, atI_3, atI_m1, cutLo, cutHi, cutLo1, cutHi1, a_seq, a_ifS, a_B, a_op, a_ov, a_ev0, a_evv, a_evs, a_C, a_V, a_M, a_set, a_setI, a_app, a_ret, a_ex, a_skip, a_no, a_not, a_andT, a_orT, a_and, a_or, a_notV, a_if, a_par, a_call, a_forS, a_sq, a_r1, a_r2, a_en, a_zp, a_asT, a_chI, a_yes, a_lc, a_fn, okA, f_fr, bkA, rsvs, rsv, dvs, on1, on2, d_fr, d_ol, rsO, ndS, sl, putB, asT, setAll, ofO, Dy.ints1, Dy.ints2, nE, wipeE, unw, frO, q_addI, q_addL, q_addT, q_addS, q_sub, q_div, q_mod, q_pow, q_neg, q_cm, pIs, pIsn, q_isN, q_isI, q_isS, q_isT, q_isL, q_isB, q_lenL, q_lenT, pTup, pLst, q_tupL, q_tupT, q_lstL, q_lstT, q_revL, q_slL, q_slT, q_shL, q_shT, q_sqL, q_sqT, q_intI, q_max2, q_min2, q_aII, q_aBI, q_aTI, q_aTT, q_aLL, q_aTL, q_aIT, e2, hm, hn, r1, v1, a1, dP_some, b2, r2, v2, a2, hc]⟩
def ars30 : List (List Nat) := [[0, 1], [0, 2], [0, 1, 2], [0, 0, 2], [1, 0], [0, 0, 1], [2, 0], [0], [0, 2]]
theorem ars_ok {as : List Nat} (h : as ∈ ars30) : ArOk as ∧ 0 ∈ as ∧ as.length ≤ 3 := by
  have : ars30.all (fun as => as.all (fun a => decide (a ≤ 2)) && decide (0 < as.length) && decide (0 ∈ as) && decide (as.length ≤ 3)) = true := by decide
  have := List.all_eq_true.mp this as h
  simp only [Bool.and_eq_true, decide_eq_true_eq, List.all_eq_true] at this
  exact ⟨⟨this.1.1.1, by omega, this.1.1.2⟩, this.1.2, this.2⟩
theorem arities30 {o : O} (h : PenA o) : ∃ (as : List Nat) (o' : O), as ∈ ars30 ∧ PenA o' ∧ M__law_arities_of [o] = .ok (.fr (encA as), [o']) := by
  obtain ⟨d, o1, hm, p1, e1⟩ := pickA (xs := ars30.map encA) h (by simp [ars30]) (by decide)
  obtain ⟨as, ha, rfl⟩ := List.mem_map.mp hm
  refine ⟨as, o1, ha, p1, ?_⟩
  have e1 : M__law_pick_2 [o, .fr (.list [.tuple [.int 0, .int 1], .tuple [.int 0, .int 2], .tuple [.int 0, .int 1, .int 2], .tuple [.int 0, .int 0, .int 2], .tuple [.int 1, .int 0], .tuple [.int 0, .int 0, .int 1], .tuple [.int 2, .int 0], .tuple [.int 0], .tuple [.int 0, .int 2]])] = .ok (.fr (encA as), [o1, .fr (.list [.tuple [.int 0, .int 1], .tuple [.int 0, .int 2], .tuple [.int 0, .int 1, .int 2], .tuple [.int 0, .int 0, .int 2], .tuple [.int 1, .int 0], .tuple [.int 0, .int 0, .int 1], .tuple [.int 2, .int 0], .tuple [.int 0], .tuple [.int 0, .int 2]])]) := e1
  simp [M__law_arities_of, b__law_arities_of, q_mulAI, q_mulAL, a_wb, q_divW, Function.comp_def, q_starI, q_starIT, a_wp, a_fz, a_fz0, a_fz1, a_ext, a_ins, a_insA, a_pop, a_parN, a_evO0, a_evO1, a_setO0, a_setO1, a_ix2, a_setII, a_zN, a_zC, a_lcO, d_oo, pEq_int, pNe_int, pIxL, pIxT, atI_nat, atI_0, atI_1, atI_2, atI_3, atI_m1, cutLo, cutHi, cutLo1, cutHi1, a_seq, a_ifS, a_B, a_op, a_ov, a_ev0, a_evv, a_evs, a_C, a_V, a_M, a_set, a_setI, a_app, a_ret, a_ex, a_skip, a_no, a_not, a_andT, a_orT, a_and, a_or, a_notV, a_if, a_par, a_call, a_forS, a_sq, a_r1, a_r2, a_en, a_zp, a_asT, a_chI, a_yes, a_lc, a_fn, okA, f_fr, bkA, rsvs, rsv, dvs, on1, on2, d_fr, d_ol, rsO, ndS, sl, putB, asT, setAll, ofO, Dy.ints1, Dy.ints2, nE, wipeE, unw, frO, q_addI, q_addL, q_addT, q_addS, q_sub, q_div, q_mod, q_pow, q_neg, q_cm, pIs, pIsn, q_isN, q_isI, q_isS, q_isT, q_isL, q_isB, q_lenL, q_lenT, pTup, pLst, q_tupL, q_tupT, q_lstL, q_lstT, q_revL, q_slL, q_slT, q_shL, q_shT, q_sqL, q_sqT, q_intI, q_max2, q_min2, q_aII, q_aBI, q_aTI, q_aTT, q_aLL, q_aTL, q_aIT, e1]
theorem pickN {o : O} {xs : List PyData} (h : PenA o) (ns : List Nat) (e : xs = ns.map dN) (hx : ns ≠ []) (hl : ns.length < 1000000) : ∃ (n : Nat) (o' : O), n ∈ ns ∧ PenA o' ∧ M__law_pick_2 [o, .fr (.list xs)] = .ok (.fr (dN n), [o', .fr (.list xs)]) := by
  subst e
  obtain ⟨d, o1, hm, p1, e1⟩ := pickA (xs := ns.map dN) h (by simpa using hx) (by simpa using hl)
  obtain ⟨n, hn, rfl⟩ := List.mem_map.mp hm
  exact ⟨n, o1, hn, p1, e1⟩
theorem instr30 {o : O} {as : List Nat} {fs op a : Nat} (h : PenA o) (ha : ArOk as) (f1 : 1 ≤ fs) (f4 : fs ≤ 4) (hop : as[op]? = some a) :
    ∃ (i : Ins) (o' : O), InsOk as fs i ∧ PenA o' ∧ M__law_instruction [o, .fr (encA as), .fr (dN fs), .fr (dN op)] = .ok (.fr (encI i), [o', .fr (encA as), .fr (dN fs), .fr (dN op)]) := by
  have a2 := ha.le2 a (List.mem_of_getElem? hop)
  obtain ⟨row, o2, v1, v2, v3, v4⟩ := lc_r (vs := [5]) (t := .nm 5) (elt := E1__law_instruction) dN (fun o => V__law_instruction (pen := some o) (arities := fr (encA as)) (forms := fr (dN fs)) (operator := fr (dN op))) (fun _ o => PenA o) (fun x => x < fs) a h (by omega) (fun j o hj hp => by
    obtain ⟨x, o', y1, y2, y3⟩ := drawA_upto hp fs (by omega) (by omega)
    exact ⟨x, o', y2, y1, by simp [E1__law_instruction, q_mulAI, q_mulAL, a_wb, q_divW, Function.comp_def, q_starI, q_starIT, a_wp, a_fz, a_fz0, a_fz1, a_ext, a_ins, a_insA, a_pop, a_parN, a_evO0, a_evO1, a_setO0, a_setO1, a_ix2, a_setII, a_zN, a_zC, a_lcO, d_oo, pEq_int, pNe_int, pIxL, pIxT, atI_nat, atI_0, atI_1, atI_2, atI_3, atI_m1, cutLo, cutHi, cutLo1, cutHi1, a_seq, a_ifS, a_B, a_op, a_ov, a_ev0, a_evv, a_evs, a_C, a_V, a_M, a_set, a_setI, a_app, a_ret, a_ex, a_skip, a_no, a_not, a_andT, a_orT, a_and, a_or, a_notV, a_if, a_par, a_call, a_forS, a_sq, a_r1, a_r2, a_en, a_zp, a_asT, a_chI, a_yes, a_lc, a_fn, okA, f_fr, bkA, rsvs, rsv, dvs, on1, on2, d_fr, d_ol, rsO, ndS, sl, putB, asT, setAll, ofO, Dy.ints1, Dy.ints2, nE, wipeE, unw, frO, q_addI, q_addL, q_addT, q_addS, q_sub, q_div, q_mod, q_pow, q_neg, q_cm, pIs, pIsn, q_isN, q_isI, q_isS, q_isT, q_isL, q_isB, q_lenL, q_lenT, pTup, pLst, q_tupL, q_tupT, q_lstL, q_lstT, q_revL, q_slL, q_slT, q_shL, q_shT, q_sqL, q_sqT, q_intI, q_max2, q_min2, q_aII, q_aBI, q_aTI, q_aTT, q_aLL, q_aTL, q_aIT, y3]⟩)
  obtain ⟨f, o3, w1, w2, w3⟩ := drawA_upto v1 fs (by omega) (by omega)
  obtain ⟨p, o4, x1, x2, x3⟩ := pickN (xs := [.int 0, .int 1, .int 1, .int 2, .int 3]) w2 [0, 1, 1, 2, 3] rfl (by simp) (by decide)
  have c4 : (a : Int) ≤ 1000000000 ∧ (-1000000000 : Int) ≤ a := by omega
  refine ⟨⟨f, op, row, p⟩, o4, ⟨w1, by rw [hop, v2], v3, by simp at x1; dsimp only; omega⟩, x2, ?_⟩
  simp [M__law_instruction, b__law_instruction, q_mulAI, q_mulAL, a_wb, q_divW, Function.comp_def, q_starI, q_starIT, a_wp, a_fz, a_fz0, a_fz1, a_ext, a_ins, a_insA, a_pop, a_parN, a_evO0, a_evO1, a_setO0, a_setO1, a_ix2, a_setII, a_zN, a_zC, a_lcO, d_oo, pEq_int, pNe_int, pIxL, pIxT, atI_nat, atI_0, atI_1, atI_2, atI_3, atI_m1, cutLo, cutHi, cutLo1, cutHi1, a_seq, a_ifS, a_B, a_op, a_ov, a_ev0, a_evv, a_evs, a_C, a_V, a_M, a_set, a_setI, a_app, a_ret, a_ex, a_skip, a_no, a_not, a_andT, a_orT, a_and, a_or, a_notV, a_if, a_par, a_call, a_forS, a_sq, a_r1, a_r2, a_en, a_zp, a_asT, a_chI, a_yes, a_lc, a_fn, okA, f_fr, bkA, rsvs, rsv, dvs, on1, on2, d_fr, d_ol, rsO, ndS, sl, putB, asT, setAll, ofO, Dy.ints1, Dy.ints2, nE, wipeE, unw, frO, q_addI, q_addL, q_addT, q_addS, q_sub, q_div, q_mod, q_pow, q_neg, q_cm, pIs, pIsn, q_isN, q_isI, q_isS, q_isT, q_isL, q_isB, q_lenL, q_lenT, pTup, pLst, q_tupL, q_tupT, q_lstL, q_lstT, q_revL, q_slL, q_slT, q_shL, q_shT, q_sqL, q_sqT, q_intI, q_max2, q_min2, q_aII, q_aBI, q_aTI, q_aTT, q_aLL, q_aTL, q_aIT, hop, c4, v4, w3, x3]
theorem in2 (as : List Nat) : ∃ b : Bool, pInA (.int 2) (.tuple (as.map dN)) = some (.fr (.bool b)) := by
  refine ⟨_, if_pos ⟨rfl, ?_⟩⟩
  simp [flD]
theorem ways30 {o : O} {as : List Nat} {fs : Nat} {is : List PyData} (h : PenA o) (f1 : 2 ≤ fs) (f4 : fs ≤ 4) :
    ∃ (cs : List Con) (o' : O), PenA o' ∧ cs.length = fs ∧ (∀ c ∈ cs, ConOk fs c) ∧ lcL [8] (.nm 8) fYes E1__law_machine_of (rng 0 fs) (V__law_machine_of (pen := some o) (arities := fr (encA as)) (forms := fr (dN fs)) (found := ol is) (ways := ol [])) [] = .ok (cs.map encK, V__law_machine_of (pen := some o') (arities := fr (encA as)) (forms := fr (dN fs)) (found := ol is) (ways := ol [])) :=
  lc_r (vs := [8]) (t := .nm 8) (elt := E1__law_machine_of) encK (fun o => V__law_machine_of (pen := some o) (arities := fr (encA as)) (forms := fr (dN fs)) (found := ol is) (ways := ol [])) (fun _ o => PenA o) (fun c => ConOk fs c) fs h (by omega) (fun j o hj hp => by
    obtain ⟨p, o4, x1, x2, x3⟩ := pickN (xs := [.int 0, .int 1, .int 1, .int 2]) hp [0, 1, 1, 2] rfl (by simp) (by decide)
    have c3 : ((j : Int) + 1) % fs = (((j + 1) % fs : Nat) : Int) := by simp
    have c5 : 0 < fs := by omega
    have hne : j ≠ (j + 1) % fs := by
      intro z
      by_cases y : j + 1 < fs
      · rw [Nat.mod_eq_of_lt y] at z; omega
      · rw [Nat.mod_eq_sub_mod (by omega), Nat.mod_eq_of_lt (by omega)] at z; omega
    refine ⟨⟨j, (j + 1) % fs, p⟩, o4, x2, ⟨hj, Nat.mod_lt _ c5, hne, by simp at x1; dsimp only; omega⟩, ?_⟩
    simp [E1__law_machine_of, q_mulAI, q_mulAL, a_wb, q_divW, Function.comp_def, q_starI, q_starIT, a_wp, a_fz, a_fz0, a_fz1, a_ext, a_ins, a_insA, a_pop, a_parN, a_evO0, a_evO1, a_setO0, a_setO1, a_ix2, a_setII, a_zN, a_zC, a_lcO, d_oo, pEq_int, pNe_int, pIxL, pIxT, atI_nat, atI_0, atI_1, atI_2, atI_3, atI_m1, cutLo, cutHi, cutLo1, cutHi1, a_seq, a_ifS, a_B, a_op, a_ov, a_ev0, a_evv, a_evs, a_C, a_V, a_M, a_set, a_setI, a_app, a_ret, a_ex, a_skip, a_no, a_not, a_andT, a_orT, a_and, a_or, a_notV, a_if, a_par, a_call, a_forS, a_sq, a_r1, a_r2, a_en, a_zp, a_asT, a_chI, a_yes, a_lc, a_fn, okA, f_fr, bkA, rsvs, rsv, dvs, on1, on2, d_fr, d_ol, rsO, ndS, sl, putB, asT, setAll, ofO, Dy.ints1, Dy.ints2, nE, wipeE, unw, frO, q_addI, q_addL, q_addT, q_addS, q_sub, q_div, q_mod, q_pow, q_neg, q_cm, pIs, pIsn, q_isN, q_isI, q_isS, q_isT, q_isL, q_isB, q_lenL, q_lenT, pTup, pLst, q_tupL, q_tupT, q_lstL, q_lstT, q_revL, q_slL, q_slT, q_shL, q_shT, q_sqL, q_sqT, q_intI, q_max2, q_min2, q_aII, q_aBI, q_aTI, q_aTT, q_aLL, q_aTL, q_aIT, x3, c5])
theorem more30 {o : O} {fs : Nat} (h : PenA o) (f1 : 2 ≤ fs) (f4 : fs ≤ 4) : ∃ (a b p : Nat) (o1 o2 o3 : O), ConOk fs ⟨a, (a + 1 + b) % fs, p⟩ ∧ PenA o3 ∧ M__law_draw_2 [o, .fr (dN fs)] = .ok (.fr (dN a), [o1, .fr (dN fs)]) ∧ M__law_draw_2 [o1, .fr (.int ((fs : Int) - 1))] = .ok (.fr (dN b), [o2, .fr (.int ((fs : Int) - 1))]) ∧
    M__law_pick_2 [o2, .fr (.list [.int 0, .int 1, .int 2, .int 4])] = .ok (.fr (dN p), [o3, .fr (.list [.int 0, .int 1, .int 2, .int 4])]) := by
  obtain ⟨a, o2, a1, a2, a3⟩ := drawA_upto h fs (by omega) (by omega)
  obtain ⟨b, o3, b1, b2, b3⟩ := drawA_upto a2 (fs - 1) (by omega) (by omega)
  obtain ⟨p, o4, x1, x2, x3⟩ := pickN (xs := [.int 0, .int 1, .int 2, .int 4]) b2 [0, 1, 2, 4] rfl (by simp) (by decide)
  have c1 : ((fs - 1 : Nat) : Int) = (fs : Int) - 1 := by omega
  rw [c1] at b3
  have hne : a ≠ (a + 1 + b) % fs := by
    intro z
    by_cases y : a + 1 + b < fs
    · rw [Nat.mod_eq_of_lt y] at z; omega
    · rw [Nat.mod_eq_sub_mod (by omega), Nat.mod_eq_of_lt (by omega)] at z; omega
  exact ⟨a, b, p, o2, o3, o4, ⟨a1, Nat.mod_lt _ (by omega), hne, by simp at x1; dsimp only; omega⟩, x2, a3, b3, x3⟩
theorem machine30 {o : O} {as : List Nat} (h : PenA o) (ha : ArOk as) (hl : as.length ≤ 3) :
    ∃ (m : Mach) (o' : O), MOk m ∧ m.ar = as ∧ PenA o' ∧ M__law_machine_of [o, .fr (encA as), .fr (.int 3)] = .ok (.fr (encM m), [o', .fr (encA as), .fr (.int 3)]) := by
  obtain ⟨b2, hb2⟩ := in2 as
  obtain ⟨fs, o1, f1, f4, p1, e1⟩ : ∃ (fs : Nat) (o1 : O), 1 ≤ fs ∧ fs ≤ 3 ∧ PenA o1 ∧ ∃ r : Nat, 1 + (r : Int) = (fs : Int) ∧ M__law_draw_2 [o, .fr (.int (if b2 = true then 2 else 3))] = .ok (.fr (dN r), [o1, .fr (.int (if b2 = true then 2 else 3))]) := by
    cases b2 with
    | true =>
      obtain ⟨r, o1, r1, p1, e1⟩ := drawA_lit (mi := 2) 2 h (by decide) (by decide) rfl
      exact ⟨1 + r, o1, by omega, by omega, p1, r, by omega, e1⟩
    | false =>
      obtain ⟨r, o1, r1, p1, e1⟩ := drawA_lit (mi := 3) 3 h (by decide) (by decide) rfl
      exact ⟨1 + r, o1, by omega, by omega, p1, r, by omega, e1⟩
  obtain ⟨r, er, e1⟩ := e1
  obtain ⟨s, ⟨q1, q2, q3⟩, e2⟩ := for_r (t := .nm 3) (body := L2__law_machine_of) (fun s : O × List Ins => V__law_machine_of (pen := some s.1) (arities := fr (encA as)) (forms := fr (dN fs)) (found := ol (s.2.map encI)) (ways := ol []))
    (fun k s => PenA s.1 ∧ (∀ i ∈ s.2, InsOk as fs i) ∧ s.2.length ≤ 3 * k) as.length (s := (o1, [])) ⟨p1, by simp, by simp⟩ (fun k s hk hs => by
      obtain ⟨q1, q2, q3⟩ := hs
      obtain ⟨a, hop, ma⟩ := get_of_lt hk
      have a2 := ha.le2 a ma
      obtain ⟨n, o2, n3, t1, t2⟩ : ∃ (n : Nat) (o2 : O), n ≤ 3 ∧ PenA o2 ∧ M__law_pick_2 [s.1, .fr (.list [.int 1, .int 1, .int 2, .int 2, .int 3, if 0 < a then .int 0 else .int 1])] = .ok (.fr (dN n), [o2, .fr (.list [.int 1, .int 1, .int 2, .int 2, .int 3, if 0 < a then .int 0 else .int 1])]) := by
        by_cases z : 0 < a
        · rw [if_pos z]
          obtain ⟨p, o4, x1, x2, x3⟩ := pickN (xs := [.int 1, .int 1, .int 2, .int 2, .int 3, .int 0]) q1 [1, 1, 2, 2, 3, 0] rfl (by simp) (by decide)
          exact ⟨p, o4, by simp at x1; omega, x2, x3⟩
        · rw [if_neg z]
          obtain ⟨p, o4, x1, x2, x3⟩ := pickN (xs := [.int 1, .int 1, .int 2, .int 2, .int 3, .int 1]) q1 [1, 1, 2, 2, 3, 1] rfl (by simp) (by decide)
          exact ⟨p, o4, by simp at x1; omega, x2, x3⟩
      obtain ⟨s', ⟨u1, u2, u3⟩, e3⟩ := for_r (t := .nm 7) (body := L1__law_machine_of) (fun s : O × List Ins => V__law_machine_of (pen := some s.1) (arities := fr (encA as)) (forms := fr (dN fs)) (found := ol (s.2.map encI)) (ways := ol []) (operator := fr (dN k)))
        (fun j u => PenA u.1 ∧ (∀ i ∈ u.2, InsOk as fs i) ∧ u.2.length = s.2.length + j) n (s := (o2, s.2)) ⟨t1, q2, rfl⟩ (fun j u hj hu => by
          obtain ⟨u1, u2, u3⟩ := hu
          obtain ⟨i, o3, i1, i2, i3⟩ := instr30 u1 ha f1 (by omega) hop
          have c3 : u.2.length < 1000000 := by omega
          refine ⟨(o3, u.2 ++ [i]), ⟨i2, fun x hx => ?_, by simp [u3]; omega⟩, ?_⟩
          · rcases List.mem_append.mp hx with z | z
            · exact u2 x z
            · simp at z; subst z; exact i1
          · simp [L1__law_machine_of, q_mulAI, q_mulAL, a_wb, q_divW, Function.comp_def, q_starI, q_starIT, a_wp, a_fz, a_fz0, a_fz1, a_ext, a_ins, a_insA, a_pop, a_parN, a_evO0, a_evO1, a_setO0, a_setO1, a_ix2, a_setII, a_zN, a_zC, a_lcO, d_oo, pEq_int, pNe_int, pIxL, pIxT, atI_nat, atI_0, atI_1, atI_2, atI_3, atI_m1, cutLo, cutHi, cutLo1, cutHi1, a_seq, a_ifS, a_B, a_op, a_ov, a_ev0, a_evv, a_evs, a_C, a_V, a_M, a_set, a_setI, a_app, a_ret, a_ex, a_skip, a_no, a_not, a_andT, a_orT, a_and, a_or, a_notV, a_if, a_par, a_call, a_forS, a_sq, a_r1, a_r2, a_en, a_zp, a_asT, a_chI, a_yes, a_lc, a_fn, okA, f_fr, bkA, rsvs, rsv, dvs, on1, on2, d_fr, d_ol, rsO, ndS, sl, putB, asT, setAll, ofO, Dy.ints1, Dy.ints2, nE, wipeE, unw, frO, q_addI, q_addL, q_addT, q_addS, q_sub, q_div, q_mod, q_pow, q_neg, q_cm, pIs, pIsn, q_isN, q_isI, q_isS, q_isT, q_isL, q_isB, q_lenL, q_lenT, pTup, pLst, q_tupL, q_tupT, q_lstL, q_lstT, q_revL, q_slL, q_slT, q_shL, q_shT, q_sqL, q_sqT, q_intI, q_max2, q_min2, q_aII, q_aBI, q_aTI, q_aTT, q_aLL, q_aTL, q_aIT, i3, c3])
      refine ⟨s', ⟨u1, u2, by omega⟩, ?_⟩
      have c6 : (n : Int) ≤ 1000000000 ∧ (-1000000000 : Int) ≤ n := by omega
      by_cases z : 0 < a
      · have zi : (0 : Int) < a := by omega
        rw [if_pos z] at t2
        simp [L2__law_machine_of, q_mulAI, q_mulAL, a_wb, q_divW, Function.comp_def, q_starI, q_starIT, a_wp, a_fz, a_fz0, a_fz1, a_ext, a_ins, a_insA, a_pop, a_parN, a_evO0, a_evO1, a_setO0, a_setO1, a_ix2, a_setII, a_zN, a_zC, a_lcO, d_oo, pEq_int, pNe_int, pIxL, pIxT, atI_nat, atI_0, atI_1, atI_2, atI_3, atI_m1, cutLo, cutHi, cutLo1, cutHi1, a_seq, a_ifS, a_B, a_op, a_ov, a_ev0, a_evv, a_evs, a_C, a_V, a_M, a_set, a_setI, a_app, a_ret, a_ex, a_skip, a_no, a_not, a_andT, a_orT, a_and, a_or, a_notV, a_if, a_par, a_call, a_forS, a_sq, a_r1, a_r2, a_en, a_zp, a_asT, a_chI, a_yes, a_lc, a_fn, okA, f_fr, bkA, rsvs, rsv, dvs, on1, on2, d_fr, d_ol, rsO, ndS, sl, putB, asT, setAll, ofO, Dy.ints1, Dy.ints2, nE, wipeE, unw, frO, q_addI, q_addL, q_addT, q_addS, q_sub, q_div, q_mod, q_pow, q_neg, q_cm, pIs, pIsn, q_isN, q_isI, q_isS, q_isT, q_isL, q_isB, q_lenL, q_lenT, pTup, pLst, q_tupL, q_tupT, q_lstL, q_lstT, q_revL, q_slL, q_slT, q_shL, q_shT, q_sqL, q_sqT, q_intI, q_max2, q_min2, q_aII, q_aBI, q_aTI, q_aTT, q_aLL, q_aTL, q_aIT, hop, z, zi, t2, c6, e3]
      · have zi : ¬ (0 : Int) < a := by omega
        have z0 : a = 0 := by omega
        rw [if_neg z] at t2
        subst z0
        simp [L2__law_machine_of, q_mulAI, q_mulAL, a_wb, q_divW, Function.comp_def, q_starI, q_starIT, a_wp, a_fz, a_fz0, a_fz1, a_ext, a_ins, a_insA, a_pop, a_parN, a_evO0, a_evO1, a_setO0, a_setO1, a_ix2, a_setII, a_zN, a_zC, a_lcO, d_oo, pEq_int, pNe_int, pIxL, pIxT, atI_nat, atI_0, atI_1, atI_2, atI_3, atI_m1, cutLo, cutHi, cutLo1, cutHi1, a_seq, a_ifS, a_B, a_op, a_ov, a_ev0, a_evv, a_evs, a_C, a_V, a_M, a_set, a_setI, a_app, a_ret, a_ex, a_skip, a_no, a_not, a_andT, a_orT, a_and, a_or, a_notV, a_if, a_par, a_call, a_forS, a_sq, a_r1, a_r2, a_en, a_zp, a_asT, a_chI, a_yes, a_lc, a_fn, okA, f_fr, bkA, rsvs, rsv, dvs, on1, on2, d_fr, d_ol, rsO, ndS, sl, putB, asT, setAll, ofO, Dy.ints1, Dy.ints2, nE, wipeE, unw, frO, q_addI, q_addL, q_addT, q_addS, q_sub, q_div, q_mod, q_pow, q_neg, q_cm, pIs, pIsn, q_isN, q_isI, q_isS, q_isT, q_isL, q_isB, q_lenL, q_lenT, pTup, pLst, q_tupL, q_tupT, q_lstL, q_lstT, q_revL, q_slL, q_slT, q_shL, q_shT, q_sqL, q_sqT, q_intI, q_max2, q_min2, q_aII, q_aBI, q_aTI, q_aTT, q_aLL, q_aTL, q_aIT, hop, t2, c6, e3])
  have c7 : (as.length : Int) ≤ 1000000000 ∧ (-1000000000 : Int) ≤ as.length := by omega
  have c8 : (fs : Int) ≤ 1000000000 ∧ (-1000000000 : Int) ≤ fs := by omega
  dsimp only [List.map] at e2
  obtain ⟨o3, is⟩ := s
  dsimp only at q1 q2 q3 e2
  have fin : ∀ (cs : List Con), cs.length ≤ 12 → (∀ c ∈ cs, ConOk fs c) → MOk ⟨as, fs, is, cs⟩ := fun cs h1 h2 => ⟨ha, f1, by dsimp only; omega, by dsimp only; omega, h1, q2, h2⟩
  by_cases z1 : 1 < fs
  · have z1i : (1 : Int) < fs := by omega
    -- behind the first if
    obtain ⟨cs, o4, p4, l4, k4, D⟩ : ∃ (cs : List Con) (o4 : O), PenA o4 ∧ cs.length ≤ 4 ∧ (∀ c ∈ cs, ConOk fs c) ∧ ((2 < fs ∧ lcL [8] (.nm 8) fYes E1__law_machine_of (rng 0 fs) (V__law_machine_of (pen := some o3) (arities := fr (encA as)) (forms := fr (dN fs)) (found := ol (is.map encI)) (ways := ol [])) [] = .ok (cs.map encK, V__law_machine_of (pen := some o4) (arities := fr (encA as)) (forms := fr (dN fs)) (found := ol (is.map encI)) (ways := ol []))) ∨
        (¬ 2 < fs ∧ ∃ (r : Nat) (o5 : O), M__law_draw_2 [o3, .fr (.int 3)] = .ok (.fr (dN r), [o5, .fr (.int 3)]) ∧ ((0 < r ∧ lcL [8] (.nm 8) fYes E1__law_machine_of (rng 0 fs) (V__law_machine_of (pen := some o5) (arities := fr (encA as)) (forms := fr (dN fs)) (found := ol (is.map encI)) (ways := ol [])) [] = .ok (cs.map encK, V__law_machine_of (pen := some o4) (arities := fr (encA as)) (forms := fr (dN fs)) (found := ol (is.map encI)) (ways := ol []))) ∨ (¬ 0 < r ∧ o4 = o5 ∧ cs = [])))) := by
      by_cases z2 : 2 < fs
      · obtain ⟨cs, o4, p4, l4, k4, e4⟩ := ways30 (as := as) (is := is.map encI) q1 (show 2 ≤ fs by omega) (by omega)
        exact ⟨cs, o4, p4, by omega, k4, .inl ⟨z2, e4⟩⟩
      · obtain ⟨r, o5, r1, p5, e5⟩ := drawA_lit (mi := 3) 3 q1 (by decide) (by decide) rfl
        by_cases z3 : 0 < r
        · obtain ⟨cs, o4, p4, l4, k4, e4⟩ := ways30 (as := as) (is := is.map encI) p5 (show 2 ≤ fs by omega) (by omega)
          exact ⟨cs, o4, p4, by omega, k4, .inr ⟨z2, r, o5, e5, .inl ⟨z3, e4⟩⟩⟩
        · exact ⟨[], o5, p5, by simp, by simp, .inr ⟨z2, r, o5, e5, .inr ⟨z3, rfl, rfl⟩⟩⟩
    obtain ⟨r6, o6, s6, p6, e6⟩ := drawA_lit (mi := 3) 3 p4 (by decide) (by decide) rfl
    obtain ⟨a, b, p, o7, o8, o9, c9, p9, g1, g2, g3⟩ := more30 p6 (show 2 ≤ fs by omega) (by omega)
    have c10 : cs.length < 1000000 := by omega
    have c11 : 0 < fs := by omega
    by_cases z6 : r6 = 0
    · subst z6
      refine ⟨⟨as, fs, is, cs ++ [⟨a, (a + 1 + b) % fs, p⟩]⟩, o9, fin _ (by simp; omega) (fun c hc => ?_), rfl, p9, ?_⟩
      · rcases List.mem_append.mp hc with z | z
        · exact k4 c z
        · simp at z; subst z; exact c9
      · rcases D with ⟨z2, e4⟩ | ⟨z2, r, o5, e5, ⟨z3, e4⟩ | ⟨z3, rfl, rfl⟩⟩
        · have z2i : (2 : Int) < fs := by omega
          cases b2 <;> simp at e1 <;> simp [M__law_machine_of, b__law_machine_of, q_mulAI, q_mulAL, a_wb, q_divW, Function.comp_def, q_starI, q_starIT, a_wp, a_fz, a_fz0, a_fz1, a_ext, a_ins, a_insA, a_pop, a_parN, a_evO0, a_evO1, a_setO0, a_setO1, a_ix2, a_setII, a_zN, a_zC, a_lcO, d_oo, pEq_int, pNe_int, pIxL, pIxT, atI_nat, atI_0, atI_1, atI_2, atI_3, atI_m1, cutLo, cutHi, cutLo1, cutHi1, a_seq, a_ifS, a_B, a_op, a_ov, a_ev0, a_evv, a_evs, a_C, a_V, a_M, a_set, a_setI, a_app, a_ret, a_ex, a_skip, a_no, a_not, a_andT, a_orT, a_and, a_or, a_notV, a_if, a_par, a_call, a_forS, a_sq, a_r1, a_r2, a_en, a_zp, a_asT, a_chI, a_yes, a_lc, a_fn, okA, f_fr, bkA, rsvs, rsv, dvs, on1, on2, d_fr, d_ol, rsO, ndS, sl, putB, asT, setAll, ofO, Dy.ints1, Dy.ints2, nE, wipeE, unw, frO, q_addI, q_addL, q_addT, q_addS, q_sub, q_div, q_mod, q_pow, q_neg, q_cm, pIs, pIsn, q_isN, q_isI, q_isS, q_isT, q_isL, q_isB, q_lenL, q_lenT, pTup, pLst, q_tupL, q_tupT, q_lstL, q_lstT, q_revL, q_slL, q_slT, q_shL, q_shT, q_sqL, q_sqT, q_intI, q_max2, q_min2, q_aII, q_aBI, q_aTI, q_aTT, q_aLL, q_aTL, q_aIT, hb2, e1, er, c7, c8, e2, z1, z1i, z2, z2i, e4, e6, g1, g2, g3, c10, c11]
        · have z2i : ¬ (2 : Int) < fs := by omega
          have z3i : (0 : Int) < r := by omega
          cases b2 <;> simp at e1 <;> simp [M__law_machine_of, b__law_machine_of, q_mulAI, q_mulAL, a_wb, q_divW, Function.comp_def, q_starI, q_starIT, a_wp, a_fz, a_fz0, a_fz1, a_ext, a_ins, a_insA, a_pop, a_parN, a_evO0, a_evO1, a_setO0, a_setO1, a_ix2, a_setII, a_zN, a_zC, a_lcO, d_oo, pEq_int, pNe_int, pIxL, pIxT, atI_nat, atI_0, atI_1, atI_2, atI_3, atI_m1, cutLo, cutHi, cutLo1, cutHi1, a_seq, a_ifS, a_B, a_op, a_ov, a_ev0, a_evv, a_evs, a_C, a_V, a_M, a_set, a_setI, a_app, a_ret, a_ex, a_skip, a_no, a_not, a_andT, a_orT, a_and, a_or, a_notV, a_if, a_par, a_call, a_forS, a_sq, a_r1, a_r2, a_en, a_zp, a_asT, a_chI, a_yes, a_lc, a_fn, okA, f_fr, bkA, rsvs, rsv, dvs, on1, on2, d_fr, d_ol, rsO, ndS, sl, putB, asT, setAll, ofO, Dy.ints1, Dy.ints2, nE, wipeE, unw, frO, q_addI, q_addL, q_addT, q_addS, q_sub, q_div, q_mod, q_pow, q_neg, q_cm, pIs, pIsn, q_isN, q_isI, q_isS, q_isT, q_isL, q_isB, q_lenL, q_lenT, pTup, pLst, q_tupL, q_tupT, q_lstL, q_lstT, q_revL, q_slL, q_slT, q_shL, q_shT, q_sqL, q_sqT, q_intI, q_max2, q_min2, q_aII, q_aBI, q_aTI, q_aTT, q_aLL, q_aTL, q_aIT, hb2, e1, er, c7, c8, e2, z1, z1i, z2, z2i, e5, z3, z3i, e4, e6, g1, g2, g3, c10, c11]
        · have z2i : ¬ (2 : Int) < fs := by omega
          have z3i : r = 0 := by omega
          subst z3i
          cases b2 <;> simp at e1 <;> simp [M__law_machine_of, b__law_machine_of, q_mulAI, q_mulAL, a_wb, q_divW, Function.comp_def, q_starI, q_starIT, a_wp, a_fz, a_fz0, a_fz1, a_ext, a_ins, a_insA, a_pop, a_parN, a_evO0, a_evO1, a_setO0, a_setO1, a_ix2, a_setII, a_zN, a_zC, a_lcO, d_oo, pEq_int, pNe_int, pIxL, pIxT, atI_nat, atI_0, atI_1, atI_2, atI_3, atI_m1, cutLo, cutHi, cutLo1, cutHi1, a_seq, a_ifS, a_B, a_op, a_ov, a_ev0, a_evv, a_evs, a_C, a_V, a_M, a_set, a_setI, a_app, a_ret, a_ex, a_skip, a_no, a_not, a_andT, a_orT, a_and, a_or, a_notV, a_if, a_par, a_call, a_forS, a_sq, a_r1, a_r2, a_en, a_zp, a_asT, a_chI, a_yes, a_lc, a_fn, okA, f_fr, bkA, rsvs, rsv, dvs, on1, on2, d_fr, d_ol, rsO, ndS, sl, putB, asT, setAll, ofO, Dy.ints1, Dy.ints2, nE, wipeE, unw, frO, q_addI, q_addL, q_addT, q_addS, q_sub, q_div, q_mod, q_pow, q_neg, q_cm, pIs, pIsn, q_isN, q_isI, q_isS, q_isT, q_isL, q_isB, q_lenL, q_lenT, pTup, pLst, q_tupL, q_tupT, q_lstL, q_lstT, q_revL, q_slL, q_slT, q_shL, q_shT, q_sqL, q_sqT, q_intI, q_max2, q_min2, q_aII, q_aBI, q_aTI, q_aTT, q_aLL, q_aTL, q_aIT, hb2, e1, er, c7, c8, e2, z1, z1i, z2, z2i, e5, e6, g1, g2, g3, c10, c11]
    · refine ⟨⟨as, fs, is, cs⟩, o6, fin _ (by omega) k4, rfl, p6, ?_⟩
      have z6i : ¬ (r6 : Int) = 0 := by omega
      rcases D with ⟨z2, e4⟩ | ⟨z2, r, o5, e5, ⟨z3, e4⟩ | ⟨z3, rfl, rfl⟩⟩
      · have z2i : (2 : Int) < fs := by omega
        cases b2 <;> simp at e1 <;> simp [M__law_machine_of, b__law_machine_of, q_mulAI, q_mulAL, a_wb, q_divW, Function.comp_def, q_starI, q_starIT, a_wp, a_fz, a_fz0, a_fz1, a_ext, a_ins, a_insA, a_pop, a_parN, a_evO0, a_evO1, a_setO0, a_setO1, a_ix2, a_setII, a_zN, a_zC, a_lcO, d_oo, pEq_int, pNe_int, pIxL, pIxT, atI_nat, atI_0, atI_1, atI_2, atI_3, atI_m1, cutLo, cutHi, cutLo1, cutHi1, a_seq, a_ifS, a_B, a_op, a_ov, a_ev0, a_evv, a_evs, a_C, a_V, a_M, a_set, a_setI, a_app, a_ret, a_ex, a_skip, a_no, a_not, a_andT, a_orT, a_and, a_or, a_notV, a_if, a_par, a_call, a_forS, a_sq, a_r1, a_r2, a_en, a_zp, a_asT, a_chI, a_yes, a_lc, a_fn, okA, f_fr, bkA, rsvs, rsv, dvs, on1, on2, d_fr, d_ol, rsO, ndS, sl, putB, asT, setAll, ofO, Dy.ints1, Dy.ints2, nE, wipeE, unw, frO, q_addI, q_addL, q_addT, q_addS, q_sub, q_div, q_mod, q_pow, q_neg, q_cm, pIs, pIsn, q_isN, q_isI, q_isS, q_isT, q_isL, q_isB, q_lenL, q_lenT, pTup, pLst, q_tupL, q_tupT, q_lstL, q_lstT, q_revL, q_slL, q_slT, q_shL, q_shT, q_sqL, q_sqT, q_intI, q_max2, q_min2, q_aII, q_aBI, q_aTI, q_aTT, q_aLL, q_aTL, q_aIT, hb2, e1, er, c7, c8, e2, z1, z1i, z2, z2i, e4, e6, z6, z6i]
      · have z2i : ¬ (2 : Int) < fs := by omega
        have z3i : (0 : Int) < r := by omega
        cases b2 <;> simp at e1 <;> simp [M__law_machine_of, b__law_machine_of, q_mulAI, q_mulAL, a_wb, q_divW, Function.comp_def, q_starI, q_starIT, a_wp, a_fz, a_fz0, a_fz1, a_ext, a_ins, a_insA, a_pop, a_parN, a_evO0, a_evO1, a_setO0, a_setO1, a_ix2, a_setII, a_zN, a_zC, a_lcO, d_oo, pEq_int, pNe_int, pIxL, pIxT, atI_nat, atI_0, atI_1, atI_2, atI_3, atI_m1, cutLo, cutHi, cutLo1, cutHi1, a_seq, a_ifS, a_B, a_op, a_ov, a_ev0, a_evv, a_evs, a_C, a_V, a_M, a_set, a_setI, a_app, a_ret, a_ex, a_skip, a_no, a_not, a_andT, a_orT, a_and, a_or, a_notV, a_if, a_par, a_call, a_forS, a_sq, a_r1, a_r2, a_en, a_zp, a_asT, a_chI, a_yes, a_lc, a_fn, okA, f_fr, bkA, rsvs, rsv, dvs, on1, on2, d_fr, d_ol, rsO, ndS, sl, putB, asT, setAll, ofO, Dy.ints1, Dy.ints2, nE, wipeE, unw, frO, q_addI, q_addL, q_addT, q_addS, q_sub, q_div, q_mod, q_pow, q_neg, q_cm, pIs, pIsn, q_isN, q_isI, q_isS, q_isT, q_isL, q_isB, q_lenL, q_lenT, pTup, pLst, q_tupL, q_tupT, q_lstL, q_lstT, q_revL, q_slL, q_slT, q_shL, q_shT, q_sqL, q_sqT, q_intI, q_max2, q_min2, q_aII, q_aBI, q_aTI, q_aTT, q_aLL, q_aTL, q_aIT, hb2, e1, er, c7, c8, e2, z1, z1i, z2, z2i, e5, z3, z3i, e4, e6, z6, z6i]
      · have z2i : ¬ (2 : Int) < fs := by omega
        have z3i : r = 0 := by omega
        subst z3i
        cases b2 <;> simp at e1 <;> simp [M__law_machine_of, b__law_machine_of, q_mulAI, q_mulAL, a_wb, q_divW, Function.comp_def, q_starI, q_starIT, a_wp, a_fz, a_fz0, a_fz1, a_ext, a_ins, a_insA, a_pop, a_parN, a_evO0, a_evO1, a_setO0, a_setO1, a_ix2, a_setII, a_zN, a_zC, a_lcO, d_oo, pEq_int, pNe_int, pIxL, pIxT, atI_nat, atI_0, atI_1, atI_2, atI_3, atI_m1, cutLo, cutHi, cutLo1, cutHi1, a_seq, a_ifS, a_B, a_op, a_ov, a_ev0, a_evv, a_evs, a_C, a_V, a_M, a_set, a_setI, a_app, a_ret, a_ex, a_skip, a_no, a_not, a_andT, a_orT, a_and, a_or, a_notV, a_if, a_par, a_call, a_forS, a_sq, a_r1, a_r2, a_en, a_zp, a_asT, a_chI, a_yes, a_lc, a_fn, okA, f_fr, bkA, rsvs, rsv, dvs, on1, on2, d_fr, d_ol, rsO, ndS, sl, putB, asT, setAll, ofO, Dy.ints1, Dy.ints2, nE, wipeE, unw, frO, q_addI, q_addL, q_addT, q_addS, q_sub, q_div, q_mod, q_pow, q_neg, q_cm, pIs, pIsn, q_isN, q_isI, q_isS, q_isT, q_isL, q_isB, q_lenL, q_lenT, pTup, pLst, q_tupL, q_tupT, q_lstL, q_lstT, q_revL, q_slL, q_slT, q_shL, q_shT, q_sqL, q_sqT, q_intI, q_max2, q_min2, q_aII, q_aBI, q_aTI, q_aTT, q_aLL, q_aTL, q_aIT, hb2, e1, er, c7, c8, e2, z1, z1i, z2, z2i, e5, e6, z6, z6i]
  · have z1i : ¬ (1 : Int) < fs := by omega
    refine ⟨⟨as, fs, is, []⟩, o3, fin [] (by simp) (by simp), rfl, q1, ?_⟩
    cases b2 <;> simp at e1 <;> simp [M__law_machine_of, b__law_machine_of, q_mulAI, q_mulAL, a_wb, q_divW, Function.comp_def, q_starI, q_starIT, a_wp, a_fz, a_fz0, a_fz1, a_ext, a_ins, a_insA, a_pop, a_parN, a_evO0, a_evO1, a_setO0, a_setO1, a_ix2, a_setII, a_zN, a_zC, a_lcO, d_oo, pEq_int, pNe_int, pIxL, pIxT, atI_nat, atI_0, atI_1, atI_2, atI_3, atI_m1, cutLo, cutHi, cutLo1, cutHi1, a_seq, a_ifS, a_B, a_op, a_ov, a_ev0, a_evv, a_evs, a_C, a_V, a_M, a_set, a_setI, a_app, a_ret, a_ex, a_skip, a_no, a_not, a_andT, a_orT, a_and, a_or, a_notV, a_if, a_par, a_call, a_forS, a_sq, a_r1, a_r2, a_en, a_zp, a_asT, a_chI, a_yes, a_lc, a_fn, okA, f_fr, bkA, rsvs, rsv, dvs, on1, on2, d_fr, d_ol, rsO, ndS, sl, putB, asT, setAll, ofO, Dy.ints1, Dy.ints2, nE, wipeE, unw, frO, q_addI, q_addL, q_addT, q_addS, q_sub, q_div, q_mod, q_pow, q_neg, q_cm, pIs, pIsn, q_isN, q_isI, q_isS, q_isT, q_isL, q_isB, q_lenL, q_lenT, pTup, pLst, q_tupL, q_tupT, q_lstL, q_lstT, q_revL, q_slL, q_slT, q_shL, q_shT, q_sqL, q_sqT, q_intI, q_max2, q_min2, q_aII, q_aBI, q_aTI, q_aTT, q_aLL, q_aTL, q_aIT, hb2, e1, er, c7, c8, e2, z1, z1i]
end Q
namespace Q
open PySem Dy
open L2 (atI ixN)
inductive IsNest (as : List Nat) : Nat → PyData → Prop
  | mk (k op : Nat) (ds : List PyData) : as[op]? = some ds.length → (∀ d ∈ ds, IsNest as k d) → IsNest as (k + 1) (.tuple (dN op :: ds))
theorem choose_list {α β : Type} {P : α → β → Prop} : ∀ {xs : List α}, (∀ x ∈ xs, ∃ y, P x y) → ∃ qs : List (α × β), qs.map Prod.fst = xs ∧ ∀ q ∈ qs, P q.1 q.2
  | [], _ => ⟨[], rfl, by simp⟩
  | x :: xs, h => by
    obtain ⟨y, hy⟩ := h x (by simp)
    obtain ⟨qs, h1, h2⟩ := choose_list (xs := xs) fun z hz => h z (by simp [hz])
    refine ⟨(x, y) :: qs, by simp [h1], fun q hq => ?_⟩
    rcases List.mem_cons.mp hq with rfl | hq
    · exact hy
    · exact h2 q hq
theorem written30 {as : List Nat} (ha : ArOk as) : ∀ (k : Nat) {d : PyData}, IsNest as k d → k ≤ 4 → ∀ fuel, k ≤ fuel → ∃ t, TrOk as t ∧ t.length < 2 ^ k ∧ M__law_written_of fuel [.fr d] = .ok (.fr (encT t), [.fr d]) := by
  intro k
  induction k with
  | zero => intro d h; cases h
  | succ k ih =>
    intro d h hk fuel hf
    cases h with
    | mk _ op ds hop hd =>
    obtain ⟨f, rfl⟩ : ∃ f, fuel = f + 1 := ⟨fuel - 1, by omega⟩
    obtain ⟨qs, rfl, hq⟩ := choose_list (P := fun d t => TrOk as t ∧ t.length < 2 ^ k ∧ M__law_written_of f [.fr d] = .ok (.fr (encT t), [.fr d])) (xs := ds) fun d hd' => ih (hd d hd') (by omega) f (by omega)
    have dl : qs.length ≤ 2 := by have := ha.le2 _ (List.mem_of_getElem? hop); simpa using this
    have k2 : 2 ^ k ≤ 8 := by
      have : 2 ^ k ≤ 2 ^ 3 := Nat.pow_le_pow_right (by decide) (by omega)
      exact this
    generalize hR : M__law_written_of f = R at *
    obtain ⟨s, ⟨e1, e2, e3⟩, e4⟩ := for_l (t := .nm 1) (body := L2__law_written_of R) (fun q : PyData × List Nd => q.1) (fun s : List Nd × List Nat => V__law_written_of (nested_here := fr (.tuple (dN op :: qs.map Prod.fst))) (found := ol (s.1.map encN)) (ends := ol (s.2.map dN)))
      (fun pre s => s = (pre.map Prod.snd).foldl jn1 ([], []) ∧ s.1.length ≤ (2 ^ k - 1) * pre.length ∧ s.2.length = pre.length) qs (s := ([], [])) ⟨rfl, by simp, by simp⟩ (fun pre q post s e hp => by
        obtain ⟨h1, h2, h3⟩ := hp
        obtain ⟨hx, hx1, ex⟩ := hq q (by rw [e]; simp)
        obtain ⟨y, x⟩ := q
        dsimp only at hx hx1 ex ⊢
        have hpl : pre.length < 2 := by have := congrArg List.length e; simp at this; omega
        have hx0 : 0 < x.length := List.length_pos_iff.mpr hx.ne
        have hsl : s.1.length ≤ 14 := by
          have : (2 ^ k - 1) * pre.length ≤ 7 * 2 := Nat.mul_le_mul (by omega) (by omega)
          omega
        refine ⟨jn1 s x, ⟨by rw [List.map_append, List.foldl_append, ← h1]; rfl, by simp [jn1, shift_len, Nat.mul_succ]; omega, by simp [jn1, h3]⟩, ?_⟩
        obtain ⟨f', q5, e5⟩ := for_l (t := .nm 5) (body := L1__law_written_of R) encN (fun f : List Nd => V__law_written_of (nested_here := fr (.tuple (dN op :: qs.map Prod.fst))) (part := fr y) (found := ol (f.map encN)) (ends := ol (s.2.map dN)) (ahead := fr (dN s.1.length))) (fun pr f => f = s.1 ++ pr.map fun n => (n.1, n.2.map (s.1.length + ·))) x (s := s.1) (by simp) (fun pr n po f ex hf => by
          have hn : n ∈ x := by rw [ex]; simp
          have n2 := (hx.wf.mem hn).le2 ha
          have hpr : pr.length ≤ x.length := by rw [ex]; simp
          have fl : f.length < 1000000 := by rw [hf]; simp; omega
          refine ⟨f ++ [(n.1, n.2.map (s.1.length + ·))], by rw [hf]; simp, ?_⟩
          simp [L1__law_written_of, q_mulAI, q_mulAL, a_wb, q_divW, Function.comp_def, q_starI, q_starIT, a_wp, a_fz, a_fz0, a_fz1, a_ext, a_ins, a_insA, a_pop, a_parN, a_evO0, a_evO1, a_setO0, a_setO1, a_ix2, a_setII, a_zN, a_zC, a_lcO, d_oo, pEq_int, pNe_int, pIxL, pIxT, atI_nat, atI_0, atI_1, atI_2, atI_3, atI_m1, cutLo, cutHi, cutLo1, cutHi1, a_seq, a_ifS, a_B, a_op, a_ov, a_ev0, a_evv, a_evs, a_C, a_V, a_M, a_set, a_setI, a_app, a_ret, a_ex, a_skip, a_no, a_not, a_andT, a_orT, a_and, a_or, a_notV, a_if, a_par, a_call, a_forS, a_sq, a_r1, a_r2, a_en, a_zp, a_asT, a_chI, a_yes, a_lc, a_fn, okA, f_fr, bkA, rsvs, rsv, dvs, on1, on2, d_fr, d_ol, rsO, ndS, sl, putB, asT, setAll, ofO, Dy.ints1, Dy.ints2, nE, wipeE, unw, frO, q_addI, q_addL, q_addT, q_addS, q_sub, q_div, q_mod, q_pow, q_neg, q_cm, pIs, pIsn, q_isN, q_isI, q_isS, q_isT, q_isL, q_isB, q_lenL, q_lenT, pTup, pLst, q_tupL, q_tupT, q_lstL, q_lstT, q_revL, q_slL, q_slT, q_shL, q_shT, q_sqL, q_sqT, q_intI, q_max2, q_min2, q_aII, q_aBI, q_aTI, q_aTT, q_aLL, q_aTL, q_aIT]
          rw [lc_tm dN (fun p => dN (s.1.length + p)) n.2 rfl (fun p hp => ?_) (by omega)]
          · have c : 1 + n.2.length ≤ 1000000 := by omega
            simp [q_mulAI, q_mulAL, a_wb, q_divW, Function.comp_def, q_starI, q_starIT, a_wp, a_fz, a_fz0, a_fz1, a_ext, a_ins, a_insA, a_pop, a_parN, a_evO0, a_evO1, a_setO0, a_setO1, a_ix2, a_setII, a_zN, a_zC, a_lcO, d_oo, pEq_int, pNe_int, pIxL, pIxT, atI_nat, atI_0, atI_1, atI_2, atI_3, atI_m1, cutLo, cutHi, cutLo1, cutHi1, a_seq, a_ifS, a_B, a_op, a_ov, a_ev0, a_evv, a_evs, a_C, a_V, a_M, a_set, a_setI, a_app, a_ret, a_ex, a_skip, a_no, a_not, a_andT, a_orT, a_and, a_or, a_notV, a_if, a_par, a_call, a_forS, a_sq, a_r1, a_r2, a_en, a_zp, a_asT, a_chI, a_yes, a_lc, a_fn, okA, f_fr, bkA, rsvs, rsv, dvs, on1, on2, d_fr, d_ol, rsO, ndS, sl, putB, asT, setAll, ofO, Dy.ints1, Dy.ints2, nE, wipeE, unw, frO, q_addI, q_addL, q_addT, q_addS, q_sub, q_div, q_mod, q_pow, q_neg, q_cm, pIs, pIsn, q_isN, q_isI, q_isS, q_isT, q_isL, q_isB, q_lenL, q_lenT, pTup, pLst, q_tupL, q_tupT, q_lstL, q_lstT, q_revL, q_slL, q_slT, q_shL, q_shT, q_sqL, q_sqT, q_intI, q_max2, q_min2, q_aII, q_aBI, q_aTI, q_aTT, q_aLL, q_aTL, q_aIT, c, fl]
          · simp [E1__law_written_of, q_mulAI, q_mulAL, a_wb, q_divW, Function.comp_def, q_starI, q_starIT, a_wp, a_fz, a_fz0, a_fz1, a_ext, a_ins, a_insA, a_pop, a_parN, a_evO0, a_evO1, a_setO0, a_setO1, a_ix2, a_setII, a_zN, a_zC, a_lcO, d_oo, pEq_int, pNe_int, pIxL, pIxT, atI_nat, atI_0, atI_1, atI_2, atI_3, atI_m1, cutLo, cutHi, cutLo1, cutHi1, a_seq, a_ifS, a_B, a_op, a_ov, a_ev0, a_evv, a_evs, a_C, a_V, a_M, a_set, a_setI, a_app, a_ret, a_ex, a_skip, a_no, a_not, a_andT, a_orT, a_and, a_or, a_notV, a_if, a_par, a_call, a_forS, a_sq, a_r1, a_r2, a_en, a_zp, a_asT, a_chI, a_yes, a_lc, a_fn, okA, f_fr, bkA, rsvs, rsv, dvs, on1, on2, d_fr, d_ol, rsO, ndS, sl, putB, asT, setAll, ofO, Dy.ints1, Dy.ints2, nE, wipeE, unw, frO, q_addI, q_addL, q_addT, q_addS, q_sub, q_div, q_mod, q_pow, q_neg, q_cm, pIs, pIsn, q_isN, q_isI, q_isS, q_isT, q_isL, q_isB, q_lenL, q_lenT, pTup, pLst, q_tupL, q_tupT, q_lstL, q_lstT, q_revL, q_slL, q_slT, q_shL, q_shT, q_sqL, q_sqT, q_intI, q_max2, q_min2, q_aII, q_aBI, q_aTI, q_aTT, q_aLL, q_aTL, q_aIT])
        subst q5
        have c2 : s.2.length < 1000000 := by omega
        have c3 : ((s.1.length : Int) + x.length - 1) = ((s.1.length + x.length - 1 : Nat) : Int) := by omega
        simp [L2__law_written_of, q_mulAI, q_mulAL, a_wb, q_divW, Function.comp_def, q_starI, q_starIT, a_wp, a_fz, a_fz0, a_fz1, a_ext, a_ins, a_insA, a_pop, a_parN, a_evO0, a_evO1, a_setO0, a_setO1, a_ix2, a_setII, a_zN, a_zC, a_lcO, d_oo, pEq_int, pNe_int, pIxL, pIxT, atI_nat, atI_0, atI_1, atI_2, atI_3, atI_m1, cutLo, cutHi, cutLo1, cutHi1, a_seq, a_ifS, a_B, a_op, a_ov, a_ev0, a_evv, a_evs, a_C, a_V, a_M, a_set, a_setI, a_app, a_ret, a_ex, a_skip, a_no, a_not, a_andT, a_orT, a_and, a_or, a_notV, a_if, a_par, a_call, a_forS, a_sq, a_r1, a_r2, a_en, a_zp, a_asT, a_chI, a_yes, a_lc, a_fn, okA, f_fr, bkA, rsvs, rsv, dvs, on1, on2, d_fr, d_ol, rsO, ndS, sl, putB, asT, setAll, ofO, Dy.ints1, Dy.ints2, nE, wipeE, unw, frO, q_addI, q_addL, q_addT, q_addS, q_sub, q_div, q_mod, q_pow, q_neg, q_cm, pIs, pIsn, q_isN, q_isI, q_isS, q_isT, q_isL, q_isB, q_lenL, q_lenT, pTup, pLst, q_tupL, q_tupT, q_lstL, q_lstT, q_revL, q_slL, q_slT, q_shL, q_shT, q_sqL, q_sqT, q_intI, q_max2, q_min2, q_aII, q_aBI, q_aTI, q_aTT, q_aLL, q_aTL, q_aIT, ex, e5, jn1, c2, c3, shift])
    dsimp only [List.map] at e4
    have c1 : 1 + s.2.length ≤ 1000000 := by omega
    have hmul : (2 ^ k - 1) * qs.length ≤ (2 ^ k - 1) * 2 := Nat.mul_le_mul_left _ dl
    have c2 : s.1.length + 1 ≤ 1000000 := by omega
    have hlen : (joinT op (qs.map Prod.snd)).length = s.1.length + 1 := by unfold joinT; rw [← e1]; simp
    refine ⟨joinT op (qs.map Prod.snd), ⟨joinT_wf (fun p hp => ?_) (by simpa using hop), joinT_ne _ _, by omega⟩, by rw [hlen, Nat.pow_succ]; have := Nat.one_le_two_pow (n := k); omega, ?_⟩
    · obtain ⟨q, hq', rfl⟩ := List.mem_map.mp hp
      exact ⟨(hq q hq').1.wf, (hq q hq').1.ne⟩
    · have : M__law_written_of (f + 1) = fnM 1 7 [] (b__law_written_of R) := by rw [← hR]; rfl
      rw [this]
      have e4' : fFor (.nm 1) (L2__law_written_of R) (qs.map Prod.fst) (V__law_written_of (nested_here := fr (.tuple (dN op :: qs.map Prod.fst))) (found := ol []) (ends := ol [])) = _ := e4
      simp [b__law_written_of, q_mulAI, q_mulAL, a_wb, q_divW, Function.comp_def, q_starI, q_starIT, a_wp, a_fz, a_fz0, a_fz1, a_ext, a_ins, a_insA, a_pop, a_parN, a_evO0, a_evO1, a_setO0, a_setO1, a_ix2, a_setII, a_zN, a_zC, a_lcO, d_oo, pEq_int, pNe_int, pIxL, pIxT, atI_nat, atI_0, atI_1, atI_2, atI_3, atI_m1, cutLo, cutHi, cutLo1, cutHi1, a_seq, a_ifS, a_B, a_op, a_ov, a_ev0, a_evv, a_evs, a_C, a_V, a_M, a_set, a_setI, a_app, a_ret, a_ex, a_skip, a_no, a_not, a_andT, a_orT, a_and, a_or, a_notV, a_if, a_par, a_call, a_forS, a_sq, a_r1, a_r2, a_en, a_zp, a_asT, a_chI, a_yes, a_lc, a_fn, okA, f_fr, bkA, rsvs, rsv, dvs, on1, on2, d_fr, d_ol, rsO, ndS, sl, putB, asT, setAll, ofO, Dy.ints1, Dy.ints2, nE, wipeE, unw, frO, q_addI, q_addL, q_addT, q_addS, q_sub, q_div, q_mod, q_pow, q_neg, q_cm, pIs, pIsn, q_isN, q_isI, q_isS, q_isT, q_isL, q_isB, q_lenL, q_lenT, pTup, pLst, q_tupL, q_tupT, q_lstL, q_lstT, q_revL, q_slL, q_slT, q_shL, q_shT, q_sqL, q_sqT, q_intI, q_max2, q_min2, q_aII, q_aBI, q_aTI, q_aTT, q_aLL, q_aTL, q_aIT, cutS1, e4', c1, c2, joinT, ← e1]
theorem bare30 {as : List Nat} (ha : ArOk as) (h0 : 0 ∈ as) : lvs (fun a => decide (a = 0)) as ≠ [] := by
  obtain ⟨i, hi⟩ := List.getElem?_of_mem h0
  intro z
  have : i ∈ lvs (fun a => decide (a = 0)) as := lvs_mem.mpr ⟨0, hi, by simp⟩
  rw [z] at this; cases this
theorem nested30 {as : List Nat} (ha : ArOk as) (h0 : 0 ∈ as) : ∀ (fuel k : Nat) {o : O}, PenA o → k < fuel → k < 4 → ∃ (d : PyData) (o' : O), IsNest as (k + 1) d ∧ PenA o' ∧ M__law_nested fuel [o, .fr (encA as), .fr (.int ((k : Int) + 1))] = .ok (.fr d, [o', .fr (encA as), .fr (.int ((k : Int) + 1))]) := by
  intro fuel
  induction fuel with
  | zero => intro k o _ h; omega
  | succ f ih =>
    intro k o h hf k4
    have al := ha.len
    have : M__law_nested (f + 1) = fnM 3 7 [0] (b__law_nested (M__law_nested f)) := rfl
    rw [this]
    generalize hR : M__law_nested f = R at *
    have e0 : ∀ e : Dy.Env, e = V__law_nested (pen := some o) (arities := fr (encA as)) (far := fr (.int ((k : Int) + 1))) → lcL [4, 5] (.tu [4, 5]) (T1__law_nested R) (E1__law_nested R) (enumD 0 (as.map dN)) e [] = .ok ((lvs (fun a => decide (a = 0)) as).map dN, e) := fun e he => by
      rw [lc_fl (fun q : Nat × Nat => .tuple [.int (q.1 : Int), dN q.2]) (fun q => if decide (q.2 = 0) = true then some (dN q.1) else none) (ens as) (enumD_ens _ _) (fun q hq => ?_) (by rw [ens_len]; omega), lvs_enc (fun a => decide (a = 0))]
      subst he
      by_cases z : q.2 = 0 <;> simp [T1__law_nested, E1__law_nested, q_mulAI, q_mulAL, a_wb, q_divW, Function.comp_def, q_starI, q_starIT, a_wp, a_fz, a_fz0, a_fz1, a_ext, a_ins, a_insA, a_pop, a_parN, a_evO0, a_evO1, a_setO0, a_setO1, a_ix2, a_setII, a_zN, a_zC, a_lcO, d_oo, pEq_int, pNe_int, pIxL, pIxT, atI_nat, atI_0, atI_1, atI_2, atI_3, atI_m1, cutLo, cutHi, cutLo1, cutHi1, a_seq, a_ifS, a_B, a_op, a_ov, a_ev0, a_evv, a_evs, a_C, a_V, a_M, a_set, a_setI, a_app, a_ret, a_ex, a_skip, a_no, a_not, a_andT, a_orT, a_and, a_or, a_notV, a_if, a_par, a_call, a_forS, a_sq, a_r1, a_r2, a_en, a_zp, a_asT, a_chI, a_yes, a_lc, a_fn, okA, f_fr, bkA, rsvs, rsv, dvs, on1, on2, d_fr, d_ol, rsO, ndS, sl, putB, asT, setAll, ofO, Dy.ints1, Dy.ints2, nE, wipeE, unw, frO, q_addI, q_addL, q_addT, q_addS, q_sub, q_div, q_mod, q_pow, q_neg, q_cm, pIs, pIsn, q_isN, q_isI, q_isS, q_isT, q_isL, q_isB, q_lenL, q_lenT, pTup, pLst, q_tupL, q_tupT, q_lstL, q_lstT, q_revL, q_slL, q_slT, q_shL, q_shT, q_sqL, q_sqT, q_intI, q_max2, q_min2, q_aII, q_aBI, q_aTI, q_aTT, q_aLL, q_aTL, q_aIT, z]
    have e0 := e0 _ rfl
    obtain ⟨op, a, o1, hop, hz, p1, e1⟩ : ∃ (op a : Nat) (o1 : O), as[op]? = some a ∧ (k = 0 → a = 0) ∧ PenA o1 ∧ ((k = 0 ∧ M__law_pick_2 [o, .fr (.list ((lvs (fun a => decide (a = 0)) as).map dN))] = .ok (.fr (dN op), [o1, .fr (.list ((lvs (fun a => decide (a = 0)) as).map dN))])) ∨ (0 < k ∧ M__law_draw_2 [o, .fr (.int (as.length : Int))] = .ok (.fr (dN op), [o1, .fr (.int (as.length : Int))]))) := by
      by_cases hk : k = 0
      · obtain ⟨op, o1, m1, p1, e1⟩ := pickN h (lvs (fun a => decide (a = 0)) as) rfl (bare30 ha h0) (by have := lvs_len (fun a => decide (a = 0)) as; omega)
        obtain ⟨a, ha', hz⟩ := lvs_mem.mp m1
        exact ⟨op, a, o1, ha', fun _ => by simpa using hz, p1, .inl ⟨hk, e1⟩⟩
      · obtain ⟨op, o1, r1, p1, e1⟩ := drawA_upto h as.length ha.pos (by omega)
        obtain ⟨a, ga, _⟩ := get_of_lt r1
        exact ⟨op, a, o1, ga, fun z => absurd z hk, p1, .inr ⟨by omega, e1⟩⟩
    have a2 := ha.le2 a (List.mem_of_getElem? hop)
    obtain ⟨ds, o2, p2, l2, r2, e2⟩ := lc_r (vs := [6]) (t := .nm 6) (elt := E2__law_nested R) (fun d : PyData => d) (fun o => V__law_nested (pen := some o) (arities := fr (encA as)) (far := fr (.int ((k : Int) + 1))) (bare_here := fr (.list ((lvs (fun a => decide (a = 0)) as).map dN))) (operator := fr (dN op))) (fun _ o => PenA o) (fun d => IsNest as k d) a p1 (by omega) (fun j o hj hp => by
      have hk : 0 < k := by
        rcases Nat.eq_zero_or_pos k with z | z
        · have := hz z; omega
        · exact z
      obtain ⟨d, o', d1, d2, d3⟩ := ih (k - 1) hp (by omega) (by omega)
      have c : ((k - 1 : Nat) : Int) + 1 = (k : Int) := by omega
      have c' : (k : Int) + 1 - 1 = k := by omega
      rw [c] at d3
      rw [show k - 1 + 1 = k by omega] at d1
      exact ⟨d, o', d2, d1, by simp [E2__law_nested, q_mulAI, q_mulAL, a_wb, q_divW, Function.comp_def, q_starI, q_starIT, a_wp, a_fz, a_fz0, a_fz1, a_ext, a_ins, a_insA, a_pop, a_parN, a_evO0, a_evO1, a_setO0, a_setO1, a_ix2, a_setII, a_zN, a_zC, a_lcO, d_oo, pEq_int, pNe_int, pIxL, pIxT, atI_nat, atI_0, atI_1, atI_2, atI_3, atI_m1, cutLo, cutHi, cutLo1, cutHi1, a_seq, a_ifS, a_B, a_op, a_ov, a_ev0, a_evv, a_evs, a_C, a_V, a_M, a_set, a_setI, a_app, a_ret, a_ex, a_skip, a_no, a_not, a_andT, a_orT, a_and, a_or, a_notV, a_if, a_par, a_call, a_forS, a_sq, a_r1, a_r2, a_en, a_zp, a_asT, a_chI, a_yes, a_lc, a_fn, okA, f_fr, bkA, rsvs, rsv, dvs, on1, on2, d_fr, d_ol, rsO, ndS, sl, putB, asT, setAll, ofO, Dy.ints1, Dy.ints2, nE, wipeE, unw, frO, q_addI, q_addL, q_addT, q_addS, q_sub, q_div, q_mod, q_pow, q_neg, q_cm, pIs, pIsn, q_isN, q_isI, q_isS, q_isT, q_isL, q_isB, q_lenL, q_lenT, pTup, pLst, q_tupL, q_tupT, q_lstL, q_lstT, q_revL, q_slL, q_slT, q_shL, q_shT, q_sqL, q_sqT, q_intI, q_max2, q_min2, q_aII, q_aBI, q_aTI, q_aTT, q_aLL, q_aTL, q_aIT, c', d3]⟩)
    rw [List.map_id'] at e2
    have c4 : (a : Int) ≤ 1000000000 ∧ (-1000000000 : Int) ≤ a := by omega
    have c5 : 1 + ds.length ≤ 1000000 := by omega
    refine ⟨.tuple (dN op :: ds), o2, .mk k op ds (by rw [hop, l2]) r2, p2, ?_⟩
    rcases e1 with ⟨hk, e1⟩ | ⟨hk, e1⟩
    · subst hk
      simp at e0 e2
      simp [b__law_nested, q_mulAI, q_mulAL, a_wb, q_divW, Function.comp_def, q_starI, q_starIT, a_wp, a_fz, a_fz0, a_fz1, a_ext, a_ins, a_insA, a_pop, a_parN, a_evO0, a_evO1, a_setO0, a_setO1, a_ix2, a_setII, a_zN, a_zC, a_lcO, d_oo, pEq_int, pNe_int, pIxL, pIxT, atI_nat, atI_0, atI_1, atI_2, atI_3, atI_m1, cutLo, cutHi, cutLo1, cutHi1, a_seq, a_ifS, a_B, a_op, a_ov, a_ev0, a_evv, a_evs, a_C, a_V, a_M, a_set, a_setI, a_app, a_ret, a_ex, a_skip, a_no, a_not, a_andT, a_orT, a_and, a_or, a_notV, a_if, a_par, a_call, a_forS, a_sq, a_r1, a_r2, a_en, a_zp, a_asT, a_chI, a_yes, a_lc, a_fn, okA, f_fr, bkA, rsvs, rsv, dvs, on1, on2, d_fr, d_ol, rsO, ndS, sl, putB, asT, setAll, ofO, Dy.ints1, Dy.ints2, nE, wipeE, unw, frO, q_addI, q_addL, q_addT, q_addS, q_sub, q_div, q_mod, q_pow, q_neg, q_cm, pIs, pIsn, q_isN, q_isI, q_isS, q_isT, q_isL, q_isB, q_lenL, q_lenT, pTup, pLst, q_tupL, q_tupT, q_lstL, q_lstT, q_revL, q_slL, q_slT, q_shL, q_shT, q_sqL, q_sqT, q_intI, q_max2, q_min2, q_aII, q_aBI, q_aTI, q_aTT, q_aLL, q_aTL, q_aIT, e0, e1, hop, c4, e2, c5]
    · have hki : (1 : Int) < (k : Int) + 1 := by omega
      have hki' : (0 : Int) < (k : Int) := by omega
      simp [b__law_nested, q_mulAI, q_mulAL, a_wb, q_divW, Function.comp_def, q_starI, q_starIT, a_wp, a_fz, a_fz0, a_fz1, a_ext, a_ins, a_insA, a_pop, a_parN, a_evO0, a_evO1, a_setO0, a_setO1, a_ix2, a_setII, a_zN, a_zC, a_lcO, d_oo, pEq_int, pNe_int, pIxL, pIxT, atI_nat, atI_0, atI_1, atI_2, atI_3, atI_m1, cutLo, cutHi, cutLo1, cutHi1, a_seq, a_ifS, a_B, a_op, a_ov, a_ev0, a_evv, a_evs, a_C, a_V, a_M, a_set, a_setI, a_app, a_ret, a_ex, a_skip, a_no, a_not, a_andT, a_orT, a_and, a_or, a_notV, a_if, a_par, a_call, a_forS, a_sq, a_r1, a_r2, a_en, a_zp, a_asT, a_chI, a_yes, a_lc, a_fn, okA, f_fr, bkA, rsvs, rsv, dvs, on1, on2, d_fr, d_ol, rsO, ndS, sl, putB, asT, setAll, ofO, Dy.ints1, Dy.ints2, nE, wipeE, unw, frO, q_addI, q_addL, q_addT, q_addS, q_sub, q_div, q_mod, q_pow, q_neg, q_cm, pIs, pIsn, q_isN, q_isI, q_isS, q_isT, q_isL, q_isB, q_lenL, q_lenT, pTup, pLst, q_tupL, q_tupT, q_lstL, q_lstT, q_revL, q_slL, q_slT, q_shL, q_shT, q_sqL, q_sqT, q_intI, q_max2, q_min2, q_aII, q_aBI, q_aTI, q_aTT, q_aLL, q_aTL, q_aIT, e0, hki, hki', hk, e1, hop, c4, e2, c5]
theorem chain30 {o : O} {as : List Nat} {mi : Int} (n : Nat) (h : PenA o) (ha : ArOk as) (h0 : 0 ∈ as) (hn : n ≤ 7) (hm : mi = n) :
    ∃ (t : List Nd) (o' : O), TrOk as t ∧ t.length ≤ 8 ∧ PenA o' ∧ M__law_chain [o, .fr (encA as), .fr (.int mi)] = .ok (.fr (encT t), [o', .fr (encA as), .fr (.int mi)]) := by
  subst hm
  have al := ha.len
  have e0 : ∀ e : Dy.Env, e = V__law_chain (pen := some o) (arities := fr (encA as)) (many_here := fr (dN n)) → lcL [7, 9] (.tu [7, 9]) T1__law_chain E1__law_chain (enumD 0 (as.map dN)) e [] = .ok ((lvs (fun a => decide (a = 0)) as).map dN, e) := fun e he => by
    rw [lc_fl (fun q : Nat × Nat => .tuple [.int (q.1 : Int), dN q.2]) (fun q => if decide (q.2 = 0) = true then some (dN q.1) else none) (ens as) (enumD_ens _ _) (fun q hq => ?_) (by rw [ens_len]; omega), lvs_enc (fun a => decide (a = 0))]
    subst he
    by_cases z : q.2 = 0 <;> simp [T1__law_chain, E1__law_chain, q_mulAI, q_mulAL, a_wb, q_divW, Function.comp_def, q_starI, q_starIT, a_wp, a_fz, a_fz0, a_fz1, a_ext, a_ins, a_insA, a_pop, a_parN, a_evO0, a_evO1, a_setO0, a_setO1, a_ix2, a_setII, a_zN, a_zC, a_lcO, d_oo, pEq_int, pNe_int, pIxL, pIxT, atI_nat, atI_0, atI_1, atI_2, atI_3, atI_m1, cutLo, cutHi, cutLo1, cutHi1, a_seq, a_ifS, a_B, a_op, a_ov, a_ev0, a_evv, a_evs, a_C, a_V, a_M, a_set, a_setI, a_app, a_ret, a_ex, a_skip, a_no, a_not, a_andT, a_orT, a_and, a_or, a_notV, a_if, a_par, a_call, a_forS, a_sq, a_r1, a_r2, a_en, a_zp, a_asT, a_chI, a_yes, a_lc, a_fn, okA, f_fr, bkA, rsvs, rsv, dvs, on1, on2, d_fr, d_ol, rsO, ndS, sl, putB, asT, setAll, ofO, Dy.ints1, Dy.ints2, nE, wipeE, unw, frO, q_addI, q_addL, q_addT, q_addS, q_sub, q_div, q_mod, q_pow, q_neg, q_cm, pIs, pIsn, q_isN, q_isI, q_isS, q_isT, q_isL, q_isB, q_lenL, q_lenT, pTup, pLst, q_tupL, q_tupT, q_lstL, q_lstT, q_revL, q_slL, q_slT, q_shL, q_shT, q_sqL, q_sqT, q_intI, q_max2, q_min2, q_aII, q_aBI, q_aTI, q_aTT, q_aLL, q_aTL, q_aIT, z]
  have e1 : ∀ e : Dy.Env, e = V__law_chain (pen := some o) (arities := fr (encA as)) (many_here := fr (dN n)) (bare_here := fr (.list ((lvs (fun a => decide (a = 0)) as).map dN))) → lcL [7, 9] (.tu [7, 9]) T2__law_chain E2__law_chain (enumD 0 (as.map dN)) e [] = .ok ((lvs (fun a => decide (0 < a)) as).map dN, e) := fun e he => by
    rw [lc_fl (fun q : Nat × Nat => .tuple [.int (q.1 : Int), dN q.2]) (fun q => if decide (0 < q.2) = true then some (dN q.1) else none) (ens as) (enumD_ens _ _) (fun q hq => ?_) (by rw [ens_len]; omega), lvs_enc (fun a => decide (0 < a))]
    subst he
    by_cases z : 0 < q.2
    · have : (0 : Int) < q.2 := by omega
      simp [T2__law_chain, E2__law_chain, q_mulAI, q_mulAL, a_wb, q_divW, Function.comp_def, q_starI, q_starIT, a_wp, a_fz, a_fz0, a_fz1, a_ext, a_ins, a_insA, a_pop, a_parN, a_evO0, a_evO1, a_setO0, a_setO1, a_ix2, a_setII, a_zN, a_zC, a_lcO, d_oo, pEq_int, pNe_int, pIxL, pIxT, atI_nat, atI_0, atI_1, atI_2, atI_3, atI_m1, cutLo, cutHi, cutLo1, cutHi1, a_seq, a_ifS, a_B, a_op, a_ov, a_ev0, a_evv, a_evs, a_C, a_V, a_M, a_set, a_setI, a_app, a_ret, a_ex, a_skip, a_no, a_not, a_andT, a_orT, a_and, a_or, a_notV, a_if, a_par, a_call, a_forS, a_sq, a_r1, a_r2, a_en, a_zp, a_asT, a_chI, a_yes, a_lc, a_fn, okA, f_fr, bkA, rsvs, rsv, dvs, on1, on2, d_fr, d_ol, rsO, ndS, sl, putB, asT, setAll, ofO, Dy.ints1, Dy.ints2, nE, wipeE, unw, frO, q_addI, q_addL, q_addT, q_addS, q_sub, q_div, q_mod, q_pow, q_neg, q_cm, pIs, pIsn, q_isN, q_isI, q_isS, q_isT, q_isL, q_isB, q_lenL, q_lenT, pTup, pLst, q_tupL, q_tupT, q_lstL, q_lstT, q_revL, q_slL, q_slT, q_shL, q_shT, q_sqL, q_sqT, q_intI, q_max2, q_min2, q_aII, q_aBI, q_aTI, q_aTT, q_aLL, q_aTL, q_aIT, z, this]
    · have z' : q.2 = 0 := by omega
      simp [T2__law_chain, E2__law_chain, q_mulAI, q_mulAL, a_wb, q_divW, Function.comp_def, q_starI, q_starIT, a_wp, a_fz, a_fz0, a_fz1, a_ext, a_ins, a_insA, a_pop, a_parN, a_evO0, a_evO1, a_setO0, a_setO1, a_ix2, a_setII, a_zN, a_zC, a_lcO, d_oo, pEq_int, pNe_int, pIxL, pIxT, atI_nat, atI_0, atI_1, atI_2, atI_3, atI_m1, cutLo, cutHi, cutLo1, cutHi1, a_seq, a_ifS, a_B, a_op, a_ov, a_ev0, a_evv, a_evs, a_C, a_V, a_M, a_set, a_setI, a_app, a_ret, a_ex, a_skip, a_no, a_not, a_andT, a_orT, a_and, a_or, a_notV, a_if, a_par, a_call, a_forS, a_sq, a_r1, a_r2, a_en, a_zp, a_asT, a_chI, a_yes, a_lc, a_fn, okA, f_fr, bkA, rsvs, rsv, dvs, on1, on2, d_fr, d_ol, rsO, ndS, sl, putB, asT, setAll, ofO, Dy.ints1, Dy.ints2, nE, wipeE, unw, frO, q_addI, q_addL, q_addT, q_addS, q_sub, q_div, q_mod, q_pow, q_neg, q_cm, pIs, pIsn, q_isN, q_isI, q_isS, q_isT, q_isL, q_isB, q_lenL, q_lenT, pTup, pLst, q_tupL, q_tupT, q_lstL, q_lstT, q_revL, q_slL, q_slT, q_shL, q_shT, q_sqL, q_sqT, q_intI, q_max2, q_min2, q_aII, q_aBI, q_aTI, q_aTT, q_aLL, q_aTL, q_aIT, z']
  have e0 := e0 _ rfl
  have e1 := e1 _ rfl
  obtain ⟨leaf, o1, m1, p1, e2⟩ := pickN h (lvs (fun a => decide (a = 0)) as) rfl (bare30 ha h0) (by have := lvs_len (fun a => decide (a = 0)) as; omega)
  obtain ⟨a0, ha0, hz⟩ := lvs_mem.mp m1
  have hz : a0 = 0 := by simpa using hz
  subst hz
  have rk : shp (.list ((lvs (fun a => decide (0 < a)) as).map dN)) = true := (Rk.lst (rkNs fun a ha' => by obtain ⟨x, hx, _⟩ := lvs_mem.mp ha'; have := lt_of_get hx; omega)).shp (by decide)
  have e3 := pNe_L0 rk
  have ml : (lvs (fun a => decide (0 < a)) as).length ≤ 6 := by have := lvs_len (fun a => decide (0 < a)) as; omega
  have mm : ∀ x ∈ lvs (fun a => decide (0 < a)) as, ∃ a, as[x]? = some a ∧ 0 < a := fun x hx => by
    obtain ⟨a, h1, h2⟩ := lvs_mem.mp hx
    exact ⟨a, h1, by simpa using h2⟩
  generalize hB : (lvs (fun a => decide (a = 0)) as).map dN = B at *
  generalize hM : lvs (fun a => decide (0 < a)) as = M at *
  obtain ⟨q, hq, e4, hne⟩ : ∃ q : Nat, q ≤ 7 ∧ pMulA (.int (n : Int)) (.int (if (M.map dN).isEmpty = true then 0 else 1)) = some (.fr (.int (q : Int))) ∧ (0 < q → M ≠ []) := by
    by_cases z : M = []
    · subst z
      exact ⟨0, by omega, by simp [q_mulAI, mulA' _ _ (show -18446744073709551616 < (0 : Int) ∧ (0 : Int) < 18446744073709551616 by decide)], fun h => by omega⟩
    · have : (M.map dN).isEmpty = false := by simpa using z
      refine ⟨n, hn, ?_, fun _ => z⟩
      rw [this]
      simp [q_mulAI, mulA' _ _ (show -18446744073709551616 < (1 : Int) ∧ (1 : Int) < 18446744073709551616 by decide)]
  obtain ⟨s, ⟨p3, w3, l3⟩, e5⟩ := for_r (t := .nm 6) (body := L1__law_chain) (fun s : O × List Nd => V__law_chain (pen := some s.1) (arities := fr (encA as)) (many_here := fr (dN n)) (more := fr (.list (M.map dN))) (found := ol (s.2.map encN)))
    (fun k s => PenA s.1 ∧ WF as s.2 ∧ s.2.length = k + 1) q (s := (o1, [(leaf, [])])) ⟨p1, WF.nil.snoc (n := (leaf, [])) ⟨ha0, by simp⟩, rfl⟩ (fun k s hk hs => by
      obtain ⟨o3, t⟩ := s
      obtain ⟨q1, q2, q3⟩ := hs
      dsimp only at q1 q2 q3
      obtain ⟨op, o4, m4, p4, e4⟩ := pickN q1 M rfl (hne (by omega)) (by omega)
      obtain ⟨a, ga, a1⟩ := mm op m4
      have a2 := ha.le2 a (List.mem_of_getElem? ga)
      have c0 : (a : Int) - 1 = ((a - 1 : Nat) : Int) := by omega
      obtain ⟨ps, o6, p6, l6, r6, e6⟩ := lc_r (vs := [10]) (t := .nm 10) (elt := E3__law_chain) dN (fun o => V__law_chain (pen := some o) (arities := fr (encA as)) (many_here := fr (dN n)) (more := fr (.list (M.map dN))) (found := ol (t.map encN)) (lap := fr (dN k)) (operator := fr (dN op)))
        (fun j o => PenA o) (fun x => x < t.length) (a - 1) p4 (by omega) (fun j o hj hp => by
          obtain ⟨x, o7, r7, p7, e7⟩ := drawA_upto hp t.length (by omega) (by omega)
          rw [q3] at e7
          simp only [Int.natCast_add, Int.natCast_one] at e7
          exact ⟨x, o7, p7, r7, by simp [E3__law_chain, q_mulAI, q_mulAL, a_wb, q_divW, Function.comp_def, q_starI, q_starIT, a_wp, a_fz, a_fz0, a_fz1, a_ext, a_ins, a_insA, a_pop, a_parN, a_evO0, a_evO1, a_setO0, a_setO1, a_ix2, a_setII, a_zN, a_zC, a_lcO, d_oo, pEq_int, pNe_int, pIxL, pIxT, atI_nat, atI_0, atI_1, atI_2, atI_3, atI_m1, cutLo, cutHi, cutLo1, cutHi1, a_seq, a_ifS, a_B, a_op, a_ov, a_ev0, a_evv, a_evs, a_C, a_V, a_M, a_set, a_setI, a_app, a_ret, a_ex, a_skip, a_no, a_not, a_andT, a_orT, a_and, a_or, a_notV, a_if, a_par, a_call, a_forS, a_sq, a_r1, a_r2, a_en, a_zp, a_asT, a_chI, a_yes, a_lc, a_fn, okA, f_fr, bkA, rsvs, rsv, dvs, on1, on2, d_fr, d_ol, rsO, ndS, sl, putB, asT, setAll, ofO, Dy.ints1, Dy.ints2, nE, wipeE, unw, frO, q_addI, q_addL, q_addT, q_addS, q_sub, q_div, q_mod, q_pow, q_neg, q_cm, pIs, pIsn, q_isN, q_isI, q_isS, q_isT, q_isL, q_isB, q_lenL, q_lenT, pTup, pLst, q_tupL, q_tupT, q_lstL, q_lstT, q_revL, q_slL, q_slT, q_shL, q_shT, q_sqL, q_sqT, q_intI, q_max2, q_min2, q_aII, q_aBI, q_aTI, q_aTT, q_aLL, q_aTL, q_aIT, q3, e7]⟩)
      obtain ⟨y, o8, r8, p8, e8⟩ := drawA_lit (mi := 2) 2 p6 (by decide) (by decide) rfl
      have c1 : ((k : Int) + 1 - 1) = k := by omega
      have c2 : ((a - 1 : Nat) : Int) ≤ 1000000000 ∧ (-1000000000 : Int) ≤ ((a - 1 : Nat) : Int) := by omega
      have c3 : 1 + ps.length ≤ 1000000 := by omega
      have c5 : ps.length + 1 ≤ 1000000 := by omega
      have c6 : 1 + (ps.length + 1) ≤ 1000000 := by omega
      have c4 : k + 1 < 1000000 := by omega
      have hok : ∀ x ∈ k :: ps, x < t.length := fun x hx => by
        rcases List.mem_cons.mp hx with z | z
        · omega
        · exact r6 x z
      by_cases zy : y = 0
      · subst zy
        refine ⟨(o8, t ++ [(op, k :: ps)]), ⟨p8, q2.snoc ⟨by rw [ga]; simp [l6]; omega, hok⟩, by simp [q3]⟩, ?_⟩
        simp [L1__law_chain, q_mulAI, q_mulAL, a_wb, q_divW, Function.comp_def, q_starI, q_starIT, a_wp, a_fz, a_fz0, a_fz1, a_ext, a_ins, a_insA, a_pop, a_parN, a_evO0, a_evO1, a_setO0, a_setO1, a_ix2, a_setII, a_zN, a_zC, a_lcO, d_oo, pEq_int, pNe_int, pIxL, pIxT, atI_nat, atI_0, atI_1, atI_2, atI_3, atI_m1, cutLo, cutHi, cutLo1, cutHi1, a_seq, a_ifS, a_B, a_op, a_ov, a_ev0, a_evv, a_evs, a_C, a_V, a_M, a_set, a_setI, a_app, a_ret, a_ex, a_skip, a_no, a_not, a_andT, a_orT, a_and, a_or, a_notV, a_if, a_par, a_call, a_forS, a_sq, a_r1, a_r2, a_en, a_zp, a_asT, a_chI, a_yes, a_lc, a_fn, okA, f_fr, bkA, rsvs, rsv, dvs, on1, on2, d_fr, d_ol, rsO, ndS, sl, putB, asT, setAll, ofO, Dy.ints1, Dy.ints2, nE, wipeE, unw, frO, q_addI, q_addL, q_addT, q_addS, q_sub, q_div, q_mod, q_pow, q_neg, q_cm, pIs, pIsn, q_isN, q_isI, q_isS, q_isT, q_isL, q_isB, q_lenL, q_lenT, pTup, pLst, q_tupL, q_tupT, q_lstL, q_lstT, q_revL, q_slL, q_slT, q_shL, q_shT, q_sqL, q_sqT, q_intI, q_max2, q_min2, q_aII, q_aBI, q_aTI, q_aTT, q_aLL, q_aTL, q_aIT, e4, q3, c1, ga, c0, c2, e6, c3, c4, c5, c6, e8, encN]
      · have zi : ¬ (y : Int) = 0 := by omega
        refine ⟨(o8, t ++ [(op, (k :: ps).reverse)]), ⟨p8, q2.snoc ⟨by rw [ga]; simp [l6]; omega, fun x hx => hok x (List.mem_reverse.mp hx)⟩, by simp [q3]⟩, ?_⟩
        simp [L1__law_chain, q_mulAI, q_mulAL, a_wb, q_divW, Function.comp_def, q_starI, q_starIT, a_wp, a_fz, a_fz0, a_fz1, a_ext, a_ins, a_insA, a_pop, a_parN, a_evO0, a_evO1, a_setO0, a_setO1, a_ix2, a_setII, a_zN, a_zC, a_lcO, d_oo, pEq_int, pNe_int, pIxL, pIxT, atI_nat, atI_0, atI_1, atI_2, atI_3, atI_m1, cutLo, cutHi, cutLo1, cutHi1, a_seq, a_ifS, a_B, a_op, a_ov, a_ev0, a_evv, a_evs, a_C, a_V, a_M, a_set, a_setI, a_app, a_ret, a_ex, a_skip, a_no, a_not, a_andT, a_orT, a_and, a_or, a_notV, a_if, a_par, a_call, a_forS, a_sq, a_r1, a_r2, a_en, a_zp, a_asT, a_chI, a_yes, a_lc, a_fn, okA, f_fr, bkA, rsvs, rsv, dvs, on1, on2, d_fr, d_ol, rsO, ndS, sl, putB, asT, setAll, ofO, Dy.ints1, Dy.ints2, nE, wipeE, unw, frO, q_addI, q_addL, q_addT, q_addS, q_sub, q_div, q_mod, q_pow, q_neg, q_cm, pIs, pIsn, q_isN, q_isI, q_isS, q_isT, q_isL, q_isB, q_lenL, q_lenT, pTup, pLst, q_tupL, q_tupT, q_lstL, q_lstT, q_revL, q_slL, q_slT, q_shL, q_shT, q_sqL, q_sqT, q_intI, q_max2, q_min2, q_aII, q_aBI, q_aTI, q_aTT, q_aLL, q_aTL, q_aIT, e4, q3, c1, ga, c0, c2, e6, c3, c4, c5, c6, e8, zi, zy, encN])
  have c2 : (q : Int) ≤ 1000000000 ∧ (-1000000000 : Int) ≤ q := by omega
  refine ⟨s.2, s.1, ⟨w3, fun z => by rw [z] at l3; simp at l3, by omega⟩, by omega, p3, ?_⟩
  dsimp only [List.map, encN] at e5
  have pi0 : pInt (.bool false) = some (.fr (.int 0)) := rfl
  have pi1 : pInt (.bool true) = some (.fr (.int 1)) := rfl
  by_cases z : M = []
  · subst z
    simp only [List.map_nil, List.isEmpty_nil, Bool.not_true, if_pos] at e1 e3 e4 e5
    simp [M__law_chain, b__law_chain, a_wb, q_divW, Function.comp_def, q_starI, q_starIT, a_wp, a_fz, a_fz0, a_fz1, a_ext, a_ins, a_insA, a_pop, a_parN, a_evO0, a_evO1, a_setO0, a_setO1, a_ix2, a_setII, a_zN, a_zC, a_lcO, d_oo, pEq_int, pNe_int, pIxL, pIxT, atI_nat, atI_0, atI_1, atI_2, atI_3, atI_m1, cutLo, cutHi, cutLo1, cutHi1, a_seq, a_ifS, a_B, a_op, a_ov, a_ev0, a_evv, a_evs, a_C, a_V, a_M, a_set, a_setI, a_app, a_ret, a_ex, a_skip, a_no, a_not, a_andT, a_orT, a_and, a_or, a_notV, a_if, a_par, a_call, a_forS, a_sq, a_r1, a_r2, a_en, a_zp, a_asT, a_chI, a_yes, a_lc, a_fn, okA, f_fr, bkA, rsvs, rsv, dvs, on1, on2, d_fr, d_ol, rsO, ndS, sl, putB, asT, setAll, ofO, Dy.ints1, Dy.ints2, nE, wipeE, unw, frO, q_addI, q_addL, q_addT, q_addS, q_sub, q_div, q_mod, q_pow, q_neg, q_cm, pIs, pIsn, q_isN, q_isI, q_isS, q_isT, q_isL, q_isB, q_lenL, q_lenT, pTup, pLst, q_tupL, q_tupT, q_lstL, q_lstT, q_revL, q_slL, q_slT, q_shL, q_shT, q_sqL, q_sqT, q_intI, q_max2, q_min2, q_aII, q_aBI, q_aTI, q_aTT, q_aLL, q_aTL, q_aIT, e0, e1, e2, e3, e4, c2, e5, pi0, pi1]
  · have : (M.map dN).isEmpty = false := by simpa using z
    rw [this] at e4 e3
    simp at e4
    simp [M__law_chain, b__law_chain, a_wb, q_divW, Function.comp_def, q_starI, q_starIT, a_wp, a_fz, a_fz0, a_fz1, a_ext, a_ins, a_insA, a_pop, a_parN, a_evO0, a_evO1, a_setO0, a_setO1, a_ix2, a_setII, a_zN, a_zC, a_lcO, d_oo, pEq_int, pNe_int, pIxL, pIxT, atI_nat, atI_0, atI_1, atI_2, atI_3, atI_m1, cutLo, cutHi, cutLo1, cutHi1, a_seq, a_ifS, a_B, a_op, a_ov, a_ev0, a_evv, a_evs, a_C, a_V, a_M, a_set, a_setI, a_app, a_ret, a_ex, a_skip, a_no, a_not, a_andT, a_orT, a_and, a_or, a_notV, a_if, a_par, a_call, a_forS, a_sq, a_r1, a_r2, a_en, a_zp, a_asT, a_chI, a_yes, a_lc, a_fn, okA, f_fr, bkA, rsvs, rsv, dvs, on1, on2, d_fr, d_ol, rsO, ndS, sl, putB, asT, setAll, ofO, Dy.ints1, Dy.ints2, nE, wipeE, unw, frO, q_addI, q_addL, q_addT, q_addS, q_sub, q_div, q_mod, q_pow, q_neg, q_cm, pIs, pIsn, q_isN, q_isI, q_isS, q_isT, q_isL, q_isB, q_lenL, q_lenT, pTup, pLst, q_tupL, q_tupT, q_lstL, q_lstT, q_revL, q_slL, q_slT, q_shL, q_shT, q_sqL, q_sqT, q_intI, q_max2, q_min2, q_aII, q_aBI, q_aTI, q_aTT, q_aLL, q_aTL, q_aIT, e0, e1, e2, e3, e4, c2, e5, z, pi0, pi1]
theorem some30 {o : O} {as : List Nat} (h : PenA o) (ha : ArOk as) (h0 : 0 ∈ as) :
    ∃ (ts : List (List Nd)) (o' : O), (∀ t ∈ ts, TrOk as t ∧ t.length ≤ 15) ∧ ts.length = 14 ∧ PenA o' ∧ M__law_some_trees [o, .fr (encA as)] = .ok (.ol (ts.map encT), [o', .fr (encA as)]) := by
  obtain ⟨t1, o1, p1, l1, r1, e1⟩ := lc_r (vs := [3]) (t := .nm 3) (elt := E1__law_some_trees) encT (fun o => V__law_some_trees (pen := some o) (arities := fr (encA as))) (fun _ o => PenA o) (fun t => TrOk as t ∧ t.length ≤ 15) 8 h (by omega) (fun j o hj hp => by
    obtain ⟨x, o7, r7, p7, e7⟩ := drawA_lit (mi := 4) 4 hp (by decide) (by decide) rfl
    obtain ⟨d, o8, d1, p8, e8⟩ := nested30 ha h0 20 x p7 (by omega) r7
    obtain ⟨t, ht, tl, et⟩ := written30 ha (x + 1) d1 (by omega) 20 (by omega)
    have : 2 ^ (x + 1) ≤ 2 ^ 4 := Nat.pow_le_pow_right (by decide) (by omega)
    have cc : 1 + (x : Int) = (x : Int) + 1 := by omega
    exact ⟨t, o8, p8, ⟨ht, by omega⟩, by simp [E1__law_some_trees, q_mulAI, q_mulAL, a_wb, q_divW, Function.comp_def, q_starI, q_starIT, a_wp, a_fz, a_fz0, a_fz1, a_ext, a_ins, a_insA, a_pop, a_parN, a_evO0, a_evO1, a_setO0, a_setO1, a_ix2, a_setII, a_zN, a_zC, a_lcO, d_oo, pEq_int, pNe_int, pIxL, pIxT, atI_nat, atI_0, atI_1, atI_2, atI_3, atI_m1, cutLo, cutHi, cutLo1, cutHi1, a_seq, a_ifS, a_B, a_op, a_ov, a_ev0, a_evv, a_evs, a_C, a_V, a_M, a_set, a_setI, a_app, a_ret, a_ex, a_skip, a_no, a_not, a_andT, a_orT, a_and, a_or, a_notV, a_if, a_par, a_call, a_forS, a_sq, a_r1, a_r2, a_en, a_zp, a_asT, a_chI, a_yes, a_lc, a_fn, okA, f_fr, bkA, rsvs, rsv, dvs, on1, on2, d_fr, d_ol, rsO, ndS, sl, putB, asT, setAll, ofO, Dy.ints1, Dy.ints2, nE, wipeE, unw, frO, q_addI, q_addL, q_addT, q_addS, q_sub, q_div, q_mod, q_pow, q_neg, q_cm, pIs, pIsn, q_isN, q_isI, q_isS, q_isT, q_isL, q_isB, q_lenL, q_lenT, pTup, pLst, q_tupL, q_tupT, q_lstL, q_lstT, q_revL, q_slL, q_slT, q_shL, q_shT, q_sqL, q_sqT, q_intI, q_max2, q_min2, q_aII, q_aBI, q_aTI, q_aTT, q_aLL, q_aTL, q_aIT, e7, cc, e8, et]⟩)
  obtain ⟨t2, o2, p2, l2, r2, e2⟩ := lc_r (vs := [3]) (t := .nm 3) (elt := E2__law_some_trees) encT (fun o => V__law_some_trees (pen := some o) (arities := fr (encA as)) (found := fr (.list (t1.map encT)))) (fun _ o => PenA o) (fun t => TrOk as t ∧ t.length ≤ 15) 6 p1 (by omega) (fun j o hj hp => by
    obtain ⟨x, o7, r7, p7, e7⟩ := drawA_lit (mi := 7) 7 hp (by decide) (by decide) rfl
    obtain ⟨t, o8, ht, tl, p8, e8⟩ := chain30 (mi := 1 + (x : Int)) (1 + x) p7 ha h0 (by omega) (by omega)
    exact ⟨t, o8, p8, ⟨ht, by omega⟩, by simp [E2__law_some_trees, q_mulAI, q_mulAL, a_wb, q_divW, Function.comp_def, q_starI, q_starIT, a_wp, a_fz, a_fz0, a_fz1, a_ext, a_ins, a_insA, a_pop, a_parN, a_evO0, a_evO1, a_setO0, a_setO1, a_ix2, a_setII, a_zN, a_zC, a_lcO, d_oo, pEq_int, pNe_int, pIxL, pIxT, atI_nat, atI_0, atI_1, atI_2, atI_3, atI_m1, cutLo, cutHi, cutLo1, cutHi1, a_seq, a_ifS, a_B, a_op, a_ov, a_ev0, a_evv, a_evs, a_C, a_V, a_M, a_set, a_setI, a_app, a_ret, a_ex, a_skip, a_no, a_not, a_andT, a_orT, a_and, a_or, a_notV, a_if, a_par, a_call, a_forS, a_sq, a_r1, a_r2, a_en, a_zp, a_asT, a_chI, a_yes, a_lc, a_fn, okA, f_fr, bkA, rsvs, rsv, dvs, on1, on2, d_fr, d_ol, rsO, ndS, sl, putB, asT, setAll, ofO, Dy.ints1, Dy.ints2, nE, wipeE, unw, frO, q_addI, q_addL, q_addT, q_addS, q_sub, q_div, q_mod, q_pow, q_neg, q_cm, pIs, pIsn, q_isN, q_isI, q_isS, q_isT, q_isL, q_isB, q_lenL, q_lenT, pTup, pLst, q_tupL, q_tupT, q_lstL, q_lstT, q_revL, q_slL, q_slT, q_shL, q_shT, q_sqL, q_sqT, q_intI, q_max2, q_min2, q_aII, q_aBI, q_aTI, q_aTT, q_aLL, q_aTL, q_aIT, e7, e8]⟩)
  refine ⟨t1 ++ t2, o2, fun t ht => ?_, by simp [l1, l2], p2, ?_⟩
  · rcases List.mem_append.mp ht with z | z
    · exact r1 t z
    · exact r2 t z
  · simp [M__law_some_trees, b__law_some_trees, q_mulAI, q_mulAL, a_wb, q_divW, Function.comp_def, q_starI, q_starIT, a_wp, a_fz, a_fz0, a_fz1, a_ext, a_ins, a_insA, a_pop, a_parN, a_evO0, a_evO1, a_setO0, a_setO1, a_ix2, a_setII, a_zN, a_zC, a_lcO, d_oo, pEq_int, pNe_int, pIxL, pIxT, atI_nat, atI_0, atI_1, atI_2, atI_3, atI_m1, cutLo, cutHi, cutLo1, cutHi1, a_seq, a_ifS, a_B, a_op, a_ov, a_ev0, a_evv, a_evs, a_C, a_V, a_M, a_set, a_setI, a_app, a_ret, a_ex, a_skip, a_no, a_not, a_andT, a_orT, a_and, a_or, a_notV, a_if, a_par, a_call, a_forS, a_sq, a_r1, a_r2, a_en, a_zp, a_asT, a_chI, a_yes, a_lc, a_fn, okA, f_fr, bkA, rsvs, rsv, dvs, on1, on2, d_fr, d_ol, rsO, ndS, sl, putB, asT, setAll, ofO, Dy.ints1, Dy.ints2, nE, wipeE, unw, frO, q_addI, q_addL, q_addT, q_addS, q_sub, q_div, q_mod, q_pow, q_neg, q_cm, pIs, pIsn, q_isN, q_isI, q_isS, q_isT, q_isL, q_isB, q_lenL, q_lenT, pTup, pLst, q_tupL, q_tupT, q_lstL, q_lstT, q_revL, q_slL, q_slT, q_shL, q_shT, q_sqL, q_sqT, q_intI, q_max2, q_min2, q_aII, q_aBI, q_aTI, q_aTT, q_aLL, q_aTL, q_aIT, e1, e2, l1, l2]
end Q
namespace Q
open PySem Dy
def chkA30 (as : List Nat) : Res (O × List O) → Bool
  | .ok (.fr (.list L), _) => decide (L.length ≤ 100) && L.all fun d => wrD (as.map dN) d && decide (sz d ≤ 16)
  | _ => false
def gdB (d : PyData) : Bool := gd 25 d && decide (d.depth ≤ 4) && decide (sz d ≤ 30)
def isD0 : PyData → Bool
  | .dict [] => true
  | _ => false
def chkN30 : Res (O × List O) → Bool
  | .ok (.ol L, _) => decide (L.length ≤ 100) && L.all fun d => gdB d || isD0 d
  | _ => false
theorem all_a30 : ars30.all (fun as => chkA30 as (M__law_all_trees [.fr (encA as), .fr (.int 4)])) = true := by decide +kernel
theorem all_n30 : ars30.all (fun as => chkN30 (M__law_no_trees [.fr (encA as)])) = true := by decide +kernel
end Q
namespace Q
open PySem Dy
open L2 (atI ixN)
theorem bkA_nil {e : Dy.Env} : ∀ (os : List O) (k : Nat), bkA [] e k os = some os
  | [], _ => rfl
  | o :: os, k => by
    unfold bkA
    rw [bkA_nil os (k + 1)]
    rfl
theorem fn_back {n N : Nat} {body : SF} {os os' : List O} {o : O} (h : fnM n N [] body os = .ok (o, os')) : os' = os := by
  unfold fnM at h
  split at h
  · cases q : body (os.map some ++ List.replicate (N - n) none) with
    | no => rw [q] at h; cases h
    | er x => rw [q] at h; cases h
    | ok r =>
      rw [q, bind_ok] at h
      simp only [bkA_nil] at h
      split at h
      · cases h; rfl
      · cases h; rfl
      · cases h
  · cases h
theorem allt30 {as : List Nat} (h : as ∈ ars30) : ∃ ts : List (List Nd), (∀ t ∈ ts, TrOk as t ∧ t.length ≤ 15) ∧ ts.length ≤ 100 ∧ M__law_all_trees [.fr (encA as), .fr (.int 4)] = .ok (.fr (.list (ts.map encT)), [.fr (encA as), .fr (.int 4)]) := by
  have c := List.all_eq_true.mp all_a30 as h
  generalize hr : M__law_all_trees [.fr (encA as), .fr (.int 4)] = r at *
  unfold chkA30 at c
  split at c
  · rename_i L os
    have e := fn_back (n := 2) (body := b__law_all_trees) hr
    subst e
    simp only [Bool.and_eq_true, decide_eq_true_eq, List.all_eq_true] at c
    obtain ⟨c1, c2⟩ := c
    have ex : ∀ d ∈ L, ∃ t, (TrOk as t ∧ t.length ≤ 15) ∧ encT t = d := fun d hd => by
      obtain ⟨t, e, ht⟩ := wrD_dec2 (c2 d hd).1
      have s := (c2 d hd).2
      subst e
      have s2 := szs_nd t
      have s3 : szs (t.map encN) + 1 ≤ 16 := s
      exact ⟨t, ⟨ht (by omega), by omega⟩, rfl⟩
    obtain ⟨qs, h1, h2⟩ := choose_list (P := fun d t => (TrOk as t ∧ t.length ≤ 15) ∧ encT t = d) ex
    have h3 : (qs.map Prod.snd).map encT = L := by
      rw [← h1, List.map_map]
      exact List.map_congr_left fun q hq => (h2 q hq).2
    refine ⟨qs.map Prod.snd, fun t ht => ?_, ?_, by rw [h3]⟩
    · obtain ⟨q, hq, rfl⟩ := List.mem_map.mp ht
      exact (h2 q hq).1
    · rw [← h1] at c1
      simpa using c1
  · cases c
theorem not30 {as : List Nat} (h : as ∈ ars30) : ∃ L : List PyData, (∀ d ∈ L, Gd 25 4 30 d ∨ d = .dict []) ∧ L.length ≤ 100 ∧ M__law_no_trees [.fr (encA as)] = .ok (.ol L, [.fr (encA as)]) := by
  have c := List.all_eq_true.mp all_n30 as h
  generalize hr : M__law_no_trees [.fr (encA as)] = r at *
  unfold chkN30 at c
  split at c
  · rename_i L os
    have e := fn_back (n := 1) (body := b__law_no_trees) hr
    subst e
    simp only [Bool.and_eq_true, decide_eq_true_eq, List.all_eq_true, Bool.or_eq_true] at c
    obtain ⟨c1, c2⟩ := c
    refine ⟨L, fun d hd => ?_, c1, rfl⟩
    rcases c2 d hd with z | z
    · unfold gdB at z
      simp only [Bool.and_eq_true, decide_eq_true_eq] at z
      exact .inl ⟨z.1.1, z.1.2, z.2⟩
    · right
      unfold isD0 at z
      split at z
      · rfl
      · cases z
  · cases c
theorem gdT15 {as : List Nat} {t : List Nd} (ha : ArOk as) (h : TrOk as t) (hl : t.length ≤ 15) : Gd 25 2 61 (encT t) := by
  have hn : ∀ n ∈ t, Gd 25 1 4 (encN n) := fun n hn => gdN ha (h.wf.mem hn) (by omega)
  have s1 := szs_le encN 4 t fun n h => (hn n h).sz
  refine Gd.tupI (n := 1) (m := 60) (fun d hd => ?_) (by omega)
  obtain ⟨n, hm, rfl⟩ := List.mem_map.mp hd
  exact ⟨(hn n hm).gd, (hn n hm).dep⟩
def Th30 (d : PyData) : Prop := Gd 25 4 200 d ∨ d = .dict []
theorem th30_of {n m : Nat} {d : PyData} (h : Gd 25 n m d) (hn : n ≤ 4) (hm : m ≤ 200) : Th30 d := .inl (h.mono (by decide) hn hm)
theorem swap30 {xs : List PyData} {k : Nat} {zs : List PyData} (h : Gd 25 2 61 (.tuple xs)) (hz : ∀ d ∈ zs, gd 25 d = true ∧ d.depth ≤ 3) (h2 : szs zs ≤ 20) : Th30 (.tuple (xs.take k ++ zs ++ xs.drop (k + 1))) := by
  obtain ⟨a1, a2⟩ := h.tupE
  have hx : ∀ d ∈ xs, gd 25 d = true ∧ d.depth ≤ 3 := fun d hd => ⟨(a1 d hd).1, by have := (a1 d hd).2; omega⟩
  refine th30_of (n := 4) (m := 150) (Gd.tupI (n := 3) (fun d hd => ?_) ?_) (by decide) (by decide)
  · rcases List.mem_append.mp hd with hd | hd
    · rcases List.mem_append.mp hd with hd | hd
      · exact hx d (List.mem_of_mem_take hd)
      · exact hz d hd
    · exact hx d (List.mem_of_mem_drop hd)
  · rw [szs_app, szs_app]
    have q1 := szs_sub (List.take_sublist k xs)
    have q2 := szs_sub (List.drop_sublist (k + 1) xs)
    omega
theorem encN_at {t : List Nd} {k : Nat} {n : Nd} (h : t[k]? = some n) : (t.map encN)[k]? = some (encN n) := by simp [h]
theorem fnP2_rt {N : Nat} {b : SF} {o o' r : O} {d : PyData} {e : Dy.Env} (h : b (some o :: some (.fr d) :: List.replicate N none) = .ok (.rt r, some o' :: e)) : fnM 2 (N + 2) [0] b [o, .fr d] = .ok (r, [o', .fr d]) := by
  show (b (some o :: some (.fr d) :: List.replicate (N + 2 - 2) none) >>= fun r => match bkA [0] r.2 0 [o, .fr d] with | none => .no | some os' => match r.1 with | .rt o => .ok (o, os') | .nx => .ok (.fr .none, os') | _ => .no) = _
  rw [show N + 2 - 2 = N from rfl, h]; rfl
theorem nx_tr {a b : SF} {e e' : Dy.Env} {r : Res (Fl × Dy.Env)} (h : a e = .ok (.nx, e')) (k : b e' = r) : fSeq a b e = r := (seq_nx h).trans k
theorem things30 {o : O} {m : Mach} {as : List Nat} (hp : PenA o) (hm : MOk m) (ea : m.ar = as) (has : as ∈ ars30) :
    ∃ (L : List PyData) (o' : O), (∀ d ∈ L, Th30 d) ∧ L.length ≤ 1000 ∧ PenA o' ∧ M__law_things_4 [o, .fr (encM m)] = .ok (.ol L, [o', .fr (encM m)]) := by
  obtain ⟨ha, h0, _⟩ := ars_ok has
  obtain ⟨ts, o1, r1, l1, p1, e1⟩ := some30 hp ha h0
  obtain ⟨us, r2, l2, e2⟩ := allt30 has
  obtain ⟨ns, r3, l3, e3⟩ := not30 has
  have hall : ∀ t ∈ ts ++ us, TrOk as t ∧ t.length ≤ 15 := fun t ht => (List.mem_append.mp ht).elim (r1 t) (r2 t)
  have hne : (ts ++ us).map encT ≠ [] := by
    intro z
    have := congrArg List.length z
    rw [List.length_map, List.length_append, List.length_nil] at this
    omega
  obtain ⟨w, o2, mw, p2, e4⟩ := pickA (xs := (ts ++ us).map encT) p1 hne (by simp; omega)
  obtain ⟨t, ht, rfl⟩ := List.mem_map.mp mw
  obtain ⟨htr, htl⟩ := hall t ht
  have tne := List.length_pos_iff.mpr htr.ne
  obtain ⟨k, o3, k1, p3, e5⟩ := drawA_upto p2 t.length tne (by omega)
  obtain ⟨n, hn, hnm⟩ := get_of_lt k1
  have hnd := gdN ha (htr.wf.mem hnm) (by omega)
  have g := gdT15 ha htr htl
  have hen := encN_at hn
  have ix : pIx (encM m) (.int 0) = some (.fr (encA as)) := by rw [← ea]; rfl
  have fin : ∀ d ∈ (ts ++ us).map encT, Th30 d := fun d hd => by
    obtain ⟨u, hu, rfl⟩ := List.mem_map.mp hd
    obtain ⟨q1, q2⟩ := hall u hu
    exact th30_of (gdT15 ha q1 q2) (by decide) (by decide)
  have hxs : ∃ xs, xs = t.map encN := ⟨_, rfl⟩
  obtain ⟨xs, hxs⟩ := hxs
  have ew : encT t = .tuple xs := by rw [hxs]
  have hxl : xs.length = t.length := by rw [hxs]; simp
  have hxk : xs[k]? = some (encN n) := by rw [hxs]; exact hen
  obtain ⟨ws, hws⟩ : ∃ ws, encN n = .tuple ws := ⟨_, rfl⟩
  rw [ew] at e4 g
  rw [hws] at hxk hnd
  have hwl : ws.length ≤ 3 := by have := hnd.len; omega
  obtain ⟨b1, b2⟩ := hnd.tupE
  have hc1 : (ts ++ us).length ≤ 200 := by simp; omega
  obtain ⟨a1, a2⟩ := g.tupE
  have hx : ∀ d ∈ xs, gd 25 d = true ∧ d.depth ≤ 3 := fun d hd => ⟨(a1 d hd).1, by have := (a1 d hd).2; omega⟩
  have hw : ∀ d ∈ ws, gd 25 d = true ∧ d.depth ≤ 2 := fun d hd => ⟨(b1 d hd).1, by have := (b1 d hd).2; omega⟩
  have t1 : Th30 (.list xs) := by
    refine th30_of (n := 4) (m := 150) (Gd.lstI (n := 3) hx (by omega)) (by decide) (by decide)
  have t2 : Th30 (.tuple xs.reverse) := by
    refine th30_of (n := 4) (m := 150) (Gd.tupI (n := 3) (fun d hd => hx d (List.mem_reverse.mp hd)) ?_) (by decide) (by decide)
    rw [szs_sum, List.map_reverse, List.sum_reverse, ← szs_sum]; omega
  have t3 : Th30 (.tuple (xs ++ xs.take 1)) := by
    refine th30_of (n := 4) (m := 150) (Gd.tupI (n := 3) (fun d hd => ?_) ?_) (by decide) (by decide)
    · rcases List.mem_append.mp hd with hd | hd
      · exact hx d hd
      · exact hx d (List.mem_of_mem_take hd)
    · rw [szs_app]
      have q1 := szs_sub (List.take_sublist 1 xs)
      omega
  have t4 : Th30 (.tuple (xs.drop 1)) := by
    refine th30_of (n := 4) (m := 150) (Gd.tupI (n := 3) (fun d hd => hx d (List.mem_of_mem_drop hd)) ?_) (by decide) (by decide)
    have q1 := szs_sub (List.drop_sublist 1 xs)
    omega
  have t5 : Th30 (.tuple [.tuple xs]) := by
    refine th30_of (n := 3) (m := 150) (Gd.tupI (n := 2) (fun d hd => ?_) ?_) (by decide) (by decide)
    · rw [List.mem_singleton] at hd; subst hd; exact ⟨g.gd, g.dep⟩
    · have := g.sz; simp [szs]; omega
  have t6 : Th30 (.tuple (xs.take k ++ [.list ws] ++ xs.drop (k + 1))) := swap30 g (fun d hd => by
    rw [List.mem_singleton] at hd; subst hd
    have q := Gd.lstI (n := 2) (m := 19) hw (by omega)
    exact ⟨q.gd, q.dep⟩) (by simp [szs, sz]; omega)
  have t7 : Th30 (.tuple (xs.take k ++ [.tuple (ws ++ [.int 0])] ++ xs.drop (k + 1))) := swap30 g (fun d hd => by
    rw [List.mem_singleton] at hd; subst hd
    have q := Gd.tupI (B := 25) (n := 2) (m := 19) (xs := ws ++ [.int 0]) (fun d hd => (List.mem_append.mp hd).elim (hw d) fun z => by
      rw [List.mem_singleton] at z; subst z; exact ⟨rfl, by simp [PyData.depth]⟩) (by rw [szs_app]; simp [szs, sz]; omega)
    exact ⟨q.gd, q.dep⟩) (by simp [szs, sz, szs_app]; omega)
  have cs := cut_sub ws none (some (-1))
  have t8 : Th30 (.tuple (xs.take k ++ [.tuple (cutD ws none (some (-1)))] ++ xs.drop (k + 1))) := swap30 g (fun d hd => by
    rw [List.mem_singleton] at hd; subst hd
    have q := Gd.tupI (B := 25) (n := 2) (m := 19) (xs := cutD ws none (some (-1))) (fun d hd => hw d (cs.subset hd)) (by have := szs_sub cs; omega)
    exact ⟨q.gd, q.dep⟩) (by have := szs_sub cs; simp [szs, sz]; omega)
  have t9 : Th30 (.tuple (xs.take k ++ xs.drop (k + 1))) := by
    have := swap30 (k := k) (zs := []) g (by simp) (by simp [szs])
    simpa using this
  have c1 : ts.length + us.length ≤ 1000000 := by omega
  have c2 : ts.length + (us.length + ns.length) ≤ 1000000 := by omega
  have c2' : ts.length + us.length + ns.length ≤ 1000000 := by omega
  have c3 : ts.length + (us.length + ns.length) ≤ 999996 := by omega
  have c4 : ts.length + (us.length + (ns.length + 4)) < 1000000 := by omega
  have c5 : ts.length + (us.length + (ns.length + 5)) < 1000000 := by omega
  have c6 : ts.length + (us.length + (ns.length + 6)) < 1000000 := by omega
  have c7 : ts.length + (us.length + (ns.length + 7)) ≤ 999998 := by omega
  have d1 : xs.length + min 1 xs.length ≤ 1000000 := by omega
  have d2 : min k xs.length + 1 ≤ 1000000 := by omega
  have d3 : min k xs.length + 1 + (xs.length - (k + 1)) ≤ 1000000 := by omega
  have d4 : min k xs.length + (xs.length - (k + 1)) ≤ 1000000 := by omega
  have d5 : ws.length + 1 ≤ 1000000 := by omega
  have kk : ((k : Int) + 1) = ((k + 1 : Nat) : Int) := by omega
  have xl : t.length = xs.length := hxl.symm
  rw [xl] at e5
  simp only [List.map_append] at e4
  refine ⟨((ts ++ us).map encT ++ ns ++ [.list xs, .tuple xs.reverse, .tuple (xs ++ xs.take 1), .tuple (xs.drop 1)]) ++ [.tuple [.tuple xs]] ++ [.tuple (xs.take k ++ [.list ws] ++ xs.drop (k + 1))] ++ [.tuple (xs.take k ++ [.tuple (ws ++ [.int 0])] ++ xs.drop (k + 1))] ++ [.tuple (xs.take k ++ [.tuple (cutD ws none (some (-1)))] ++ xs.drop (k + 1)), .tuple (xs.take k ++ xs.drop (k + 1))], o3, fun d hd => ?_, by simp; omega, p3, ?_⟩
  · have z0 : ∀ d ∈ ([] : List PyData), Th30 d := fun d h => nomatch h
    have fa : ∀ {xs ys : List PyData}, (∀ d ∈ xs, Th30 d) → (∀ d ∈ ys, Th30 d) → ∀ d ∈ xs ++ ys, Th30 d := fun h1 h2 d h => (List.mem_append.mp h).elim (h1 d) (h2 d)
    have fc : ∀ {x : PyData} {ys : List PyData}, Th30 x → (∀ d ∈ ys, Th30 d) → ∀ d ∈ x :: ys, Th30 d := fun h1 h2 d h => (List.mem_cons.mp h).elim (fun e => e ▸ h1) (h2 d)
    have fn : ∀ d ∈ ns, Th30 d := fun d h => (r3 d h).elim (fun z => th30_of z (by decide) (by decide)) .inr
    exact fa (fa (fa (fa (fa (fa fin fn) (fc t1 (fc t2 (fc t3 (fc t4 z0))))) (fc t5 z0)) (fc t6 z0)) (fc t7 z0)) (fc t8 (fc t9 z0)) d hd
  · obtain ⟨A, hA⟩ : ∃ A, A = (ts ++ us).map encT := ⟨_, rfl⟩
    have hAl : A.length ≤ 200 := by rw [hA]; simp; omega
    have eA : List.map encT ts ++ List.map encT us = A := by rw [hA, List.map_append]
    rw [eA] at e4
    rw [← hA]
    have n1 : A.length + ns.length ≤ 1000000 := by omega
    have n2 : A.length + ns.length + 4 ≤ 1000000 := by omega
    have n2' : A.length + (ns.length + 4) ≤ 1000000 := by omega
    have n3 : A.length + (ns.length + 4) < 1000000 := by omega
    have n4 : A.length + (ns.length + 5) < 1000000 := by omega
    have n5 : A.length + (ns.length + 6) < 1000000 := by omega
    have n6 : A.length + (ns.length + 7) ≤ 999998 := by omega
    have hD : xs.drop 1 = xs.tail := by simp
    have ck : cutD xs (some ((k : Int) + 1)) none = xs.drop (k + 1) := by
      rw [show (k : Int) + 1 = ((k + 1 : Nat) : Int) from by omega]
      exact cutLo _ _
    rw [hD]
    refine fnP2_rt (e := [fr (encM m), fr (.list A), fr (.tuple xs), fr (dN k), ol (A ++ ns ++ [.list xs, .tuple xs.reverse, .tuple (xs ++ xs.take 1), .tuple xs.tail] ++ [.tuple [.tuple xs]] ++ [.tuple (xs.take k ++ [.list ws] ++ xs.drop (k + 1))] ++ [.tuple (xs.take k ++ [.tuple (ws ++ [.int 0])] ++ xs.drop (k + 1))])]) ?_
    refine nx_tr (e' := V__law_things_4 (pen := some o1) (made := fr (encM m)) (some_ := fr (.list A))) (by simp [q_mulAI, q_mulAL, a_wb, q_divW, Function.comp_def, q_starI, q_starIT, a_wp, a_fz, a_fz0, a_fz1, a_ext, a_ins, a_insA, a_pop, a_parN, a_evO0, a_evO1, a_setO0, a_setO1, a_ix2, a_setII, a_zN, a_zC, a_lcO, d_oo, pEq_int, pNe_int, pIxL, pIxT, atI_nat, atI_0, atI_1, atI_2, atI_3, atI_m1, cutLo, cutHi, cutLo1, cutHi1, a_seq, a_ifS, a_B, a_op, a_ov, a_ev0, a_evv, a_evs, a_C, a_V, a_M, a_set, a_setI, a_app, a_ret, a_ex, a_skip, a_no, a_not, a_andT, a_orT, a_and, a_or, a_notV, a_if, a_par, a_call, a_forS, a_sq, a_r1, a_r2, a_en, a_zp, a_asT, a_chI, a_yes, a_lc, a_fn, okA, f_fr, bkA, rsvs, rsv, dvs, on1, on2, d_fr, d_ol, rsO, ndS, sl, putB, asT, setAll, ofO, Dy.ints1, Dy.ints2, nE, wipeE, unw, frO, q_addI, q_addL, q_addT, q_addS, q_sub, q_div, q_mod, q_pow, q_neg, q_cm, pIs, pIsn, q_isN, q_isI, q_isS, q_isT, q_isL, q_isB, q_lenL, q_lenT, pTup, pLst, q_tupL, q_tupT, q_lstL, q_lstT, q_revL, q_slL, q_slT, q_shL, q_shT, q_sqL, q_sqT, q_intI, q_max2, q_min2, q_aII, q_aBI, q_aTI, q_aTT, q_aLL, q_aTL, q_aIT, ix, e1, e2, c1, eA]) ?_
    refine nx_tr (e' := V__law_things_4 (pen := some o2) (made := fr (encM m)) (some_ := fr (.list A)) (written := fr (.tuple xs))) (by simp [q_mulAI, q_mulAL, a_wb, q_divW, Function.comp_def, q_starI, q_starIT, a_wp, a_fz, a_fz0, a_fz1, a_ext, a_ins, a_insA, a_pop, a_parN, a_evO0, a_evO1, a_setO0, a_setO1, a_ix2, a_setII, a_zN, a_zC, a_lcO, d_oo, pEq_int, pNe_int, pIxL, pIxT, atI_nat, atI_0, atI_1, atI_2, atI_3, atI_m1, cutLo, cutHi, cutLo1, cutHi1, a_seq, a_ifS, a_B, a_op, a_ov, a_ev0, a_evv, a_evs, a_C, a_V, a_M, a_set, a_setI, a_app, a_ret, a_ex, a_skip, a_no, a_not, a_andT, a_orT, a_and, a_or, a_notV, a_if, a_par, a_call, a_forS, a_sq, a_r1, a_r2, a_en, a_zp, a_asT, a_chI, a_yes, a_lc, a_fn, okA, f_fr, bkA, rsvs, rsv, dvs, on1, on2, d_fr, d_ol, rsO, ndS, sl, putB, asT, setAll, ofO, Dy.ints1, Dy.ints2, nE, wipeE, unw, frO, q_addI, q_addL, q_addT, q_addS, q_sub, q_div, q_mod, q_pow, q_neg, q_cm, pIs, pIsn, q_isN, q_isI, q_isS, q_isT, q_isL, q_isB, q_lenL, q_lenT, pTup, pLst, q_tupL, q_tupT, q_lstL, q_lstT, q_revL, q_slL, q_slT, q_shL, q_shT, q_sqL, q_sqT, q_intI, q_max2, q_min2, q_aII, q_aBI, q_aTI, q_aTT, q_aLL, q_aTL, q_aIT, e4]) ?_
    refine nx_tr (e' := V__law_things_4 (pen := some o3) (made := fr (encM m)) (some_ := fr (.list A)) (written := fr (.tuple xs)) (at_ := fr (dN k))) (by simp [q_mulAI, q_mulAL, a_wb, q_divW, Function.comp_def, q_starI, q_starIT, a_wp, a_fz, a_fz0, a_fz1, a_ext, a_ins, a_insA, a_pop, a_parN, a_evO0, a_evO1, a_setO0, a_setO1, a_ix2, a_setII, a_zN, a_zC, a_lcO, d_oo, pEq_int, pNe_int, pIxL, pIxT, atI_nat, atI_0, atI_1, atI_2, atI_3, atI_m1, cutLo, cutHi, cutLo1, cutHi1, a_seq, a_ifS, a_B, a_op, a_ov, a_ev0, a_evv, a_evs, a_C, a_V, a_M, a_set, a_setI, a_app, a_ret, a_ex, a_skip, a_no, a_not, a_andT, a_orT, a_and, a_or, a_notV, a_if, a_par, a_call, a_forS, a_sq, a_r1, a_r2, a_en, a_zp, a_asT, a_chI, a_yes, a_lc, a_fn, okA, f_fr, bkA, rsvs, rsv, dvs, on1, on2, d_fr, d_ol, rsO, ndS, sl, putB, asT, setAll, ofO, Dy.ints1, Dy.ints2, nE, wipeE, unw, frO, q_addI, q_addL, q_addT, q_addS, q_sub, q_div, q_mod, q_pow, q_neg, q_cm, pIs, pIsn, q_isN, q_isI, q_isS, q_isT, q_isL, q_isB, q_lenL, q_lenT, pTup, pLst, q_tupL, q_tupT, q_lstL, q_lstT, q_revL, q_slL, q_slT, q_shL, q_shT, q_sqL, q_sqT, q_intI, q_max2, q_min2, q_aII, q_aBI, q_aTI, q_aTT, q_aLL, q_aTL, q_aIT, e5]) ?_
    refine nx_tr (e' := V__law_things_4 (pen := some o3) (made := fr (encM m)) (some_ := fr (.list A)) (written := fr (.tuple xs)) (at_ := fr (dN k)) (found := ol (A ++ ns ++ [.list xs, .tuple xs.reverse, .tuple (xs ++ xs.take 1), .tuple xs.tail]))) (by simp [q_mulAI, q_mulAL, a_wb, q_divW, Function.comp_def, q_starI, q_starIT, a_wp, a_fz, a_fz0, a_fz1, a_ext, a_ins, a_insA, a_pop, a_parN, a_evO0, a_evO1, a_setO0, a_setO1, a_ix2, a_setII, a_zN, a_zC, a_lcO, d_oo, pEq_int, pNe_int, pIxL, pIxT, atI_nat, atI_0, atI_1, atI_2, atI_3, atI_m1, cutLo, cutHi, cutLo1, cutHi1, a_seq, a_ifS, a_B, a_op, a_ov, a_ev0, a_evv, a_evs, a_C, a_V, a_M, a_set, a_setI, a_app, a_ret, a_ex, a_skip, a_no, a_not, a_andT, a_orT, a_and, a_or, a_notV, a_if, a_par, a_call, a_forS, a_sq, a_r1, a_r2, a_en, a_zp, a_asT, a_chI, a_yes, a_lc, a_fn, okA, f_fr, bkA, rsvs, rsv, dvs, on1, on2, d_fr, d_ol, rsO, ndS, sl, putB, asT, setAll, ofO, Dy.ints1, Dy.ints2, nE, wipeE, unw, frO, q_addI, q_addL, q_addT, q_addS, q_sub, q_div, q_mod, q_pow, q_neg, q_cm, pIs, pIsn, q_isN, q_isI, q_isS, q_isT, q_isL, q_isB, q_lenL, q_lenT, pTup, pLst, q_tupL, q_tupT, q_lstL, q_lstT, q_revL, q_slL, q_slT, q_shL, q_shT, q_sqL, q_sqT, q_intI, q_max2, q_min2, q_aII, q_aBI, q_aTI, q_aTT, q_aLL, q_aTL, q_aIT, ix, e3, n1, n2, n2', d1, q_revAT]) ?_
    refine nx_tr (e' := V__law_things_4 (pen := some o3) (made := fr (encM m)) (some_ := fr (.list A)) (written := fr (.tuple xs)) (at_ := fr (dN k)) (found := ol (A ++ ns ++ [.list xs, .tuple xs.reverse, .tuple (xs ++ xs.take 1), .tuple xs.tail] ++ [.tuple [.tuple xs]]))) (by simp [q_mulAI, q_mulAL, a_wb, q_divW, Function.comp_def, q_starI, q_starIT, a_wp, a_fz, a_fz0, a_fz1, a_ext, a_ins, a_insA, a_pop, a_parN, a_evO0, a_evO1, a_setO0, a_setO1, a_ix2, a_setII, a_zN, a_zC, a_lcO, d_oo, pEq_int, pNe_int, pIxL, pIxT, atI_nat, atI_0, atI_1, atI_2, atI_3, atI_m1, cutLo, cutHi, cutLo1, cutHi1, a_seq, a_ifS, a_B, a_op, a_ov, a_ev0, a_evv, a_evs, a_C, a_V, a_M, a_set, a_setI, a_app, a_ret, a_ex, a_skip, a_no, a_not, a_andT, a_orT, a_and, a_or, a_notV, a_if, a_par, a_call, a_forS, a_sq, a_r1, a_r2, a_en, a_zp, a_asT, a_chI, a_yes, a_lc, a_fn, okA, f_fr, bkA, rsvs, rsv, dvs, on1, on2, d_fr, d_ol, rsO, ndS, sl, putB, asT, setAll, ofO, Dy.ints1, Dy.ints2, nE, wipeE, unw, frO, q_addI, q_addL, q_addT, q_addS, q_sub, q_div, q_mod, q_pow, q_neg, q_cm, pIs, pIsn, q_isN, q_isI, q_isS, q_isT, q_isL, q_isB, q_lenL, q_lenT, pTup, pLst, q_tupL, q_tupT, q_lstL, q_lstT, q_revL, q_slL, q_slT, q_shL, q_shT, q_sqL, q_sqT, q_intI, q_max2, q_min2, q_aII, q_aBI, q_aTI, q_aTT, q_aLL, q_aTL, q_aIT, n3]) ?_
    refine nx_tr (e' := V__law_things_4 (pen := some o3) (made := fr (encM m)) (some_ := fr (.list A)) (written := fr (.tuple xs)) (at_ := fr (dN k)) (found := ol (A ++ ns ++ [.list xs, .tuple xs.reverse, .tuple (xs ++ xs.take 1), .tuple xs.tail] ++ [.tuple [.tuple xs]] ++ [.tuple (xs.take k ++ [.list ws] ++ xs.drop (k + 1))]))) (by simp [q_mulAI, q_mulAL, a_wb, q_divW, Function.comp_def, q_starI, q_starIT, a_wp, a_fz, a_fz0, a_fz1, a_ext, a_ins, a_insA, a_pop, a_parN, a_evO0, a_evO1, a_setO0, a_setO1, a_ix2, a_setII, a_zN, a_zC, a_lcO, d_oo, pEq_int, pNe_int, pIxL, pIxT, atI_nat, atI_0, atI_1, atI_2, atI_3, atI_m1, cutLo, cutHi, cutLo1, cutHi1, a_seq, a_ifS, a_B, a_op, a_ov, a_ev0, a_evv, a_evs, a_C, a_V, a_M, a_set, a_setI, a_app, a_ret, a_ex, a_skip, a_no, a_not, a_andT, a_orT, a_and, a_or, a_notV, a_if, a_par, a_call, a_forS, a_sq, a_r1, a_r2, a_en, a_zp, a_asT, a_chI, a_yes, a_lc, a_fn, okA, f_fr, bkA, rsvs, rsv, dvs, on1, on2, d_fr, d_ol, rsO, ndS, sl, putB, asT, setAll, ofO, Dy.ints1, Dy.ints2, nE, wipeE, unw, frO, q_addI, q_addL, q_addT, q_addS, q_sub, q_div, q_mod, q_pow, q_neg, q_cm, pIs, pIsn, q_isN, q_isI, q_isS, q_isT, q_isL, q_isB, q_lenL, q_lenT, pTup, pLst, q_tupL, q_tupT, q_lstL, q_lstT, q_revL, q_slL, q_slT, q_shL, q_shT, q_sqL, q_sqT, q_intI, q_max2, q_min2, q_aII, q_aBI, q_aTI, q_aTT, q_aLL, q_aTL, q_aIT, n4, hxk, ck, d2, d3]) ?_
    refine nx_tr (e' := V__law_things_4 (pen := some o3) (made := fr (encM m)) (some_ := fr (.list A)) (written := fr (.tuple xs)) (at_ := fr (dN k)) (found := ol (A ++ ns ++ [.list xs, .tuple xs.reverse, .tuple (xs ++ xs.take 1), .tuple xs.tail] ++ [.tuple [.tuple xs]] ++ [.tuple (xs.take k ++ [.list ws] ++ xs.drop (k + 1))] ++ [.tuple (xs.take k ++ [.tuple (ws ++ [.int 0])] ++ xs.drop (k + 1))]))) (by simp [q_mulAI, q_mulAL, a_wb, q_divW, Function.comp_def, q_starI, q_starIT, a_wp, a_fz, a_fz0, a_fz1, a_ext, a_ins, a_insA, a_pop, a_parN, a_evO0, a_evO1, a_setO0, a_setO1, a_ix2, a_setII, a_zN, a_zC, a_lcO, d_oo, pEq_int, pNe_int, pIxL, pIxT, atI_nat, atI_0, atI_1, atI_2, atI_3, atI_m1, cutLo, cutHi, cutLo1, cutHi1, a_seq, a_ifS, a_B, a_op, a_ov, a_ev0, a_evv, a_evs, a_C, a_V, a_M, a_set, a_setI, a_app, a_ret, a_ex, a_skip, a_no, a_not, a_andT, a_orT, a_and, a_or, a_notV, a_if, a_par, a_call, a_forS, a_sq, a_r1, a_r2, a_en, a_zp, a_asT, a_chI, a_yes, a_lc, a_fn, okA, f_fr, bkA, rsvs, rsv, dvs, on1, on2, d_fr, d_ol, rsO, ndS, sl, putB, asT, setAll, ofO, Dy.ints1, Dy.ints2, nE, wipeE, unw, frO, q_addI, q_addL, q_addT, q_addS, q_sub, q_div, q_mod, q_pow, q_neg, q_cm, pIs, pIsn, q_isN, q_isI, q_isS, q_isT, q_isL, q_isB, q_lenL, q_lenT, pTup, pLst, q_tupL, q_tupT, q_lstL, q_lstT, q_revL, q_slL, q_slT, q_shL, q_shT, q_sqL, q_sqT, q_intI, q_max2, q_min2, q_aII, q_aBI, q_aTI, q_aTT, q_aLL, q_aTL, q_aIT, n5, hxk, ck, d2, d3, d5]) ?_
    simp [q_mulAI, q_mulAL, a_wb, q_divW, Function.comp_def, q_starI, q_starIT, a_wp, a_fz, a_fz0, a_fz1, a_ext, a_ins, a_insA, a_pop, a_parN, a_evO0, a_evO1, a_setO0, a_setO1, a_ix2, a_setII, a_zN, a_zC, a_lcO, d_oo, pEq_int, pNe_int, pIxL, pIxT, atI_nat, atI_0, atI_1, atI_2, atI_3, atI_m1, cutLo, cutHi, cutLo1, cutHi1, a_seq, a_ifS, a_B, a_op, a_ov, a_ev0, a_evv, a_evs, a_C, a_V, a_M, a_set, a_setI, a_app, a_ret, a_ex, a_skip, a_no, a_not, a_andT, a_orT, a_and, a_or, a_notV, a_if, a_par, a_call, a_forS, a_sq, a_r1, a_r2, a_en, a_zp, a_asT, a_chI, a_yes, a_lc, a_fn, okA, f_fr, bkA, rsvs, rsv, dvs, on1, on2, d_fr, d_ol, rsO, ndS, sl, putB, asT, setAll, ofO, Dy.ints1, Dy.ints2, nE, wipeE, unw, frO, q_addI, q_addL, q_addT, q_addS, q_sub, q_div, q_mod, q_pow, q_neg, q_cm, pIs, pIsn, q_isN, q_isI, q_isS, q_isT, q_isL, q_isB, q_lenL, q_lenT, pTup, pLst, q_tupL, q_tupT, q_lstL, q_lstT, q_revL, q_slL, q_slT, q_shL, q_shT, q_sqL, q_sqT, q_intI, q_max2, q_min2, q_aII, q_aBI, q_aTI, q_aTT, q_aLL, q_aTL, q_aIT, n6, hxk, ck, d2, d3, d4]
theorem th30_shw {d : PyData} (h : Th30 d) : shW d := by
  rcases h with h | rfl
  · exact (gd_shW h (by decide) (by decide) (by decide)).1
  · exact ⟨fun xs e => (nomatch e), fun xs e => (nomatch e)⟩
theorem th30_len {d : PyData} (h : Th30 d) : ∀ xs, d = .tuple xs → xs.length ≤ 1000 := fun xs e => by
  rcases h with h | rfl
  · subst e; have := h.len; omega
  · cases e
theorem th30_repr {m : Mach} {d : PyData} (hm : MOk m) (h : Th30 d) : pReprD (.tuple [encM m, d]) = some (.fr (.str (PyData.shown (.tuple [encM m, d])))) := by
  have g := gdM hm
  have r := g.rk9 (by decide) (by decide) (by decide)
  rcases h with h | rfl
  · exact repr2 (.inl ⟨r, h.rk9 (by decide) (by decide) (by decide)⟩)
  · exact repr2 (.inr ⟨rk_nds r (nd_M m), ⟨rfl, rfl, by decide +kernel, by decide +kernel⟩⟩)
theorem same_bb (b : Bool) : M__law_same [.fr (.list [.bool b, .bool b]), .fr (.list [.bool b, .bool b])] = .ok (.fr (.bool true), [.fr (.list [.bool b, .bool b]), .fr (.list [.bool b, .bool b])]) :=
  same_ok (n := 1) (w := 100) ⟨rfl, rfl, by simp [PyData.depth, PyData.depthAll], by simp [rw8, rw8s]⟩ (by decide) (by decide)
theorem step30 {sc : PyData} {o : O} {m : Mach} {d : PyData} {lp : Option O} (hp : PenA o) (hm : MOk m) (h : Th30 d) :
    ∃ o', PenA o' ∧ (asT (.nm 5) d (V_law_17 (script := fr sc) (pen := some o) (lap := lp) (made := fr (encM m))) >>= L1_law_17) = .ok (.nx, V_law_17 (script := fr sc) (pen := some o') (lap := lp) (made := fr (encM m))) := by
  have il := hm.il
  have cl := hm.cl
  have em := many_ok m
  have hmax : max 1 (manyM m : Int) = ((max 1 (manyM m) : Nat) : Int) := by omega
  have hml : manyM m ≤ 40 := by unfold manyM; omega
  obtain ⟨k, o1, k1, p1, e1⟩ := drawA_upto hp (max 1 (manyM m)) (by omega) (by omega)
  refine ⟨o1, p1, ?_⟩
  rw [← hmax] at e1
  by_cases hk : k < manyM m
  · obtain ⟨b, e2, e3⟩ := due30 hm hk (th30_shw h) (th30_len h)
    have hi : (k : Int) < manyM m := by omega
    have er := th30_repr hm h
    have es := same_bb b
    have en := pNe_str (PyData.shown (.tuple [encM m, d])) (PyData.shown (.tuple [encM m, d]))
    have e4 : ∀ e : Dy.Env, e = V_law_17 (script := fr sc) (pen := some o1) (lap := lp) (made := fr (encM m)) (thing := fr d) (number := fr (dN k)) (due_here := fr (.bool b)) (before := fr (.str (PyData.shown (.tuple [encM m, d])))) → lcL [10] (.nm 10) fYes E1_law_17 (rng 0 2) e [] = .ok ([.bool b, .bool b], e) := fun e he => by
      subst he
      simp [rng, List.range_succ, lcL, E1_law_17, q_mulAI, q_mulAL, a_wb, q_divW, Function.comp_def, q_starI, q_starIT, a_wp, a_fz, a_fz0, a_fz1, a_ext, a_ins, a_insA, a_pop, a_parN, a_evO0, a_evO1, a_setO0, a_setO1, a_ix2, a_setII, a_zN, a_zC, a_lcO, d_oo, pEq_int, pNe_int, pIxL, pIxT, atI_nat, atI_0, atI_1, atI_2, atI_3, atI_m1, cutLo, cutHi, cutLo1, cutHi1, a_seq, a_ifS, a_B, a_op, a_ov, a_ev0, a_evv, a_evs, a_C, a_V, a_M, a_set, a_setI, a_app, a_ret, a_ex, a_skip, a_no, a_not, a_andT, a_orT, a_and, a_or, a_notV, a_if, a_par, a_call, a_forS, a_sq, a_r1, a_r2, a_en, a_zp, a_asT, a_chI, a_yes, a_lc, a_fn, okA, f_fr, bkA, rsvs, rsv, dvs, on1, on2, d_fr, d_ol, rsO, ndS, sl, putB, asT, setAll, ofO, Dy.ints1, Dy.ints2, nE, wipeE, unw, frO, q_addI, q_addL, q_addT, q_addS, q_sub, q_div, q_mod, q_pow, q_neg, q_cm, pIs, pIsn, q_isN, q_isI, q_isS, q_isT, q_isL, q_isB, q_lenL, q_lenT, pTup, pLst, q_tupL, q_tupT, q_lstL, q_lstT, q_revL, q_slL, q_slT, q_shL, q_shT, q_sqL, q_sqT, q_intI, q_max2, q_min2, q_aII, q_aBI, q_aTI, q_aTT, q_aLL, q_aTL, q_aIT, e3]
    have e4 := e4 _ rfl
    generalize PyData.shown (.tuple [encM m, d]) = S at *
    generalize encM m = M1 at *
    simp [L1_law_17, q_mulAI, q_mulAL, a_wb, q_divW, Function.comp_def, q_starI, q_starIT, a_wp, a_fz, a_fz0, a_fz1, a_ext, a_ins, a_insA, a_pop, a_parN, a_evO0, a_evO1, a_setO0, a_setO1, a_ix2, a_setII, a_zN, a_zC, a_lcO, d_oo, pEq_int, pNe_int, pIxL, pIxT, atI_nat, atI_0, atI_1, atI_2, atI_3, atI_m1, cutLo, cutHi, cutLo1, cutHi1, a_seq, a_ifS, a_B, a_op, a_ov, a_ev0, a_evv, a_evs, a_C, a_V, a_M, a_set, a_setI, a_app, a_ret, a_ex, a_skip, a_no, a_not, a_andT, a_orT, a_and, a_or, a_notV, a_if, a_par, a_call, a_forS, a_sq, a_r1, a_r2, a_en, a_zp, a_asT, a_chI, a_yes, a_lc, a_fn, okA, f_fr, bkA, rsvs, rsv, dvs, on1, on2, d_fr, d_ol, rsO, ndS, sl, putB, asT, setAll, ofO, Dy.ints1, Dy.ints2, nE, wipeE, unw, frO, q_addI, q_addL, q_addT, q_addS, q_sub, q_div, q_mod, q_pow, q_neg, q_cm, pIs, pIsn, q_isN, q_isI, q_isS, q_isT, q_isL, q_isB, q_lenL, q_lenT, pTup, pLst, q_tupL, q_tupT, q_lstL, q_lstT, q_revL, q_slL, q_slT, q_shL, q_shT, q_sqL, q_sqT, q_intI, q_max2, q_min2, q_aII, q_aBI, q_aTI, q_aTT, q_aLL, q_aTL, q_aIT, em, e1, hi, e2, er, e4, es, en]
  · have hi : ¬ (k : Int) < manyM m := by omega
    simp [L1_law_17, q_mulAI, q_mulAL, a_wb, q_divW, Function.comp_def, q_starI, q_starIT, a_wp, a_fz, a_fz0, a_fz1, a_ext, a_ins, a_insA, a_pop, a_parN, a_evO0, a_evO1, a_setO0, a_setO1, a_ix2, a_setII, a_zN, a_zC, a_lcO, d_oo, pEq_int, pNe_int, pIxL, pIxT, atI_nat, atI_0, atI_1, atI_2, atI_3, atI_m1, cutLo, cutHi, cutLo1, cutHi1, a_seq, a_ifS, a_B, a_op, a_ov, a_ev0, a_evv, a_evs, a_C, a_V, a_M, a_set, a_setI, a_app, a_ret, a_ex, a_skip, a_no, a_not, a_andT, a_orT, a_and, a_or, a_notV, a_if, a_par, a_call, a_forS, a_sq, a_r1, a_r2, a_en, a_zp, a_asT, a_chI, a_yes, a_lc, a_fn, okA, f_fr, bkA, rsvs, rsv, dvs, on1, on2, d_fr, d_ol, rsO, ndS, sl, putB, asT, setAll, ofO, Dy.ints1, Dy.ints2, nE, wipeE, unw, frO, q_addI, q_addL, q_addT, q_addS, q_sub, q_div, q_mod, q_pow, q_neg, q_cm, pIs, pIsn, q_isN, q_isI, q_isS, q_isT, q_isL, q_isB, q_lenL, q_lenT, pTup, pLst, q_tupL, q_tupT, q_lstL, q_lstT, q_revL, q_slL, q_slT, q_shL, q_shT, q_sqL, q_sqT, q_intI, q_max2, q_min2, q_aII, q_aBI, q_aTI, q_aTT, q_aLL, q_aTL, q_aIT, em, e1, hi]
theorem lap30 {sc : PyData} {o : O} {j : Nat} (hp : PenA o) :
    ∃ o', PenA o' ∧ (asT (.nm 3) (.int (j : Int)) (V_law_17 (script := fr sc) (pen := some o)) >>= L2_law_17) = .ok (.nx, V_law_17 (script := fr sc) (pen := some o')) := by
  obtain ⟨as, o1, has, p1, e1⟩ := arities30 hp
  obtain ⟨ha, h0, hl⟩ := ars_ok has
  obtain ⟨m, o2, hm, ea, p2, e2⟩ := machine30 p1 ha hl
  obtain ⟨L, o3, hL, ll, p3, e3⟩ := things30 p2 hm ea has
  obtain ⟨o4, p4, e4⟩ := for_l (t := .nm 5) (body := L1_law_17) (fun d : PyData => d) (fun o : O => V_law_17 (script := fr sc) (pen := some o) (made := fr (encM m))) (fun _ o => PenA o) L (s := o3) p3 (fun pre x post o e hp => step30 (lp := none) hp hm (hL x (by rw [e]; simp)))
  rw [List.map_id'] at e4
  refine ⟨o4, p4, ?_⟩
  unfold L2_law_17
  generalize L1_law_17 = LB at *
  generalize encM m = M1 at *
  simp [q_mulAI, q_mulAL, a_wb, q_divW, Function.comp_def, q_starI, q_starIT, a_wp, a_fz, a_fz0, a_fz1, a_ext, a_ins, a_insA, a_pop, a_parN, a_evO0, a_evO1, a_setO0, a_setO1, a_ix2, a_setII, a_zN, a_zC, a_lcO, d_oo, pEq_int, pNe_int, pIxL, pIxT, atI_nat, atI_0, atI_1, atI_2, atI_3, atI_m1, cutLo, cutHi, cutLo1, cutHi1, a_seq, a_ifS, a_B, a_op, a_ov, a_ev0, a_evv, a_evs, a_C, a_V, a_M, a_set, a_setI, a_app, a_ret, a_ex, a_skip, a_no, a_not, a_andT, a_orT, a_and, a_or, a_notV, a_if, a_par, a_call, a_forS, a_sq, a_r1, a_r2, a_en, a_zp, a_asT, a_chI, a_yes, a_lc, a_fn, okA, f_fr, bkA, rsvs, rsv, dvs, on1, on2, d_fr, d_ol, rsO, ndS, sl, putB, asT, setAll, ofO, Dy.ints1, Dy.ints2, nE, wipeE, unw, frO, q_addI, q_addL, q_addT, q_addS, q_sub, q_div, q_mod, q_pow, q_neg, q_cm, pIs, pIsn, q_isN, q_isI, q_isS, q_isT, q_isL, q_isB, q_lenL, q_lenT, pTup, pLst, q_tupL, q_tupT, q_lstL, q_lstT, q_revL, q_slL, q_slT, q_shL, q_shT, q_sqL, q_sqT, q_intI, q_max2, q_min2, q_aII, q_aBI, q_aTI, q_aTT, q_aLL, q_aTL, q_aIT, e1, e2, e3, e4]
theorem loop30 (ns : List Int) : fForS (fR1 (.v (fOp (pMax) [.v (fC (.int 1)), .v (fOp (pMin) [.v (fOp (on1 pLen) [.s 0]), .v (fC (.int 3))])]))) (.nm 1) (L3_law_17) (V_law_17 (script := fr (.list (ns.map PyData.int)))) = .ok (.nx, V_law_17 (script := fr (.list (ns.map PyData.int)))) := by
  obtain ⟨_, _, e⟩ := for_r (t := .nm 1) (body := L3_law_17) (fun _ : Unit => V_law_17 (script := fr (.list (ns.map PyData.int)))) (fun _ _ => True) (max 1 (min (ns.length : Int) 3)).toNat (s := ()) trivial (fun k s hk _ => by
    obtain ⟨z, ez⟩ := cellB_ok (ns := ns) (k := k)
    obtain ⟨o, hp, eo⟩ := penA_ok z
    obtain ⟨o2, p2, e2⟩ := for_r (t := .nm 3) (body := L2_law_17) (fun o : O => V_law_17 (script := fr (.list (ns.map PyData.int))) (pen := some o)) (fun _ o => PenA o) 3 (s := o) hp (fun j o hj hp => lap30 hp)
    refine ⟨(), trivial, ?_⟩
    unfold L3_law_17
    generalize L2_law_17 = LB at *
    simp [q_mulAI, q_mulAL, a_wb, q_divW, Function.comp_def, q_starI, q_starIT, a_wp, a_fz, a_fz0, a_fz1, a_ext, a_ins, a_insA, a_pop, a_parN, a_evO0, a_evO1, a_setO0, a_setO1, a_ix2, a_setII, a_zN, a_zC, a_lcO, d_oo, pEq_int, pNe_int, pIxL, pIxT, atI_nat, atI_0, atI_1, atI_2, atI_3, atI_m1, cutLo, cutHi, cutLo1, cutHi1, a_seq, a_ifS, a_B, a_op, a_ov, a_ev0, a_evv, a_evs, a_C, a_V, a_M, a_set, a_setI, a_app, a_ret, a_ex, a_skip, a_no, a_not, a_andT, a_orT, a_and, a_or, a_notV, a_if, a_par, a_call, a_forS, a_sq, a_r1, a_r2, a_en, a_zp, a_asT, a_chI, a_yes, a_lc, a_fn, okA, f_fr, bkA, rsvs, rsv, dvs, on1, on2, d_fr, d_ol, rsO, ndS, sl, putB, asT, setAll, ofO, Dy.ints1, Dy.ints2, nE, wipeE, unw, frO, q_addI, q_addL, q_addT, q_addS, q_sub, q_div, q_mod, q_pow, q_neg, q_cm, pIs, pIsn, q_isN, q_isI, q_isS, q_isT, q_isL, q_isB, q_lenL, q_lenT, pTup, pLst, q_tupL, q_tupT, q_lstL, q_lstT, q_revL, q_slL, q_slT, q_shL, q_shT, q_sqL, q_sqT, q_intI, q_max2, q_min2, q_aII, q_aBI, q_aTI, q_aTT, q_aLL, q_aTL, q_aIT, ez, eo, e2])
  have c : max 1 (min (ns.length : Int) 3) ≤ 1000000000 ∧ -1000000000 ≤ max 1 (min (ns.length : Int) 3) := ⟨by omega, by omega⟩
  generalize L3_law_17 = L at *
  simp [q_mulAI, q_mulAL, a_wb, q_divW, Function.comp_def, q_starI, q_starIT, a_wp, a_fz, a_fz0, a_fz1, a_ext, a_ins, a_insA, a_pop, a_parN, a_evO0, a_evO1, a_setO0, a_setO1, a_ix2, a_setII, a_zN, a_zC, a_lcO, d_oo, pEq_int, pNe_int, pIxL, pIxT, atI_nat, atI_0, atI_1, atI_2, atI_3, atI_m1, cutLo, cutHi, cutLo1, cutHi1, a_seq, a_ifS, a_B, a_op, a_ov, a_ev0, a_evv, a_evs, a_C, a_V, a_M, a_set, a_setI, a_app, a_ret, a_ex, a_skip, a_no, a_not, a_andT, a_orT, a_and, a_or, a_notV, a_if, a_par, a_call, a_forS, a_sq, a_r1, a_r2, a_en, a_zp, a_asT, a_chI, a_yes, a_lc, a_fn, okA, f_fr, bkA, rsvs, rsv, dvs, on1, on2, d_fr, d_ol, rsO, ndS, sl, putB, asT, setAll, ofO, Dy.ints1, Dy.ints2, nE, wipeE, unw, frO, q_addI, q_addL, q_addT, q_addS, q_sub, q_div, q_mod, q_pow, q_neg, q_cm, pIs, pIsn, q_isN, q_isI, q_isS, q_isT, q_isL, q_isB, q_lenL, q_lenT, pTup, pLst, q_tupL, q_tupT, q_lstL, q_lstT, q_revL, q_slL, q_slT, q_shL, q_shT, q_sqL, q_sqT, q_intI, q_max2, q_min2, q_aII, q_aBI, q_aTI, q_aTT, q_aLL, q_aTL, q_aIT, c, e]
theorem law_true_30 (ns : List Int) (hl : ns.length ≤ 63) : ∃ os, M_law_17 [.fr (.list (ns.map PyData.int))] = .ok (.fr (.bool true), os) := by
  refine ⟨[.fr (.list (ns.map PyData.int))], fnM1' (N := 10) (e := wipeE (V_law_17 (script := fr (.list (ns.map PyData.int)))) [0, 1, 2, 3, 4, 5, 6, 7, 8, 9]) ?_⟩
  unfold b_law_17
  exact law_of0 (loop30 ns)
end Q
namespace W30
open PySem PySem.Spec PyProof.Rows L2 Dy Q
def topS (i : Nat) : Stmt := PySem.Challenge.pw_codepick_k30_needing_trees_judged.main.body.getD i (.Pass ⟨0, 0, 0, 0⟩)
section
variable {P : Program} {w : World} {K : PySem.W.Frag} {mg : Str → Option Value} {T : List (Addr × Str)}
abbrev s__law_pen_of : Stmt := topS 36
theorem sc__law_pen_of : FnScope ["_law_cell"] ["_law_cell"] (defScope s__law_pen_of) := ⟨rfl, rfl, rfl, by decide +kernel, rfl, by decide +kernel, by decide +kernel⟩
theorem ok__law_pen_of {f : Addr} {fd : FuncData} {k : Nat} (F : Fun K "_law_pen_of" "_law_pen_of" s__law_pen_of f fd) (hm : mg "_law_pen_of" = some (.ref f)) (hb : Binds K fd ["_law_cell"] []) (z_max : mg "max" = none) : CallOk P w K mg T (k + 1) "_law_pen_of" ["_law_cell"] M__law_pen_2 :=
  callOk_of F hm hb fun base => fnD F sc__law_pen_of rfl rfl (by decide) fun cdv A outer s H qv E hgd hr => (dss_one (ds_ret (de_lst (da_cons (dx_v (de_callB (cl_max rfl) os_max rfl z_max bt_max (da_cons (dx_v de_int) (da_cons (dx_v (de_op op_sub os_sub (dx_s 0 (pv 0)) (dx_v (de_op op_pow os_pow (dx_v de_int) (dx_v de_int))))) da_nil)))) (da_cons (dx_v (de_op op_addA os_add (dx_v (de_op op_mod os_mod (dx_s 0 (pv 0)) (dx_v de_int))) (dx_v de_int))) (da_cons (dx_v de_int) da_nil))))))
abbrev s__law_cell_at : Stmt := topS 35
theorem sc__law_cell_at : FnScope ["_law_script", "_law_k"] ["_law_script", "_law_k"] (defScope s__law_cell_at) := ⟨rfl, rfl, rfl, by decide +kernel, rfl, by decide +kernel, by decide +kernel⟩
theorem ok__law_cell_at {f : Addr} {fd : FuncData} {k : Nat} (F : Fun K "_law_cell_at" "_law_cell_at" s__law_cell_at f fd) (hm : mg "_law_cell_at" = some (.ref f)) (hb : Binds K fd ["_law_script", "_law_k"] []) (z_len : mg "len" = none) : CallOk P w K mg T (k + 1) "_law_cell_at" ["_law_script", "_law_k"] M__law_cell_at :=
  callOk_of F hm hb fun base => fnD F sc__law_cell_at rfl rfl (by decide) fun cdv A outer s H qv E hgd hr => (dss_cons (ds_if (dt_cmp op_lt os_cmI (dx_s 1 (pv 1)) (dx_v (de_callB call_lenA os_len rfl z_len bt_len (da_cons (dx_s 0 (pv 0)) da_nil))) (nomark _)) (dss_one (ds_ret (de_ix (ixD (ru65 hr)) os_ix (dx_s 0 (pv 0)) (dx_s 1 (pv 1)) (fun _ _ => rfl)))) dss_nil)
    (dss_one (ds_ret de_int)))
abbrev s__law_draw : Stmt := topS 37
theorem sc__law_draw : FnScope ["_law_pen", "_law_many_here", "_law_mixed", "_law_found"] ["_law_pen", "_law_many_here"] (defScope s__law_draw) := ⟨rfl, rfl, rfl, by decide +kernel, rfl, by decide +kernel, by decide +kernel⟩
theorem ok__law_draw {f : Addr} {fd : FuncData} {k : Nat} (F : Fun K "_law_draw" "_law_draw" s__law_draw f fd) (hm : mg "_law_draw" = some (.ref f)) (hb : Binds K fd ["_law_pen", "_law_many_here"] [])  : CallOk P w K mg T (k + 1) "_law_draw" ["_law_pen", "_law_many_here"] M__law_draw_2 :=
  callOk_of F hm hb fun base => fnD F sc__law_draw rfl rfl (by decide) fun cdv A outer s H qv E hgd hr => (dss_cons (ds_if (dt_cmp op_gt os_cmI (dx_v (de_ix (ixD (ru65 hr)) os_ix (dx_s 0 (pv 0)) (dx_v de_int) (fun _ _ => rfl))) (dx_v de_int) (nomark _)) (dss_cons (ds_set (i := 3) sc__law_draw.nd rfl (by first | exact .inl rfl | exact .inr rfl) (np1 rfl) (de_op op_mod os_mod (dx_v (de_ix (ixD (ru65 hr)) os_ix (dx_s 0 (pv 0)) (dx_v de_int) (fun _ _ => rfl))) (dx_s 1 (pv 1))))
    (dss_cons (ds_setI (pv 0) (dx_v de_int) (de_op op_fdivW os_divW (dx_v (de_ix (ixD (ru65 hr)) os_ix (dx_s 0 (pv 0)) (dx_v de_int) (fun _ _ => rfl))) (dx_s 1 (pv 1))))
    (dss_one (ds_ret (de_m 3 (pv 3)))))) dss_nil)
    (dss_cons (ds_setI (pv 0) (dx_v de_int) (de_op op_addA os_add (dx_v (de_ix (ixD (ru65 hr)) os_ix (dx_s 0 (pv 0)) (dx_v de_int) (fun _ _ => rfl))) (dx_v de_int)))
    (dss_cons (ds_setI (pv 0) (dx_v de_int) (de_op op_mod os_mod (dx_v (de_op op_addA os_add (dx_v (de_op op_addA os_add (dx_v (de_op op_mulB os_mulB (dx_v (de_ix (ixD (ru65 hr)) os_ix (dx_s 0 (pv 0)) (dx_v de_int) (fun _ _ => rfl))) (dx_v de_int))) (dx_v (de_op op_mulB os_mulB (dx_v de_int) (dx_v (de_ix (ixD (ru65 hr)) os_ix (dx_s 0 (pv 0)) (dx_v de_int) (fun _ _ => rfl))))))) (dx_v de_int))) (dx_v de_int)))
    (dss_cons (ds_set (i := 2) sc__law_draw.nd rfl (by first | exact .inl rfl | exact .inr rfl) (np1 rfl) (de_op op_mod os_mod (dx_v (de_op op_addA os_add (dx_v (de_op op_addA os_add (dx_v (de_op op_mulB os_mulB (dx_v (de_ix (ixD (ru65 hr)) os_ix (dx_s 0 (pv 0)) (dx_v de_int) (fun _ _ => rfl))) (dx_v (de_ix (ixD (ru65 hr)) os_ix (dx_s 0 (pv 0)) (dx_v de_int) (fun _ _ => rfl))))) (dx_v (de_op op_mulB os_mulB (dx_v de_int) (dx_v (de_ix (ixD (ru65 hr)) os_ix (dx_s 0 (pv 0)) (dx_v de_int) (fun _ _ => rfl))))))) (dx_v de_int))) (dx_v de_int)))
    (dss_cons (ds_set (i := 2) sc__law_draw.nd rfl (by first | exact .inl rfl | exact .inr rfl) (np1 rfl) (de_op op_mod os_mod (dx_v (de_op op_addA os_add (dx_v (de_op op_mulB os_mulB (dx_s 2 (pv 2)) (dx_s 2 (pv 2)))) (dx_v (de_op op_mulB os_mulB (dx_v de_int) (dx_s 2 (pv 2)))))) (dx_v de_int)))
    (dss_one (ds_ret (de_op op_mod os_mod (dx_v (de_op op_fdivW os_divW (dx_s 2 (pv 2)) (dx_v de_int))) (dx_s 1 (pv 1))))))))))
abbrev s__law_pick : Stmt := topS 38
theorem sc__law_pick : FnScope ["_law_pen", "_law_some"] ["_law_pen", "_law_some"] (defScope s__law_pick) := ⟨rfl, rfl, rfl, by decide +kernel, rfl, by decide +kernel, by decide +kernel⟩
theorem ok__law_pick {f : Addr} {fd : FuncData} {k : Nat} (F : Fun K "_law_pick" "_law_pick" s__law_pick f fd) (hm : mg "_law_pick" = some (.ref f)) (hb : Binds K fd ["_law_pen", "_law_some"] []) (c__law_draw : CallOk P w K mg T k "_law_draw" ["_law_pen", "_law_many_here"] M__law_draw_2) (z_len : mg "len" = none) : CallOk P w K mg T (k + 1) "_law_pick" ["_law_pen", "_law_some"] M__law_pick_2 :=
  callOk_of F hm hb fun base => fnD F sc__law_pick rfl rfl (by decide) fun cdv A outer s H qv E hgd hr => (dss_one (ds_ret (de_ix (ixD (ru65 hr)) os_ix (dx_s 1 (pv 1)) (dx_v (dcall c__law_draw hgd hr rfl (passes_call (takes_of rfl rfl rfl rfl) (fun _ _ _ _ h => h)) (da_cons (dx_s 0 (pv 0)) (da_cons (dx_v (de_callB call_lenA os_len rfl z_len bt_len (da_cons (dx_s 1 (pv 1)) da_nil))) da_nil)))) (fun _ _ => rfl))))
abbrev s__law_instruction : Stmt := topS 44
theorem sc__law_instruction : FnScope ["_law_pen", "_law_arities", "_law_forms", "_law_operator", "_law_wanted", "_law_lap"] ["_law_pen", "_law_arities", "_law_forms", "_law_operator"] (defScope s__law_instruction) := ⟨rfl, rfl, rfl, by decide +kernel, rfl, by decide +kernel, by decide +kernel⟩
theorem ok__law_instruction {f : Addr} {fd : FuncData} {k : Nat} (F : Fun K "_law_instruction" "_law_instruction" s__law_instruction f fd) (hm : mg "_law_instruction" = some (.ref f)) (hb : Binds K fd ["_law_pen", "_law_arities", "_law_forms", "_law_operator"] []) (c__law_draw : CallOk P w K mg T k "_law_draw" ["_law_pen", "_law_many_here"] M__law_draw_2) (c__law_pick : CallOk P w K mg T k "_law_pick" ["_law_pen", "_law_some"] M__law_pick_2) (z_range : mg "range" = none) (z_tuple : mg "tuple" = none) : CallOk P w K mg T (k + 1) "_law_instruction" ["_law_pen", "_law_arities", "_law_forms", "_law_operator"] M__law_instruction :=
  callOk_of F hm hb fun base => fnD F sc__law_instruction rfl rfl (by decide) fun cdv A outer s H qv E hgd hr => (dss_cons (ds_set (i := 4) sc__law_instruction.nd rfl (by first | exact .inl rfl | exact .inr rfl) (np1 rfl) (de_callTy call_tuple_of os_tuple rfl z_tuple bt_tuple (da_cons (dx_v (de_lc (own := [("_law_lap", 5)]) (npn rfl) (by decide) rfl sc__law_instruction.nd (di_r1 rfl z_range (da_cons (dx_v (de_ix (ixD (ru65 hr)) os_ix (dx_s 1 (pv 1)) (dx_s 3 (pv 3)) (fun _ _ => rfl))) da_nil)) (blkOk_by (N := ["_law_pen", "_law_arities", "_law_forms", "_law_operator", "_law_wanted", "_law_lap"]) (sc := defScope s__law_instruction) (own := [("_law_lap", 5)]) (by decide +kernel)) (fun _ _ _ _ _ => (pg_name (i := 5) sc__law_instruction.nd rfl (by first | exact .inl rfl | exact .inr rfl))) (fun _ _ _ _ _ => pts_yes) (fun _ _ _ _ _ => (dcall c__law_draw hgd hr rfl passL (da_cons (dx_s 0 (pv 0)) (da_cons (dx_v (de_v 2 (pv 2))) da_nil)))))) da_nil)))
    (dss_one (ds_ret (de_tup (da_cons (dx_v (dcall c__law_draw hgd hr rfl (passes_call (takes_of rfl rfl rfl rfl) (fun _ _ _ _ h => h)) (da_cons (dx_s 0 (pv 0)) (da_cons (dx_v (de_v 2 (pv 2))) da_nil)))) (da_cons (dx_v (de_v 3 (pv 3))) (da_cons (dx_v (de_v 4 (pv 4))) (da_cons (dx_v (dcall c__law_pick hgd hr rfl (passes_call (takes_of rfl rfl rfl rfl) (fun _ _ _ _ h => h)) (da_cons (dx_s 0 (pv 0)) (da_cons (dx_v (de_lst (da_cons (dx_v de_int) (da_cons (dx_v de_int) (da_cons (dx_v de_int) (da_cons (dx_v de_int) (da_cons (dx_v de_int) da_nil))))))) da_nil)))) da_nil))))))))
abbrev s__law_machine_of : Stmt := topS 45
theorem sc__law_machine_of : FnScope ["_law_pen", "_law_arities", "_law_far", "_law_operator", "_law_forms", "_law_found", "_law_ways", "_law_lap", "_law_form"] ["_law_pen", "_law_arities", "_law_far"] (defScope s__law_machine_of) := ⟨rfl, rfl, rfl, by decide +kernel, rfl, by decide +kernel, by decide +kernel⟩
theorem ok__law_machine_of {f : Addr} {fd : FuncData} {k : Nat} (F : Fun K "_law_machine_of" "_law_machine_of" s__law_machine_of f fd) (hm : mg "_law_machine_of" = some (.ref f)) (hb : Binds K fd ["_law_pen", "_law_arities", "_law_far"] []) (c__law_draw : CallOk P w K mg T k "_law_draw" ["_law_pen", "_law_many_here"] M__law_draw_2) (c__law_instruction : CallOk P w K mg T k "_law_instruction" ["_law_pen", "_law_arities", "_law_forms", "_law_operator"] M__law_instruction) (c__law_pick : CallOk P w K mg T k "_law_pick" ["_law_pen", "_law_some"] M__law_pick_2) (z_len : mg "len" = none) (z_range : mg "range" = none) (z_tuple : mg "tuple" = none) : CallOk P w K mg T (k + 1) "_law_machine_of" ["_law_pen", "_law_arities", "_law_far"] M__law_machine_of :=
  callOk_of F hm hb fun base => fnD F sc__law_machine_of rfl rfl (by decide) fun cdv A outer s H qv E hgd hr => (dss_cons (ds_wp [2] (ds_parNC (npn rfl) rfl (by decide) (pg_tup rfl (pgs_cons (pg_name (i := 4) sc__law_machine_of.nd rfl (by first | exact .inl rfl | exact .inr rfl)) (pgs_cons (pg_name (i := 5) sc__law_machine_of.nd rfl (by first | exact .inl rfl | exact .inr rfl)) (pgs_cons (pg_name (i := 6) sc__law_machine_of.nd rfl (by first | exact .inl rfl | exact .inr rfl)) pgs_nil)))) (pa_cons (de_op op_addA os_add (dx_v de_int) (dx_v (dcall c__law_draw hgd hr rfl (passes_call (takes_of rfl rfl rfl rfl) (fun _ _ _ _ h => h)) (da_cons (dx_s 0 (pv 0)) (da_cons (dx_v (de_if (dt_cmp (op_inA (ru65 hr)) os_inA (dx_v de_int) (dx_s 1 (pv 1)) rfl) de_int (de_v 2 (pv 2)))) da_nil))))) (pa_cons (de_lst da_nil) (pa_cons (de_lst da_nil) pa_nil)))))
    (dss_cons (ds_wp [3, 7] (ds_for (npn rfl) (passes_of rfl) rfl (di_r1 rfl z_range (da_cons (dx_v (de_callB call_lenA os_len rfl z_len bt_len (da_cons (dx_s 1 (pv 1)) da_nil))) da_nil)) (pg_name (i := 3) sc__law_machine_of.nd rfl (by first | exact .inl rfl | exact .inr rfl)) (dss_one (ds_wp [3, 7] (ds_for (npn rfl) (passes_of rfl) rfl (di_r1 rfl z_range (da_cons (dx_v (dcall c__law_pick hgd hr rfl (passes_call (takes_of rfl rfl rfl rfl) (fun _ _ _ _ h => h)) (da_cons (dx_s 0 (pv 0)) (da_cons (dx_v (de_lst (da_cons (dx_v de_int) (da_cons (dx_v de_int) (da_cons (dx_v de_int) (da_cons (dx_v de_int) (da_cons (dx_v de_int) (da_cons (dx_v (de_if (dt_cmp op_gt os_cmI (dx_v (de_ix (ixD (ru65 hr)) os_ix (dx_s 1 (pv 1)) (dx_s 3 (pv 3)) (fun _ _ => rfl))) (dx_v de_int) (nomark _)) de_int de_int)) da_nil)))))))) da_nil)))) da_nil)) (pg_name (i := 7) sc__law_machine_of.nd rfl (by first | exact .inl rfl | exact .inr rfl)) (dss_one (ds_wp [7] (ds_app (pv 5) (dcall c__law_instruction hgd hr rfl (passes_call (takes_of rfl rfl rfl rfl) (fun _ _ _ _ h => h)) (da_cons (dx_s 0 (pv 0)) (da_cons (dx_v (de_v 1 (pv 1))) (da_cons (dx_v (de_v 4 (pv 4))) (da_cons (dx_v (de_v 3 (pv 3))) da_nil)))))))))))))
    (dss_cons (ds_if (dw_t (dw_and (dt_cmp op_gt os_cmI (dx_s 4 (pv 4)) (dx_v de_int) (nomark _)) (dw_and1 (dw_t (dw_or (dt_cmp op_gt os_cmI (dx_s 4 (pv 4)) (dx_v de_int) (nomark _)) (dw_or1 (dt_cmp op_gt os_cmI (dx_v (dcall c__law_draw hgd hr rfl (passes_call (takes_of rfl rfl rfl rfl) (fun _ _ _ _ h => h)) (da_cons (dx_s 0 (pv 0)) (da_cons (dx_v de_int) da_nil)))) (dx_v de_int) (nomark _)))))))) (dss_one (ds_setLc (i := 6) (own := [("_law_form", 8)]) (np1 rfl) (npn rfl) (by decide) rfl sc__law_machine_of.nd rfl rfl (sw_true rfl rfl rfl (by decide +kernel)) (di_r1 rfl z_range (da_cons (dx_s 4 (pv 4)) da_nil)) (blkOk_by (N := ["_law_pen", "_law_arities", "_law_far", "_law_operator", "_law_forms", "_law_found", "_law_ways", "_law_lap", "_law_form"]) (sc := defScope s__law_machine_of) (own := [("_law_form", 8)]) (by decide +kernel)) (fun _ _ _ _ _ => (pg_name (i := 8) sc__law_machine_of.nd rfl (by first | exact .inl rfl | exact .inr rfl))) (fun _ _ _ _ _ => pts_yes) (fun _ _ _ _ _ => (de_tup (da_cons (dx_v (de_v 8 (pv 8))) (da_cons (dx_v (de_op op_mod os_mod (dx_v (de_op op_addA os_add (dx_s 8 (pv 8)) (dx_v de_int))) (dx_s 4 (pv 4)))) (da_cons (dx_v (dcall c__law_pick hgd hr rfl passL (da_cons (dx_s 0 (pv 0)) (da_cons (dx_v (de_lst (da_cons (dx_v de_int) (da_cons (dx_v de_int) (da_cons (dx_v de_int) (da_cons (dx_v de_int) da_nil)))))) da_nil)))) da_nil))))))) dss_nil)
    (dss_cons (ds_if (dw_t (dw_and (dt_cmp op_gt os_cmI (dx_s 4 (pv 4)) (dx_v de_int) (nomark _)) (dw_and1 (dt_cmp (op_eqA (ru64 hr)) os_eq (dx_v (dcall c__law_draw hgd hr rfl (passes_call (takes_of rfl rfl rfl rfl) (fun _ _ _ _ h => h)) (da_cons (dx_s 0 (pv 0)) (da_cons (dx_v de_int) da_nil)))) (dx_v de_int) (nomark _))))) (dss_cons (ds_set (i := 8) sc__law_machine_of.nd rfl (by first | exact .inl rfl | exact .inr rfl) (np1 rfl) (dcall c__law_draw hgd hr rfl (passes_call (takes_of rfl rfl rfl rfl) (fun _ _ _ _ h => h)) (da_cons (dx_s 0 (pv 0)) (da_cons (dx_v (de_v 4 (pv 4))) da_nil))))
    (dss_one (ds_app (pv 6) (de_tup (da_cons (dx_v (de_v 8 (pv 8))) (da_cons (dx_v (de_op op_mod os_mod (dx_v (de_op op_addA os_add (dx_v (de_op op_addA os_add (dx_s 8 (pv 8)) (dx_v de_int))) (dx_v (dcall c__law_draw hgd hr rfl (passes_call (takes_of rfl rfl rfl rfl) (fun _ _ _ _ h => h)) (da_cons (dx_s 0 (pv 0)) (da_cons (dx_v (de_op op_sub os_sub (dx_s 4 (pv 4)) (dx_v de_int))) da_nil)))))) (dx_s 4 (pv 4)))) (da_cons (dx_v (dcall c__law_pick hgd hr rfl (passes_call (takes_of rfl rfl rfl rfl) (fun _ _ _ _ h => h)) (da_cons (dx_s 0 (pv 0)) (da_cons (dx_v (de_lst (da_cons (dx_v de_int) (da_cons (dx_v de_int) (da_cons (dx_v de_int) (da_cons (dx_v de_int) da_nil)))))) da_nil)))) da_nil))))))) dss_nil)
    (dss_one (ds_ret (de_tup (da_cons (dx_v (de_v 1 (pv 1))) (da_cons (dx_v (de_v 4 (pv 4))) (da_cons (dx_v (de_callTy call_tuple_of os_tuple rfl z_tuple bt_tuple (da_cons (dx_s 5 (pv 5)) da_nil))) (da_cons (dx_v (de_callTy call_tuple_of os_tuple rfl z_tuple bt_tuple (da_cons (dx_s 6 (pv 6)) da_nil))) da_nil)))))))))))
abbrev s__law_written_of : Stmt := topS 48
theorem sc__law_written_of : FnScope ["_law_nested_here", "_law_part", "_law_found", "_law_ends", "_law_ahead", "_law_node", "_law_one"] ["_law_nested_here"] (defScope s__law_written_of) := ⟨rfl, rfl, rfl, by decide +kernel, rfl, by decide +kernel, by decide +kernel⟩
theorem okS__law_written_of {f : Addr} {fd : FuncData} {k : Nat} (F : Fun K "_law_written_of" "_law_written_of" s__law_written_of f fd) (hm : mg "_law_written_of" = some (.ref f)) (hb : Binds K fd ["_law_nested_here"] []) {R__law_written_of : Fn} (c__law_written_of : CallOk P w K mg T k "_law_written_of" ["_law_nested_here"] R__law_written_of) (z_len : mg "len" = none) (z_tuple : mg "tuple" = none) : CallOk P w K mg T (k + 1) "_law_written_of" ["_law_nested_here"] (fnM 1 7 [] (b__law_written_of R__law_written_of)) :=
  callOk_of F hm hb fun base => fnD F sc__law_written_of rfl rfl (by decide) fun cdv A outer s H qv E hgd hr => (dss_cons (ds_par (i := 2) (j := 3) (np1 rfl) (np1 rfl) rfl sc__law_written_of.nd rfl rfl (by decide) rfl rfl (de_lst da_nil) (de_lst da_nil))
    (dss_cons (ds_wp [1, 4, 5] (ds_for (npn rfl) (passes_of rfl) rfl (di_seq (dx_v (de_slLo (dx_s 0 (pv 0)) (dx_v de_int)))) (pg_name (i := 1) sc__law_written_of.nd rfl (by first | exact .inl rfl | exact .inr rfl)) (dss_cons (ds_set (i := 4) sc__law_written_of.nd rfl (by first | exact .inl rfl | exact .inr rfl) (np1 rfl) (de_callB call_lenA os_len rfl z_len bt_len (da_cons (dx_s 2 (pv 2)) da_nil)))
    (dss_cons (ds_wp [1, 4, 5] (ds_for (npn rfl) (passes_of rfl) rfl (di_seq (dx_v (dcall c__law_written_of hgd hr rfl (passes_call (takes_of rfl rfl rfl rfl) (fun _ _ _ _ h => h)) (da_cons (dx_v (de_v 1 (pv 1))) da_nil)))) (pg_name (i := 5) sc__law_written_of.nd rfl (by first | exact .inl rfl | exact .inr rfl)) (dss_one (ds_wp [5] (ds_app (pv 2) (de_op op_addA os_add (dx_v (de_tup (da_cons (dx_v (de_ix (ixD (ru65 hr)) os_ix (dx_s 5 (pv 5)) (dx_v de_int) (fun _ _ => rfl))) da_nil))) (dx_v (de_callTy call_tuple_of os_tuple rfl z_tuple bt_tuple (da_cons (dx_v (de_lc (own := [("_law_one", 6)]) (npn rfl) (by decide) rfl sc__law_written_of.nd (di_seq (dx_v (de_slLo (dx_s 5 (pv 5)) (dx_v de_int)))) (blkOk_by (N := ["_law_nested_here", "_law_part", "_law_found", "_law_ends", "_law_ahead", "_law_node", "_law_one"]) (sc := defScope s__law_written_of) (own := [("_law_one", 6)]) (by decide +kernel)) (fun _ _ _ _ _ => (pg_name (i := 6) sc__law_written_of.nd rfl (by first | exact .inl rfl | exact .inr rfl))) (fun _ _ _ _ _ => pts_yes) (fun _ _ _ _ _ => (de_op op_addA os_add (dx_s 4 (pv 4)) (dx_s 6 (pv 6)))))) da_nil)))))))))
    (dss_one (ds_app (pv 3) (de_op op_sub os_sub (dx_v (de_callB call_lenA os_len rfl z_len bt_len (da_cons (dx_s 2 (pv 2)) da_nil))) (dx_v de_int))))))))
    (dss_one (ds_ret (de_op op_addA os_add (dx_v (de_callTy call_tuple_of os_tuple rfl z_tuple bt_tuple (da_cons (dx_s 2 (pv 2)) da_nil))) (dx_v (de_tup (da_cons (dx_v (de_op op_addA os_add (dx_v (de_tup (da_cons (dx_v (de_ix (ixD (ru65 hr)) os_ix (dx_s 0 (pv 0)) (dx_v de_int) (fun _ _ => rfl))) da_nil))) (dx_v (de_callTy call_tuple_of os_tuple rfl z_tuple bt_tuple (da_cons (dx_s 3 (pv 3)) da_nil))))) da_nil))))))))
theorem ok__law_written_of {f : Addr} {fd : FuncData} {k : Nat} (F : Fun K "_law_written_of" "_law_written_of" s__law_written_of f fd) (hm : mg "_law_written_of" = some (.ref f)) (hb : Binds K fd ["_law_nested_here"] []) (z_len : mg "len" = none) (z_tuple : mg "tuple" = none) : (m : Nat) → CallOk P w K mg T (k + m) "_law_written_of" ["_law_nested_here"] (M__law_written_of m)
  | 0 => callNo F hm hb
  | m + 1 => okS__law_written_of F hm hb (ok__law_written_of F hm hb z_len z_tuple m) z_len z_tuple
abbrev s__law_nested : Stmt := topS 47
theorem sc__law_nested : FnScope ["_law_pen", "_law_arities", "_law_far", "_law_bare_here", "_law_operator", "_law_arity", "_law_lap"] ["_law_pen", "_law_arities", "_law_far"] (defScope s__law_nested) := ⟨rfl, rfl, rfl, by decide +kernel, rfl, by decide +kernel, by decide +kernel⟩
theorem okS__law_nested {f : Addr} {fd : FuncData} {k : Nat} (F : Fun K "_law_nested" "_law_nested" s__law_nested f fd) (hm : mg "_law_nested" = some (.ref f)) (hb : Binds K fd ["_law_pen", "_law_arities", "_law_far"] []) {R__law_nested : Fn} (c__law_nested : CallOk P w K mg T k "_law_nested" ["_law_pen", "_law_arities", "_law_far"] R__law_nested) (c__law_draw : CallOk P w K mg T k "_law_draw" ["_law_pen", "_law_many_here"] M__law_draw_2) (c__law_pick : CallOk P w K mg T k "_law_pick" ["_law_pen", "_law_some"] M__law_pick_2) (z_enumerate : mg "enumerate" = none) (z_len : mg "len" = none) (z_range : mg "range" = none) (z_tuple : mg "tuple" = none) : CallOk P w K mg T (k + 1) "_law_nested" ["_law_pen", "_law_arities", "_law_far"] (fnM 3 7 [0] (b__law_nested R__law_nested)) :=
  callOk_of F hm hb fun base => fnD F sc__law_nested rfl rfl (by decide) fun cdv A outer s H qv E hgd hr => (dss_cons (ds_fz [3] (ds_setLc (i := 3) (own := [("_law_operator", 4), ("_law_arity", 5)]) (np1 rfl) (npn rfl) (by decide) rfl sc__law_nested.nd rfl rfl (sw_true rfl rfl rfl (by decide +kernel)) (di_en rfl z_enumerate (da_cons (dx_v (de_v 1 (pv 1))) da_nil)) (blkOk_by (N := ["_law_pen", "_law_arities", "_law_far", "_law_bare_here", "_law_operator", "_law_arity", "_law_lap"]) (sc := defScope s__law_nested) (own := [("_law_operator", 4), ("_law_arity", 5)]) (by decide +kernel)) (fun _ _ _ _ _ => (pg_tup rfl (pgs_cons (pg_name (i := 4) sc__law_nested.nd rfl (by first | exact .inl rfl | exact .inr rfl)) (pgs_cons (pg_name (i := 5) sc__law_nested.nd rfl (by first | exact .inl rfl | exact .inr rfl)) pgs_nil)))) (fun _ _ _ _ _ => (pts_one (dt_cmp (op_eqA (ru64 hr)) os_eq (dx_s 5 (pv 5)) (dx_v de_int) (nomark _)))) (fun _ _ _ _ _ => (de_v 4 (pv 4)))) nx_set)
    (dss_cons (ds_set (i := 4) sc__law_nested.nd rfl (by first | exact .inl rfl | exact .inr rfl) (np1 rfl) (de_if (dt_cmp op_gt os_cmI (dx_s 2 (pv 2)) (dx_v de_int) (nomark _)) (dcall c__law_draw hgd hr rfl (passes_call (takes_of rfl rfl rfl rfl) (fun _ _ _ _ h => h)) (da_cons (dx_s 0 (pv 0)) (da_cons (dx_v (de_callB call_lenA os_len rfl z_len bt_len (da_cons (dx_s 1 (pv 1)) da_nil))) da_nil))) (dcall c__law_pick hgd hr rfl (passes_call (takes_of rfl rfl rfl rfl) (fun _ _ _ _ h => h)) (da_cons (dx_s 0 (pv 0)) (da_cons (dx_v (de_v 3 (pv 3))) da_nil)))))
    (dss_one (ds_ret (de_op op_addA os_add (dx_v (de_tup (da_cons (dx_v (de_v 4 (pv 4))) da_nil))) (dx_v (de_callTy call_tuple_of os_tuple rfl z_tuple bt_tuple (da_cons (dx_v (de_lc (own := [("_law_lap", 6)]) (npn rfl) (by decide) rfl sc__law_nested.nd (di_r1 rfl z_range (da_cons (dx_v (de_ix (ixD (ru65 hr)) os_ix (dx_s 1 (pv 1)) (dx_s 4 (pv 4)) (fun _ _ => rfl))) da_nil)) (blkOk_by (N := ["_law_pen", "_law_arities", "_law_far", "_law_bare_here", "_law_operator", "_law_arity", "_law_lap"]) (sc := defScope s__law_nested) (own := [("_law_lap", 6)]) (by decide +kernel)) (fun _ _ _ _ _ => (pg_name (i := 6) sc__law_nested.nd rfl (by first | exact .inl rfl | exact .inr rfl))) (fun _ _ _ _ _ => pts_yes) (fun _ _ _ _ _ => (dcall c__law_nested hgd hr rfl passL (da_cons (dx_s 0 (pv 0)) (da_cons (dx_v (de_v 1 (pv 1))) (da_cons (dx_v (de_op op_sub os_sub (dx_s 2 (pv 2)) (dx_v de_int))) da_nil))))))) da_nil))))))))
theorem ok__law_nested {f : Addr} {fd : FuncData} {k : Nat} (F : Fun K "_law_nested" "_law_nested" s__law_nested f fd) (hm : mg "_law_nested" = some (.ref f)) (hb : Binds K fd ["_law_pen", "_law_arities", "_law_far"] []) (c__law_draw : CallOk P w K mg T k "_law_draw" ["_law_pen", "_law_many_here"] M__law_draw_2) (c__law_pick : CallOk P w K mg T k "_law_pick" ["_law_pen", "_law_some"] M__law_pick_2) (z_enumerate : mg "enumerate" = none) (z_len : mg "len" = none) (z_range : mg "range" = none) (z_tuple : mg "tuple" = none) : (m : Nat) → CallOk P w K mg T (k + m) "_law_nested" ["_law_pen", "_law_arities", "_law_far"] (M__law_nested m)
  | 0 => callNo F hm hb
  | m + 1 => okS__law_nested F hm hb (ok__law_nested F hm hb c__law_draw c__law_pick z_enumerate z_len z_range z_tuple m) (c__law_draw.mono (Nat.le_add_right _ _)) (c__law_pick.mono (Nat.le_add_right _ _)) z_enumerate z_len z_range z_tuple
abbrev s__law_chain : Stmt := topS 50
theorem sc__law_chain : FnScope ["_law_pen", "_law_arities", "_law_many_here", "_law_bare_here", "_law_more", "_law_found", "_law_lap", "_law_operator", "_law_parts", "_law_arity", "_law_turn"] ["_law_pen", "_law_arities", "_law_many_here"] (defScope s__law_chain) := ⟨rfl, rfl, rfl, by decide +kernel, rfl, by decide +kernel, by decide +kernel⟩
theorem ok__law_chain {f : Addr} {fd : FuncData} {k : Nat} (F : Fun K "_law_chain" "_law_chain" s__law_chain f fd) (hm : mg "_law_chain" = some (.ref f)) (hb : Binds K fd ["_law_pen", "_law_arities", "_law_many_here"] []) (c__law_draw : CallOk P w K mg T k "_law_draw" ["_law_pen", "_law_many_here"] M__law_draw_2) (c__law_pick : CallOk P w K mg T k "_law_pick" ["_law_pen", "_law_some"] M__law_pick_2) (z_enumerate : mg "enumerate" = none) (z_int : mg "int" = none) (z_len : mg "len" = none) (z_range : mg "range" = none) (z_tuple : mg "tuple" = none) : CallOk P w K mg T (k + 1) "_law_chain" ["_law_pen", "_law_arities", "_law_many_here"] M__law_chain :=
  callOk_of F hm hb fun base => fnD F sc__law_chain rfl rfl (by decide) fun cdv A outer s H qv E hgd hr => (dss_cons (ds_fz [3] (ds_setLc (i := 3) (own := [("_law_operator", 7), ("_law_arity", 9)]) (np1 rfl) (npn rfl) (by decide) rfl sc__law_chain.nd rfl rfl (sw_true rfl rfl rfl (by decide +kernel)) (di_en rfl z_enumerate (da_cons (dx_v (de_v 1 (pv 1))) da_nil)) (blkOk_by (N := ["_law_pen", "_law_arities", "_law_many_here", "_law_bare_here", "_law_more", "_law_found", "_law_lap", "_law_operator", "_law_parts", "_law_arity", "_law_turn"]) (sc := defScope s__law_chain) (own := [("_law_operator", 7), ("_law_arity", 9)]) (by decide +kernel)) (fun _ _ _ _ _ => (pg_tup rfl (pgs_cons (pg_name (i := 7) sc__law_chain.nd rfl (by first | exact .inl rfl | exact .inr rfl)) (pgs_cons (pg_name (i := 9) sc__law_chain.nd rfl (by first | exact .inl rfl | exact .inr rfl)) pgs_nil)))) (fun _ _ _ _ _ => (pts_one (dt_cmp (op_eqA (ru64 hr)) os_eq (dx_s 9 (pv 9)) (dx_v de_int) (nomark _)))) (fun _ _ _ _ _ => (de_v 7 (pv 7)))) nx_set)
    (dss_cons (ds_fz [4] (ds_setLc (i := 4) (own := [("_law_operator", 7), ("_law_arity", 9)]) (np1 rfl) (npn rfl) (by decide) rfl sc__law_chain.nd rfl rfl (sw_true rfl rfl rfl (by decide +kernel)) (di_en rfl z_enumerate (da_cons (dx_v (de_v 1 (pv 1))) da_nil)) (blkOk_by (N := ["_law_pen", "_law_arities", "_law_many_here", "_law_bare_here", "_law_more", "_law_found", "_law_lap", "_law_operator", "_law_parts", "_law_arity", "_law_turn"]) (sc := defScope s__law_chain) (own := [("_law_operator", 7), ("_law_arity", 9)]) (by decide +kernel)) (fun _ _ _ _ _ => (pg_tup rfl (pgs_cons (pg_name (i := 7) sc__law_chain.nd rfl (by first | exact .inl rfl | exact .inr rfl)) (pgs_cons (pg_name (i := 9) sc__law_chain.nd rfl (by first | exact .inl rfl | exact .inr rfl)) pgs_nil)))) (fun _ _ _ _ _ => (pts_one (dt_cmp op_gt os_cmI (dx_s 9 (pv 9)) (dx_v de_int) (nomark _)))) (fun _ _ _ _ _ => (de_v 7 (pv 7)))) nx_set)
    (dss_cons (ds_wp [3] (ds_set (i := 5) sc__law_chain.nd rfl (by first | exact .inl rfl | exact .inr rfl) (np1 rfl) (de_lst (da_cons (dx_v (de_tup (da_cons (dx_v (dcall c__law_pick hgd hr rfl (passes_call (takes_of rfl rfl rfl rfl) (fun _ _ _ _ h => h)) (da_cons (dx_s 0 (pv 0)) (da_cons (dx_v (de_v 3 (pv 3))) da_nil)))) da_nil))) da_nil))))
    (dss_cons (ds_wp [1, 2, 4, 6, 7, 8] (ds_for (npn rfl) (passes_of rfl) rfl (di_r1 rfl z_range (da_cons (dx_v (de_op op_mulB os_mulB (dx_s 2 (pv 2)) (dx_v (de_callTy call_int1 os_int rfl z_int bt_int (da_cons (dx_v (de_cmp (op_neA (ru64 hr)) os_ne (dx_s 4 (pv 4)) (dx_v (de_lst da_nil)) (nomark _))) da_nil))))) da_nil)) (pg_name (i := 6) sc__law_chain.nd rfl (by first | exact .inl rfl | exact .inr rfl)) (dss_cons (ds_set (i := 7) sc__law_chain.nd rfl (by first | exact .inl rfl | exact .inr rfl) (np1 rfl) (dcall c__law_pick hgd hr rfl (passes_call (takes_of rfl rfl rfl rfl) (fun _ _ _ _ h => h)) (da_cons (dx_s 0 (pv 0)) (da_cons (dx_v (de_v 4 (pv 4))) da_nil))))
    (dss_cons (ds_fz [8] (ds_set (i := 8) sc__law_chain.nd rfl (by first | exact .inl rfl | exact .inr rfl) (np1 rfl) (de_op op_addA os_add (dx_v (de_lst (da_cons (dx_v (de_op op_sub os_sub (dx_v (de_callB call_lenA os_len rfl z_len bt_len (da_cons (dx_s 5 (pv 5)) da_nil))) (dx_v de_int))) da_nil))) (dx_v (de_lc (own := [("_law_turn", 10)]) (npn rfl) (by decide) rfl sc__law_chain.nd (di_r1 rfl z_range (da_cons (dx_v (de_op op_sub os_sub (dx_v (de_ix (ixD (ru65 hr)) os_ix (dx_s 1 (pv 1)) (dx_s 7 (pv 7)) (fun _ _ => rfl))) (dx_v de_int))) da_nil)) (blkOk_by (N := ["_law_pen", "_law_arities", "_law_many_here", "_law_bare_here", "_law_more", "_law_found", "_law_lap", "_law_operator", "_law_parts", "_law_arity", "_law_turn"]) (sc := defScope s__law_chain) (own := [("_law_turn", 10)]) (by decide +kernel)) (fun _ _ _ _ _ => (pg_name (i := 10) sc__law_chain.nd rfl (by first | exact .inl rfl | exact .inr rfl))) (fun _ _ _ _ _ => pts_yes) (fun _ _ _ _ _ => (dcall c__law_draw hgd hr rfl passL (da_cons (dx_s 0 (pv 0)) (da_cons (dx_v (de_callB call_lenA os_len rfl z_len bt_len (da_cons (dx_s 5 (pv 5)) da_nil))) da_nil)))))))) nx_set)
    (dss_one (ds_wp [6, 7, 8] (ds_app (pv 5) (de_op op_addA os_add (dx_v (de_tup (da_cons (dx_v (de_v 7 (pv 7))) da_nil))) (dx_v (de_callTy call_tuple_of os_tuple rfl z_tuple bt_tuple (da_cons (dx_v (de_if (dt_cmp (op_eqA (ru64 hr)) os_eq (dx_v (dcall c__law_draw hgd hr rfl (passes_call (takes_of rfl rfl rfl rfl) (fun _ _ _ _ h => h)) (da_cons (dx_s 0 (pv 0)) (da_cons (dx_v de_int) da_nil)))) (dx_v de_int) (nomark _)) (de_v 8 (pv 8)) (de_rev (dx_s 8 (pv 8))))) da_nil)))))))))))
    (dss_one (ds_ret (de_callTy call_tuple_of os_tuple rfl z_tuple bt_tuple (da_cons (dx_s 5 (pv 5)) da_nil))))))))
abbrev s__law_some_trees : Stmt := topS 49
theorem sc__law_some_trees : FnScope ["_law_pen", "_law_arities", "_law_found", "_law_lap"] ["_law_pen", "_law_arities"] (defScope s__law_some_trees) := ⟨rfl, rfl, rfl, by decide +kernel, rfl, by decide +kernel, by decide +kernel⟩
theorem ok__law_some_trees {f : Addr} {fd : FuncData} {k : Nat} (F : Fun K "_law_some_trees" "_law_some_trees" s__law_some_trees f fd) (hm : mg "_law_some_trees" = some (.ref f)) (hb : Binds K fd ["_law_pen", "_law_arities"] []) (c__law_chain : CallOk P w K mg T k "_law_chain" ["_law_pen", "_law_arities", "_law_many_here"] M__law_chain) (c__law_draw : CallOk P w K mg T k "_law_draw" ["_law_pen", "_law_many_here"] M__law_draw_2) (c__law_nested : CallOk P w K mg T k "_law_nested" ["_law_pen", "_law_arities", "_law_far"] (M__law_nested 20)) (c__law_written_of : CallOk P w K mg T k "_law_written_of" ["_law_nested_here"] (M__law_written_of 20)) (z_range : mg "range" = none) : CallOk P w K mg T (k + 1) "_law_some_trees" ["_law_pen", "_law_arities"] M__law_some_trees :=
  callOk_of F hm hb fun base => fnD F sc__law_some_trees rfl rfl (by decide) fun cdv A outer s H qv E hgd hr => (dss_cons (ds_fz [2] (ds_setLc (i := 2) (own := [("_law_lap", 3)]) (np1 rfl) (npn rfl) (by decide) rfl sc__law_some_trees.nd rfl rfl (sw_true rfl rfl rfl (by decide +kernel)) (di_r1 rfl z_range (da_cons (dx_v de_int) da_nil)) (blkOk_by (N := ["_law_pen", "_law_arities", "_law_found", "_law_lap"]) (sc := defScope s__law_some_trees) (own := [("_law_lap", 3)]) (by decide +kernel)) (fun _ _ _ _ _ => (pg_name (i := 3) sc__law_some_trees.nd rfl (by first | exact .inl rfl | exact .inr rfl))) (fun _ _ _ _ _ => pts_yes) (fun _ _ _ _ _ => (dcall c__law_written_of hgd hr rfl passL (da_cons (dx_v (dcall c__law_nested hgd hr rfl passL (da_cons (dx_s 0 (pv 0)) (da_cons (dx_v (de_v 1 (pv 1))) (da_cons (dx_v (de_op op_addA os_add (dx_v de_int) (dx_v (dcall c__law_draw hgd hr rfl passL (da_cons (dx_s 0 (pv 0)) (da_cons (dx_v de_int) da_nil)))))) da_nil))))) da_nil)))) nx_set)
    (dss_one (ds_ret (de_op op_addA os_add (dx_s 2 (pv 2)) (dx_v (de_lc (own := [("_law_lap", 3)]) (npn rfl) (by decide) rfl sc__law_some_trees.nd (di_r1 rfl z_range (da_cons (dx_v de_int) da_nil)) (blkOk_by (N := ["_law_pen", "_law_arities", "_law_found", "_law_lap"]) (sc := defScope s__law_some_trees) (own := [("_law_lap", 3)]) (by decide +kernel)) (fun _ _ _ _ _ => (pg_name (i := 3) sc__law_some_trees.nd rfl (by first | exact .inl rfl | exact .inr rfl))) (fun _ _ _ _ _ => pts_yes) (fun _ _ _ _ _ => (dcall c__law_chain hgd hr rfl passL (da_cons (dx_s 0 (pv 0)) (da_cons (dx_v (de_v 1 (pv 1))) (da_cons (dx_v (de_op op_addA os_add (dx_v de_int) (dx_v (dcall c__law_draw hgd hr rfl passL (da_cons (dx_s 0 (pv 0)) (da_cons (dx_v de_int) da_nil)))))) da_nil)))))))))))
abbrev s__law_all_trees : Stmt := topS 53
theorem sc__law_all_trees : FnScope ["_law_arities", "_law_most", "_law_many_here", "_law_by", "_law_found", "_law_row", "_law_operator", "_law_arity", "_law_first", "_law_part", "_law_one", "_law_last"] ["_law_arities", "_law_most"] (defScope s__law_all_trees) := ⟨rfl, rfl, rfl, by decide +kernel, rfl, by decide +kernel, by decide +kernel⟩
theorem ok__law_all_trees {f : Addr} {fd : FuncData} {k : Nat} (F : Fun K "_law_all_trees" "_law_all_trees" s__law_all_trees f fd) (hm : mg "_law_all_trees" = some (.ref f)) (hb : Binds K fd ["_law_arities", "_law_most"] []) (c__law_written_of : CallOk P w K mg T k "_law_written_of" ["_law_nested_here"] (M__law_written_of 20)) (z_enumerate : mg "enumerate" = none) (z_int : mg "int" = none) (z_range : mg "range" = none) : CallOk P w K mg T (k + 1) "_law_all_trees" ["_law_arities", "_law_most"] M__law_all_trees :=
  callOk_of F hm hb fun base => fnD F sc__law_all_trees rfl rfl (by decide) fun cdv A outer s H qv E hgd hr => (dss_cons (ds_fz [4] (ds_par (i := 3) (j := 4) (np1 rfl) (np1 rfl) rfl sc__law_all_trees.nd rfl rfl (by decide) rfl rfl (de_lst (da_cons (dx_v (de_lst da_nil)) da_nil)) (de_lst da_nil)) nx_par)
    (dss_cons (ds_wp [0, 1, 2, 3, 5, 6, 7, 8, 9] (ds_for (npn rfl) (passes_of rfl) rfl (di_r2 rfl z_range (da_cons (dx_v de_int) (da_cons (dx_v (de_op op_addA os_add (dx_s 1 (pv 1)) (dx_v de_int))) da_nil))) (pg_name (i := 2) sc__law_all_trees.nd rfl (by first | exact .inl rfl | exact .inr rfl)) (dss_cons (ds_set (i := 5) sc__law_all_trees.nd rfl (by first | exact .inl rfl | exact .inr rfl) (np1 rfl) (de_lst da_nil))
    (dss_cons (ds_wp [2, 6, 7, 8, 9] (ds_for (npn rfl) (passes_of rfl) rfl (di_en rfl z_enumerate (da_cons (dx_v (de_v 0 (pv 0))) da_nil)) (pg_tup rfl (pgs_cons (pg_name (i := 6) sc__law_all_trees.nd rfl (by first | exact .inl rfl | exact .inr rfl)) (pgs_cons (pg_name (i := 7) sc__law_all_trees.nd rfl (by first | exact .inl rfl | exact .inr rfl)) pgs_nil))) (dss_cons (ds_if (dw_t (dw_and (dt_cmp (op_eqA (ru64 hr)) os_eq (dx_s 7 (pv 7)) (dx_v de_int) (nomark _)) (dw_and1 (dt_cmp (op_eqA (ru64 hr)) os_eq (dx_s 2 (pv 2)) (dx_v de_int) (nomark _))))) (dss_one (ds_app (pv 5) (de_tup (da_cons (dx_v (de_v 6 (pv 6))) da_nil)))) dss_nil)
    (dss_cons (ds_if (dt_cmp (op_eqA (ru64 hr)) os_eq (dx_s 7 (pv 7)) (dx_v de_int) (nomark _)) (dss_one (ds_set (i := 5) sc__law_all_trees.nd rfl (by first | exact .inl rfl | exact .inr rfl) (np1 rfl) (de_op op_addA os_add (dx_s 5 (pv 5)) (dx_v (de_lc (own := [("_law_part", 9)]) (npn rfl) (by decide) rfl sc__law_all_trees.nd (di_seq (dx_v (de_ix (ixD (ru65 hr)) os_ix (dx_s 3 (pv 3)) (dx_v (de_op op_sub os_sub (dx_s 2 (pv 2)) (dx_v de_int))) (fun _ _ => rfl)))) (blkOk_by (N := ["_law_arities", "_law_most", "_law_many_here", "_law_by", "_law_found", "_law_row", "_law_operator", "_law_arity", "_law_first", "_law_part", "_law_one", "_law_last"]) (sc := defScope s__law_all_trees) (own := [("_law_part", 9)]) (by decide +kernel)) (fun _ _ _ _ _ => (pg_name (i := 9) sc__law_all_trees.nd rfl (by first | exact .inl rfl | exact .inr rfl))) (fun _ _ _ _ _ => pts_yes) (fun _ _ _ _ _ => (de_tup (da_cons (dx_v (de_v 6 (pv 6))) (da_cons (dx_v (de_v 9 (pv 9))) da_nil))))))))) dss_nil)
    (dss_one (ds_wp [6, 7, 8, 9] (ds_for (npn rfl) (passes_of rfl) rfl (di_r2 rfl z_range (da_cons (dx_v de_int) (da_cons (dx_v (de_op op_mulB os_mulB (dx_v (de_op op_sub os_sub (dx_s 2 (pv 2)) (dx_v de_int))) (dx_v (de_callTy call_int1 os_int rfl z_int bt_int (da_cons (dx_v (de_cmp (op_eqA (ru64 hr)) os_eq (dx_s 7 (pv 7)) (dx_v de_int) (nomark _))) da_nil))))) da_nil))) (pg_name (i := 8) sc__law_all_trees.nd rfl (by first | exact .inl rfl | exact .inr rfl)) (dss_one (ds_wp [8, 9] (ds_for (npn rfl) (passes_of rfl) rfl (di_seq (dx_v (de_ix (ixD (ru65 hr)) os_ix (dx_s 3 (pv 3)) (dx_s 8 (pv 8)) (fun _ _ => rfl)))) (pg_name (i := 9) sc__law_all_trees.nd rfl (by first | exact .inl rfl | exact .inr rfl)) (dss_one (ds_wp [9] (ds_set (i := 5) sc__law_all_trees.nd rfl (by first | exact .inl rfl | exact .inr rfl) (np1 rfl) (de_op op_addA os_add (dx_s 5 (pv 5)) (dx_v (de_lc (own := [("_law_last", 11)]) (npn rfl) (by decide) rfl sc__law_all_trees.nd (di_seq (dx_v (de_ix (ixD (ru65 hr)) os_ix (dx_s 3 (pv 3)) (dx_v (de_op op_sub os_sub (dx_v (de_op op_sub os_sub (dx_s 2 (pv 2)) (dx_v de_int))) (dx_s 8 (pv 8)))) (fun _ _ => rfl)))) (blkOk_by (N := ["_law_arities", "_law_most", "_law_many_here", "_law_by", "_law_found", "_law_row", "_law_operator", "_law_arity", "_law_first", "_law_part", "_law_one", "_law_last"]) (sc := defScope s__law_all_trees) (own := [("_law_last", 11)]) (by decide +kernel)) (fun _ _ _ _ _ => (pg_name (i := 11) sc__law_all_trees.nd rfl (by first | exact .inl rfl | exact .inr rfl))) (fun _ _ _ _ _ => pts_yes) (fun _ _ _ _ _ => (de_tup (da_cons (dx_v (de_v 6 (pv 6))) (da_cons (dx_v (de_v 9 (pv 9))) (da_cons (dx_v (de_v 11 (pv 11))) da_nil)))))))))))))))))))))
    (dss_cons (ds_app (pv 3) (de_slHi (dx_s 5 (pv 5)) (dx_v de_int)))
    (dss_one (ds_wp [5] (ds_fz [4] (ds_set (i := 4) sc__law_all_trees.nd rfl (by first | exact .inl rfl | exact .inr rfl) (np1 rfl) (de_op op_addA os_add (dx_s 4 (pv 4)) (dx_v (de_lc (own := [("_law_one", 10)]) (npn rfl) (by decide) rfl sc__law_all_trees.nd (di_seq (dx_v (de_slHi (dx_s 5 (pv 5)) (dx_v de_int)))) (blkOk_by (N := ["_law_arities", "_law_most", "_law_many_here", "_law_by", "_law_found", "_law_row", "_law_operator", "_law_arity", "_law_first", "_law_part", "_law_one", "_law_last"]) (sc := defScope s__law_all_trees) (own := [("_law_one", 10)]) (by decide +kernel)) (fun _ _ _ _ _ => (pg_name (i := 10) sc__law_all_trees.nd rfl (by first | exact .inl rfl | exact .inr rfl))) (fun _ _ _ _ _ => pts_yes) (fun _ _ _ _ _ => (dcall c__law_written_of hgd hr rfl passL (da_cons (dx_v (de_v 10 (pv 10))) da_nil))))))) nx_set))))))))
    (dss_one (ds_ret (de_m 4 (pv 4))))))
abbrev s__law_is_tree : Stmt := topS 51
theorem sc__law_is_tree : FnScope ["_law_arities", "_law_thing", "_law_at", "_law_node", "_law_one"] ["_law_arities", "_law_thing"] (defScope s__law_is_tree) := ⟨rfl, rfl, rfl, by decide +kernel, rfl, by decide +kernel, by decide +kernel⟩
theorem ok__law_is_tree {f : Addr} {fd : FuncData} {k : Nat} (F : Fun K "_law_is_tree" "_law_is_tree" s__law_is_tree f fd) (hm : mg "_law_is_tree" = some (.ref f)) (hb : Binds K fd ["_law_arities", "_law_thing"] []) (z_bool : mg "bool" = none) (z_enumerate : mg "enumerate" = none) (z_int : mg "int" = none) (z_isinstance : mg "isinstance" = none) (z_len : mg "len" = none) (z_tuple : mg "tuple" = none) : CallOk P w K mg T (k + 1) "_law_is_tree" ["_law_arities", "_law_thing"] M__law_is_tree :=
  callOk_of F hm hb fun base => fnD F sc__law_is_tree rfl rfl (by decide) fun cdv A outer s H qv E hgd hr => (dss_cons (ds_if (dw_t (dw_or (dt_not (dt_val (de_isi .tuple rfl z_isinstance bt_isinstance (dx_s 1 (pv 1)) (pty rfl z_tuple bt_tuple)))) (dw_or1 (dt_cmp (op_eqA (ru64 hr)) os_eq (dx_s 1 (pv 1)) (dx_v (de_tup da_nil)) (nomark _))))) (dss_one (ds_ret de_bl)) dss_nil)
    (dss_cons (ds_wp [0, 1, 2, 3] (ds_for (npn rfl) (passes_of rfl) rfl (di_en rfl z_enumerate (da_cons (dx_v (de_v 1 (pv 1))) da_nil)) (pg_tup rfl (pgs_cons (pg_name (i := 2) sc__law_is_tree.nd rfl (by first | exact .inl rfl | exact .inr rfl)) (pgs_cons (pg_name (i := 3) sc__law_is_tree.nd rfl (by first | exact .inl rfl | exact .inr rfl)) pgs_nil))) (dss_cons (ds_if (dw_t (dw_or (dt_not (dt_val (de_isi .tuple rfl z_isinstance bt_isinstance (dx_s 3 (pv 3)) (pty rfl z_tuple bt_tuple)))) (dw_or1 (dt_cmp (op_eqA (ru64 hr)) os_eq (dx_s 3 (pv 3)) (dx_v (de_tup da_nil)) (nomark _))))) (dss_one (ds_ret de_bl)) dss_nil)
    (dss_cons (ds_if (dt_cmp (op_neA (ru64 hr)) os_ne (dx_v (de_lc (own := [("_law_one", 4)]) (npn rfl) (by decide) rfl sc__law_is_tree.nd (di_seq (dx_v (de_v 3 (pv 3)))) (blkOk_by (N := ["_law_arities", "_law_thing", "_law_at", "_law_node", "_law_one"]) (sc := defScope s__law_is_tree) (own := [("_law_one", 4)]) (by decide +kernel)) (fun _ _ _ _ _ => (pg_name (i := 4) sc__law_is_tree.nd rfl (by first | exact .inl rfl | exact .inr rfl))) (fun _ _ _ _ _ => (pts_one (dw_t (dw_or (dt_not (dt_val (de_isi .int rfl z_isinstance bt_isinstance (dx_s 4 (pv 4)) (pty rfl z_int bt_int)))) (dw_or (dt_val (de_isi .bool rfl z_isinstance bt_isinstance (dx_s 4 (pv 4)) (pty rfl z_bool bt_bool))) (dw_or1 (dt_cmp op_lt os_cmI (dx_s 4 (pv 4)) (dx_v de_int) (nomark _)))))))) (fun _ _ _ _ _ => de_int))) (dx_v (de_lst da_nil)) (nomark _)) (dss_one (ds_ret de_bl)) dss_nil)
    (dss_cons (ds_if (dw_t (dw_or (dt_cmp op_ge os_cmI (dx_v (de_ix (ixD (ru65 hr)) os_ix (dx_s 3 (pv 3)) (dx_v de_int) (fun _ _ => rfl))) (dx_v (de_callB call_lenA os_len rfl z_len bt_len (da_cons (dx_s 0 (pv 0)) da_nil))) (nomark _)) (dw_or1 (dt_cmp (op_neA (ru64 hr)) os_ne (dx_v (de_callB call_lenA os_len rfl z_len bt_len (da_cons (dx_s 3 (pv 3)) da_nil))) (dx_v (de_op op_addA os_add (dx_v de_int) (dx_v (de_ix (ixD (ru65 hr)) os_ix (dx_s 0 (pv 0)) (dx_v (de_ix (ixD (ru65 hr)) os_ix (dx_s 3 (pv 3)) (dx_v de_int) (fun _ _ => rfl))) (fun _ _ => rfl))))) (nomark _))))) (dss_one (ds_ret de_bl)) dss_nil)
    (dss_one (ds_wp [2, 3] (ds_if (dt_cmp (op_neA (ru64 hr)) os_ne (dx_v (de_lc (own := [("_law_one", 4)]) (npn rfl) (by decide) rfl sc__law_is_tree.nd (di_seq (dx_v (de_slLo (dx_s 3 (pv 3)) (dx_v de_int)))) (blkOk_by (N := ["_law_arities", "_law_thing", "_law_at", "_law_node", "_law_one"]) (sc := defScope s__law_is_tree) (own := [("_law_one", 4)]) (by decide +kernel)) (fun _ _ _ _ _ => (pg_name (i := 4) sc__law_is_tree.nd rfl (by first | exact .inl rfl | exact .inr rfl))) (fun _ _ _ _ _ => (pts_one (dt_cmp op_ge os_cmI (dx_s 4 (pv 4)) (dx_s 2 (pv 2)) (nomark _)))) (fun _ _ _ _ _ => de_int))) (dx_v (de_lst da_nil)) (nomark _)) (dss_one (ds_ret de_bl)) dss_nil))))))))
    (dss_one (ds_ret de_bl))))
abbrev s__law_no_trees : Stmt := topS 52
theorem sc__law_no_trees : FnScope ["_law_arities", "_law_some", "_law_thing"] ["_law_arities"] (defScope s__law_no_trees) := ⟨rfl, rfl, rfl, by decide +kernel, rfl, by decide +kernel, by decide +kernel⟩
theorem ok__law_no_trees {f : Addr} {fd : FuncData} {k : Nat} (F : Fun K "_law_no_trees" "_law_no_trees" s__law_no_trees f fd) (hm : mg "_law_no_trees" = some (.ref f)) (hb : Binds K fd ["_law_arities"] []) (c__law_is_tree : CallOk P w K mg T k "_law_is_tree" ["_law_arities", "_law_thing"] M__law_is_tree) (z_len : mg "len" = none) : CallOk P w K mg T (k + 1) "_law_no_trees" ["_law_arities"] M__law_no_trees :=
  callOk_of F hm hb fun base => fnD F sc__law_no_trees rfl rfl (by decide) fun cdv A outer s H qv E hgd hr => (dss_cons (ds_set (i := 1) sc__law_no_trees.nd rfl (by first | exact .inl rfl | exact .inr rfl) (np1 rfl) (de_lst (da_cons (dx_v de_non) (da_cons (dx_v de_int) (da_cons (dx_v (de_tup da_nil)) (da_cons (dx_v (de_lst da_nil)) (da_cons (dx_v de_str) (da_cons (dx_v de_bl) (da_cons (dx_v de_dnew) (da_cons (dx_v (de_tup (da_cons (dx_v (de_tup da_nil)) da_nil))) (da_cons (dx_v (de_tup (da_cons (dx_v de_int) da_nil))) (da_cons (dx_v (de_lst (da_cons (dx_v (de_tup (da_cons (dx_v de_int) da_nil))) da_nil))) (da_cons (dx_v (de_tup (da_cons (dx_v (de_lst (da_cons (dx_v de_int) da_nil))) da_nil))) (da_cons (dx_v (de_tup (da_cons (dx_v (de_tup (da_cons (dx_v (de_callB call_lenA os_len rfl z_len bt_len (da_cons (dx_s 0 (pv 0)) da_nil))) da_nil))) da_nil))) (da_cons (dx_v (de_tup (da_cons (dx_v (de_tup (da_cons (dx_v (de_un un_neg os_neg (dx_v de_int))) da_nil))) da_nil))) (da_cons (dx_v (de_tup (da_cons (dx_v (de_tup (da_cons (dx_v de_bl) da_nil))) da_nil))) da_nil))))))))))))))))
    (dss_cons (ds_set (i := 1) sc__law_no_trees.nd rfl (by first | exact .inl rfl | exact .inr rfl) (np1 rfl) (de_op op_addA os_add (dx_s 1 (pv 1)) (dx_v (de_lst (da_cons (dx_v (de_tup (da_cons (dx_v (de_tup (da_cons (dx_v de_int) (da_cons (dx_v de_int) da_nil)))) da_nil))) (da_cons (dx_v (de_tup (da_cons (dx_v (de_tup (da_cons (dx_v de_int) (da_cons (dx_v de_int) da_nil)))) da_nil))) (da_cons (dx_v (de_tup (da_cons (dx_v (de_tup (da_cons (dx_v de_int) da_nil))) (da_cons (dx_v de_non) da_nil)))) (da_cons (dx_v (de_tup (da_cons (dx_v (de_tup (da_cons (dx_v de_int) da_nil))) (da_cons (dx_v (de_tup da_nil)) da_nil)))) (da_cons (dx_v (de_tup (da_cons (dx_v (de_tup (da_cons (dx_v de_int) (da_cons (dx_v de_int) da_nil)))) (da_cons (dx_v (de_tup (da_cons (dx_v de_int) da_nil))) da_nil)))) (da_cons (dx_v de_str) (da_cons (dx_v (de_tup (da_cons (dx_v (de_tup (da_cons (dx_v de_non) da_nil))) da_nil))) (da_cons (dx_v (de_tup (da_cons (dx_v (de_tup (da_cons (dx_v de_str) da_nil))) da_nil))) da_nil))))))))))))
    (dss_cons (ds_app (pv 1) (de_tup (da_cons (dx_v (de_tup (da_cons (dx_v de_int) (da_cons (dx_v de_int) (da_cons (dx_v de_int) da_nil))))) da_nil)))
    (dss_one (ds_ret (de_lc (own := [("_law_thing", 2)]) (npn rfl) (by decide) rfl sc__law_no_trees.nd (di_seq (dx_v (de_v 1 (pv 1)))) (blkOk_by (N := ["_law_arities", "_law_some", "_law_thing"]) (sc := defScope s__law_no_trees) (own := [("_law_thing", 2)]) (by decide +kernel)) (fun _ _ _ _ _ => (pg_name (i := 2) sc__law_no_trees.nd rfl (by first | exact .inl rfl | exact .inr rfl))) (fun _ _ _ _ _ => (pts_one (dt_not (dt_val (dcall c__law_is_tree hgd hr rfl passL (da_cons (dx_v (de_v 0 (pv 0))) (da_cons (dx_v (de_v 2 (pv 2))) da_nil))))))) (fun _ _ _ _ _ => (de_v 2 (pv 2)))))))))
abbrev s__law_things : Stmt := topS 57
theorem sc__law_things : FnScope ["_law_pen", "_law_made", "_law_some", "_law_written", "_law_at", "_law_found"] ["_law_pen", "_law_made"] (defScope s__law_things) := ⟨rfl, rfl, rfl, by decide +kernel, rfl, by decide +kernel, by decide +kernel⟩
theorem ok__law_things {f : Addr} {fd : FuncData} {k : Nat} (F : Fun K "_law_things" "_law_things" s__law_things f fd) (hm : mg "_law_things" = some (.ref f)) (hb : Binds K fd ["_law_pen", "_law_made"] []) (c__law_all_trees : CallOk P w K mg T k "_law_all_trees" ["_law_arities", "_law_most"] M__law_all_trees) (c__law_draw : CallOk P w K mg T k "_law_draw" ["_law_pen", "_law_many_here"] M__law_draw_2) (c__law_no_trees : CallOk P w K mg T k "_law_no_trees" ["_law_arities"] M__law_no_trees) (c__law_pick : CallOk P w K mg T k "_law_pick" ["_law_pen", "_law_some"] M__law_pick_2) (c__law_some_trees : CallOk P w K mg T k "_law_some_trees" ["_law_pen", "_law_arities"] M__law_some_trees) (z_len : mg "len" = none) (z_list : mg "list" = none) : CallOk P w K mg T (k + 1) "_law_things" ["_law_pen", "_law_made"] M__law_things_4 :=
  callOk_of F hm hb fun base => fnD F sc__law_things rfl rfl (by decide) fun cdv A outer s H qv E hgd hr => (dss_cons (ds_fz [2] (ds_set (i := 2) sc__law_things.nd rfl (by first | exact .inl rfl | exact .inr rfl) (np1 rfl) (de_op op_addA os_add (dx_v (dcall c__law_some_trees hgd hr rfl (passes_call (takes_of rfl rfl rfl rfl) (fun _ _ _ _ h => h)) (da_cons (dx_s 0 (pv 0)) (da_cons (dx_v (de_ix (ixD (ru65 hr)) os_ix (dx_s 1 (pv 1)) (dx_v de_int) (fun _ _ => rfl))) da_nil)))) (dx_v (dcall c__law_all_trees hgd hr rfl (passes_call (takes_of rfl rfl rfl rfl) (fun _ _ _ _ h => h)) (da_cons (dx_v (de_ix (ixD (ru65 hr)) os_ix (dx_s 1 (pv 1)) (dx_v de_int) (fun _ _ => rfl))) (da_cons (dx_v de_int) da_nil)))))) nx_set)
    (dss_cons (ds_set (i := 3) sc__law_things.nd rfl (by first | exact .inl rfl | exact .inr rfl) (np1 rfl) (dcall c__law_pick hgd hr rfl (passes_call (takes_of rfl rfl rfl rfl) (fun _ _ _ _ h => h)) (da_cons (dx_s 0 (pv 0)) (da_cons (dx_v (de_v 2 (pv 2))) da_nil))))
    (dss_cons (ds_set (i := 4) sc__law_things.nd rfl (by first | exact .inl rfl | exact .inr rfl) (np1 rfl) (dcall c__law_draw hgd hr rfl (passes_call (takes_of rfl rfl rfl rfl) (fun _ _ _ _ h => h)) (da_cons (dx_s 0 (pv 0)) (da_cons (dx_v (de_callB call_lenA os_len rfl z_len bt_len (da_cons (dx_s 3 (pv 3)) da_nil))) da_nil))))
    (dss_cons (ds_set (i := 5) sc__law_things.nd rfl (by first | exact .inl rfl | exact .inr rfl) (np1 rfl) (de_op op_addA os_add (dx_v (de_op op_addA os_add (dx_s 2 (pv 2)) (dx_v (dcall c__law_no_trees hgd hr rfl (passes_call (takes_of rfl rfl rfl rfl) (fun _ _ _ _ h => h)) (da_cons (dx_v (de_ix (ixD (ru65 hr)) os_ix (dx_s 1 (pv 1)) (dx_v de_int) (fun _ _ => rfl))) da_nil))))) (dx_v (de_lst (da_cons (dx_v (de_callTy call_list_of os_list rfl z_list bt_list (da_cons (dx_s 3 (pv 3)) da_nil))) (da_cons (dx_v (de_revA (dx_s 3 (pv 3)))) (da_cons (dx_v (de_op op_addA os_add (dx_s 3 (pv 3)) (dx_v (de_slHi (dx_s 3 (pv 3)) (dx_v de_int))))) (da_cons (dx_v (de_slLo (dx_s 3 (pv 3)) (dx_v de_int))) da_nil))))))))
    (dss_cons (ds_app (pv 5) (de_tup (da_cons (dx_v (de_v 3 (pv 3))) da_nil)))
    (dss_cons (ds_app (pv 5) (de_op op_addA os_add (dx_v (de_op op_addA os_add (dx_v (de_slHi (dx_s 3 (pv 3)) (dx_s 4 (pv 4)))) (dx_v (de_tup (da_cons (dx_v (de_callTy call_list_of os_list rfl z_list bt_list (da_cons (dx_v (de_ix (ixD (ru65 hr)) os_ix (dx_s 3 (pv 3)) (dx_s 4 (pv 4)) (fun _ _ => rfl))) da_nil))) da_nil))))) (dx_v (de_slLo (dx_s 3 (pv 3)) (dx_v (de_op op_addA os_add (dx_s 4 (pv 4)) (dx_v de_int)))))))
    (dss_cons (ds_app (pv 5) (de_op op_addA os_add (dx_v (de_op op_addA os_add (dx_v (de_slHi (dx_s 3 (pv 3)) (dx_s 4 (pv 4)))) (dx_v (de_tup (da_cons (dx_v (de_op op_addA os_add (dx_v (de_ix (ixD (ru65 hr)) os_ix (dx_s 3 (pv 3)) (dx_s 4 (pv 4)) (fun _ _ => rfl))) (dx_v (de_tup (da_cons (dx_v de_int) da_nil))))) da_nil))))) (dx_v (de_slLo (dx_s 3 (pv 3)) (dx_v (de_op op_addA os_add (dx_s 4 (pv 4)) (dx_v de_int)))))))
    (dss_one (ds_ret (de_op op_addA os_add (dx_s 5 (pv 5)) (dx_v (de_lst (da_cons (dx_v (de_op op_addA os_add (dx_v (de_op op_addA os_add (dx_v (de_slHi (dx_s 3 (pv 3)) (dx_s 4 (pv 4)))) (dx_v (de_tup (da_cons (dx_v (de_slHi (dx_v (de_ix (ixD (ru65 hr)) os_ix (dx_s 3 (pv 3)) (dx_s 4 (pv 4)) (fun _ _ => rfl))) (dx_v (de_un un_neg os_neg (dx_v de_int))))) da_nil))))) (dx_v (de_slLo (dx_s 3 (pv 3)) (dx_v (de_op op_addA os_add (dx_s 4 (pv 4)) (dx_v de_int))))))) (da_cons (dx_v (de_op op_addA os_add (dx_v (de_slHi (dx_s 3 (pv 3)) (dx_s 4 (pv 4)))) (dx_v (de_slLo (dx_s 3 (pv 3)) (dx_v (de_op op_addA os_add (dx_s 4 (pv 4)) (dx_v de_int))))))) da_nil))))))))))))))
abbrev s__law_arities_of : Stmt := topS 46
theorem sc__law_arities_of : FnScope ["_law_pen"] ["_law_pen"] (defScope s__law_arities_of) := ⟨rfl, rfl, rfl, by decide +kernel, rfl, by decide +kernel, by decide +kernel⟩
theorem ok__law_arities_of {f : Addr} {fd : FuncData} {k : Nat} (F : Fun K "_law_arities_of" "_law_arities_of" s__law_arities_of f fd) (hm : mg "_law_arities_of" = some (.ref f)) (hb : Binds K fd ["_law_pen"] []) (c__law_pick : CallOk P w K mg T k "_law_pick" ["_law_pen", "_law_some"] M__law_pick_2) : CallOk P w K mg T (k + 1) "_law_arities_of" ["_law_pen"] M__law_arities_of :=
  callOk_of F hm hb fun base => fnD F sc__law_arities_of rfl rfl (by decide) fun cdv A outer s H qv E hgd hr => (dss_one (ds_ret (dcall c__law_pick hgd hr rfl (passes_call (takes_of rfl rfl rfl rfl) (fun _ _ _ _ h => h)) (da_cons (dx_s 0 (pv 0)) (da_cons (dx_v (de_lst (da_cons (dx_v (de_tup (da_cons (dx_v de_int) (da_cons (dx_v de_int) da_nil)))) (da_cons (dx_v (de_tup (da_cons (dx_v de_int) (da_cons (dx_v de_int) da_nil)))) (da_cons (dx_v (de_tup (da_cons (dx_v de_int) (da_cons (dx_v de_int) (da_cons (dx_v de_int) da_nil))))) (da_cons (dx_v (de_tup (da_cons (dx_v de_int) (da_cons (dx_v de_int) (da_cons (dx_v de_int) da_nil))))) (da_cons (dx_v (de_tup (da_cons (dx_v de_int) (da_cons (dx_v de_int) da_nil)))) (da_cons (dx_v (de_tup (da_cons (dx_v de_int) (da_cons (dx_v de_int) (da_cons (dx_v de_int) da_nil))))) (da_cons (dx_v (de_tup (da_cons (dx_v de_int) (da_cons (dx_v de_int) da_nil)))) (da_cons (dx_v (de_tup (da_cons (dx_v de_int) da_nil))) (da_cons (dx_v (de_tup (da_cons (dx_v de_int) (da_cons (dx_v de_int) da_nil)))) da_nil))))))))))) da_nil)))))
abbrev s__law_many : Stmt := topS 54
theorem sc__law_many : FnScope ["_law_made"] ["_law_made"] (defScope s__law_many) := ⟨rfl, rfl, rfl, by decide +kernel, rfl, by decide +kernel, by decide +kernel⟩
theorem ok__law_many {f : Addr} {fd : FuncData} {k : Nat} (F : Fun K "_law_many" "_law_many" s__law_many f fd) (hm : mg "_law_many" = some (.ref f)) (hb : Binds K fd ["_law_made"] []) (z_len : mg "len" = none) : CallOk P w K mg T (k + 1) "_law_many" ["_law_made"] M__law_many :=
  callOk_of F hm hb fun base => fnD F sc__law_many rfl rfl (by decide) fun cdv A outer s H qv E hgd hr => (dss_one (ds_ret (de_op op_addA os_add (dx_v (de_callB call_lenA os_len rfl z_len bt_len (da_cons (dx_v (de_ix (ixD (ru65 hr)) os_ix (dx_s 0 (pv 0)) (dx_v de_int) (fun _ _ => rfl))) da_nil))) (dx_v (de_callB call_lenA os_len rfl z_len bt_len (da_cons (dx_v (de_ix (ixD (ru65 hr)) os_ix (dx_s 0 (pv 0)) (dx_v de_int) (fun _ _ => rfl))) da_nil))))))
abbrev s__law_closed : Stmt := topS 40
theorem sc__law_closed : FnScope ["_law_made", "_law_row", "_law_lap", "_law_first", "_law_last", "_law_price"] ["_law_made", "_law_row"] (defScope s__law_closed) := ⟨rfl, rfl, rfl, by decide +kernel, rfl, by decide +kernel, by decide +kernel⟩
theorem ok__law_closed {f : Addr} {fd : FuncData} {k : Nat} (F : Fun K "_law_closed" "_law_closed" s__law_closed f fd) (hm : mg "_law_closed" = some (.ref f)) (hb : Binds K fd ["_law_made", "_law_row"] []) (z_len : mg "len" = none) (z_list : mg "list" = none) (z_range : mg "range" = none) (z_tuple : mg "tuple" = none) : CallOk P w K mg T (k + 1) "_law_closed" ["_law_made", "_law_row"] M__law_closed_2 :=
  callOk_of F hm hb fun base => fnD F sc__law_closed rfl rfl (by decide) fun cdv A outer s H qv E hgd hr => (dss_cons (ds_set (i := 1) sc__law_closed.nd rfl (by first | exact .inl rfl | exact .inr rfl) (np1 rfl) (de_callTy call_list_of os_list rfl z_list bt_list (da_cons (dx_s 1 (pv 1)) da_nil)))
    (dss_cons (ds_wp [0, 2, 3, 4, 5] (ds_for (npn rfl) (passes_of rfl) rfl (di_r1 rfl z_range (da_cons (dx_v (de_callB call_lenA os_len rfl z_len bt_len (da_cons (dx_s 1 (pv 1)) da_nil))) da_nil)) (pg_name (i := 2) sc__law_closed.nd rfl (by first | exact .inl rfl | exact .inr rfl)) (dss_one (ds_wp [3, 4, 5] (ds_wb [2] (ds_for (npn rfl) (passes_of rfl) rfl (di_seq (dx_v (de_ix (ixD (ru65 hr)) os_ix (dx_s 0 (pv 0)) (dx_v de_int) (fun _ _ => rfl)))) (pg_tup rfl (pgs_cons (pg_name (i := 3) sc__law_closed.nd rfl (by first | exact .inl rfl | exact .inr rfl)) (pgs_cons (pg_name (i := 4) sc__law_closed.nd rfl (by first | exact .inl rfl | exact .inr rfl)) (pgs_cons (pg_name (i := 5) sc__law_closed.nd rfl (by first | exact .inl rfl | exact .inr rfl)) pgs_nil)))) (dss_one (ds_wp [3, 4, 5] (ds_if (dw_t (dw_and (dt_cmp op_notN os_isn (dx_v (de_ix (ixD (ru65 hr)) os_ix (dx_s 1 (pv 1)) (dx_s 3 (pv 3)) (fun _ _ => rfl))) (dx_v de_non) (nomark _)) (dw_and1 (dw_t (dw_or (dt_cmp op_isN os_is (dx_v (de_ix (ixD (ru65 hr)) os_ix (dx_s 1 (pv 1)) (dx_s 4 (pv 4)) (fun _ _ => rfl))) (dx_v de_non) (nomark _)) (dw_or1 (dt_cmp op_lt os_cmI (dx_v (de_op op_addA os_add (dx_v (de_ix (ixD (ru65 hr)) os_ix (dx_s 1 (pv 1)) (dx_s 3 (pv 3)) (fun _ _ => rfl))) (dx_s 5 (pv 5)))) (dx_v (de_ix (ixD (ru65 hr)) os_ix (dx_s 1 (pv 1)) (dx_s 4 (pv 4)) (fun _ _ => rfl))) (nomark _)))))))) (dss_one (ds_setI (pv 1) (dx_s 4 (pv 4)) (de_op op_addA os_add (dx_v (de_ix (ixD (ru65 hr)) os_ix (dx_s 1 (pv 1)) (dx_s 3 (pv 3)) (fun _ _ => rfl))) (dx_s 5 (pv 5))))) dss_nil)))))))))
    (dss_one (ds_ret (de_callTy call_tuple_of os_tuple rfl z_tuple bt_tuple (da_cons (dx_s 1 (pv 1)) da_nil))))))
abbrev s__law_over : Stmt := topS 41
theorem sc__law_over : FnScope ["_law_made", "_law_operator", "_law_rows", "_law_found", "_law_form", "_law_its", "_law_wanted", "_law_price", "_law_parts", "_law_row", "_law_want"] ["_law_made", "_law_operator", "_law_rows"] (defScope s__law_over) := ⟨rfl, rfl, rfl, by decide +kernel, rfl, by decide +kernel, by decide +kernel⟩
theorem ok__law_over {f : Addr} {fd : FuncData} {k : Nat} (F : Fun K "_law_over" "_law_over" s__law_over f fd) (hm : mg "_law_over" = some (.ref f)) (hb : Binds K fd ["_law_made", "_law_operator", "_law_rows"] []) (c__law_closed : CallOk P w K mg T k "_law_closed" ["_law_made", "_law_row"] M__law_closed_2) (z_sum : mg "sum" = none) (z_zip : mg "zip" = none) : CallOk P w K mg T (k + 1) "_law_over" ["_law_made", "_law_operator", "_law_rows"] M__law_over_3 :=
  callOk_of F hm hb fun base => fnD F sc__law_over rfl rfl (by decide) fun cdv A outer s H qv E hgd hr => (dss_cons (ds_set (i := 3) sc__law_over.nd rfl (by first | exact .inl rfl | exact .inr rfl) (np1 rfl) (de_op op_mulB os_mulB (dx_v (de_lst (da_cons (dx_v de_non) da_nil))) (dx_v (de_ix (ixD (ru65 hr)) os_ix (dx_s 0 (pv 0)) (dx_v de_int) (fun _ _ => rfl)))))
    (dss_cons (ds_wp [1, 2, 4, 5, 6, 7, 8] (ds_for (npn rfl) (passes_of rfl) rfl (di_seq (dx_v (de_ix (ixD (ru65 hr)) os_ix (dx_s 0 (pv 0)) (dx_v de_int) (fun _ _ => rfl)))) (pg_tup rfl (pgs_cons (pg_name (i := 4) sc__law_over.nd rfl (by first | exact .inl rfl | exact .inr rfl)) (pgs_cons (pg_name (i := 5) sc__law_over.nd rfl (by first | exact .inl rfl | exact .inr rfl)) (pgs_cons (pg_name (i := 6) sc__law_over.nd rfl (by first | exact .inl rfl | exact .inr rfl)) (pgs_cons (pg_name (i := 7) sc__law_over.nd rfl (by first | exact .inl rfl | exact .inr rfl)) pgs_nil))))) (dss_cons (ds_fz [8] (ds_setLc (i := 8) (own := [("_law_row", 9), ("_law_want", 10)]) (np1 rfl) (npn rfl) (by decide) rfl sc__law_over.nd rfl rfl (sw_true rfl rfl rfl (by decide +kernel)) (di_zp rfl z_zip (da_cons (dx_v (de_v 2 (pv 2))) (da_cons (dx_v (de_v 6 (pv 6))) da_nil))) (blkOk_by (N := ["_law_made", "_law_operator", "_law_rows", "_law_found", "_law_form", "_law_its", "_law_wanted", "_law_price", "_law_parts", "_law_row", "_law_want"]) (sc := defScope s__law_over) (own := [("_law_row", 9), ("_law_want", 10)]) (by decide +kernel)) (fun _ _ _ _ _ => (pg_tup rfl (pgs_cons (pg_name (i := 9) sc__law_over.nd rfl (by first | exact .inl rfl | exact .inr rfl)) (pgs_cons (pg_name (i := 10) sc__law_over.nd rfl (by first | exact .inl rfl | exact .inr rfl)) pgs_nil)))) (fun _ _ _ _ _ => pts_yes) (fun _ _ _ _ _ => (de_ix (ixD (ru65 hr)) os_ix (dx_s 9 (pv 9)) (dx_s 10 (pv 10)) (fun _ _ => rfl)))) nx_set)
    (dss_one (ds_wp [4, 5, 6, 7, 8] (ds_if (dw_t (dw_and (dt_cmp (op_eqA (ru64 hr)) os_eq (dx_s 5 (pv 5)) (dx_s 1 (pv 1)) (nomark _)) (dw_and1 (dt_cmp (op_ninA (ru65 hr)) os_ninA (dx_v de_non) (dx_s 8 (pv 8)) rfl)))) (dss_one (ds_if (dw_t (dw_or (dt_cmp op_isN os_is (dx_v (de_ix (ixD (ru65 hr)) os_ix (dx_s 3 (pv 3)) (dx_s 4 (pv 4)) (fun _ _ => rfl))) (dx_v de_non) (nomark _)) (dw_or1 (dt_cmp op_lt os_cmI (dx_v (de_op op_addA os_add (dx_s 7 (pv 7)) (dx_v (de_callB (cr_sum rfl) os_sum rfl z_sum bt_sum (da_cons (dx_s 8 (pv 8)) da_nil))))) (dx_v (de_ix (ixD (ru65 hr)) os_ix (dx_s 3 (pv 3)) (dx_s 4 (pv 4)) (fun _ _ => rfl))) (nomark _))))) (dss_one (ds_setI (pv 3) (dx_s 4 (pv 4)) (de_op op_addA os_add (dx_s 7 (pv 7)) (dx_v (de_callB (cr_sum rfl) os_sum rfl z_sum bt_sum (da_cons (dx_s 8 (pv 8)) da_nil)))))) dss_nil)) dss_nil))))))
    (dss_one (ds_ret (dcall c__law_closed hgd hr rfl (passes_call (takes_of rfl rfl rfl rfl) (fun _ _ _ _ h => h)) (da_cons (dx_v (de_v 0 (pv 0))) (da_cons (dx_v (de_v 3 (pv 3))) da_nil)))))))
abbrev s__law_rows_for : Stmt := topS 42
theorem sc__law_rows_for : FnScope ["_law_made", "_law_written", "_law_found", "_law_node", "_law_part"] ["_law_made", "_law_written"] (defScope s__law_rows_for) := ⟨rfl, rfl, rfl, by decide +kernel, rfl, by decide +kernel, by decide +kernel⟩
theorem ok__law_rows_for {f : Addr} {fd : FuncData} {k : Nat} (F : Fun K "_law_rows_for" "_law_rows_for" s__law_rows_for f fd) (hm : mg "_law_rows_for" = some (.ref f)) (hb : Binds K fd ["_law_made", "_law_written"] []) (c__law_over : CallOk P w K mg T k "_law_over" ["_law_made", "_law_operator", "_law_rows"] M__law_over_3) : CallOk P w K mg T (k + 1) "_law_rows_for" ["_law_made", "_law_written"] M__law_rows_for_2 :=
  callOk_of F hm hb fun base => fnD F sc__law_rows_for rfl rfl (by decide) fun cdv A outer s H qv E hgd hr => (dss_cons (ds_set (i := 2) sc__law_rows_for.nd rfl (by first | exact .inl rfl | exact .inr rfl) (np1 rfl) (de_lst da_nil))
    (dss_cons (ds_wp [0, 1, 3] (ds_for (npn rfl) (passes_of rfl) rfl (di_seq (dx_v (de_v 1 (pv 1)))) (pg_name (i := 3) sc__law_rows_for.nd rfl (by first | exact .inl rfl | exact .inr rfl)) (dss_one (ds_wp [3] (ds_app (pv 2) (dcall c__law_over hgd hr rfl (passes_call (takes_of rfl rfl rfl rfl) (fun _ _ _ _ h => h)) (da_cons (dx_v (de_v 0 (pv 0))) (da_cons (dx_v (de_ix (ixD (ru65 hr)) os_ix (dx_s 3 (pv 3)) (dx_v de_int) (fun _ _ => rfl))) (da_cons (dx_v (de_lc (own := [("_law_part", 4)]) (npn rfl) (by decide) rfl sc__law_rows_for.nd (di_seq (dx_v (de_slLo (dx_s 3 (pv 3)) (dx_v de_int)))) (blkOk_by (N := ["_law_made", "_law_written", "_law_found", "_law_node", "_law_part"]) (sc := defScope s__law_rows_for) (own := [("_law_part", 4)]) (by decide +kernel)) (fun _ _ _ _ _ => (pg_name (i := 4) sc__law_rows_for.nd rfl (by first | exact .inl rfl | exact .inr rfl))) (fun _ _ _ _ _ => pts_yes) (fun _ _ _ _ _ => (de_ix (ixD (ru65 hr)) os_ix (dx_s 2 (pv 2)) (dx_s 4 (pv 4)) (fun _ _ => rfl))))) da_nil)))))))))
    (dss_one (ds_ret (de_m 2 (pv 2))))))
abbrev s__law_goal_of : Stmt := topS 43
theorem sc__law_goal_of : FnScope ["_law_made", "_law_written"] ["_law_made", "_law_written"] (defScope s__law_goal_of) := ⟨rfl, rfl, rfl, by decide +kernel, rfl, by decide +kernel, by decide +kernel⟩
theorem ok__law_goal_of {f : Addr} {fd : FuncData} {k : Nat} (F : Fun K "_law_goal_of" "_law_goal_of" s__law_goal_of f fd) (hm : mg "_law_goal_of" = some (.ref f)) (hb : Binds K fd ["_law_made", "_law_written"] []) (c__law_rows_for : CallOk P w K mg T k "_law_rows_for" ["_law_made", "_law_written"] M__law_rows_for_2) : CallOk P w K mg T (k + 1) "_law_goal_of" ["_law_made", "_law_written"] M__law_goal_of_2 :=
  callOk_of F hm hb fun base => fnD F sc__law_goal_of rfl rfl (by decide) fun cdv A outer s H qv E hgd hr => (dss_one (ds_ret (de_ix (ixD (ru65 hr)) os_ix (dx_v (de_ix (ixD (ru65 hr)) os_ix (dx_v (dcall c__law_rows_for hgd hr rfl (passes_call (takes_of rfl rfl rfl rfl) (fun _ _ _ _ h => h)) (da_cons (dx_v (de_v 0 (pv 0))) (da_cons (dx_v (de_v 1 (pv 1))) da_nil)))) (dx_v (de_un un_neg os_neg (dx_v de_int))) (fun _ _ => rfl))) (dx_v de_int) (fun _ _ => rfl))))
abbrev s__law_bare : Stmt := topS 55
theorem sc__law_bare : FnScope ["_law_made", "_law_gone", "_law_first", "_law_ahead", "_law_last", "_law_at", "_law_one"] ["_law_made", "_law_gone"] (defScope s__law_bare) := ⟨rfl, rfl, rfl, by decide +kernel, rfl, by decide +kernel, by decide +kernel⟩
theorem ok__law_bare {f : Addr} {fd : FuncData} {k : Nat} (F : Fun K "_law_bare" "_law_bare" s__law_bare f fd) (hm : mg "_law_bare" = some (.ref f)) (hb : Binds K fd ["_law_made", "_law_gone"] []) (z_enumerate : mg "enumerate" = none) (z_len : mg "len" = none) (z_tuple : mg "tuple" = none) : CallOk P w K mg T (k + 1) "_law_bare" ["_law_made", "_law_gone"] M__law_bare :=
  callOk_of F hm hb fun base => fnD F sc__law_bare rfl rfl (by decide) fun cdv A outer s H qv E hgd hr => (dss_cons (ds_set (i := 2) sc__law_bare.nd rfl (by first | exact .inl rfl | exact .inr rfl) (np1 rfl) (de_callTy call_tuple_of os_tuple rfl z_tuple bt_tuple (da_cons (dx_v (de_lc (own := [("_law_at", 5), ("_law_one", 6)]) (npn rfl) (by decide) rfl sc__law_bare.nd (di_en rfl z_enumerate (da_cons (dx_v (de_ix (ixD (ru65 hr)) os_ix (dx_s 0 (pv 0)) (dx_v de_int) (fun _ _ => rfl))) da_nil)) (blkOk_by (N := ["_law_made", "_law_gone", "_law_first", "_law_ahead", "_law_last", "_law_at", "_law_one"]) (sc := defScope s__law_bare) (own := [("_law_at", 5), ("_law_one", 6)]) (by decide +kernel)) (fun _ _ _ _ _ => (pg_tup rfl (pgs_cons (pg_name (i := 5) sc__law_bare.nd rfl (by first | exact .inl rfl | exact .inr rfl)) (pgs_cons (pg_name (i := 6) sc__law_bare.nd rfl (by first | exact .inl rfl | exact .inr rfl)) pgs_nil)))) (fun _ _ _ _ _ => (pts_one (dt_cmp (op_ninA (ru65 hr)) os_ninA (dx_s 5 (pv 5)) (dx_s 1 (pv 1)) rfl))) (fun _ _ _ _ _ => (de_v 6 (pv 6))))) da_nil)))
    (dss_cons (ds_set (i := 3) sc__law_bare.nd rfl (by first | exact .inl rfl | exact .inr rfl) (np1 rfl) (de_callB call_lenA os_len rfl z_len bt_len (da_cons (dx_v (de_ix (ixD (ru65 hr)) os_ix (dx_s 0 (pv 0)) (dx_v de_int) (fun _ _ => rfl))) da_nil)))
    (dss_cons (ds_fz [4] (ds_setLc (i := 4) (own := [("_law_at", 5), ("_law_one", 6)]) (np1 rfl) (npn rfl) (by decide) rfl sc__law_bare.nd rfl rfl (sw_true rfl rfl rfl (by decide +kernel)) (di_en rfl z_enumerate (da_cons (dx_v (de_ix (ixD (ru65 hr)) os_ix (dx_s 0 (pv 0)) (dx_v de_int) (fun _ _ => rfl))) da_nil)) (blkOk_by (N := ["_law_made", "_law_gone", "_law_first", "_law_ahead", "_law_last", "_law_at", "_law_one"]) (sc := defScope s__law_bare) (own := [("_law_at", 5), ("_law_one", 6)]) (by decide +kernel)) (fun _ _ _ _ _ => (pg_tup rfl (pgs_cons (pg_name (i := 5) sc__law_bare.nd rfl (by first | exact .inl rfl | exact .inr rfl)) (pgs_cons (pg_name (i := 6) sc__law_bare.nd rfl (by first | exact .inl rfl | exact .inr rfl)) pgs_nil)))) (fun _ _ _ _ _ => (pts_one (dt_cmp (op_ninA (ru65 hr)) os_ninA (dx_v (de_op op_addA os_add (dx_s 3 (pv 3)) (dx_s 5 (pv 5)))) (dx_s 1 (pv 1)) rfl))) (fun _ _ _ _ _ => (de_v 6 (pv 6)))) nx_set)
    (dss_one (ds_ret (de_op op_addA os_add (dx_v (de_slHi (dx_s 0 (pv 0)) (dx_v de_int))) (dx_v (de_tup (da_cons (dx_v (de_v 2 (pv 2))) (da_cons (dx_v (de_callTy call_tuple_of os_tuple rfl z_tuple bt_tuple (da_cons (dx_s 4 (pv 4)) da_nil))) da_nil))))))))))
abbrev s__law_due : Stmt := topS 56
theorem sc__law_due : FnScope ["_law_made", "_law_number", "_law_thing", "_law_price"] ["_law_made", "_law_number", "_law_thing"] (defScope s__law_due) := ⟨rfl, rfl, rfl, by decide +kernel, rfl, by decide +kernel, by decide +kernel⟩
theorem ok__law_due {f : Addr} {fd : FuncData} {k : Nat} (F : Fun K "_law_due" "_law_due" s__law_due f fd) (hm : mg "_law_due" = some (.ref f)) (hb : Binds K fd ["_law_made", "_law_number", "_law_thing"] []) (c__law_bare : CallOk P w K mg T k "_law_bare" ["_law_made", "_law_gone"] M__law_bare) (c__law_goal_of : CallOk P w K mg T k "_law_goal_of" ["_law_made", "_law_written"] M__law_goal_of_2) (c__law_is_tree : CallOk P w K mg T k "_law_is_tree" ["_law_arities", "_law_thing"] M__law_is_tree) : CallOk P w K mg T (k + 1) "_law_due" ["_law_made", "_law_number", "_law_thing"] M__law_due_5 :=
  callOk_of F hm hb fun base => fnD F sc__law_due rfl rfl (by decide) fun cdv A outer s H qv E hgd hr => (dss_cons (ds_if (dt_not (dt_val (dcall c__law_is_tree hgd hr rfl (passes_call (takes_of rfl rfl rfl rfl) (fun _ _ _ _ h => h)) (da_cons (dx_v (de_ix (ixD (ru65 hr)) os_ix (dx_s 0 (pv 0)) (dx_v de_int) (fun _ _ => rfl))) (da_cons (dx_v (de_v 2 (pv 2))) da_nil))))) (dss_one (ds_ret de_bl)) dss_nil)
    (dss_cons (ds_set (i := 3) sc__law_due.nd rfl (by first | exact .inl rfl | exact .inr rfl) (np1 rfl) (dcall c__law_goal_of hgd hr rfl (passes_call (takes_of rfl rfl rfl rfl) (fun _ _ _ _ h => h)) (da_cons (dx_v (de_v 0 (pv 0))) (da_cons (dx_v (de_v 2 (pv 2))) da_nil))))
    (dss_one (ds_ret (de_and (de_cmp op_notN os_isn (dx_s 3 (pv 3)) (dx_v de_non) (nomark _)) (de_one (de_cmp (op_neA (ru64 hr)) os_ne (dx_v (dcall c__law_goal_of hgd hr rfl (passes_call (takes_of rfl rfl rfl rfl) (fun _ _ _ _ h => h)) (da_cons (dx_v (dcall c__law_bare hgd hr rfl (passes_call (takes_of rfl rfl rfl rfl) (fun _ _ _ _ h => h)) (da_cons (dx_v (de_v 0 (pv 0))) (da_cons (dx_v (de_tup (da_cons (dx_v (de_v 1 (pv 1))) da_nil))) da_nil)))) (da_cons (dx_v (de_v 2 (pv 2))) da_nil)))) (dx_s 3 (pv 3)) (nomark _))))))))
abbrev s_is_between : Stmt := topS 12
theorem sc_is_between : FnScope ["thing", "low", "high"] ["thing", "low", "high"] (defScope s_is_between) := ⟨rfl, rfl, rfl, by decide +kernel, rfl, by decide +kernel, by decide +kernel⟩
theorem ok_is_between {f : Addr} {fd : FuncData} {k : Nat} (F : Fun K "is_between" "is_between" s_is_between f fd) (hm : mg "is_between" = some (.ref f)) (hb : Binds K fd ["thing", "low", "high"] []) (z_bool : mg "bool" = none) (z_int : mg "int" = none) (z_isinstance : mg "isinstance" = none) : CallOk P w K mg T (k + 1) "is_between" ["thing", "low", "high"] M_is_between :=
  callOk_of F hm hb fun base => fnD F sc_is_between rfl rfl (by decide) fun cdv A outer s H qv E hgd hr => (dss_one (ds_ret (de_and (de_isi .int rfl z_isinstance bt_isinstance (dx_s 0 (pv 0)) (pty rfl z_int bt_int)) (de_and (de_not (de_isi .bool rfl z_isinstance bt_isinstance (dx_s 0 (pv 0)) (pty rfl z_bool bt_bool))) (de_one (de_chI op_le op_le (fun a b c => pe_chain op_le op_le a b c) (dx_s 1 (pv 1)) (dx_s 0 (pv 0)) (dx_s 2 (pv 2))))))))
abbrev s_is_arities : Stmt := topS 13
theorem sc_is_arities : FnScope ["thing", "arity"] ["thing"] (defScope s_is_arities) := ⟨rfl, rfl, rfl, by decide +kernel, rfl, by decide +kernel, by decide +kernel⟩
theorem ok_is_arities {f : Addr} {fd : FuncData} {k : Nat} (F : Fun K "is_arities" "is_arities" s_is_arities f fd) (hm : mg "is_arities" = some (.ref f)) (hb : Binds K fd ["thing"] []) (c_is_between : CallOk P w K mg T k "is_between" ["thing", "low", "high"] M_is_between) (z_all : mg "all" = none) (z_isinstance : mg "isinstance" = none) (z_len : mg "len" = none) (z_tuple : mg "tuple" = none) {t_MOST_ARITY : Tok} (g_MOST_ARITY : mg "MOST_ARITY" = some (.int 2 t_MOST_ARITY)) {t_MOST_OPERATORS : Tok} (g_MOST_OPERATORS : mg "MOST_OPERATORS" = some (.int 6 t_MOST_OPERATORS)) : CallOk P w K mg T (k + 1) "is_arities" ["thing"] M_is_arities :=
  callOk_of F hm hb fun base => fnD F sc_is_arities rfl rfl (by decide) fun cdv A outer s H qv E hgd hr => (dss_cons (ds_if (dw_t (dw_or (dt_not (dt_val (de_isi .tuple rfl z_isinstance bt_isinstance (dx_s 0 (pv 0)) (pty rfl z_tuple bt_tuple)))) (dw_or1 (dt_not (dt_chI (fun a b c => pt_chain op_le op_le a b c) (dx_v de_int) (dx_v (de_callB call_lenA os_len rfl z_len bt_len (da_cons (dx_s 0 (pv 0)) da_nil))) (dx_v (de_gint rfl g_MOST_OPERATORS))))))) (dss_one (ds_ret de_bl)) dss_nil)
    (dss_one (ds_ret (de_callB (cr_all rfl) os_all rfl z_all bt_all (da_cons (dx_v (de_lc (own := [("arity", 1)]) (npn rfl) (by decide) rfl sc_is_arities.nd (di_seq (dx_v (de_v 0 (pv 0)))) (blkOk_by (N := ["thing", "arity"]) (sc := defScope s_is_arities) (own := [("arity", 1)]) (by decide +kernel)) (fun _ _ _ _ _ => (pg_name (i := 1) sc_is_arities.nd rfl (by first | exact .inl rfl | exact .inr rfl))) (fun _ _ _ _ _ => pts_yes) (fun _ _ _ _ _ => (dcall c_is_between hgd hr rfl passL (da_cons (dx_v (de_v 1 (pv 1))) (da_cons (dx_v de_int) (da_cons (dx_v (de_gint rfl g_MOST_ARITY)) da_nil))))))) da_nil)))))
abbrev s_is_conversion : Stmt := topS 15
theorem sc_is_conversion : FnScope ["forms", "thing"] ["forms", "thing"] (defScope s_is_conversion) := ⟨rfl, rfl, rfl, by decide +kernel, rfl, by decide +kernel, by decide +kernel⟩
theorem ok_is_conversion {f : Addr} {fd : FuncData} {k : Nat} (F : Fun K "is_conversion" "is_conversion" s_is_conversion f fd) (hm : mg "is_conversion" = some (.ref f)) (hb : Binds K fd ["forms", "thing"] []) (c_is_between : CallOk P w K mg T k "is_between" ["thing", "low", "high"] M_is_between) (z_isinstance : mg "isinstance" = none) (z_len : mg "len" = none) (z_tuple : mg "tuple" = none) {t_MOST_PRICE : Tok} (g_MOST_PRICE : mg "MOST_PRICE" = some (.int 20 t_MOST_PRICE)) : CallOk P w K mg T (k + 1) "is_conversion" ["forms", "thing"] M_is_conversion :=
  callOk_of F hm hb fun base => fnD F sc_is_conversion rfl rfl (by decide) fun cdv A outer s H qv E hgd hr => (dss_cons (ds_if (dw_t (dw_or (dt_not (dt_val (de_isi .tuple rfl z_isinstance bt_isinstance (dx_s 1 (pv 1)) (pty rfl z_tuple bt_tuple)))) (dw_or (dt_cmp (op_neA (ru64 hr)) os_ne (dx_v (de_callB call_lenA os_len rfl z_len bt_len (da_cons (dx_s 1 (pv 1)) da_nil))) (dx_v de_int) (nomark _)) (dw_or1 (dt_not (dt_val (dcall c_is_between hgd hr rfl (passes_call (takes_of rfl rfl rfl rfl) (fun _ _ _ _ h => h)) (da_cons (dx_v (de_ix (ixD (ru65 hr)) os_ix (dx_s 1 (pv 1)) (dx_v de_int) (fun _ _ => rfl))) (da_cons (dx_v de_int) (da_cons (dx_v (de_gint rfl g_MOST_PRICE)) da_nil)))))))))) (dss_one (ds_ret de_bl)) dss_nil)
    (dss_one (ds_ret (de_and (dcall c_is_between hgd hr rfl (passes_call (takes_of rfl rfl rfl rfl) (fun _ _ _ _ h => h)) (da_cons (dx_v (de_ix (ixD (ru65 hr)) os_ix (dx_s 1 (pv 1)) (dx_v de_int) (fun _ _ => rfl))) (da_cons (dx_v de_int) (da_cons (dx_v (de_op op_sub os_sub (dx_s 0 (pv 0)) (dx_v de_int))) da_nil)))) (de_and (dcall c_is_between hgd hr rfl (passes_call (takes_of rfl rfl rfl rfl) (fun _ _ _ _ h => h)) (da_cons (dx_v (de_ix (ixD (ru65 hr)) os_ix (dx_s 1 (pv 1)) (dx_v de_int) (fun _ _ => rfl))) (da_cons (dx_v de_int) (da_cons (dx_v (de_op op_sub os_sub (dx_s 0 (pv 0)) (dx_v de_int))) da_nil)))) (de_one (de_cmp (op_neA (ru64 hr)) os_ne (dx_v (de_ix (ixD (ru65 hr)) os_ix (dx_s 1 (pv 1)) (dx_v de_int) (fun _ _ => rfl))) (dx_v (de_ix (ixD (ru65 hr)) os_ix (dx_s 1 (pv 1)) (dx_v de_int) (fun _ _ => rfl))) (nomark _))))))))
abbrev s_is_instruction : Stmt := topS 14
theorem sc_is_instruction : FnScope ["arities", "forms", "thing", "form"] ["arities", "forms", "thing"] (defScope s_is_instruction) := ⟨rfl, rfl, rfl, by decide +kernel, rfl, by decide +kernel, by decide +kernel⟩
theorem ok_is_instruction {f : Addr} {fd : FuncData} {k : Nat} (F : Fun K "is_instruction" "is_instruction" s_is_instruction f fd) (hm : mg "is_instruction" = some (.ref f)) (hb : Binds K fd ["arities", "forms", "thing"] []) (c_is_between : CallOk P w K mg T k "is_between" ["thing", "low", "high"] M_is_between) (z_all : mg "all" = none) (z_isinstance : mg "isinstance" = none) (z_len : mg "len" = none) (z_tuple : mg "tuple" = none) {t_MOST_PRICE : Tok} (g_MOST_PRICE : mg "MOST_PRICE" = some (.int 20 t_MOST_PRICE)) : CallOk P w K mg T (k + 1) "is_instruction" ["arities", "forms", "thing"] M_is_instruction :=
  callOk_of F hm hb fun base => fnD F sc_is_instruction rfl rfl (by decide) fun cdv A outer s H qv E hgd hr => (dss_cons (ds_if (dw_t (dw_or (dt_not (dt_val (de_isi .tuple rfl z_isinstance bt_isinstance (dx_s 2 (pv 2)) (pty rfl z_tuple bt_tuple)))) (dw_or (dt_cmp (op_neA (ru64 hr)) os_ne (dx_v (de_callB call_lenA os_len rfl z_len bt_len (da_cons (dx_s 2 (pv 2)) da_nil))) (dx_v de_int) (nomark _)) (dw_or1 (dt_not (dt_val (dcall c_is_between hgd hr rfl (passes_call (takes_of rfl rfl rfl rfl) (fun _ _ _ _ h => h)) (da_cons (dx_v (de_ix (ixD (ru65 hr)) os_ix (dx_s 2 (pv 2)) (dx_v de_int) (fun _ _ => rfl))) (da_cons (dx_v de_int) (da_cons (dx_v (de_op op_sub os_sub (dx_s 1 (pv 1)) (dx_v de_int))) da_nil)))))))))) (dss_one (ds_ret de_bl)) dss_nil)
    (dss_cons (ds_if (dw_t (dw_or (dt_not (dt_val (dcall c_is_between hgd hr rfl (passes_call (takes_of rfl rfl rfl rfl) (fun _ _ _ _ h => h)) (da_cons (dx_v (de_ix (ixD (ru65 hr)) os_ix (dx_s 2 (pv 2)) (dx_v de_int) (fun _ _ => rfl))) (da_cons (dx_v de_int) (da_cons (dx_v (de_op op_sub os_sub (dx_v (de_callB call_lenA os_len rfl z_len bt_len (da_cons (dx_s 0 (pv 0)) da_nil))) (dx_v de_int))) da_nil)))))) (dw_or1 (dt_not (dt_val (dcall c_is_between hgd hr rfl (passes_call (takes_of rfl rfl rfl rfl) (fun _ _ _ _ h => h)) (da_cons (dx_v (de_ix (ixD (ru65 hr)) os_ix (dx_s 2 (pv 2)) (dx_v de_int) (fun _ _ => rfl))) (da_cons (dx_v de_int) (da_cons (dx_v (de_gint rfl g_MOST_PRICE)) da_nil))))))))) (dss_one (ds_ret de_bl)) dss_nil)
    (dss_cons (ds_if (dw_t (dw_or (dt_not (dt_val (de_isi .tuple rfl z_isinstance bt_isinstance (dx_v (de_ix (ixD (ru65 hr)) os_ix (dx_s 2 (pv 2)) (dx_v de_int) (fun _ _ => rfl))) (pty rfl z_tuple bt_tuple)))) (dw_or1 (dt_cmp (op_neA (ru64 hr)) os_ne (dx_v (de_callB call_lenA os_len rfl z_len bt_len (da_cons (dx_v (de_ix (ixD (ru65 hr)) os_ix (dx_s 2 (pv 2)) (dx_v de_int) (fun _ _ => rfl))) da_nil))) (dx_v (de_ix (ixD (ru65 hr)) os_ix (dx_s 0 (pv 0)) (dx_v (de_ix (ixD (ru65 hr)) os_ix (dx_s 2 (pv 2)) (dx_v de_int) (fun _ _ => rfl))) (fun _ _ => rfl))) (nomark _))))) (dss_one (ds_ret de_bl)) dss_nil)
    (dss_one (ds_ret (de_callB (cr_all rfl) os_all rfl z_all bt_all (da_cons (dx_v (de_lc (own := [("form", 3)]) (npn rfl) (by decide) rfl sc_is_instruction.nd (di_seq (dx_v (de_ix (ixD (ru65 hr)) os_ix (dx_s 2 (pv 2)) (dx_v de_int) (fun _ _ => rfl)))) (blkOk_by (N := ["arities", "forms", "thing", "form"]) (sc := defScope s_is_instruction) (own := [("form", 3)]) (by decide +kernel)) (fun _ _ _ _ _ => (pg_name (i := 3) sc_is_instruction.nd rfl (by first | exact .inl rfl | exact .inr rfl))) (fun _ _ _ _ _ => pts_yes) (fun _ _ _ _ _ => (dcall c_is_between hgd hr rfl passL (da_cons (dx_v (de_v 3 (pv 3))) (da_cons (dx_v de_int) (da_cons (dx_v (de_op op_sub os_sub (dx_s 1 (pv 1)) (dx_v de_int))) da_nil))))))) da_nil)))))))
abbrev s_is_machine : Stmt := topS 16
theorem sc_is_machine : FnScope ["thing", "arities", "forms", "instructions", "conversions", "one"] ["thing"] (defScope s_is_machine) := ⟨rfl, rfl, rfl, by decide +kernel, rfl, by decide +kernel, by decide +kernel⟩
theorem ok_is_machine {f : Addr} {fd : FuncData} {k : Nat} (F : Fun K "is_machine" "is_machine" s_is_machine f fd) (hm : mg "is_machine" = some (.ref f)) (hb : Binds K fd ["thing"] []) (c_is_arities : CallOk P w K mg T k "is_arities" ["thing"] M_is_arities) (c_is_between : CallOk P w K mg T k "is_between" ["thing", "low", "high"] M_is_between) (c_is_conversion : CallOk P w K mg T k "is_conversion" ["forms", "thing"] M_is_conversion) (c_is_instruction : CallOk P w K mg T k "is_instruction" ["arities", "forms", "thing"] M_is_instruction) (z_all : mg "all" = none) (z_isinstance : mg "isinstance" = none) (z_len : mg "len" = none) (z_tuple : mg "tuple" = none) {t_MOST_CONVERSIONS : Tok} (g_MOST_CONVERSIONS : mg "MOST_CONVERSIONS" = some (.int 12 t_MOST_CONVERSIONS)) {t_MOST_FORMS : Tok} (g_MOST_FORMS : mg "MOST_FORMS" = some (.int 4 t_MOST_FORMS)) {t_MOST_INSTRUCTIONS : Tok} (g_MOST_INSTRUCTIONS : mg "MOST_INSTRUCTIONS" = some (.int 24 t_MOST_INSTRUCTIONS)) : CallOk P w K mg T (k + 1) "is_machine" ["thing"] M_is_machine :=
  callOk_of F hm hb fun base => fnD F sc_is_machine rfl rfl (by decide) fun cdv A outer s H qv E hgd hr => (dss_cons (ds_if (dw_t (dw_or (dt_not (dt_val (de_isi .tuple rfl z_isinstance bt_isinstance (dx_s 0 (pv 0)) (pty rfl z_tuple bt_tuple)))) (dw_or1 (dt_cmp (op_neA (ru64 hr)) os_ne (dx_v (de_callB call_lenA os_len rfl z_len bt_len (da_cons (dx_s 0 (pv 0)) da_nil))) (dx_v de_int) (nomark _))))) (dss_one (ds_ret de_bl)) dss_nil)
    (dss_cons (ds_asT (npn rfl) (de_v 0 (pv 0)) (pg_tup rfl (pgs_cons (pg_name (i := 1) sc_is_machine.nd rfl (by first | exact .inl rfl | exact .inr rfl)) (pgs_cons (pg_name (i := 2) sc_is_machine.nd rfl (by first | exact .inl rfl | exact .inr rfl)) (pgs_cons (pg_name (i := 3) sc_is_machine.nd rfl (by first | exact .inl rfl | exact .inr rfl)) (pgs_cons (pg_name (i := 4) sc_is_machine.nd rfl (by first | exact .inl rfl | exact .inr rfl)) pgs_nil))))))
    (dss_cons (ds_if (dw_t (dw_or (dt_not (dt_val (dcall c_is_arities hgd hr rfl (passes_call (takes_of rfl rfl rfl rfl) (fun _ _ _ _ h => h)) (da_cons (dx_v (de_v 1 (pv 1))) da_nil)))) (dw_or1 (dt_not (dt_val (dcall c_is_between hgd hr rfl (passes_call (takes_of rfl rfl rfl rfl) (fun _ _ _ _ h => h)) (da_cons (dx_v (de_v 2 (pv 2))) (da_cons (dx_v de_int) (da_cons (dx_v (de_gint rfl g_MOST_FORMS)) da_nil))))))))) (dss_one (ds_ret de_bl)) dss_nil)
    (dss_cons (ds_if (dw_t (dw_or (dt_not (dt_val (de_isi .tuple rfl z_isinstance bt_isinstance (dx_s 3 (pv 3)) (pty rfl z_tuple bt_tuple)))) (dw_or1 (dt_cmp op_gt os_cmI (dx_v (de_callB call_lenA os_len rfl z_len bt_len (da_cons (dx_s 3 (pv 3)) da_nil))) (dx_v (de_gint rfl g_MOST_INSTRUCTIONS)) (nomark _))))) (dss_one (ds_ret de_bl)) dss_nil)
    (dss_cons (ds_if (dw_t (dw_or (dt_not (dt_val (de_isi .tuple rfl z_isinstance bt_isinstance (dx_s 4 (pv 4)) (pty rfl z_tuple bt_tuple)))) (dw_or1 (dt_cmp op_gt os_cmI (dx_v (de_callB call_lenA os_len rfl z_len bt_len (da_cons (dx_s 4 (pv 4)) da_nil))) (dx_v (de_gint rfl g_MOST_CONVERSIONS)) (nomark _))))) (dss_one (ds_ret de_bl)) dss_nil)
    (dss_cons (ds_if (dt_not (dt_val (de_callB (cr_all rfl) os_all rfl z_all bt_all (da_cons (dx_v (de_lc (own := [("one", 5)]) (npn rfl) (by decide) rfl sc_is_machine.nd (di_seq (dx_v (de_v 3 (pv 3)))) (blkOk_by (N := ["thing", "arities", "forms", "instructions", "conversions", "one"]) (sc := defScope s_is_machine) (own := [("one", 5)]) (by decide +kernel)) (fun _ _ _ _ _ => (pg_name (i := 5) sc_is_machine.nd rfl (by first | exact .inl rfl | exact .inr rfl))) (fun _ _ _ _ _ => pts_yes) (fun _ _ _ _ _ => (dcall c_is_instruction hgd hr rfl passL (da_cons (dx_v (de_v 1 (pv 1))) (da_cons (dx_v (de_v 2 (pv 2))) (da_cons (dx_v (de_v 5 (pv 5))) da_nil))))))) da_nil)))) (dss_one (ds_ret de_bl)) dss_nil)
    (dss_one (ds_ret (de_callB (cr_all rfl) os_all rfl z_all bt_all (da_cons (dx_v (de_lc (own := [("one", 5)]) (npn rfl) (by decide) rfl sc_is_machine.nd (di_seq (dx_v (de_v 4 (pv 4)))) (blkOk_by (N := ["thing", "arities", "forms", "instructions", "conversions", "one"]) (sc := defScope s_is_machine) (own := [("one", 5)]) (by decide +kernel)) (fun _ _ _ _ _ => (pg_name (i := 5) sc_is_machine.nd rfl (by first | exact .inl rfl | exact .inr rfl))) (fun _ _ _ _ _ => pts_yes) (fun _ _ _ _ _ => (dcall c_is_conversion hgd hr rfl passL (da_cons (dx_v (de_v 2 (pv 2))) (da_cons (dx_v (de_v 5 (pv 5))) da_nil)))))) da_nil))))))))))
abbrev s_need_machine : Stmt := topS 17
theorem sc_need_machine : FnScope ["thing"] ["thing"] (defScope s_need_machine) := ⟨rfl, rfl, rfl, by decide +kernel, rfl, by decide +kernel, by decide +kernel⟩
theorem ok_need_machine {f : Addr} {fd : FuncData} {k : Nat} (F : Fun K "need_machine" "need_machine" s_need_machine f fd) (hm : mg "need_machine" = some (.ref f)) (hb : Binds K fd ["thing"] []) (c_is_machine : CallOk P w K mg T k "is_machine" ["thing"] M_is_machine) : CallOk P w K mg T (k + 1) "need_machine" ["thing"] M_need_machine :=
  callOk_of F hm hb fun base => fnD F sc_need_machine rfl rfl (by decide) fun cdv A outer s H qv E hgd hr => (dss_one (ds_if (dt_not (dt_val (dcall c_is_machine hgd hr rfl (passes_call (takes_of rfl rfl rfl rfl) (fun _ _ _ _ h => h)) (da_cons (dx_v (de_v 0 (pv 0))) da_nil)))) (dss_one ds_never) dss_nil))
abbrev s_how_many : Stmt := topS 18
theorem sc_how_many : FnScope ["machine"] ["machine"] (defScope s_how_many) := ⟨rfl, rfl, rfl, by decide +kernel, rfl, by decide +kernel, by decide +kernel⟩
theorem ok_how_many {f : Addr} {fd : FuncData} {k : Nat} (F : Fun K "how_many" "how_many" s_how_many f fd) (hm : mg "how_many" = some (.ref f)) (hb : Binds K fd ["machine"] []) (z_len : mg "len" = none) : CallOk P w K mg T (k + 1) "how_many" ["machine"] M__law_many :=
  callOk_of F hm hb fun base => fnD F sc_how_many rfl rfl (by decide) fun cdv A outer s H qv E hgd hr => (dss_one (ds_ret (de_op op_addA os_add (dx_v (de_callB call_lenA os_len rfl z_len bt_len (da_cons (dx_v (de_ix (ixD (ru65 hr)) os_ix (dx_s 0 (pv 0)) (dx_v de_int) (fun _ _ => rfl))) da_nil))) (dx_v (de_callB call_lenA os_len rfl z_len bt_len (da_cons (dx_v (de_ix (ixD (ru65 hr)) os_ix (dx_s 0 (pv 0)) (dx_v de_int) (fun _ _ => rfl))) da_nil))))))
abbrev s_need_number : Stmt := topS 32
theorem sc_need_number : FnScope ["machine", "thing"] ["machine", "thing"] (defScope s_need_number) := ⟨rfl, rfl, rfl, by decide +kernel, rfl, by decide +kernel, by decide +kernel⟩
theorem ok_need_number {f : Addr} {fd : FuncData} {k : Nat} (F : Fun K "need_number" "need_number" s_need_number f fd) (hm : mg "need_number" = some (.ref f)) (hb : Binds K fd ["machine", "thing"] []) (c_how_many : CallOk P w K mg T k "how_many" ["machine"] M__law_many) (c_is_between : CallOk P w K mg T k "is_between" ["thing", "low", "high"] M_is_between) : CallOk P w K mg T (k + 1) "need_number" ["machine", "thing"] M_need_number :=
  callOk_of F hm hb fun base => fnD F sc_need_number rfl rfl (by decide) fun cdv A outer s H qv E hgd hr => (dss_one (ds_if (dt_not (dt_val (dcall c_is_between hgd hr rfl (passes_call (takes_of rfl rfl rfl rfl) (fun _ _ _ _ h => h)) (da_cons (dx_v (de_v 1 (pv 1))) (da_cons (dx_v de_int) (da_cons (dx_v (de_op op_sub os_sub (dx_v (dcall c_how_many hgd hr rfl (passes_call (takes_of rfl rfl rfl rfl) (fun _ _ _ _ h => h)) (da_cons (dx_v (de_v 0 (pv 0))) da_nil))) (dx_v de_int))) da_nil)))))) (dss_one ds_never) dss_nil))
abbrev s_is_node : Stmt := topS 21
theorem sc_is_node : FnScope ["arities", "thing", "before", "node"] ["arities", "thing", "before"] (defScope s_is_node) := ⟨rfl, rfl, rfl, by decide +kernel, rfl, by decide +kernel, by decide +kernel⟩
theorem ok_is_node {f : Addr} {fd : FuncData} {k : Nat} (F : Fun K "is_node" "is_node" s_is_node f fd) (hm : mg "is_node" = some (.ref f)) (hb : Binds K fd ["arities", "thing", "before"] []) (c_is_between : CallOk P w K mg T k "is_between" ["thing", "low", "high"] M_is_between) (z_all : mg "all" = none) (z_isinstance : mg "isinstance" = none) (z_len : mg "len" = none) (z_tuple : mg "tuple" = none) : CallOk P w K mg T (k + 1) "is_node" ["arities", "thing", "before"] M_is_node :=
  callOk_of F hm hb fun base => fnD F sc_is_node rfl rfl (by decide) fun cdv A outer s H qv E hgd hr => (dss_cons (ds_if (dw_t (dw_or (dt_not (dt_val (de_isi .tuple rfl z_isinstance bt_isinstance (dx_s 1 (pv 1)) (pty rfl z_tuple bt_tuple)))) (dw_or (dt_cmp (op_eqA (ru64 hr)) os_eq (dx_s 1 (pv 1)) (dx_v (de_tup da_nil)) (nomark _)) (dw_or1 (dt_not (dt_val (dcall c_is_between hgd hr rfl (passes_call (takes_of rfl rfl rfl rfl) (fun _ _ _ _ h => h)) (da_cons (dx_v (de_ix (ixD (ru65 hr)) os_ix (dx_s 1 (pv 1)) (dx_v de_int) (fun _ _ => rfl))) (da_cons (dx_v de_int) (da_cons (dx_v (de_op op_sub os_sub (dx_v (de_callB call_lenA os_len rfl z_len bt_len (da_cons (dx_s 0 (pv 0)) da_nil))) (dx_v de_int))) da_nil)))))))))) (dss_one (ds_ret de_bl)) dss_nil)
    (dss_cons (ds_if (dt_cmp (op_neA (ru64 hr)) os_ne (dx_v (de_callB call_lenA os_len rfl z_len bt_len (da_cons (dx_s 1 (pv 1)) da_nil))) (dx_v (de_op op_addA os_add (dx_v de_int) (dx_v (de_ix (ixD (ru65 hr)) os_ix (dx_s 0 (pv 0)) (dx_v (de_ix (ixD (ru65 hr)) os_ix (dx_s 1 (pv 1)) (dx_v de_int) (fun _ _ => rfl))) (fun _ _ => rfl))))) (nomark _)) (dss_one (ds_ret de_bl)) dss_nil)
    (dss_one (ds_ret (de_callB (cr_all rfl) os_all rfl z_all bt_all (da_cons (dx_v (de_lc (own := [("node", 3)]) (npn rfl) (by decide) rfl sc_is_node.nd (di_seq (dx_v (de_slLo (dx_s 1 (pv 1)) (dx_v de_int)))) (blkOk_by (N := ["arities", "thing", "before", "node"]) (sc := defScope s_is_node) (own := [("node", 3)]) (by decide +kernel)) (fun _ _ _ _ _ => (pg_name (i := 3) sc_is_node.nd rfl (by first | exact .inl rfl | exact .inr rfl))) (fun _ _ _ _ _ => pts_yes) (fun _ _ _ _ _ => (dcall c_is_between hgd hr rfl passL (da_cons (dx_v (de_v 3 (pv 3))) (da_cons (dx_v de_int) (da_cons (dx_v (de_op op_sub os_sub (dx_s 2 (pv 2)) (dx_v de_int))) da_nil))))))) da_nil))))))
abbrev s_is_written : Stmt := topS 22
theorem sc_is_written : FnScope ["arities", "thing", "at", "node"] ["arities", "thing"] (defScope s_is_written) := ⟨rfl, rfl, rfl, by decide +kernel, rfl, by decide +kernel, by decide +kernel⟩
theorem ok_is_written {f : Addr} {fd : FuncData} {k : Nat} (F : Fun K "is_written" "is_written" s_is_written f fd) (hm : mg "is_written" = some (.ref f)) (hb : Binds K fd ["arities", "thing"] []) (c_is_node : CallOk P w K mg T k "is_node" ["arities", "thing", "before"] M_is_node) (z_all : mg "all" = none) (z_enumerate : mg "enumerate" = none) (z_isinstance : mg "isinstance" = none) (z_tuple : mg "tuple" = none) : CallOk P w K mg T (k + 1) "is_written" ["arities", "thing"] M_is_written :=
  callOk_of F hm hb fun base => fnD F sc_is_written rfl rfl (by decide) fun cdv A outer s H qv E hgd hr => (dss_cons (ds_if (dw_t (dw_or (dt_not (dt_val (de_isi .tuple rfl z_isinstance bt_isinstance (dx_s 1 (pv 1)) (pty rfl z_tuple bt_tuple)))) (dw_or1 (dt_cmp (op_eqA (ru64 hr)) os_eq (dx_s 1 (pv 1)) (dx_v (de_tup da_nil)) (nomark _))))) (dss_one (ds_ret de_bl)) dss_nil)
    (dss_one (ds_ret (de_callB (cr_all rfl) os_all rfl z_all bt_all (da_cons (dx_v (de_lc (own := [("at", 2), ("node", 3)]) (npn rfl) (by decide) rfl sc_is_written.nd (di_en rfl z_enumerate (da_cons (dx_v (de_v 1 (pv 1))) da_nil)) (blkOk_by (N := ["arities", "thing", "at", "node"]) (sc := defScope s_is_written) (own := [("at", 2), ("node", 3)]) (by decide +kernel)) (fun _ _ _ _ _ => (pg_tup rfl (pgs_cons (pg_name (i := 2) sc_is_written.nd rfl (by first | exact .inl rfl | exact .inr rfl)) (pgs_cons (pg_name (i := 3) sc_is_written.nd rfl (by first | exact .inl rfl | exact .inr rfl)) pgs_nil)))) (fun _ _ _ _ _ => pts_yes) (fun _ _ _ _ _ => (dcall c_is_node hgd hr rfl passL (da_cons (dx_v (de_v 0 (pv 0))) (da_cons (dx_v (de_v 3 (pv 3))) (da_cons (dx_v (de_v 2 (pv 2))) da_nil))))))) da_nil)))))
abbrev s_less : Stmt := topS 24
theorem sc_less : FnScope ["one", "other"] ["one", "other"] (defScope s_less) := ⟨rfl, rfl, rfl, by decide +kernel, rfl, by decide +kernel, by decide +kernel⟩
theorem ok_less {f : Addr} {fd : FuncData} {k : Nat} (F : Fun K "less" "less" s_less f fd) (hm : mg "less" = some (.ref f)) (hb : Binds K fd ["one", "other"] []) (z_min : mg "min" = none) : CallOk P w K mg T (k + 1) "less" ["one", "other"] M_less :=
  callOk_of F hm hb fun base => fnD F sc_less rfl rfl (by decide) fun cdv A outer s H qv E hgd hr => (dss_cons (ds_if (dw_t (dw_or (dt_cmp op_isN os_is (dx_s 0 (pv 0)) (dx_v de_non) (nomark _)) (dw_or1 (dt_cmp op_isN os_is (dx_s 1 (pv 1)) (dx_v de_non) (nomark _))))) (dss_one (ds_ret (de_if (dt_cmp op_isN os_is (dx_s 0 (pv 0)) (dx_v de_non) (nomark _)) (de_v 1 (pv 1)) (de_v 0 (pv 0))))) dss_nil)
    (dss_one (ds_ret (de_callB (cl_min rfl) os_min rfl z_min bt_min (da_cons (dx_s 0 (pv 0)) (da_cons (dx_s 1 (pv 1)) da_nil))))))
abbrev s_total : Stmt := topS 25
theorem sc_total : FnScope ["some"] ["some"] (defScope s_total) := ⟨rfl, rfl, rfl, by decide +kernel, rfl, by decide +kernel, by decide +kernel⟩
theorem ok_total {f : Addr} {fd : FuncData} {k : Nat} (F : Fun K "total" "total" s_total f fd) (hm : mg "total" = some (.ref f)) (hb : Binds K fd ["some"] []) (z_sum : mg "sum" = none) : CallOk P w K mg T (k + 1) "total" ["some"] M_total :=
  callOk_of F hm hb fun base => fnD F sc_total rfl rfl (by decide) fun cdv A outer s H qv E hgd hr => (dss_one (ds_ret (de_if (dt_cmp (op_inA (ru65 hr)) os_inA (dx_v de_non) (dx_s 0 (pv 0)) rfl) de_non (de_callB (cr_sum rfl) os_sum rfl z_sum bt_sum (da_cons (dx_s 0 (pv 0)) da_nil)))))
abbrev s_ways_of : Stmt := topS 26
theorem sc_ways_of : FnScope ["machine", "found", "form", "amid", "first", "last", "price", "by_amid"] ["machine"] (defScope s_ways_of) := ⟨rfl, rfl, rfl, by decide +kernel, rfl, by decide +kernel, by decide +kernel⟩
theorem ok_ways_of {f : Addr} {fd : FuncData} {k : Nat} (F : Fun K "ways_of" "ways_of" s_ways_of f fd) (hm : mg "ways_of" = some (.ref f)) (hb : Binds K fd ["machine"] []) (c_less : CallOk P w K mg T k "less" ["one", "other"] M_less) (c_total : CallOk P w K mg T k "total" ["some"] M_total) (z_range : mg "range" = none) : CallOk P w K mg T (k + 1) "ways_of" ["machine"] M_ways_of :=
  callOk_of F hm hb fun base => fnD F sc_ways_of rfl rfl (by decide) fun cdv A outer s H qv E hgd hr => (dss_cons (ds_setLcO (i := 1) (own := [("form", 2)]) (np1 rfl) (npn rfl) (by decide) rfl sc_ways_of.nd rfl rfl (sw_true rfl rfl rfl (by decide +kernel)) (di_r1 rfl z_range (da_cons (dx_v (de_ix (ixD (ru65 hr)) os_ix (dx_s 0 (pv 0)) (dx_v de_int) (fun _ _ => rfl))) da_nil)) (blkOk_by (N := ["machine", "found", "form", "amid", "first", "last", "price", "by_amid"]) (sc := defScope s_ways_of) (own := [("form", 2)]) (by decide +kernel)) (fun _ _ _ _ _ => (pg_name (i := 2) sc_ways_of.nd rfl (by first | exact .inl rfl | exact .inr rfl))) (fun _ _ _ _ _ => (de_op op_mulB os_mulB (dx_v (de_lst (da_cons (dx_v de_non) da_nil))) (dx_v (de_ix (ixD (ru65 hr)) os_ix (dx_s 0 (pv 0)) (dx_v de_int) (fun _ _ => rfl))))))
    (dss_cons (ds_wp [2] (ds_for (npn rfl) (passes_of rfl) rfl (di_r1 rfl z_range (da_cons (dx_v (de_ix (ixD (ru65 hr)) os_ix (dx_s 0 (pv 0)) (dx_v de_int) (fun _ _ => rfl))) da_nil)) (pg_name (i := 2) sc_ways_of.nd rfl (by first | exact .inl rfl | exact .inr rfl)) (dss_one (ds_wp [2] (ds_setII (pv 1) (pv 2) pi_n (pv 2) pi_n (fun _ _ => rfl) de_int)))))
    (dss_cons (ds_wp [4, 5, 6] (ds_for (npn rfl) (passes_of rfl) rfl (di_seq (dx_v (de_ix (ixD (ru65 hr)) os_ix (dx_s 0 (pv 0)) (dx_v de_int) (fun _ _ => rfl)))) (pg_tup rfl (pgs_cons (pg_name (i := 4) sc_ways_of.nd rfl (by first | exact .inl rfl | exact .inr rfl)) (pgs_cons (pg_name (i := 5) sc_ways_of.nd rfl (by first | exact .inl rfl | exact .inr rfl)) (pgs_cons (pg_name (i := 6) sc_ways_of.nd rfl (by first | exact .inl rfl | exact .inr rfl)) pgs_nil)))) (dss_one (ds_wp [4, 5, 6] (ds_setII (pv 1) (pv 4) pi_n (pv 5) pi_n (fun _ _ => rfl) (dcall c_less hgd hr rfl (passes_call (takes_of rfl rfl rfl rfl) (fun _ _ _ _ h => h)) (da_cons (dx_v (de_ix2 (pv 1) (pv 4) pi_n (pv 5) pi_n (fun _ _ => rfl) (fun _ _ => rfl))) (da_cons (dx_v (de_v 6 (pv 6))) da_nil))))))))
    (dss_cons (ds_wp [0, 3, 4, 5, 7] (ds_for (npn rfl) (passes_of rfl) rfl (di_r1 rfl z_range (da_cons (dx_v (de_ix (ixD (ru65 hr)) os_ix (dx_s 0 (pv 0)) (dx_v de_int) (fun _ _ => rfl))) da_nil)) (pg_name (i := 3) sc_ways_of.nd rfl (by first | exact .inl rfl | exact .inr rfl)) (dss_one (ds_wp [3, 4, 5, 7] (ds_for (npn rfl) (passes_of rfl) rfl (di_r1 rfl z_range (da_cons (dx_v (de_ix (ixD (ru65 hr)) os_ix (dx_s 0 (pv 0)) (dx_v de_int) (fun _ _ => rfl))) da_nil)) (pg_name (i := 4) sc_ways_of.nd rfl (by first | exact .inl rfl | exact .inr rfl)) (dss_one (ds_wp [4, 5, 7] (ds_for (npn rfl) (passes_of rfl) rfl (di_r1 rfl z_range (da_cons (dx_v (de_ix (ixD (ru65 hr)) os_ix (dx_s 0 (pv 0)) (dx_v de_int) (fun _ _ => rfl))) da_nil)) (pg_name (i := 5) sc_ways_of.nd rfl (by first | exact .inl rfl | exact .inr rfl)) (dss_cons (ds_set (i := 7) sc_ways_of.nd rfl (by first | exact .inl rfl | exact .inr rfl) (np1 rfl) (dcall c_total hgd hr rfl (passes_call (takes_of rfl rfl rfl rfl) (fun _ _ _ _ h => h)) (da_cons (dx_v (de_lst (da_cons (dx_v (de_ix2 (pv 1) (pv 4) pi_n (pv 3) pi_n (fun _ _ => rfl) (fun _ _ => rfl))) (da_cons (dx_v (de_ix2 (pv 1) (pv 3) pi_n (pv 5) pi_n (fun _ _ => rfl) (fun _ _ => rfl))) da_nil)))) da_nil)))
    (dss_one (ds_wp [5, 7] (ds_setII (pv 1) (pv 4) pi_n (pv 5) pi_n (fun _ _ => rfl) (dcall c_less hgd hr rfl (passes_call (takes_of rfl rfl rfl rfl) (fun _ _ _ _ h => h)) (da_cons (dx_v (de_ix2 (pv 1) (pv 4) pi_n (pv 5) pi_n (fun _ _ => rfl) (fun _ _ => rfl))) (da_cons (dx_v (de_v 7 (pv 7))) da_nil)))))))))))))))
    (dss_one (ds_ret (de_m 1 (pv 1))))))))
abbrev s_converted : Stmt := topS 28
theorem sc_converted : FnScope ["ways", "row", "found", "first", "price", "last", "more"] ["ways", "row"] (defScope s_converted) := ⟨rfl, rfl, rfl, by decide +kernel, rfl, by decide +kernel, by decide +kernel⟩
theorem ok_converted {f : Addr} {fd : FuncData} {k : Nat} (F : Fun K "converted" "converted" s_converted f fd) (hm : mg "converted" = some (.ref f)) (hb : Binds K fd ["ways", "row"] []) (c_less : CallOk P w K mg T k "less" ["one", "other"] M_less) (c_total : CallOk P w K mg T k "total" ["some"] M_total) (z_enumerate : mg "enumerate" = none) (z_list : mg "list" = none) (z_tuple : mg "tuple" = none) : CallOk P w K mg T (k + 1) "converted" ["ways", "row"] M_converted :=
  callOk_of F hm hb fun base => fnD F sc_converted rfl rfl (by decide) fun cdv A outer s H qv E hgd hr => (dss_cons (ds_set (i := 2) sc_converted.nd rfl (by first | exact .inl rfl | exact .inr rfl) (np1 rfl) (de_callTy call_list_of os_list rfl z_list bt_list (da_cons (dx_s 1 (pv 1)) da_nil)))
    (dss_cons (ds_wp [0, 1, 3, 4, 5, 6] (ds_for (npn rfl) (passes_of rfl) rfl (di_en rfl z_enumerate (da_cons (dx_v (de_v 1 (pv 1))) da_nil)) (pg_tup rfl (pgs_cons (pg_name (i := 3) sc_converted.nd rfl (by first | exact .inl rfl | exact .inr rfl)) (pgs_cons (pg_name (i := 4) sc_converted.nd rfl (by first | exact .inl rfl | exact .inr rfl)) pgs_nil))) (dss_one (ds_wp [3, 4, 5, 6] (ds_for (npn rfl) (passes_of rfl) rfl (di_en rfl z_enumerate (da_cons (dx_v (de_ix (ixD (ru65 hr)) os_ix (dx_s 0 (pv 0)) (dx_s 3 (pv 3)) (fun _ _ => rfl))) da_nil)) (pg_tup rfl (pgs_cons (pg_name (i := 5) sc_converted.nd rfl (by first | exact .inl rfl | exact .inr rfl)) (pgs_cons (pg_name (i := 6) sc_converted.nd rfl (by first | exact .inl rfl | exact .inr rfl)) pgs_nil))) (dss_one (ds_wp [5, 6] (ds_setI (pv 2) (dx_s 5 (pv 5)) (dcall c_less hgd hr rfl (passes_call (takes_of rfl rfl rfl rfl) (fun _ _ _ _ h => h)) (da_cons (dx_v (de_ix (ixD (ru65 hr)) os_ix (dx_s 2 (pv 2)) (dx_s 5 (pv 5)) (fun _ _ => rfl))) (da_cons (dx_v (dcall c_total hgd hr rfl (passes_call (takes_of rfl rfl rfl rfl) (fun _ _ _ _ h => h)) (da_cons (dx_v (de_lst (da_cons (dx_v (de_v 4 (pv 4))) (da_cons (dx_v (de_v 6 (pv 6))) da_nil)))) da_nil))) da_nil)))))))))))
    (dss_one (ds_ret (de_callTy call_tuple_of os_tuple rfl z_tuple bt_tuple (da_cons (dx_s 2 (pv 2)) da_nil))))))
abbrev s_computed : Stmt := topS 27
theorem sc_computed : FnScope ["machine", "operator", "rows", "found", "form", "its_operator", "arguments", "price", "parts", "row", "argument"] ["machine", "operator", "rows"] (defScope s_computed) := ⟨rfl, rfl, rfl, by decide +kernel, rfl, by decide +kernel, by decide +kernel⟩
theorem ok_computed {f : Addr} {fd : FuncData} {k : Nat} (F : Fun K "computed" "computed" s_computed f fd) (hm : mg "computed" = some (.ref f)) (hb : Binds K fd ["machine", "operator", "rows"] []) (c_less : CallOk P w K mg T k "less" ["one", "other"] M_less) (c_total : CallOk P w K mg T k "total" ["some"] M_total) (z_zip : mg "zip" = none) : CallOk P w K mg T (k + 1) "computed" ["machine", "operator", "rows"] M_computed :=
  callOk_of F hm hb fun base => fnD F sc_computed rfl rfl (by decide) fun cdv A outer s H qv E hgd hr => (dss_cons (ds_set (i := 3) sc_computed.nd rfl (by first | exact .inl rfl | exact .inr rfl) (np1 rfl) (de_op op_mulB os_mulB (dx_v (de_lst (da_cons (dx_v de_non) da_nil))) (dx_v (de_ix (ixD (ru65 hr)) os_ix (dx_s 0 (pv 0)) (dx_v de_int) (fun _ _ => rfl)))))
    (dss_cons (ds_wp [0, 1, 2, 4, 5, 6, 7, 8] (ds_for (npn rfl) (passes_of rfl) rfl (di_seq (dx_v (de_ix (ixD (ru65 hr)) os_ix (dx_s 0 (pv 0)) (dx_v de_int) (fun _ _ => rfl)))) (pg_tup rfl (pgs_cons (pg_name (i := 4) sc_computed.nd rfl (by first | exact .inl rfl | exact .inr rfl)) (pgs_cons (pg_name (i := 5) sc_computed.nd rfl (by first | exact .inl rfl | exact .inr rfl)) (pgs_cons (pg_name (i := 6) sc_computed.nd rfl (by first | exact .inl rfl | exact .inr rfl)) (pgs_cons (pg_name (i := 7) sc_computed.nd rfl (by first | exact .inl rfl | exact .inr rfl)) pgs_nil))))) (dss_one (ds_wp [4, 5, 6, 7, 8] (ds_if (dt_cmp (op_eqA (ru64 hr)) os_eq (dx_s 5 (pv 5)) (dx_s 1 (pv 1)) (nomark _)) (dss_cons (ds_fz [8] (ds_setLc (i := 8) (own := [("row", 9), ("argument", 10)]) (np1 rfl) (npn rfl) (by decide) rfl sc_computed.nd rfl rfl (sw_true rfl rfl rfl (by decide +kernel)) (di_zp rfl z_zip (da_cons (dx_v (de_v 2 (pv 2))) (da_cons (dx_v (de_v 6 (pv 6))) da_nil))) (blkOk_by (N := ["machine", "operator", "rows", "found", "form", "its_operator", "arguments", "price", "parts", "row", "argument"]) (sc := defScope s_computed) (own := [("row", 9), ("argument", 10)]) (by decide +kernel)) (fun _ _ _ _ _ => (pg_tup rfl (pgs_cons (pg_name (i := 9) sc_computed.nd rfl (by first | exact .inl rfl | exact .inr rfl)) (pgs_cons (pg_name (i := 10) sc_computed.nd rfl (by first | exact .inl rfl | exact .inr rfl)) pgs_nil)))) (fun _ _ _ _ _ => pts_yes) (fun _ _ _ _ _ => (de_ix (ixD (ru65 hr)) os_ix (dx_s 9 (pv 9)) (dx_s 10 (pv 10)) (fun _ _ => rfl)))) nx_set)
    (dss_one (ds_setI (pv 3) (dx_s 4 (pv 4)) (dcall c_less hgd hr rfl (passes_call (takes_of rfl rfl rfl rfl) (fun _ _ _ _ h => h)) (da_cons (dx_v (de_ix (ixD (ru65 hr)) os_ix (dx_s 3 (pv 3)) (dx_s 4 (pv 4)) (fun _ _ => rfl))) (da_cons (dx_v (dcall c_total hgd hr rfl (passes_call (takes_of rfl rfl rfl rfl) (fun _ _ _ _ h => h)) (da_cons (dx_v (de_op op_addA os_add (dx_v (de_lst (da_cons (dx_v (de_v 7 (pv 7))) da_nil))) (dx_s 8 (pv 8)))) da_nil))) da_nil)))))) dss_nil)))))
    (dss_one (ds_ret (de_m 3 (pv 3))))))
abbrev s_joined_row : Stmt := topS 29
theorem sc_joined_row : FnScope ["machine", "ways", "operator", "rows"] ["machine", "ways", "operator", "rows"] (defScope s_joined_row) := ⟨rfl, rfl, rfl, by decide +kernel, rfl, by decide +kernel, by decide +kernel⟩
theorem ok_joined_row {f : Addr} {fd : FuncData} {k : Nat} (F : Fun K "joined_row" "joined_row" s_joined_row f fd) (hm : mg "joined_row" = some (.ref f)) (hb : Binds K fd ["machine", "ways", "operator", "rows"] []) (c_computed : CallOk P w K mg T k "computed" ["machine", "operator", "rows"] M_computed) (c_converted : CallOk P w K mg T k "converted" ["ways", "row"] M_converted) : CallOk P w K mg T (k + 1) "joined_row" ["machine", "ways", "operator", "rows"] M_joined_row :=
  callOk_of F hm hb fun base => fnD F sc_joined_row rfl rfl (by decide) fun cdv A outer s H qv E hgd hr => (dss_one (ds_ret (dcall c_converted hgd hr rfl (passes_call (takes_of rfl rfl rfl rfl) (fun _ _ _ _ h => h)) (da_cons (dx_v (de_v 1 (pv 1))) (da_cons (dx_v (dcall c_computed hgd hr rfl (passes_call (takes_of rfl rfl rfl rfl) (fun _ _ _ _ h => h)) (da_cons (dx_v (de_v 0 (pv 0))) (da_cons (dx_v (de_v 2 (pv 2))) (da_cons (dx_v (de_v 3 (pv 3))) da_nil))))) da_nil)))))
abbrev s_rows_of : Stmt := topS 30
theorem sc_rows_of : FnScope ["machine", "tree", "node", "ways", "found", "part"] ["machine", "tree"] (defScope s_rows_of) := ⟨rfl, rfl, rfl, by decide +kernel, rfl, by decide +kernel, by decide +kernel⟩
theorem ok_rows_of {f : Addr} {fd : FuncData} {k : Nat} (F : Fun K "rows_of" "rows_of" s_rows_of f fd) (hm : mg "rows_of" = some (.ref f)) (hb : Binds K fd ["machine", "tree"] []) (c_joined_row : CallOk P w K mg T k "joined_row" ["machine", "ways", "operator", "rows"] M_joined_row) (c_ways_of : CallOk P w K mg T k "ways_of" ["machine"] M_ways_of) : CallOk P w K mg T (k + 1) "rows_of" ["machine", "tree"] M_rows_of :=
  callOk_of F hm hb fun base => fnD F sc_rows_of rfl rfl (by decide) fun cdv A outer s H qv E hgd hr => (dss_cons (ds_fz [3] (ds_parC (i := 3) (j := 4) (np1 rfl) (np1 rfl) (pg_tup rfl (pgs_cons (pg_name (i := 3) sc_rows_of.nd rfl (by first | exact .inl rfl | exact .inr rfl)) (pgs_cons (pg_name (i := 4) sc_rows_of.nd rfl (by first | exact .inl rfl | exact .inr rfl)) pgs_nil))) (dcall c_ways_of hgd hr rfl (passes_call (takes_of rfl rfl rfl rfl) (fun _ _ _ _ h => h)) (da_cons (dx_v (de_v 0 (pv 0))) da_nil)) (de_lst da_nil)) nx_par)
    (dss_cons (ds_wp [0, 1, 2, 3] (ds_for (npn rfl) (passes_of rfl) rfl (di_seq (dx_v (de_v 1 (pv 1)))) (pg_name (i := 2) sc_rows_of.nd rfl (by first | exact .inl rfl | exact .inr rfl)) (dss_one (ds_wp [2] (ds_app (pv 4) (dcall c_joined_row hgd hr rfl (passes_call (takes_of rfl rfl rfl rfl) (fun _ _ _ _ h => h)) (da_cons (dx_v (de_v 0 (pv 0))) (da_cons (dx_v (de_v 3 (pv 3))) (da_cons (dx_v (de_ix (ixD (ru65 hr)) os_ix (dx_s 2 (pv 2)) (dx_v de_int) (fun _ _ => rfl))) (da_cons (dx_v (de_lc (own := [("part", 5)]) (npn rfl) (by decide) rfl sc_rows_of.nd (di_seq (dx_v (de_slLo (dx_s 2 (pv 2)) (dx_v de_int)))) (blkOk_by (N := ["machine", "tree", "node", "ways", "found", "part"]) (sc := defScope s_rows_of) (own := [("part", 5)]) (by decide +kernel)) (fun _ _ _ _ _ => (pg_name (i := 5) sc_rows_of.nd rfl (by first | exact .inl rfl | exact .inr rfl))) (fun _ _ _ _ _ => pts_yes) (fun _ _ _ _ _ => (de_ix (ixD (ru65 hr)) os_ix (dx_s 4 (pv 4)) (dx_s 5 (pv 5)) (fun _ _ => rfl))))) da_nil))))))))))
    (dss_one (ds_ret (de_m 4 (pv 4))))))
abbrev s_without : Stmt := topS 19
theorem sc_without : FnScope ["machine", "numbers", "first", "ahead", "arities", "forms", "instructions", "conversions", "number", "one", "at"] ["machine", "numbers"] (defScope s_without) := ⟨rfl, rfl, rfl, by decide +kernel, rfl, by decide +kernel, by decide +kernel⟩
theorem ok_without {f : Addr} {fd : FuncData} {k : Nat} (F : Fun K "without" "without" s_without f fd) (hm : mg "without" = some (.ref f)) (hb : Binds K fd ["machine", "numbers"] []) (z_enumerate : mg "enumerate" = none) (z_len : mg "len" = none) (z_tuple : mg "tuple" = none) : CallOk P w K mg T (k + 1) "without" ["machine", "numbers"] M_without :=
  callOk_of F hm hb fun base => fnD F sc_without rfl rfl (by decide) fun cdv A outer s H qv E hgd hr => (dss_cons (ds_asT (npn rfl) (de_v 0 (pv 0)) (pg_tup rfl (pgs_cons (pg_name (i := 4) sc_without.nd rfl (by first | exact .inl rfl | exact .inr rfl)) (pgs_cons (pg_name (i := 5) sc_without.nd rfl (by first | exact .inl rfl | exact .inr rfl)) (pgs_cons (pg_name (i := 6) sc_without.nd rfl (by first | exact .inl rfl | exact .inr rfl)) (pgs_cons (pg_name (i := 7) sc_without.nd rfl (by first | exact .inl rfl | exact .inr rfl)) pgs_nil))))))
    (dss_cons (ds_set (i := 2) sc_without.nd rfl (by first | exact .inl rfl | exact .inr rfl) (np1 rfl) (de_callTy call_tuple_of os_tuple rfl z_tuple bt_tuple (da_cons (dx_v (de_lc (own := [("number", 8), ("one", 9)]) (npn rfl) (by decide) rfl sc_without.nd (di_en rfl z_enumerate (da_cons (dx_v (de_v 6 (pv 6))) da_nil)) (blkOk_by (N := ["machine", "numbers", "first", "ahead", "arities", "forms", "instructions", "conversions", "number", "one", "at"]) (sc := defScope s_without) (own := [("number", 8), ("one", 9)]) (by decide +kernel)) (fun _ _ _ _ _ => (pg_tup rfl (pgs_cons (pg_name (i := 8) sc_without.nd rfl (by first | exact .inl rfl | exact .inr rfl)) (pgs_cons (pg_name (i := 9) sc_without.nd rfl (by first | exact .inl rfl | exact .inr rfl)) pgs_nil)))) (fun _ _ _ _ _ => (pts_one (dt_cmp (op_ninA (ru65 hr)) os_ninA (dx_s 8 (pv 8)) (dx_s 1 (pv 1)) rfl))) (fun _ _ _ _ _ => (de_v 9 (pv 9))))) da_nil)))
    (dss_cons (ds_set (i := 3) sc_without.nd rfl (by first | exact .inl rfl | exact .inr rfl) (np1 rfl) (de_callB call_lenA os_len rfl z_len bt_len (da_cons (dx_s 6 (pv 6)) da_nil)))
    (dss_one (ds_ret (de_tup (da_cons (dx_v (de_v 4 (pv 4))) (da_cons (dx_v (de_v 5 (pv 5))) (da_cons (dx_v (de_v 2 (pv 2))) (da_cons (dx_v (de_callTy call_tuple_of os_tuple rfl z_tuple bt_tuple (da_cons (dx_v (de_lc (own := [("at", 10), ("one", 9)]) (npn rfl) (by decide) rfl sc_without.nd (di_en rfl z_enumerate (da_cons (dx_v (de_v 7 (pv 7))) da_nil)) (blkOk_by (N := ["machine", "numbers", "first", "ahead", "arities", "forms", "instructions", "conversions", "number", "one", "at"]) (sc := defScope s_without) (own := [("at", 10), ("one", 9)]) (by decide +kernel)) (fun _ _ _ _ _ => (pg_tup rfl (pgs_cons (pg_name (i := 10) sc_without.nd rfl (by first | exact .inl rfl | exact .inr rfl)) (pgs_cons (pg_name (i := 9) sc_without.nd rfl (by first | exact .inl rfl | exact .inr rfl)) pgs_nil)))) (fun _ _ _ _ _ => (pts_one (dt_cmp (op_ninA (ru65 hr)) os_ninA (dx_v (de_op op_addA os_add (dx_s 3 (pv 3)) (dx_s 10 (pv 10)))) (dx_s 1 (pv 1)) rfl))) (fun _ _ _ _ _ => (de_v 9 (pv 9))))) da_nil))) da_nil))))))))))
abbrev s_shows_needing : Stmt := topS 33
theorem sc_shows_needing : FnScope ["machine", "number", "thing", "price"] ["machine", "number", "thing"] (defScope s_shows_needing) := ⟨rfl, rfl, rfl, by decide +kernel, rfl, by decide +kernel, by decide +kernel⟩
theorem ok_shows_needing {f : Addr} {fd : FuncData} {k : Nat} (F : Fun K "shows_needing" "shows_needing" s_shows_needing f fd) (hm : mg "shows_needing" = some (.ref f)) (hb : Binds K fd ["machine", "number", "thing"] []) (c_is_written : CallOk P w K mg T k "is_written" ["arities", "thing"] M_is_written) (c_need_machine : CallOk P w K mg T k "need_machine" ["thing"] M_need_machine) (c_need_number : CallOk P w K mg T k "need_number" ["machine", "thing"] M_need_number) (c_rows_of : CallOk P w K mg T k "rows_of" ["machine", "tree"] M_rows_of) (c_without : CallOk P w K mg T k "without" ["machine", "numbers"] M_without) {t_GOAL : Tok} (g_GOAL : mg "GOAL" = some (.int 0 t_GOAL)) : CallOk P w K mg T (k + 1) "shows_needing" ["machine", "number", "thing"] M_shows_needing :=
  callOk_of F hm hb fun base => fnD F sc_shows_needing rfl rfl (by decide) fun cdv A outer s H qv E hgd hr => (dss_cons (ds_expr (dcall c_need_machine hgd hr rfl (passes_call (takes_of rfl rfl rfl rfl) (fun _ _ _ _ h => h)) (da_cons (dx_v (de_v 0 (pv 0))) da_nil)))
    (dss_cons (ds_expr (dcall c_need_number hgd hr rfl (passes_call (takes_of rfl rfl rfl rfl) (fun _ _ _ _ h => h)) (da_cons (dx_v (de_v 0 (pv 0))) (da_cons (dx_v (de_v 1 (pv 1))) da_nil))))
    (dss_cons (ds_if (dt_not (dt_val (dcall c_is_written hgd hr rfl (passes_call (takes_of rfl rfl rfl rfl) (fun _ _ _ _ h => h)) (da_cons (dx_v (de_ix (ixD (ru65 hr)) os_ix (dx_s 0 (pv 0)) (dx_v de_int) (fun _ _ => rfl))) (da_cons (dx_v (de_v 2 (pv 2))) da_nil))))) (dss_one (ds_ret de_bl)) dss_nil)
    (dss_cons (ds_set (i := 3) sc_shows_needing.nd rfl (by first | exact .inl rfl | exact .inr rfl) (np1 rfl) (de_ix (ixD (ru65 hr)) os_ix (dx_v (de_ix (ixD (ru65 hr)) os_ix (dx_v (dcall c_rows_of hgd hr rfl (passes_call (takes_of rfl rfl rfl rfl) (fun _ _ _ _ h => h)) (da_cons (dx_v (de_v 0 (pv 0))) (da_cons (dx_v (de_v 2 (pv 2))) da_nil)))) (dx_v (de_un un_neg os_neg (dx_v de_int))) (fun _ _ => rfl))) (dx_v (de_gint rfl g_GOAL)) (fun _ _ => rfl)))
    (dss_one (ds_ret (de_and (de_cmp op_notN os_isn (dx_s 3 (pv 3)) (dx_v de_non) (nomark _)) (de_one (de_cmp (op_neA (ru64 hr)) os_ne (dx_v (de_ix (ixD (ru65 hr)) os_ix (dx_v (de_ix (ixD (ru65 hr)) os_ix (dx_v (dcall c_rows_of hgd hr rfl (passes_call (takes_of rfl rfl rfl rfl) (fun _ _ _ _ h => h)) (da_cons (dx_v (dcall c_without hgd hr rfl (passes_call (takes_of rfl rfl rfl rfl) (fun _ _ _ _ h => h)) (da_cons (dx_v (de_v 0 (pv 0))) (da_cons (dx_v (de_tup (da_cons (dx_v (de_v 1 (pv 1))) da_nil))) da_nil)))) (da_cons (dx_v (de_v 2 (pv 2))) da_nil)))) (dx_v (de_un un_neg os_neg (dx_v de_int))) (fun _ _ => rfl))) (dx_v (de_gint rfl g_GOAL)) (fun _ _ => rfl))) (dx_s 3 (pv 3)) (nomark _))))))))))
abbrev s__law_is_equal : Stmt := topS 39
theorem sc__law_is_equal : FnScope ["_law_found", "_law_due_here"] ["_law_found", "_law_due_here"] (defScope s__law_is_equal) := ⟨rfl, rfl, rfl, by decide +kernel, rfl, by decide +kernel, by decide +kernel⟩
theorem ok__law_is_equal {f : Addr} {fd : FuncData} {k : Nat} (F : Fun K "_law_is_equal" "_law_is_equal" s__law_is_equal f fd) (hm : mg "_law_is_equal" = some (.ref f)) (hb : Binds K fd ["_law_found", "_law_due_here"] []) (z_repr : mg "repr" = none) : CallOk P w K mg T (k + 1) "_law_is_equal" ["_law_found", "_law_due_here"] M__law_same :=
  callOk_of F hm hb fun base => fnD F sc__law_is_equal rfl rfl (by decide) fun cdv A outer s H qv E hgd hr => (dss_one (ds_ret (de_cmp (op_eqA (ru64 hr)) os_eq (dx_v (de_callB (cr_repr hgd hr) os_repr rfl z_repr bt_repr (da_cons (dx_s 0 (pv 0)) da_nil))) (dx_v (de_callB (cr_repr hgd hr) os_repr rfl z_repr bt_repr (da_cons (dx_s 1 (pv 1)) da_nil))) (nomark _))))
abbrev s_law : Stmt := topS 58
theorem sc_law : FnScope ["_law_script", "_law_k", "_law_pen", "_law_lap", "_law_made", "_law_thing", "_law_number", "_law_told", "_law_due_here", "_law_before", "_law_again"] ["_law_script"] (defScope s_law) := ⟨rfl, rfl, rfl, by decide +kernel, rfl, by decide +kernel, by decide +kernel⟩
theorem fn_law {f : Addr} {fd : FuncData} {k : Nat} (F : Fun K "law" "law" s_law f fd) {base : Heap} (c__law_arities_of : CallOk P w K mg T k "_law_arities_of" ["_law_pen"] M__law_arities_of) (c__law_cell_at : CallOk P w K mg T k "_law_cell_at" ["_law_script", "_law_k"] M__law_cell_at) (c__law_draw : CallOk P w K mg T k "_law_draw" ["_law_pen", "_law_many_here"] M__law_draw_2) (c__law_due : CallOk P w K mg T k "_law_due" ["_law_made", "_law_number", "_law_thing"] M__law_due_5) (c__law_is_equal : CallOk P w K mg T k "_law_is_equal" ["_law_found", "_law_due_here"] M__law_same) (c__law_machine_of : CallOk P w K mg T k "_law_machine_of" ["_law_pen", "_law_arities", "_law_far"] M__law_machine_of) (c__law_many : CallOk P w K mg T k "_law_many" ["_law_made"] M__law_many) (c__law_pen_of : CallOk P w K mg T k "_law_pen_of" ["_law_cell"] M__law_pen_2) (c__law_things : CallOk P w K mg T k "_law_things" ["_law_pen", "_law_made"] M__law_things_4) (c_shows_needing : CallOk P w K mg T k "shows_needing" ["machine", "number", "thing"] M_shows_needing) (z_len : mg "len" = none) (z_max : mg "max" = none) (z_min : mg "min" = none) (z_range : mg "range" = none) (z_repr : mg "repr" = none) : FnG P w K mg base (k + 1) f fd ["_law_script"] (spD K mg T M_law_17) :=
  fnD F sc_law rfl rfl (by decide) fun cdv A outer s H qv E hgd hr => (dss_cons (ds_wp [0, 1, 2, 3, 4, 5, 6, 7, 8, 9] (ds_for (npn rfl) (passes_of rfl) rfl (di_r1 rfl z_range (da_cons (dx_v (de_callB (cl_max rfl) os_max rfl z_max bt_max (da_cons (dx_v de_int) (da_cons (dx_v (de_callB (cl_min rfl) os_min rfl z_min bt_min (da_cons (dx_v (de_callB call_lenA os_len rfl z_len bt_len (da_cons (dx_s 0 (pv 0)) da_nil))) (da_cons (dx_v de_int) da_nil)))) da_nil)))) da_nil)) (pg_name (i := 1) sc_law.nd rfl (by first | exact .inl rfl | exact .inr rfl)) (dss_cons (ds_wp [1] (ds_set (i := 2) sc_law.nd rfl (by first | exact .inl rfl | exact .inr rfl) (np1 rfl) (dcall c__law_pen_of hgd hr rfl (passes_call (takes_of rfl rfl rfl rfl) (fun _ _ _ _ h => h)) (da_cons (dx_v (dcall c__law_cell_at hgd hr rfl (passes_call (takes_of rfl rfl rfl rfl) (fun _ _ _ _ h => h)) (da_cons (dx_v (de_v 0 (pv 0))) (da_cons (dx_v (de_v 1 (pv 1))) da_nil)))) da_nil))))
    (dss_one (ds_wp [2, 3, 4, 5, 6, 7, 8, 9] (ds_for (npn rfl) (passes_of rfl) rfl (di_r1 rfl z_range (da_cons (dx_v de_int) da_nil)) (pg_name (i := 3) sc_law.nd rfl (by first | exact .inl rfl | exact .inr rfl)) (dss_cons (ds_wp [3] (ds_set (i := 4) sc_law.nd rfl (by first | exact .inl rfl | exact .inr rfl) (np1 rfl) (dcall c__law_machine_of hgd hr rfl (passes_call (takes_of rfl rfl rfl rfl) (fun _ _ _ _ h => h)) (da_cons (dx_s 2 (pv 2)) (da_cons (dx_v (dcall c__law_arities_of hgd hr rfl (passes_call (takes_of rfl rfl rfl rfl) (fun _ _ _ _ h => h)) (da_cons (dx_s 2 (pv 2)) da_nil))) (da_cons (dx_v de_int) da_nil))))))
    (dss_one (ds_wp [4, 5, 6, 7, 8, 9] (ds_for (npn rfl) (passes_of rfl) rfl (di_seq (dx_v (dcall c__law_things hgd hr rfl (passes_call (takes_of rfl rfl rfl rfl) (fun _ _ _ _ h => h)) (da_cons (dx_s 2 (pv 2)) (da_cons (dx_v (de_v 4 (pv 4))) da_nil))))) (pg_name (i := 5) sc_law.nd rfl (by first | exact .inl rfl | exact .inr rfl)) (dss_cons (ds_set (i := 6) sc_law.nd rfl (by first | exact .inl rfl | exact .inr rfl) (np1 rfl) (dcall c__law_draw hgd hr rfl (passes_call (takes_of rfl rfl rfl rfl) (fun _ _ _ _ h => h)) (da_cons (dx_s 2 (pv 2)) (da_cons (dx_v (de_callB (cl_max rfl) os_max rfl z_max bt_max (da_cons (dx_v de_int) (da_cons (dx_v (dcall c__law_many hgd hr rfl (passes_call (takes_of rfl rfl rfl rfl) (fun _ _ _ _ h => h)) (da_cons (dx_v (de_v 4 (pv 4))) da_nil))) da_nil)))) da_nil))))
    (dss_one (ds_wp [5, 6, 7, 8, 9] (ds_if (dt_cmp op_lt os_cmI (dx_s 6 (pv 6)) (dx_v (dcall c__law_many hgd hr rfl (passes_call (takes_of rfl rfl rfl rfl) (fun _ _ _ _ h => h)) (da_cons (dx_v (de_v 4 (pv 4))) da_nil))) (nomark _)) (dss_cons (ds_par (i := 8) (j := 9) (np1 rfl) (np1 rfl) rfl sc_law.nd rfl rfl (by decide) rfl rfl (dcall c__law_due hgd hr rfl (passes_call (takes_of rfl rfl rfl rfl) (fun _ _ _ _ h => h)) (da_cons (dx_v (de_v 4 (pv 4))) (da_cons (dx_v (de_v 6 (pv 6))) (da_cons (dx_v (de_v 5 (pv 5))) da_nil)))) (de_callB (cr_reprD hgd hr) os_reprD rfl z_repr bt_repr (da_cons (dx_v (de_tup (da_cons (dx_v (de_v 4 (pv 4))) (da_cons (dx_v (de_v 5 (pv 5))) da_nil)))) da_nil)))
    (dss_cons (ds_fz [7] (ds_setLc (i := 7) (own := [("_law_again", 10)]) (np1 rfl) (npn rfl) (by decide) rfl sc_law.nd rfl rfl (sw_true rfl rfl rfl (by decide +kernel)) (di_r1 rfl z_range (da_cons (dx_v de_int) da_nil)) (blkOk_by (N := ["_law_script", "_law_k", "_law_pen", "_law_lap", "_law_made", "_law_thing", "_law_number", "_law_told", "_law_due_here", "_law_before", "_law_again"]) (sc := defScope s_law) (own := [("_law_again", 10)]) (by decide +kernel)) (fun _ _ _ _ _ => (pg_name (i := 10) sc_law.nd rfl (by first | exact .inl rfl | exact .inr rfl))) (fun _ _ _ _ _ => pts_yes) (fun _ _ _ _ _ => (dcall c_shows_needing hgd hr rfl passL (da_cons (dx_v (de_v 4 (pv 4))) (da_cons (dx_v (de_v 6 (pv 6))) (da_cons (dx_v (de_v 5 (pv 5))) da_nil)))))) nx_set)
    (dss_one (ds_if (dw_t (dw_or (dt_not (dt_val (dcall c__law_is_equal hgd hr rfl (passes_call (takes_of rfl rfl rfl rfl) (fun _ _ _ _ h => h)) (da_cons (dx_v (de_v 7 (pv 7))) (da_cons (dx_v (de_lst (da_cons (dx_v (de_v 8 (pv 8))) (da_cons (dx_v (de_v 8 (pv 8))) da_nil)))) da_nil))))) (dw_or1 (dt_cmp (op_neA (ru64 hr)) os_ne (dx_v (de_callB (cr_reprD hgd hr) os_reprD rfl z_repr bt_repr (da_cons (dx_v (de_tup (da_cons (dx_v (de_v 4 (pv 4))) (da_cons (dx_v (de_v 5 (pv 5))) da_nil)))) da_nil))) (dx_s 9 (pv 9)) (nomark _))))) (dss_one (ds_ret de_bl)) dss_nil)))) dss_nil))))))))))))))
    (dss_one (ds_ret de_bl)))
end
theorem all_mk {l : PySem.W.OpenLaw} {w : World} {K : PySem.W.Frag} {h : Heap} {mg : Str → Option Value} {fa : Addr} (X : K.In h) (G : h.Ns mainGlobals mg) (hfa : mg "law" = some (.ref fa))
    {f0 : Addr} {od0 an0 : Option Addr} {sl0 : Array (Option Value)} {oc0 kV0 dc0 pm0 cd0 ct0 : Value} (a0 : PySem.W.nsIn K mainGlobals "_law_pen_of" = some (some (.ref f0))) (l0 : K.lookup f0 = some ⟨oc0, od0, .func (PySem.W.fnOf "_law_pen_of" "_law_pen_of" (defArgs s__law_pen_of) (defBody s__law_pen_of) (defScope s__law_pen_of) .none kV0 dc0 pm0 an0 cd0 ct0), sl0⟩) (c0 : PySem.W.codeIn K cd0 "_law_pen_of" = true) (k0 : PySem.W.keepIn K (.ref f0) = true)
    {f1 : Addr} {od1 an1 : Option Addr} {sl1 : Array (Option Value)} {oc1 kV1 dc1 pm1 cd1 ct1 : Value} (a1 : PySem.W.nsIn K mainGlobals "_law_cell_at" = some (some (.ref f1))) (l1 : K.lookup f1 = some ⟨oc1, od1, .func (PySem.W.fnOf "_law_cell_at" "_law_cell_at" (defArgs s__law_cell_at) (defBody s__law_cell_at) (defScope s__law_cell_at) .none kV1 dc1 pm1 an1 cd1 ct1), sl1⟩) (c1 : PySem.W.codeIn K cd1 "_law_cell_at" = true) (k1 : PySem.W.keepIn K (.ref f1) = true)
    {f2 : Addr} {od2 an2 : Option Addr} {sl2 : Array (Option Value)} {oc2 kV2 dc2 pm2 cd2 ct2 : Value} (a2 : PySem.W.nsIn K mainGlobals "_law_draw" = some (some (.ref f2))) (l2 : K.lookup f2 = some ⟨oc2, od2, .func (PySem.W.fnOf "_law_draw" "_law_draw" (defArgs s__law_draw) (defBody s__law_draw) (defScope s__law_draw) .none kV2 dc2 pm2 an2 cd2 ct2), sl2⟩) (c2 : PySem.W.codeIn K cd2 "_law_draw" = true) (k2 : PySem.W.keepIn K (.ref f2) = true)
    {f3 : Addr} {od3 an3 : Option Addr} {sl3 : Array (Option Value)} {oc3 kV3 dc3 pm3 cd3 ct3 : Value} (a3 : PySem.W.nsIn K mainGlobals "_law_pick" = some (some (.ref f3))) (l3 : K.lookup f3 = some ⟨oc3, od3, .func (PySem.W.fnOf "_law_pick" "_law_pick" (defArgs s__law_pick) (defBody s__law_pick) (defScope s__law_pick) .none kV3 dc3 pm3 an3 cd3 ct3), sl3⟩) (c3 : PySem.W.codeIn K cd3 "_law_pick" = true) (k3 : PySem.W.keepIn K (.ref f3) = true)
    {f4 : Addr} {od4 an4 : Option Addr} {sl4 : Array (Option Value)} {oc4 kV4 dc4 pm4 cd4 ct4 : Value} (a4 : PySem.W.nsIn K mainGlobals "_law_instruction" = some (some (.ref f4))) (l4 : K.lookup f4 = some ⟨oc4, od4, .func (PySem.W.fnOf "_law_instruction" "_law_instruction" (defArgs s__law_instruction) (defBody s__law_instruction) (defScope s__law_instruction) .none kV4 dc4 pm4 an4 cd4 ct4), sl4⟩) (c4 : PySem.W.codeIn K cd4 "_law_instruction" = true) (k4 : PySem.W.keepIn K (.ref f4) = true)
    {f5 : Addr} {od5 an5 : Option Addr} {sl5 : Array (Option Value)} {oc5 kV5 dc5 pm5 cd5 ct5 : Value} (a5 : PySem.W.nsIn K mainGlobals "_law_machine_of" = some (some (.ref f5))) (l5 : K.lookup f5 = some ⟨oc5, od5, .func (PySem.W.fnOf "_law_machine_of" "_law_machine_of" (defArgs s__law_machine_of) (defBody s__law_machine_of) (defScope s__law_machine_of) .none kV5 dc5 pm5 an5 cd5 ct5), sl5⟩) (c5 : PySem.W.codeIn K cd5 "_law_machine_of" = true) (k5 : PySem.W.keepIn K (.ref f5) = true)
    {f6 : Addr} {od6 an6 : Option Addr} {sl6 : Array (Option Value)} {oc6 kV6 dc6 pm6 cd6 ct6 : Value} (a6 : PySem.W.nsIn K mainGlobals "_law_written_of" = some (some (.ref f6))) (l6 : K.lookup f6 = some ⟨oc6, od6, .func (PySem.W.fnOf "_law_written_of" "_law_written_of" (defArgs s__law_written_of) (defBody s__law_written_of) (defScope s__law_written_of) .none kV6 dc6 pm6 an6 cd6 ct6), sl6⟩) (c6 : PySem.W.codeIn K cd6 "_law_written_of" = true) (k6 : PySem.W.keepIn K (.ref f6) = true)
    {f7 : Addr} {od7 an7 : Option Addr} {sl7 : Array (Option Value)} {oc7 kV7 dc7 pm7 cd7 ct7 : Value} (a7 : PySem.W.nsIn K mainGlobals "_law_nested" = some (some (.ref f7))) (l7 : K.lookup f7 = some ⟨oc7, od7, .func (PySem.W.fnOf "_law_nested" "_law_nested" (defArgs s__law_nested) (defBody s__law_nested) (defScope s__law_nested) .none kV7 dc7 pm7 an7 cd7 ct7), sl7⟩) (c7 : PySem.W.codeIn K cd7 "_law_nested" = true) (k7 : PySem.W.keepIn K (.ref f7) = true)
    {f8 : Addr} {od8 an8 : Option Addr} {sl8 : Array (Option Value)} {oc8 kV8 dc8 pm8 cd8 ct8 : Value} (a8 : PySem.W.nsIn K mainGlobals "_law_chain" = some (some (.ref f8))) (l8 : K.lookup f8 = some ⟨oc8, od8, .func (PySem.W.fnOf "_law_chain" "_law_chain" (defArgs s__law_chain) (defBody s__law_chain) (defScope s__law_chain) .none kV8 dc8 pm8 an8 cd8 ct8), sl8⟩) (c8 : PySem.W.codeIn K cd8 "_law_chain" = true) (k8 : PySem.W.keepIn K (.ref f8) = true)
    {f9 : Addr} {od9 an9 : Option Addr} {sl9 : Array (Option Value)} {oc9 kV9 dc9 pm9 cd9 ct9 : Value} (a9 : PySem.W.nsIn K mainGlobals "_law_some_trees" = some (some (.ref f9))) (l9 : K.lookup f9 = some ⟨oc9, od9, .func (PySem.W.fnOf "_law_some_trees" "_law_some_trees" (defArgs s__law_some_trees) (defBody s__law_some_trees) (defScope s__law_some_trees) .none kV9 dc9 pm9 an9 cd9 ct9), sl9⟩) (c9 : PySem.W.codeIn K cd9 "_law_some_trees" = true) (k9 : PySem.W.keepIn K (.ref f9) = true)
    {f10 : Addr} {od10 an10 : Option Addr} {sl10 : Array (Option Value)} {oc10 kV10 dc10 pm10 cd10 ct10 : Value} (a10 : PySem.W.nsIn K mainGlobals "_law_all_trees" = some (some (.ref f10))) (l10 : K.lookup f10 = some ⟨oc10, od10, .func (PySem.W.fnOf "_law_all_trees" "_law_all_trees" (defArgs s__law_all_trees) (defBody s__law_all_trees) (defScope s__law_all_trees) .none kV10 dc10 pm10 an10 cd10 ct10), sl10⟩) (c10 : PySem.W.codeIn K cd10 "_law_all_trees" = true) (k10 : PySem.W.keepIn K (.ref f10) = true)
    {f11 : Addr} {od11 an11 : Option Addr} {sl11 : Array (Option Value)} {oc11 kV11 dc11 pm11 cd11 ct11 : Value} (a11 : PySem.W.nsIn K mainGlobals "_law_is_tree" = some (some (.ref f11))) (l11 : K.lookup f11 = some ⟨oc11, od11, .func (PySem.W.fnOf "_law_is_tree" "_law_is_tree" (defArgs s__law_is_tree) (defBody s__law_is_tree) (defScope s__law_is_tree) .none kV11 dc11 pm11 an11 cd11 ct11), sl11⟩) (c11 : PySem.W.codeIn K cd11 "_law_is_tree" = true) (k11 : PySem.W.keepIn K (.ref f11) = true)
    {f12 : Addr} {od12 an12 : Option Addr} {sl12 : Array (Option Value)} {oc12 kV12 dc12 pm12 cd12 ct12 : Value} (a12 : PySem.W.nsIn K mainGlobals "_law_no_trees" = some (some (.ref f12))) (l12 : K.lookup f12 = some ⟨oc12, od12, .func (PySem.W.fnOf "_law_no_trees" "_law_no_trees" (defArgs s__law_no_trees) (defBody s__law_no_trees) (defScope s__law_no_trees) .none kV12 dc12 pm12 an12 cd12 ct12), sl12⟩) (c12 : PySem.W.codeIn K cd12 "_law_no_trees" = true) (k12 : PySem.W.keepIn K (.ref f12) = true)
    {f13 : Addr} {od13 an13 : Option Addr} {sl13 : Array (Option Value)} {oc13 kV13 dc13 pm13 cd13 ct13 : Value} (a13 : PySem.W.nsIn K mainGlobals "_law_things" = some (some (.ref f13))) (l13 : K.lookup f13 = some ⟨oc13, od13, .func (PySem.W.fnOf "_law_things" "_law_things" (defArgs s__law_things) (defBody s__law_things) (defScope s__law_things) .none kV13 dc13 pm13 an13 cd13 ct13), sl13⟩) (c13 : PySem.W.codeIn K cd13 "_law_things" = true) (k13 : PySem.W.keepIn K (.ref f13) = true)
    {f14 : Addr} {od14 an14 : Option Addr} {sl14 : Array (Option Value)} {oc14 kV14 dc14 pm14 cd14 ct14 : Value} (a14 : PySem.W.nsIn K mainGlobals "_law_arities_of" = some (some (.ref f14))) (l14 : K.lookup f14 = some ⟨oc14, od14, .func (PySem.W.fnOf "_law_arities_of" "_law_arities_of" (defArgs s__law_arities_of) (defBody s__law_arities_of) (defScope s__law_arities_of) .none kV14 dc14 pm14 an14 cd14 ct14), sl14⟩) (c14 : PySem.W.codeIn K cd14 "_law_arities_of" = true) (k14 : PySem.W.keepIn K (.ref f14) = true)
    {f15 : Addr} {od15 an15 : Option Addr} {sl15 : Array (Option Value)} {oc15 kV15 dc15 pm15 cd15 ct15 : Value} (a15 : PySem.W.nsIn K mainGlobals "_law_many" = some (some (.ref f15))) (l15 : K.lookup f15 = some ⟨oc15, od15, .func (PySem.W.fnOf "_law_many" "_law_many" (defArgs s__law_many) (defBody s__law_many) (defScope s__law_many) .none kV15 dc15 pm15 an15 cd15 ct15), sl15⟩) (c15 : PySem.W.codeIn K cd15 "_law_many" = true) (k15 : PySem.W.keepIn K (.ref f15) = true)
    {f16 : Addr} {od16 an16 : Option Addr} {sl16 : Array (Option Value)} {oc16 kV16 dc16 pm16 cd16 ct16 : Value} (a16 : PySem.W.nsIn K mainGlobals "_law_closed" = some (some (.ref f16))) (l16 : K.lookup f16 = some ⟨oc16, od16, .func (PySem.W.fnOf "_law_closed" "_law_closed" (defArgs s__law_closed) (defBody s__law_closed) (defScope s__law_closed) .none kV16 dc16 pm16 an16 cd16 ct16), sl16⟩) (c16 : PySem.W.codeIn K cd16 "_law_closed" = true) (k16 : PySem.W.keepIn K (.ref f16) = true)
    {f17 : Addr} {od17 an17 : Option Addr} {sl17 : Array (Option Value)} {oc17 kV17 dc17 pm17 cd17 ct17 : Value} (a17 : PySem.W.nsIn K mainGlobals "_law_over" = some (some (.ref f17))) (l17 : K.lookup f17 = some ⟨oc17, od17, .func (PySem.W.fnOf "_law_over" "_law_over" (defArgs s__law_over) (defBody s__law_over) (defScope s__law_over) .none kV17 dc17 pm17 an17 cd17 ct17), sl17⟩) (c17 : PySem.W.codeIn K cd17 "_law_over" = true) (k17 : PySem.W.keepIn K (.ref f17) = true)
    {f18 : Addr} {od18 an18 : Option Addr} {sl18 : Array (Option Value)} {oc18 kV18 dc18 pm18 cd18 ct18 : Value} (a18 : PySem.W.nsIn K mainGlobals "_law_rows_for" = some (some (.ref f18))) (l18 : K.lookup f18 = some ⟨oc18, od18, .func (PySem.W.fnOf "_law_rows_for" "_law_rows_for" (defArgs s__law_rows_for) (defBody s__law_rows_for) (defScope s__law_rows_for) .none kV18 dc18 pm18 an18 cd18 ct18), sl18⟩) (c18 : PySem.W.codeIn K cd18 "_law_rows_for" = true) (k18 : PySem.W.keepIn K (.ref f18) = true)
    {f19 : Addr} {od19 an19 : Option Addr} {sl19 : Array (Option Value)} {oc19 kV19 dc19 pm19 cd19 ct19 : Value} (a19 : PySem.W.nsIn K mainGlobals "_law_goal_of" = some (some (.ref f19))) (l19 : K.lookup f19 = some ⟨oc19, od19, .func (PySem.W.fnOf "_law_goal_of" "_law_goal_of" (defArgs s__law_goal_of) (defBody s__law_goal_of) (defScope s__law_goal_of) .none kV19 dc19 pm19 an19 cd19 ct19), sl19⟩) (c19 : PySem.W.codeIn K cd19 "_law_goal_of" = true) (k19 : PySem.W.keepIn K (.ref f19) = true)
    {f20 : Addr} {od20 an20 : Option Addr} {sl20 : Array (Option Value)} {oc20 kV20 dc20 pm20 cd20 ct20 : Value} (a20 : PySem.W.nsIn K mainGlobals "_law_bare" = some (some (.ref f20))) (l20 : K.lookup f20 = some ⟨oc20, od20, .func (PySem.W.fnOf "_law_bare" "_law_bare" (defArgs s__law_bare) (defBody s__law_bare) (defScope s__law_bare) .none kV20 dc20 pm20 an20 cd20 ct20), sl20⟩) (c20 : PySem.W.codeIn K cd20 "_law_bare" = true) (k20 : PySem.W.keepIn K (.ref f20) = true)
    {f21 : Addr} {od21 an21 : Option Addr} {sl21 : Array (Option Value)} {oc21 kV21 dc21 pm21 cd21 ct21 : Value} (a21 : PySem.W.nsIn K mainGlobals "_law_due" = some (some (.ref f21))) (l21 : K.lookup f21 = some ⟨oc21, od21, .func (PySem.W.fnOf "_law_due" "_law_due" (defArgs s__law_due) (defBody s__law_due) (defScope s__law_due) .none kV21 dc21 pm21 an21 cd21 ct21), sl21⟩) (c21 : PySem.W.codeIn K cd21 "_law_due" = true) (k21 : PySem.W.keepIn K (.ref f21) = true)
    {f22 : Addr} {od22 an22 : Option Addr} {sl22 : Array (Option Value)} {oc22 kV22 dc22 pm22 cd22 ct22 : Value} (a22 : PySem.W.nsIn K mainGlobals "is_between" = some (some (.ref f22))) (l22 : K.lookup f22 = some ⟨oc22, od22, .func (PySem.W.fnOf "is_between" "is_between" (defArgs s_is_between) (defBody s_is_between) (defScope s_is_between) .none kV22 dc22 pm22 an22 cd22 ct22), sl22⟩) (c22 : PySem.W.codeIn K cd22 "is_between" = true) (k22 : PySem.W.keepIn K (.ref f22) = true)
    {f23 : Addr} {od23 an23 : Option Addr} {sl23 : Array (Option Value)} {oc23 kV23 dc23 pm23 cd23 ct23 : Value} (a23 : PySem.W.nsIn K mainGlobals "is_arities" = some (some (.ref f23))) (l23 : K.lookup f23 = some ⟨oc23, od23, .func (PySem.W.fnOf "is_arities" "is_arities" (defArgs s_is_arities) (defBody s_is_arities) (defScope s_is_arities) .none kV23 dc23 pm23 an23 cd23 ct23), sl23⟩) (c23 : PySem.W.codeIn K cd23 "is_arities" = true) (k23 : PySem.W.keepIn K (.ref f23) = true)
    {f24 : Addr} {od24 an24 : Option Addr} {sl24 : Array (Option Value)} {oc24 kV24 dc24 pm24 cd24 ct24 : Value} (a24 : PySem.W.nsIn K mainGlobals "is_conversion" = some (some (.ref f24))) (l24 : K.lookup f24 = some ⟨oc24, od24, .func (PySem.W.fnOf "is_conversion" "is_conversion" (defArgs s_is_conversion) (defBody s_is_conversion) (defScope s_is_conversion) .none kV24 dc24 pm24 an24 cd24 ct24), sl24⟩) (c24 : PySem.W.codeIn K cd24 "is_conversion" = true) (k24 : PySem.W.keepIn K (.ref f24) = true)
    {f25 : Addr} {od25 an25 : Option Addr} {sl25 : Array (Option Value)} {oc25 kV25 dc25 pm25 cd25 ct25 : Value} (a25 : PySem.W.nsIn K mainGlobals "is_instruction" = some (some (.ref f25))) (l25 : K.lookup f25 = some ⟨oc25, od25, .func (PySem.W.fnOf "is_instruction" "is_instruction" (defArgs s_is_instruction) (defBody s_is_instruction) (defScope s_is_instruction) .none kV25 dc25 pm25 an25 cd25 ct25), sl25⟩) (c25 : PySem.W.codeIn K cd25 "is_instruction" = true) (k25 : PySem.W.keepIn K (.ref f25) = true)
    {f26 : Addr} {od26 an26 : Option Addr} {sl26 : Array (Option Value)} {oc26 kV26 dc26 pm26 cd26 ct26 : Value} (a26 : PySem.W.nsIn K mainGlobals "is_machine" = some (some (.ref f26))) (l26 : K.lookup f26 = some ⟨oc26, od26, .func (PySem.W.fnOf "is_machine" "is_machine" (defArgs s_is_machine) (defBody s_is_machine) (defScope s_is_machine) .none kV26 dc26 pm26 an26 cd26 ct26), sl26⟩) (c26 : PySem.W.codeIn K cd26 "is_machine" = true) (k26 : PySem.W.keepIn K (.ref f26) = true)
    {f27 : Addr} {od27 an27 : Option Addr} {sl27 : Array (Option Value)} {oc27 kV27 dc27 pm27 cd27 ct27 : Value} (a27 : PySem.W.nsIn K mainGlobals "need_machine" = some (some (.ref f27))) (l27 : K.lookup f27 = some ⟨oc27, od27, .func (PySem.W.fnOf "need_machine" "need_machine" (defArgs s_need_machine) (defBody s_need_machine) (defScope s_need_machine) .none kV27 dc27 pm27 an27 cd27 ct27), sl27⟩) (c27 : PySem.W.codeIn K cd27 "need_machine" = true) (k27 : PySem.W.keepIn K (.ref f27) = true)
    {f28 : Addr} {od28 an28 : Option Addr} {sl28 : Array (Option Value)} {oc28 kV28 dc28 pm28 cd28 ct28 : Value} (a28 : PySem.W.nsIn K mainGlobals "how_many" = some (some (.ref f28))) (l28 : K.lookup f28 = some ⟨oc28, od28, .func (PySem.W.fnOf "how_many" "how_many" (defArgs s_how_many) (defBody s_how_many) (defScope s_how_many) .none kV28 dc28 pm28 an28 cd28 ct28), sl28⟩) (c28 : PySem.W.codeIn K cd28 "how_many" = true) (k28 : PySem.W.keepIn K (.ref f28) = true)
    {f29 : Addr} {od29 an29 : Option Addr} {sl29 : Array (Option Value)} {oc29 kV29 dc29 pm29 cd29 ct29 : Value} (a29 : PySem.W.nsIn K mainGlobals "need_number" = some (some (.ref f29))) (l29 : K.lookup f29 = some ⟨oc29, od29, .func (PySem.W.fnOf "need_number" "need_number" (defArgs s_need_number) (defBody s_need_number) (defScope s_need_number) .none kV29 dc29 pm29 an29 cd29 ct29), sl29⟩) (c29 : PySem.W.codeIn K cd29 "need_number" = true) (k29 : PySem.W.keepIn K (.ref f29) = true)
    {f30 : Addr} {od30 an30 : Option Addr} {sl30 : Array (Option Value)} {oc30 kV30 dc30 pm30 cd30 ct30 : Value} (a30 : PySem.W.nsIn K mainGlobals "is_node" = some (some (.ref f30))) (l30 : K.lookup f30 = some ⟨oc30, od30, .func (PySem.W.fnOf "is_node" "is_node" (defArgs s_is_node) (defBody s_is_node) (defScope s_is_node) .none kV30 dc30 pm30 an30 cd30 ct30), sl30⟩) (c30 : PySem.W.codeIn K cd30 "is_node" = true) (k30 : PySem.W.keepIn K (.ref f30) = true)
    {f31 : Addr} {od31 an31 : Option Addr} {sl31 : Array (Option Value)} {oc31 kV31 dc31 pm31 cd31 ct31 : Value} (a31 : PySem.W.nsIn K mainGlobals "is_written" = some (some (.ref f31))) (l31 : K.lookup f31 = some ⟨oc31, od31, .func (PySem.W.fnOf "is_written" "is_written" (defArgs s_is_written) (defBody s_is_written) (defScope s_is_written) .none kV31 dc31 pm31 an31 cd31 ct31), sl31⟩) (c31 : PySem.W.codeIn K cd31 "is_written" = true) (k31 : PySem.W.keepIn K (.ref f31) = true)
    {f32 : Addr} {od32 an32 : Option Addr} {sl32 : Array (Option Value)} {oc32 kV32 dc32 pm32 cd32 ct32 : Value} (a32 : PySem.W.nsIn K mainGlobals "less" = some (some (.ref f32))) (l32 : K.lookup f32 = some ⟨oc32, od32, .func (PySem.W.fnOf "less" "less" (defArgs s_less) (defBody s_less) (defScope s_less) .none kV32 dc32 pm32 an32 cd32 ct32), sl32⟩) (c32 : PySem.W.codeIn K cd32 "less" = true) (k32 : PySem.W.keepIn K (.ref f32) = true)
    {f33 : Addr} {od33 an33 : Option Addr} {sl33 : Array (Option Value)} {oc33 kV33 dc33 pm33 cd33 ct33 : Value} (a33 : PySem.W.nsIn K mainGlobals "total" = some (some (.ref f33))) (l33 : K.lookup f33 = some ⟨oc33, od33, .func (PySem.W.fnOf "total" "total" (defArgs s_total) (defBody s_total) (defScope s_total) .none kV33 dc33 pm33 an33 cd33 ct33), sl33⟩) (c33 : PySem.W.codeIn K cd33 "total" = true) (k33 : PySem.W.keepIn K (.ref f33) = true)
    {f34 : Addr} {od34 an34 : Option Addr} {sl34 : Array (Option Value)} {oc34 kV34 dc34 pm34 cd34 ct34 : Value} (a34 : PySem.W.nsIn K mainGlobals "ways_of" = some (some (.ref f34))) (l34 : K.lookup f34 = some ⟨oc34, od34, .func (PySem.W.fnOf "ways_of" "ways_of" (defArgs s_ways_of) (defBody s_ways_of) (defScope s_ways_of) .none kV34 dc34 pm34 an34 cd34 ct34), sl34⟩) (c34 : PySem.W.codeIn K cd34 "ways_of" = true) (k34 : PySem.W.keepIn K (.ref f34) = true)
    {f35 : Addr} {od35 an35 : Option Addr} {sl35 : Array (Option Value)} {oc35 kV35 dc35 pm35 cd35 ct35 : Value} (a35 : PySem.W.nsIn K mainGlobals "converted" = some (some (.ref f35))) (l35 : K.lookup f35 = some ⟨oc35, od35, .func (PySem.W.fnOf "converted" "converted" (defArgs s_converted) (defBody s_converted) (defScope s_converted) .none kV35 dc35 pm35 an35 cd35 ct35), sl35⟩) (c35 : PySem.W.codeIn K cd35 "converted" = true) (k35 : PySem.W.keepIn K (.ref f35) = true)
    {f36 : Addr} {od36 an36 : Option Addr} {sl36 : Array (Option Value)} {oc36 kV36 dc36 pm36 cd36 ct36 : Value} (a36 : PySem.W.nsIn K mainGlobals "computed" = some (some (.ref f36))) (l36 : K.lookup f36 = some ⟨oc36, od36, .func (PySem.W.fnOf "computed" "computed" (defArgs s_computed) (defBody s_computed) (defScope s_computed) .none kV36 dc36 pm36 an36 cd36 ct36), sl36⟩) (c36 : PySem.W.codeIn K cd36 "computed" = true) (k36 : PySem.W.keepIn K (.ref f36) = true)
    {f37 : Addr} {od37 an37 : Option Addr} {sl37 : Array (Option Value)} {oc37 kV37 dc37 pm37 cd37 ct37 : Value} (a37 : PySem.W.nsIn K mainGlobals "joined_row" = some (some (.ref f37))) (l37 : K.lookup f37 = some ⟨oc37, od37, .func (PySem.W.fnOf "joined_row" "joined_row" (defArgs s_joined_row) (defBody s_joined_row) (defScope s_joined_row) .none kV37 dc37 pm37 an37 cd37 ct37), sl37⟩) (c37 : PySem.W.codeIn K cd37 "joined_row" = true) (k37 : PySem.W.keepIn K (.ref f37) = true)
    {f38 : Addr} {od38 an38 : Option Addr} {sl38 : Array (Option Value)} {oc38 kV38 dc38 pm38 cd38 ct38 : Value} (a38 : PySem.W.nsIn K mainGlobals "rows_of" = some (some (.ref f38))) (l38 : K.lookup f38 = some ⟨oc38, od38, .func (PySem.W.fnOf "rows_of" "rows_of" (defArgs s_rows_of) (defBody s_rows_of) (defScope s_rows_of) .none kV38 dc38 pm38 an38 cd38 ct38), sl38⟩) (c38 : PySem.W.codeIn K cd38 "rows_of" = true) (k38 : PySem.W.keepIn K (.ref f38) = true)
    {f39 : Addr} {od39 an39 : Option Addr} {sl39 : Array (Option Value)} {oc39 kV39 dc39 pm39 cd39 ct39 : Value} (a39 : PySem.W.nsIn K mainGlobals "without" = some (some (.ref f39))) (l39 : K.lookup f39 = some ⟨oc39, od39, .func (PySem.W.fnOf "without" "without" (defArgs s_without) (defBody s_without) (defScope s_without) .none kV39 dc39 pm39 an39 cd39 ct39), sl39⟩) (c39 : PySem.W.codeIn K cd39 "without" = true) (k39 : PySem.W.keepIn K (.ref f39) = true)
    {f40 : Addr} {od40 an40 : Option Addr} {sl40 : Array (Option Value)} {oc40 kV40 dc40 pm40 cd40 ct40 : Value} (a40 : PySem.W.nsIn K mainGlobals "shows_needing" = some (some (.ref f40))) (l40 : K.lookup f40 = some ⟨oc40, od40, .func (PySem.W.fnOf "shows_needing" "shows_needing" (defArgs s_shows_needing) (defBody s_shows_needing) (defScope s_shows_needing) .none kV40 dc40 pm40 an40 cd40 ct40), sl40⟩) (c40 : PySem.W.codeIn K cd40 "shows_needing" = true) (k40 : PySem.W.keepIn K (.ref f40) = true)
    {f41 : Addr} {od41 an41 : Option Addr} {sl41 : Array (Option Value)} {oc41 kV41 dc41 pm41 cd41 ct41 : Value} (a41 : PySem.W.nsIn K mainGlobals "_law_is_equal" = some (some (.ref f41))) (l41 : K.lookup f41 = some ⟨oc41, od41, .func (PySem.W.fnOf "_law_is_equal" "_law_is_equal" (defArgs s__law_is_equal) (defBody s__law_is_equal) (defScope s__law_is_equal) .none kV41 dc41 pm41 an41 cd41 ct41), sl41⟩) (c41 : PySem.W.codeIn K cd41 "_law_is_equal" = true) (k41 : PySem.W.keepIn K (.ref f41) = true)
    {f42 : Addr} {od42 an42 : Option Addr} {sl42 : Array (Option Value)} {oc42 kV42 dc42 pm42 cd42 ct42 : Value} (a42 : PySem.W.nsIn K mainGlobals "law" = some (some (.ref f42))) (l42 : K.lookup f42 = some ⟨oc42, od42, .func (PySem.W.fnOf "law" "law" (defArgs s_law) (defBody s_law) (defScope s_law) .none kV42 dc42 pm42 an42 cd42 ct42), sl42⟩) (c42 : PySem.W.codeIn K cd42 "law" = true) (k42 : PySem.W.keepIn K (.ref f42) = true)
    (z_all : PySem.W.nsIn K mainGlobals "all" = some none)
    (z_bool : PySem.W.nsIn K mainGlobals "bool" = some none)
    (z_enumerate : PySem.W.nsIn K mainGlobals "enumerate" = some none)
    (z_int : PySem.W.nsIn K mainGlobals "int" = some none)
    (z_isinstance : PySem.W.nsIn K mainGlobals "isinstance" = some none)
    (z_len : PySem.W.nsIn K mainGlobals "len" = some none)
    (z_list : PySem.W.nsIn K mainGlobals "list" = some none)
    (z_max : PySem.W.nsIn K mainGlobals "max" = some none)
    (z_min : PySem.W.nsIn K mainGlobals "min" = some none)
    (z_range : PySem.W.nsIn K mainGlobals "range" = some none)
    (z_repr : PySem.W.nsIn K mainGlobals "repr" = some none)
    (z_sum : PySem.W.nsIn K mainGlobals "sum" = some none)
    (z_tuple : PySem.W.nsIn K mainGlobals "tuple" = some none)
    (z_zip : PySem.W.nsIn K mainGlobals "zip" = some none)
    {t_GOAL : Tok} (g_GOAL : PySem.W.nsIn K mainGlobals "GOAL" = some (some (.int 0 t_GOAL)))
    {t_MOST_ARITY : Tok} (g_MOST_ARITY : PySem.W.nsIn K mainGlobals "MOST_ARITY" = some (some (.int 2 t_MOST_ARITY)))
    {t_MOST_CONVERSIONS : Tok} (g_MOST_CONVERSIONS : PySem.W.nsIn K mainGlobals "MOST_CONVERSIONS" = some (some (.int 12 t_MOST_CONVERSIONS)))
    {t_MOST_FORMS : Tok} (g_MOST_FORMS : PySem.W.nsIn K mainGlobals "MOST_FORMS" = some (some (.int 4 t_MOST_FORMS)))
    {t_MOST_INSTRUCTIONS : Tok} (g_MOST_INSTRUCTIONS : PySem.W.nsIn K mainGlobals "MOST_INSTRUCTIONS" = some (some (.int 24 t_MOST_INSTRUCTIONS)))
    {t_MOST_OPERATORS : Tok} (g_MOST_OPERATORS : PySem.W.nsIn K mainGlobals "MOST_OPERATORS" = some (some (.int 6 t_MOST_OPERATORS)))
    {t_MOST_PRICE : Tok} (g_MOST_PRICE : PySem.W.nsIn K mainGlobals "MOST_PRICE" = some (some (.int 20 t_MOST_PRICE)))
    : ∃ fd : FuncData, (∀ (s : Shared) (v : Value), BindsTo s fd ⟨[v], []⟩ [("_law_script", v)]) ∧ ∀ base : Heap, K.In base → base.Ns mainGlobals mg → FnG l.prog w K mg base 25 fa fd ["_law_script"] (spD K mg [] M_law_17) := by
  have e := hfa.symm.trans (PySem.W.mg_of X G a42)
  cases e
  have F0 := fun_mk (st := s__law_pen_of) l0 c0 k0
  have b0 := F0.binds (ps := ["_law_cell"]) fun _ _ _ _ _ _ us hl => match us, hl with | [_], _ => rfl
  have C__law_pen_of : CallOk l.prog w K mg [] 1 "_law_pen_of" ["_law_cell"] M__law_pen_2 := ok__law_pen_of (k := 0) F0 (PySem.W.mg_of X G a0) b0 (PySem.W.mg_none_of X G z_max)
  have F1 := fun_mk (st := s__law_cell_at) l1 c1 k1
  have b1 := F1.binds (ps := ["_law_script", "_law_k"]) fun _ _ _ _ _ _ us hl => match us, hl with | [_, _], _ => rfl
  have C__law_cell_at : CallOk l.prog w K mg [] 1 "_law_cell_at" ["_law_script", "_law_k"] M__law_cell_at := ok__law_cell_at (k := 0) F1 (PySem.W.mg_of X G a1) b1 (PySem.W.mg_none_of X G z_len)
  have F2 := fun_mk (st := s__law_draw) l2 c2 k2
  have b2 := F2.binds (ps := ["_law_pen", "_law_many_here"]) fun _ _ _ _ _ _ us hl => match us, hl with | [_, _], _ => rfl
  have C__law_draw : CallOk l.prog w K mg [] 1 "_law_draw" ["_law_pen", "_law_many_here"] M__law_draw_2 := ok__law_draw (k := 0) F2 (PySem.W.mg_of X G a2) b2 
  have F3 := fun_mk (st := s__law_pick) l3 c3 k3
  have b3 := F3.binds (ps := ["_law_pen", "_law_some"]) fun _ _ _ _ _ _ us hl => match us, hl with | [_, _], _ => rfl
  have C__law_pick : CallOk l.prog w K mg [] 2 "_law_pick" ["_law_pen", "_law_some"] M__law_pick_2 := ok__law_pick (k := 1) F3 (PySem.W.mg_of X G a3) b3 (C__law_draw.mono (by decide)) (PySem.W.mg_none_of X G z_len)
  have F4 := fun_mk (st := s__law_instruction) l4 c4 k4
  have b4 := F4.binds (ps := ["_law_pen", "_law_arities", "_law_forms", "_law_operator"]) fun _ _ _ _ _ _ us hl => match us, hl with | [_, _, _, _], _ => rfl
  have C__law_instruction : CallOk l.prog w K mg [] 3 "_law_instruction" ["_law_pen", "_law_arities", "_law_forms", "_law_operator"] M__law_instruction := ok__law_instruction (k := 2) F4 (PySem.W.mg_of X G a4) b4 (C__law_draw.mono (by decide)) (C__law_pick.mono (by decide)) (PySem.W.mg_none_of X G z_range) (PySem.W.mg_none_of X G z_tuple)
  have F5 := fun_mk (st := s__law_machine_of) l5 c5 k5
  have b5 := F5.binds (ps := ["_law_pen", "_law_arities", "_law_far"]) fun _ _ _ _ _ _ us hl => match us, hl with | [_, _, _], _ => rfl
  have C__law_machine_of : CallOk l.prog w K mg [] 4 "_law_machine_of" ["_law_pen", "_law_arities", "_law_far"] M__law_machine_of := ok__law_machine_of (k := 3) F5 (PySem.W.mg_of X G a5) b5 (C__law_draw.mono (by decide)) (C__law_instruction.mono (by decide)) (C__law_pick.mono (by decide)) (PySem.W.mg_none_of X G z_len) (PySem.W.mg_none_of X G z_range) (PySem.W.mg_none_of X G z_tuple)
  have F6 := fun_mk (st := s__law_written_of) l6 c6 k6
  have b6 := F6.binds (ps := ["_law_nested_here"]) fun _ _ _ _ _ _ us hl => match us, hl with | [_], _ => rfl
  have C__law_written_of : CallOk l.prog w K mg [] 20 "_law_written_of" ["_law_nested_here"] (M__law_written_of 20) := ok__law_written_of (k := 0) F6 (PySem.W.mg_of X G a6) b6 (PySem.W.mg_none_of X G z_len) (PySem.W.mg_none_of X G z_tuple) 20
  have F7 := fun_mk (st := s__law_nested) l7 c7 k7
  have b7 := F7.binds (ps := ["_law_pen", "_law_arities", "_law_far"]) fun _ _ _ _ _ _ us hl => match us, hl with | [_, _, _], _ => rfl
  have C__law_nested : CallOk l.prog w K mg [] 22 "_law_nested" ["_law_pen", "_law_arities", "_law_far"] (M__law_nested 20) := ok__law_nested (k := 2) F7 (PySem.W.mg_of X G a7) b7 (C__law_draw.mono (by decide)) (C__law_pick.mono (by decide)) (PySem.W.mg_none_of X G z_enumerate) (PySem.W.mg_none_of X G z_len) (PySem.W.mg_none_of X G z_range) (PySem.W.mg_none_of X G z_tuple) 20
  have F8 := fun_mk (st := s__law_chain) l8 c8 k8
  have b8 := F8.binds (ps := ["_law_pen", "_law_arities", "_law_many_here"]) fun _ _ _ _ _ _ us hl => match us, hl with | [_, _, _], _ => rfl
  have C__law_chain : CallOk l.prog w K mg [] 3 "_law_chain" ["_law_pen", "_law_arities", "_law_many_here"] M__law_chain := ok__law_chain (k := 2) F8 (PySem.W.mg_of X G a8) b8 (C__law_draw.mono (by decide)) (C__law_pick.mono (by decide)) (PySem.W.mg_none_of X G z_enumerate) (PySem.W.mg_none_of X G z_int) (PySem.W.mg_none_of X G z_len) (PySem.W.mg_none_of X G z_range) (PySem.W.mg_none_of X G z_tuple)
  have F9 := fun_mk (st := s__law_some_trees) l9 c9 k9
  have b9 := F9.binds (ps := ["_law_pen", "_law_arities"]) fun _ _ _ _ _ _ us hl => match us, hl with | [_, _], _ => rfl
  have C__law_some_trees : CallOk l.prog w K mg [] 23 "_law_some_trees" ["_law_pen", "_law_arities"] M__law_some_trees := ok__law_some_trees (k := 22) F9 (PySem.W.mg_of X G a9) b9 (C__law_chain.mono (by decide)) (C__law_draw.mono (by decide)) (C__law_nested.mono (by decide)) (C__law_written_of.mono (by decide)) (PySem.W.mg_none_of X G z_range)
  have F10 := fun_mk (st := s__law_all_trees) l10 c10 k10
  have b10 := F10.binds (ps := ["_law_arities", "_law_most"]) fun _ _ _ _ _ _ us hl => match us, hl with | [_, _], _ => rfl
  have C__law_all_trees : CallOk l.prog w K mg [] 21 "_law_all_trees" ["_law_arities", "_law_most"] M__law_all_trees := ok__law_all_trees (k := 20) F10 (PySem.W.mg_of X G a10) b10 (C__law_written_of.mono (by decide)) (PySem.W.mg_none_of X G z_enumerate) (PySem.W.mg_none_of X G z_int) (PySem.W.mg_none_of X G z_range)
  have F11 := fun_mk (st := s__law_is_tree) l11 c11 k11
  have b11 := F11.binds (ps := ["_law_arities", "_law_thing"]) fun _ _ _ _ _ _ us hl => match us, hl with | [_, _], _ => rfl
  have C__law_is_tree : CallOk l.prog w K mg [] 1 "_law_is_tree" ["_law_arities", "_law_thing"] M__law_is_tree := ok__law_is_tree (k := 0) F11 (PySem.W.mg_of X G a11) b11 (PySem.W.mg_none_of X G z_bool) (PySem.W.mg_none_of X G z_enumerate) (PySem.W.mg_none_of X G z_int) (PySem.W.mg_none_of X G z_isinstance) (PySem.W.mg_none_of X G z_len) (PySem.W.mg_none_of X G z_tuple)
  have F12 := fun_mk (st := s__law_no_trees) l12 c12 k12
  have b12 := F12.binds (ps := ["_law_arities"]) fun _ _ _ _ _ _ us hl => match us, hl with | [_], _ => rfl
  have C__law_no_trees : CallOk l.prog w K mg [] 2 "_law_no_trees" ["_law_arities"] M__law_no_trees := ok__law_no_trees (k := 1) F12 (PySem.W.mg_of X G a12) b12 (C__law_is_tree.mono (by decide)) (PySem.W.mg_none_of X G z_len)
  have F13 := fun_mk (st := s__law_things) l13 c13 k13
  have b13 := F13.binds (ps := ["_law_pen", "_law_made"]) fun _ _ _ _ _ _ us hl => match us, hl with | [_, _], _ => rfl
  have C__law_things : CallOk l.prog w K mg [] 24 "_law_things" ["_law_pen", "_law_made"] M__law_things_4 := ok__law_things (k := 23) F13 (PySem.W.mg_of X G a13) b13 (C__law_all_trees.mono (by decide)) (C__law_draw.mono (by decide)) (C__law_no_trees.mono (by decide)) (C__law_pick.mono (by decide)) (C__law_some_trees.mono (by decide)) (PySem.W.mg_none_of X G z_len) (PySem.W.mg_none_of X G z_list)
  have F14 := fun_mk (st := s__law_arities_of) l14 c14 k14
  have b14 := F14.binds (ps := ["_law_pen"]) fun _ _ _ _ _ _ us hl => match us, hl with | [_], _ => rfl
  have C__law_arities_of : CallOk l.prog w K mg [] 3 "_law_arities_of" ["_law_pen"] M__law_arities_of := ok__law_arities_of (k := 2) F14 (PySem.W.mg_of X G a14) b14 (C__law_pick.mono (by decide))
  have F15 := fun_mk (st := s__law_many) l15 c15 k15
  have b15 := F15.binds (ps := ["_law_made"]) fun _ _ _ _ _ _ us hl => match us, hl with | [_], _ => rfl
  have C__law_many : CallOk l.prog w K mg [] 1 "_law_many" ["_law_made"] M__law_many := ok__law_many (k := 0) F15 (PySem.W.mg_of X G a15) b15 (PySem.W.mg_none_of X G z_len)
  have F16 := fun_mk (st := s__law_closed) l16 c16 k16
  have b16 := F16.binds (ps := ["_law_made", "_law_row"]) fun _ _ _ _ _ _ us hl => match us, hl with | [_, _], _ => rfl
  have C__law_closed : CallOk l.prog w K mg [] 1 "_law_closed" ["_law_made", "_law_row"] M__law_closed_2 := ok__law_closed (k := 0) F16 (PySem.W.mg_of X G a16) b16 (PySem.W.mg_none_of X G z_len) (PySem.W.mg_none_of X G z_list) (PySem.W.mg_none_of X G z_range) (PySem.W.mg_none_of X G z_tuple)
  have F17 := fun_mk (st := s__law_over) l17 c17 k17
  have b17 := F17.binds (ps := ["_law_made", "_law_operator", "_law_rows"]) fun _ _ _ _ _ _ us hl => match us, hl with | [_, _, _], _ => rfl
  have C__law_over : CallOk l.prog w K mg [] 2 "_law_over" ["_law_made", "_law_operator", "_law_rows"] M__law_over_3 := ok__law_over (k := 1) F17 (PySem.W.mg_of X G a17) b17 (C__law_closed.mono (by decide)) (PySem.W.mg_none_of X G z_sum) (PySem.W.mg_none_of X G z_zip)
  have F18 := fun_mk (st := s__law_rows_for) l18 c18 k18
  have b18 := F18.binds (ps := ["_law_made", "_law_written"]) fun _ _ _ _ _ _ us hl => match us, hl with | [_, _], _ => rfl
  have C__law_rows_for : CallOk l.prog w K mg [] 3 "_law_rows_for" ["_law_made", "_law_written"] M__law_rows_for_2 := ok__law_rows_for (k := 2) F18 (PySem.W.mg_of X G a18) b18 (C__law_over.mono (by decide))
  have F19 := fun_mk (st := s__law_goal_of) l19 c19 k19
  have b19 := F19.binds (ps := ["_law_made", "_law_written"]) fun _ _ _ _ _ _ us hl => match us, hl with | [_, _], _ => rfl
  have C__law_goal_of : CallOk l.prog w K mg [] 4 "_law_goal_of" ["_law_made", "_law_written"] M__law_goal_of_2 := ok__law_goal_of (k := 3) F19 (PySem.W.mg_of X G a19) b19 (C__law_rows_for.mono (by decide))
  have F20 := fun_mk (st := s__law_bare) l20 c20 k20
  have b20 := F20.binds (ps := ["_law_made", "_law_gone"]) fun _ _ _ _ _ _ us hl => match us, hl with | [_, _], _ => rfl
  have C__law_bare : CallOk l.prog w K mg [] 1 "_law_bare" ["_law_made", "_law_gone"] M__law_bare := ok__law_bare (k := 0) F20 (PySem.W.mg_of X G a20) b20 (PySem.W.mg_none_of X G z_enumerate) (PySem.W.mg_none_of X G z_len) (PySem.W.mg_none_of X G z_tuple)
  have F21 := fun_mk (st := s__law_due) l21 c21 k21
  have b21 := F21.binds (ps := ["_law_made", "_law_number", "_law_thing"]) fun _ _ _ _ _ _ us hl => match us, hl with | [_, _, _], _ => rfl
  have C__law_due : CallOk l.prog w K mg [] 5 "_law_due" ["_law_made", "_law_number", "_law_thing"] M__law_due_5 := ok__law_due (k := 4) F21 (PySem.W.mg_of X G a21) b21 (C__law_bare.mono (by decide)) (C__law_goal_of.mono (by decide)) (C__law_is_tree.mono (by decide))
  have F22 := fun_mk (st := s_is_between) l22 c22 k22
  have b22 := F22.binds (ps := ["thing", "low", "high"]) fun _ _ _ _ _ _ us hl => match us, hl with | [_, _, _], _ => rfl
  have C_is_between : CallOk l.prog w K mg [] 1 "is_between" ["thing", "low", "high"] M_is_between := ok_is_between (k := 0) F22 (PySem.W.mg_of X G a22) b22 (PySem.W.mg_none_of X G z_bool) (PySem.W.mg_none_of X G z_int) (PySem.W.mg_none_of X G z_isinstance)
  have F23 := fun_mk (st := s_is_arities) l23 c23 k23
  have b23 := F23.binds (ps := ["thing"]) fun _ _ _ _ _ _ us hl => match us, hl with | [_], _ => rfl
  have C_is_arities : CallOk l.prog w K mg [] 2 "is_arities" ["thing"] M_is_arities := ok_is_arities (k := 1) F23 (PySem.W.mg_of X G a23) b23 (C_is_between.mono (by decide)) (PySem.W.mg_none_of X G z_all) (PySem.W.mg_none_of X G z_isinstance) (PySem.W.mg_none_of X G z_len) (PySem.W.mg_none_of X G z_tuple) (PySem.W.mg_of X G g_MOST_ARITY) (PySem.W.mg_of X G g_MOST_OPERATORS)
  have F24 := fun_mk (st := s_is_conversion) l24 c24 k24
  have b24 := F24.binds (ps := ["forms", "thing"]) fun _ _ _ _ _ _ us hl => match us, hl with | [_, _], _ => rfl
  have C_is_conversion : CallOk l.prog w K mg [] 2 "is_conversion" ["forms", "thing"] M_is_conversion := ok_is_conversion (k := 1) F24 (PySem.W.mg_of X G a24) b24 (C_is_between.mono (by decide)) (PySem.W.mg_none_of X G z_isinstance) (PySem.W.mg_none_of X G z_len) (PySem.W.mg_none_of X G z_tuple) (PySem.W.mg_of X G g_MOST_PRICE)
  have F25 := fun_mk (st := s_is_instruction) l25 c25 k25
  have b25 := F25.binds (ps := ["arities", "forms", "thing"]) fun _ _ _ _ _ _ us hl => match us, hl with | [_, _, _], _ => rfl
  have C_is_instruction : CallOk l.prog w K mg [] 2 "is_instruction" ["arities", "forms", "thing"] M_is_instruction := ok_is_instruction (k := 1) F25 (PySem.W.mg_of X G a25) b25 (C_is_between.mono (by decide)) (PySem.W.mg_none_of X G z_all) (PySem.W.mg_none_of X G z_isinstance) (PySem.W.mg_none_of X G z_len) (PySem.W.mg_none_of X G z_tuple) (PySem.W.mg_of X G g_MOST_PRICE)
  have F26 := fun_mk (st := s_is_machine) l26 c26 k26
  have b26 := F26.binds (ps := ["thing"]) fun _ _ _ _ _ _ us hl => match us, hl with | [_], _ => rfl
  have C_is_machine : CallOk l.prog w K mg [] 3 "is_machine" ["thing"] M_is_machine := ok_is_machine (k := 2) F26 (PySem.W.mg_of X G a26) b26 (C_is_arities.mono (by decide)) (C_is_between.mono (by decide)) (C_is_conversion.mono (by decide)) (C_is_instruction.mono (by decide)) (PySem.W.mg_none_of X G z_all) (PySem.W.mg_none_of X G z_isinstance) (PySem.W.mg_none_of X G z_len) (PySem.W.mg_none_of X G z_tuple) (PySem.W.mg_of X G g_MOST_CONVERSIONS) (PySem.W.mg_of X G g_MOST_FORMS) (PySem.W.mg_of X G g_MOST_INSTRUCTIONS)
  have F27 := fun_mk (st := s_need_machine) l27 c27 k27
  have b27 := F27.binds (ps := ["thing"]) fun _ _ _ _ _ _ us hl => match us, hl with | [_], _ => rfl
  have C_need_machine : CallOk l.prog w K mg [] 4 "need_machine" ["thing"] M_need_machine := ok_need_machine (k := 3) F27 (PySem.W.mg_of X G a27) b27 (C_is_machine.mono (by decide))
  have F28 := fun_mk (st := s_how_many) l28 c28 k28
  have b28 := F28.binds (ps := ["machine"]) fun _ _ _ _ _ _ us hl => match us, hl with | [_], _ => rfl
  have C_how_many : CallOk l.prog w K mg [] 1 "how_many" ["machine"] M__law_many := ok_how_many (k := 0) F28 (PySem.W.mg_of X G a28) b28 (PySem.W.mg_none_of X G z_len)
  have F29 := fun_mk (st := s_need_number) l29 c29 k29
  have b29 := F29.binds (ps := ["machine", "thing"]) fun _ _ _ _ _ _ us hl => match us, hl with | [_, _], _ => rfl
  have C_need_number : CallOk l.prog w K mg [] 2 "need_number" ["machine", "thing"] M_need_number := ok_need_number (k := 1) F29 (PySem.W.mg_of X G a29) b29 (C_how_many.mono (by decide)) (C_is_between.mono (by decide))
  have F30 := fun_mk (st := s_is_node) l30 c30 k30
  have b30 := F30.binds (ps := ["arities", "thing", "before"]) fun _ _ _ _ _ _ us hl => match us, hl with | [_, _, _], _ => rfl
  have C_is_node : CallOk l.prog w K mg [] 2 "is_node" ["arities", "thing", "before"] M_is_node := ok_is_node (k := 1) F30 (PySem.W.mg_of X G a30) b30 (C_is_between.mono (by decide)) (PySem.W.mg_none_of X G z_all) (PySem.W.mg_none_of X G z_isinstance) (PySem.W.mg_none_of X G z_len) (PySem.W.mg_none_of X G z_tuple)
  have F31 := fun_mk (st := s_is_written) l31 c31 k31
  have b31 := F31.binds (ps := ["arities", "thing"]) fun _ _ _ _ _ _ us hl => match us, hl with | [_, _], _ => rfl
  have C_is_written : CallOk l.prog w K mg [] 3 "is_written" ["arities", "thing"] M_is_written := ok_is_written (k := 2) F31 (PySem.W.mg_of X G a31) b31 (C_is_node.mono (by decide)) (PySem.W.mg_none_of X G z_all) (PySem.W.mg_none_of X G z_enumerate) (PySem.W.mg_none_of X G z_isinstance) (PySem.W.mg_none_of X G z_tuple)
  have F32 := fun_mk (st := s_less) l32 c32 k32
  have b32 := F32.binds (ps := ["one", "other"]) fun _ _ _ _ _ _ us hl => match us, hl with | [_, _], _ => rfl
  have C_less : CallOk l.prog w K mg [] 1 "less" ["one", "other"] M_less := ok_less (k := 0) F32 (PySem.W.mg_of X G a32) b32 (PySem.W.mg_none_of X G z_min)
  have F33 := fun_mk (st := s_total) l33 c33 k33
  have b33 := F33.binds (ps := ["some"]) fun _ _ _ _ _ _ us hl => match us, hl with | [_], _ => rfl
  have C_total : CallOk l.prog w K mg [] 1 "total" ["some"] M_total := ok_total (k := 0) F33 (PySem.W.mg_of X G a33) b33 (PySem.W.mg_none_of X G z_sum)
  have F34 := fun_mk (st := s_ways_of) l34 c34 k34
  have b34 := F34.binds (ps := ["machine"]) fun _ _ _ _ _ _ us hl => match us, hl with | [_], _ => rfl
  have C_ways_of : CallOk l.prog w K mg [] 2 "ways_of" ["machine"] M_ways_of := ok_ways_of (k := 1) F34 (PySem.W.mg_of X G a34) b34 (C_less.mono (by decide)) (C_total.mono (by decide)) (PySem.W.mg_none_of X G z_range)
  have F35 := fun_mk (st := s_converted) l35 c35 k35
  have b35 := F35.binds (ps := ["ways", "row"]) fun _ _ _ _ _ _ us hl => match us, hl with | [_, _], _ => rfl
  have C_converted : CallOk l.prog w K mg [] 2 "converted" ["ways", "row"] M_converted := ok_converted (k := 1) F35 (PySem.W.mg_of X G a35) b35 (C_less.mono (by decide)) (C_total.mono (by decide)) (PySem.W.mg_none_of X G z_enumerate) (PySem.W.mg_none_of X G z_list) (PySem.W.mg_none_of X G z_tuple)
  have F36 := fun_mk (st := s_computed) l36 c36 k36
  have b36 := F36.binds (ps := ["machine", "operator", "rows"]) fun _ _ _ _ _ _ us hl => match us, hl with | [_, _, _], _ => rfl
  have C_computed : CallOk l.prog w K mg [] 2 "computed" ["machine", "operator", "rows"] M_computed := ok_computed (k := 1) F36 (PySem.W.mg_of X G a36) b36 (C_less.mono (by decide)) (C_total.mono (by decide)) (PySem.W.mg_none_of X G z_zip)
  have F37 := fun_mk (st := s_joined_row) l37 c37 k37
  have b37 := F37.binds (ps := ["machine", "ways", "operator", "rows"]) fun _ _ _ _ _ _ us hl => match us, hl with | [_, _, _, _], _ => rfl
  have C_joined_row : CallOk l.prog w K mg [] 3 "joined_row" ["machine", "ways", "operator", "rows"] M_joined_row := ok_joined_row (k := 2) F37 (PySem.W.mg_of X G a37) b37 (C_computed.mono (by decide)) (C_converted.mono (by decide))
  have F38 := fun_mk (st := s_rows_of) l38 c38 k38
  have b38 := F38.binds (ps := ["machine", "tree"]) fun _ _ _ _ _ _ us hl => match us, hl with | [_, _], _ => rfl
  have C_rows_of : CallOk l.prog w K mg [] 4 "rows_of" ["machine", "tree"] M_rows_of := ok_rows_of (k := 3) F38 (PySem.W.mg_of X G a38) b38 (C_joined_row.mono (by decide)) (C_ways_of.mono (by decide))
  have F39 := fun_mk (st := s_without) l39 c39 k39
  have b39 := F39.binds (ps := ["machine", "numbers"]) fun _ _ _ _ _ _ us hl => match us, hl with | [_, _], _ => rfl
  have C_without : CallOk l.prog w K mg [] 1 "without" ["machine", "numbers"] M_without := ok_without (k := 0) F39 (PySem.W.mg_of X G a39) b39 (PySem.W.mg_none_of X G z_enumerate) (PySem.W.mg_none_of X G z_len) (PySem.W.mg_none_of X G z_tuple)
  have F40 := fun_mk (st := s_shows_needing) l40 c40 k40
  have b40 := F40.binds (ps := ["machine", "number", "thing"]) fun _ _ _ _ _ _ us hl => match us, hl with | [_, _, _], _ => rfl
  have C_shows_needing : CallOk l.prog w K mg [] 5 "shows_needing" ["machine", "number", "thing"] M_shows_needing := ok_shows_needing (k := 4) F40 (PySem.W.mg_of X G a40) b40 (C_is_written.mono (by decide)) (C_need_machine.mono (by decide)) (C_need_number.mono (by decide)) (C_rows_of.mono (by decide)) (C_without.mono (by decide)) (PySem.W.mg_of X G g_GOAL)
  have F41 := fun_mk (st := s__law_is_equal) l41 c41 k41
  have b41 := F41.binds (ps := ["_law_found", "_law_due_here"]) fun _ _ _ _ _ _ us hl => match us, hl with | [_, _], _ => rfl
  have C__law_is_equal : CallOk l.prog w K mg [] 1 "_law_is_equal" ["_law_found", "_law_due_here"] M__law_same := ok__law_is_equal (k := 0) F41 (PySem.W.mg_of X G a41) b41 (PySem.W.mg_none_of X G z_repr)
  have F42 := fun_mk (st := s_law) l42 c42 k42
  exact ⟨_, fun s v => .of_eq rfl, fun base _ _ => fn_law (k := 24) F42 (C__law_arities_of.mono (by decide)) (C__law_cell_at.mono (by decide)) (C__law_draw.mono (by decide)) (C__law_due.mono (by decide)) (C__law_is_equal.mono (by decide)) (C__law_machine_of.mono (by decide)) (C__law_many.mono (by decide)) (C__law_pen_of.mono (by decide)) (C__law_things.mono (by decide)) (C_shows_needing.mono (by decide)) (PySem.W.mg_none_of X G z_len) (PySem.W.mg_none_of X G z_max) (PySem.W.mg_none_of X G z_min) (PySem.W.mg_none_of X G z_range) (PySem.W.mg_none_of X G z_repr)⟩
end W30
open PySem PySem.W PyProof.Rows
set_option maxHeartbeats 0 in
theorem PySem.Challenge.cw_codepick_k30_needing_trees_judged_holds : PySem.Challenge.rw_codepick_k30_needing_trees_judged.Holds := by
  w_on; o_law; k_head; (case hw => w_witness2)
  k_fill
  refine Dy.walkG (l := PySem.Challenge.rw_codepick_k30_needing_trees_judged) (n := 63) (k := 25) (x := "_law_script") (sp := fun K mg => Dy.spD K mg [] Q.M_law_17) rfl (by decide) rfl ⟨rfl, by decide, by decide⟩ (fun w h Y => PySem.W.kIn_of Y) ?F (fun K mg H a ns hl hb hS => let ⟨os, e⟩ := Q.law_true_30 ns hl; Dy.law_ok e hS)
  case F =>
    intro w mg fa h KX G hmg
    refine' W30.all_mk KX G hmg ?a0 ?l0 ?c0 ?k0 ?a1 ?l1 ?c1 ?k1 ?a2 ?l2 ?c2 ?k2 ?a3 ?l3 ?c3 ?k3 ?a4 ?l4 ?c4 ?k4 ?a5 ?l5 ?c5 ?k5 ?a6 ?l6 ?c6 ?k6 ?a7 ?l7 ?c7 ?k7 ?a8 ?l8 ?c8 ?k8 ?a9 ?l9 ?c9 ?k9 ?a10 ?l10 ?c10 ?k10 ?a11 ?l11 ?c11 ?k11 ?a12 ?l12 ?c12 ?k12 ?a13 ?l13 ?c13 ?k13 ?a14 ?l14 ?c14 ?k14 ?a15 ?l15 ?c15 ?k15 ?a16 ?l16 ?c16 ?k16 ?a17 ?l17 ?c17 ?k17 ?a18 ?l18 ?c18 ?k18 ?a19 ?l19 ?c19 ?k19 ?a20 ?l20 ?c20 ?k20 ?a21 ?l21 ?c21 ?k21 ?a22 ?l22 ?c22 ?k22 ?a23 ?l23 ?c23 ?k23 ?a24 ?l24 ?c24 ?k24 ?a25 ?l25 ?c25 ?k25 ?a26 ?l26 ?c26 ?k26 ?a27 ?l27 ?c27 ?k27 ?a28 ?l28 ?c28 ?k28 ?a29 ?l29 ?c29 ?k29 ?a30 ?l30 ?c30 ?k30 ?a31 ?l31 ?c31 ?k31 ?a32 ?l32 ?c32 ?k32 ?a33 ?l33 ?c33 ?k33 ?a34 ?l34 ?c34 ?k34 ?a35 ?l35 ?c35 ?k35 ?a36 ?l36 ?c36 ?k36 ?a37 ?l37 ?c37 ?k37 ?a38 ?l38 ?c38 ?k38 ?a39 ?l39 ?c39 ?k39 ?a40 ?l40 ?c40 ?k40 ?a41 ?l41 ?c41 ?k41 ?a42 ?l42 ?c42 ?k42 ?z_all ?z_bool ?z_enumerate ?z_int ?z_isinstance ?z_len ?z_list ?z_max ?z_min ?z_range ?z_repr ?z_sum ?z_tuple ?z_zip ?g_GOAL ?g_MOST_ARITY ?g_MOST_CONVERSIONS ?g_MOST_FORMS ?g_MOST_INSTRUCTIONS ?g_MOST_OPERATORS ?g_MOST_PRICE
    (case a0 => k_is); (case l0 => k_is); (case c0 => k_is); (case k0 => k_is); (case a1 => k_is); (case l1 => k_is); (case c1 => k_is); (case k1 => k_is); (case a2 => k_is); (case l2 => k_is); (case c2 => k_is); (case k2 => k_is); (case a3 => k_is); (case l3 => k_is); (case c3 => k_is); (case k3 => k_is); (case a4 => k_is); (case l4 => k_is); (case c4 => k_is); (case k4 => k_is); (case a5 => k_is); (case l5 => k_is); (case c5 => k_is); (case k5 => k_is); (case a6 => k_is); (case l6 => k_is); (case c6 => k_is); (case k6 => k_is); (case a7 => k_is); (case l7 => k_is); (case c7 => k_is); (case k7 => k_is); (case a8 => k_is); (case l8 => k_is); (case c8 => k_is); (case k8 => k_is); (case a9 => k_is); (case l9 => k_is); (case c9 => k_is); (case k9 => k_is); (case a10 => k_is); (case l10 => k_is); (case c10 => k_is); (case k10 => k_is); (case a11 => k_is); (case l11 => k_is); (case c11 => k_is); (case k11 => k_is); (case a12 => k_is); (case l12 => k_is); (case c12 => k_is); (case k12 => k_is); (case a13 => k_is); (case l13 => k_is); (case c13 => k_is); (case k13 => k_is); (case a14 => k_is); (case l14 => k_is); (case c14 => k_is); (case k14 => k_is); (case a15 => k_is); (case l15 => k_is); (case c15 => k_is); (case k15 => k_is); (case a16 => k_is); (case l16 => k_is); (case c16 => k_is); (case k16 => k_is); (case a17 => k_is); (case l17 => k_is); (case c17 => k_is); (case k17 => k_is); (case a18 => k_is); (case l18 => k_is); (case c18 => k_is); (case k18 => k_is); (case a19 => k_is); (case l19 => k_is); (case c19 => k_is); (case k19 => k_is); (case a20 => k_is); (case l20 => k_is); (case c20 => k_is); (case k20 => k_is); (case a21 => k_is); (case l21 => k_is); (case c21 => k_is); (case k21 => k_is); (case a22 => k_is); (case l22 => k_is); (case c22 => k_is); (case k22 => k_is); (case a23 => k_is); (case l23 => k_is); (case c23 => k_is); (case k23 => k_is); (case a24 => k_is); (case l24 => k_is); (case c24 => k_is); (case k24 => k_is); (case a25 => k_is); (case l25 => k_is); (case c25 => k_is); (case k25 => k_is); (case a26 => k_is); (case l26 => k_is); (case c26 => k_is); (case k26 => k_is); (case a27 => k_is); (case l27 => k_is); (case c27 => k_is); (case k27 => k_is); (case a28 => k_is); (case l28 => k_is); (case c28 => k_is); (case k28 => k_is); (case a29 => k_is); (case l29 => k_is); (case c29 => k_is); (case k29 => k_is); (case a30 => k_is); (case l30 => k_is); (case c30 => k_is); (case k30 => k_is); (case a31 => k_is); (case l31 => k_is); (case c31 => k_is); (case k31 => k_is); (case a32 => k_is); (case l32 => k_is); (case c32 => k_is); (case k32 => k_is); (case a33 => k_is); (case l33 => k_is); (case c33 => k_is); (case k33 => k_is); (case a34 => k_is); (case l34 => k_is); (case c34 => k_is); (case k34 => k_is); (case a35 => k_is); (case l35 => k_is); (case c35 => k_is); (case k35 => k_is); (case a36 => k_is); (case l36 => k_is); (case c36 => k_is); (case k36 => k_is); (case a37 => k_is); (case l37 => k_is); (case c37 => k_is); (case k37 => k_is); (case a38 => k_is); (case l38 => k_is); (case c38 => k_is); (case k38 => k_is); (case a39 => k_is); (case l39 => k_is); (case c39 => k_is); (case k39 => k_is); (case a40 => k_is); (case l40 => k_is); (case c40 => k_is); (case k40 => k_is); (case a41 => k_is); (case l41 => k_is); (case c41 => k_is); (case k41 => k_is); (case a42 => k_is); (case l42 => k_is); (case c42 => k_is); (case k42 => k_is); (case z_all => k_is); (case z_bool => k_is); (case z_enumerate => k_is); (case z_int => k_is); (case z_isinstance => k_is); (case z_len => k_is); (case z_list => k_is); (case z_max => k_is); (case z_min => k_is); (case z_range => k_is); (case z_repr => k_is); (case z_sum => k_is); (case z_tuple => k_is); (case z_zip => k_is); (case g_GOAL => k_is); (case g_MOST_ARITY => k_is); (case g_MOST_CONVERSIONS => k_is); (case g_MOST_FORMS => k_is); (case g_MOST_INSTRUCTIONS => k_is); (case g_MOST_OPERATORS => k_is); (case g_MOST_PRICE => k_is)
