import PyProof.Rows.All
import Wide.All
import OpenK.AllK
import Wide.FinOn
import HandS.ForMost
import HandS.Star
import HandS.IsInst
import HandS.TupAny
import HandS.TupMul
import HandS.Wide
import HandS.Zip
import HandS.Style
import HandS.Flow
import HandS.Deep
import HandS.NoneIn
import HandS.More
import KE.KDictKeyed
import PyProof.ReprRoads
import HandS.Lambda
import HandS.ForExc
import HandS.EndBits
import KE.GoesEnum
import HandS.RevRange
import HandS.TupLen
import HandS.SetKeys
import HandS.FStrTup
import HandS.RaiseMore
import PyProof.ListMulRoad
import PyProof.FactsAll.tuple_2
import PyProof.Rows.IntBool
import PyProof.CallStr
import HandS.Exc
import HandS.ExcOwn
import HandS.ExcIs
import HandS.HeadHook1
import HandS.WordsExc
import HandS.HotCalls
import HandS.EndTab
import HandS.HeadWalk
import HandS.HeadHook4
import HandS.Head2
import HandS.HeadEnd
import HandS.Iter
import HandS.Conv
import KE.SortData
import KE.KSuper
import KE.KExcSuper
import HandS.ExcInit
import HandS.ClsMeth
import HandS.FStr
import KE.KxText
import HandS.ExcField
import KE.KExcIs
import KE.GoesZip
import HandS.Strs
import HandS.SetFor
import HandS.ReCall
import PyProof.P3Eq
import PyProof.StrLawsRepr
import PySem.Challenge.RW_codepick_k40_contexts_known
set_option Elab.async false
set_option linter.all false
set_option maxRecDepth 100000
set_option maxHeartbeats 4000000
namespace Dy
open PySem PySem.Spec PyProof.Rows L2
abbrev St := L2.St
structure Exn where
  cls : Str
  args : List PyData
inductive Res (α : Type) where
  | ok (a : α)
  | er (x : Exn)
  | no
def Res.bind {α β : Type} : Res α → (α → Res β) → Res β
  | .ok a, f => f a
  | .er x, _ => .er x
  | .no, _ => .no
instance : Monad Res where
  pure := .ok
  bind := Res.bind
@[simp] theorem bind_ok {α β : Type} (a : α) (f : α → Res β) : (Res.ok a >>= f) = f a := rfl
@[simp] theorem bind_er {α β : Type} (x : Exn) (f : α → Res β) : ((Res.er x : Res α) >>= f) = .er x := rfl
@[simp] theorem bind_no {α β : Type} (f : α → Res β) : ((Res.no : Res α) >>= f) = .no := rfl
@[simp] theorem pure_ok {α : Type} (a : α) : (pure a : Res α) = .ok a := rfl
inductive O where
  | fr (d : PyData)
  | ol (ds : List PyData)
  | oo (rs : List (List PyData))
  | od (es : List (PyData × PyData))
def O.data : O → PyData
  | .fr d => d
  | .ol ds => .list ds
  | .oo rs => .list (rs.map PyData.list)
  | .od es => .dict es
abbrev Env := List (Option O)
def kD : Key → PyData
  | .inl i => .int i
  | .inr x => .str x
mutual
/-- what may be a key of a dict of tuples: None, whole numbers, tuples of such -/
def keyOf : PyData → Option NestedKey
  | .none => some .none
  | .int i => some (.num i)
  | .tuple xs => (keysOf xs).map .tup
  | .bool _ | .str _ | .list _ | .dict _ => none
def keysOf : List PyData → Option (List NestedKey)
  | [] => some []
  | x :: xs => (keyOf x).bind fun k => (keysOf xs).map fun ks => k :: ks
end
/-- the pairs of a dict of tuples: the key, its value, the value there -/
abbrev TP := NestedKey × V × V
abbrev YP := NestedKey × Addr × Value
def PY : TP → YP → Prop := fun p q => p.1 = q.1 ∧ p.2.1 = V.ref q.2.1 ∧ RelV p.2.2 q.2.2
def isDN (h : Heap) (a : Addr) (ys : List YP) : Prop := ∃ o es ep, h.get? a = some o ∧ o.ExactDict ∧ o.data = .dict es ep ∧ (∀ w : World, es.toList = ys.map fun y => ⟨y.1.hash w, .ref y.2.1, y.2.2⟩) ∧ (ys.map (·.1)).Nodup
/-- a dict whose keys are tuples -/
def dN (a : Addr) (ts : List TP) : HO := .ext fun h => (a == sysModules) = false ∧ ts.length ≤ sizeLine ∧ ∃ ys : List YP, Paired PY ts ys ∧ isDN h a ys
/-- a list to be read, its object known in full -/
def LsL (K : PySem.W.Frag) (I : Hp) (a : Addr) (xs : List V) : Prop := Rd I a (.lst xs) ∨ ∃ (its : List Value) (n : Nat), K.lookup a = some { cls := .type "list", data := .seq its.toArray n } ∧ its.length ≤ sizeLine ∧ Vals xs its
theorem LsL.of {K : PySem.W.Frag} {I : Hp} {a : Addr} {xs : List V} (h : I a = some (.lst xs)) : LsL K I a xs := .inl (.inl h)
/-- a tuple's object without a dict of its own -/
def PlT (o : Obj) : Prop := o.cls = .type "tuple" ∧ o.dict = none
/-- a tuple to be read, its object known to have no dict -/
def LsT (K : PySem.W.Frag) (I : Hp) (a : Addr) (xs : List V) : Prop := (∃ o, PlT o ∧ I a = some (.frz o (.tup xs))) ∨ ∃ (o : Obj) (its : Array Value) (n : Nat), K.lookup a = some o ∧ PlT o ∧ o.data = .seq its n ∧ its.size ≤ sizeLine ∧ Vals xs its.toList
theorem LsT.of {K : PySem.W.Frag} {I : Hp} {a : Addr} {o : Obj} {xs : List V} (p : PlT o) (h : I a = some (.frz o (.tup xs))) : LsT K I a xs := .inl ⟨o, p, h⟩
theorem PlT.mk {its : Array Value} {n : Nat} : PlT { cls := .type "tuple", data := .seq its n } := ⟨rfl, rfl⟩
mutual
inductive Rp (K : PySem.W.Frag) (I : Hp) : V → PyData → Prop
  | non : Rp K I .non .none
  | bl (b : Bool) : Rp K I (.bl b) (.bool b)
  | int (i : Int) : Rp K I (.int i) (.int i)
  | str (x : Str) : Rp K I (.str x) (.str x)
  | lst {a : Addr} {xs : List V} {ds : List PyData} : LsL K I a xs → RpAll K I xs ds → Rp K I (.ref a) (.list ds)
  | tup {a : Addr} {xs : List V} {ds : List PyData} : LsT K I a xs → RpAll K I xs ds → Rp K I (.ref a) (.tuple ds)
  | dic {a : Addr} {kvs : List (Key × V)} {es : List (PyData × PyData)} : Rd I a (.dK kvs) → RpKv K I kvs es → Rp K I (.ref a) (.dict es)
  | dit {a : Addr} {ts : List TP} {es : List (PyData × PyData)} : Rd I a (dN a ts) → RpKt K I ts es → Rp K I (.ref a) (.dict es)
inductive RpAll (K : PySem.W.Frag) (I : Hp) : List V → List PyData → Prop
  | nil : RpAll K I [] []
  | cons {v : V} {vs : List V} {d : PyData} {ds : List PyData} : Rp K I v d → RpAll K I vs ds → RpAll K I (v :: vs) (d :: ds)
inductive RpKv (K : PySem.W.Frag) (I : Hp) : List (Key × V) → List (PyData × PyData) → Prop
  | nil : RpKv K I [] []
  | cons {k : Key} {v : V} {kvs : List (Key × V)} {d : PyData} {es : List (PyData × PyData)} : Rp K I v d → RpKv K I kvs es → RpKv K I ((k, v) :: kvs) ((kD k, d) :: es)
inductive RpKt (K : PySem.W.Frag) (I : Hp) : List TP → List (PyData × PyData) → Prop
  | nil : RpKt K I [] []
  | cons {k : NestedKey} {kv v : V} {ts : List TP} {kd d : PyData} {es : List (PyData × PyData)} : keyOf kd = some k → k.depth ≤ 8 → Rp K I kv kd → Rp K I v d → RpKt K I ts es → RpKt K I ((k, kv, v) :: ts) ((kd, d) :: es)
end
section
variable {K : PySem.W.Frag} {I I' H H' : Hp}
theorem same_rd {a : Addr} {u : HO} (e : Same I I') (h : Rd I a u) : Rd I' a u := by
  rcases h with h | ⟨o, h⟩
  · exact .inl (e _ _ h)
  · exact .inr ⟨o, e _ _ h⟩
theorem LsT.mono {a : Addr} {xs : List V} (e : Same I I') (h : LsT K I a xs) : LsT K I' a xs := by
  rcases h with ⟨o, p, h⟩ | h
  · exact .inl ⟨o, p, e _ _ h⟩
  · exact .inr h
theorem LsL.mono {a : Addr} {xs : List V} (e : Same I I') (h : LsL K I a xs) : LsL K I' a xs := by
  rcases h with h | h
  · exact .inl (same_rd e h)
  · exact .inr h
mutual
theorem Rp.mono (e : Same I I') : ∀ {v : V} {d : PyData}, Rp K I v d → Rp K I' v d
  | _, _, .non => .non
  | _, _, .bl b => .bl b
  | _, _, .int i => .int i
  | _, _, .str x => .str x
  | _, _, .lst s a => .lst (LsL.mono e s) (RpAll.mono e a)
  | _, _, .tup s a => .tup (s.mono e) (RpAll.mono e a)
  | _, _, .dic s a => .dic (same_rd e s) (RpKv.mono e a)
  | _, _, .dit s a => .dit (same_rd e s) (RpKt.mono e a)
theorem RpAll.mono (e : Same I I') : ∀ {vs : List V} {ds : List PyData}, RpAll K I vs ds → RpAll K I' vs ds
  | _, _, .nil => .nil
  | _, _, .cons h t => .cons (Rp.mono e h) (RpAll.mono e t)
theorem RpKv.mono (e : Same I I') : ∀ {vs : List (Key × V)} {ds : List (PyData × PyData)}, RpKv K I vs ds → RpKv K I' vs ds
  | _, _, .nil => .nil
  | _, _, .cons h t => .cons (Rp.mono e h) (RpKv.mono e t)
theorem RpKt.mono (e : Same I I') : ∀ {vs : List TP} {ds : List (PyData × PyData)}, RpKt K I vs ds → RpKt K I' vs ds
  | _, _, .nil => .nil
  | _, _, .cons h1 h2 h3 h4 t => .cons h1 h2 (Rp.mono e h3) (Rp.mono e h4) (RpKt.mono e t)
end
theorem RpAll.length : ∀ {vs : List V} {ds : List PyData}, RpAll K I vs ds → vs.length = ds.length
  | _, _, .nil => rfl
  | _, _, .cons _ t => by simp [t.length]
end
/-- no table of code objects -/
def NT (o : HO) : Prop := ∀ ps, o ≠ .tbl ps
theorem NT.lst {xs : List V} : NT (.lst xs) := fun _ h => by cases h
theorem NT.dK {xs : List (Key × V)} : NT (.dK xs) := fun _ h => by cases h
/-- the fields of a caught exception, told by two numbers -/
def fe (i : Int) : Nat := if 0 ≤ i then 2 * i.toNat else 2 * (-i).toNat + 1
def fldS (p q : Int) : Str := ⟨#[fe p, fe q]⟩
def isFld (x : Str) : Bool := x.cps.size == 2
def FldI (I : Hp) (p : Addr × Str) : Prop := ∃ fs : List (Str × V), I p.1 = some (.xd fs) ∧ ∀ a l : Int, p.2 = fldS a l → fs.lookup ("amount" : Str) = some (V.int a) ∧ fs.lookup ("limit" : Str) = some (V.int l)
def CodI (I H : Hp) (p : Addr × Str) : Prop := ∃ ps : Array Value, H p.1 = some (.tbl ps) ∧ I p.1 = none ∧ TriplesOk ps.toList ∧ ∀ (pos : Pos) (cv : Value), codeAmong pos ps.toList = some cv → ∃ c, cv = .ref c ∧ I c = some (LamX.CodeO c p.2)
/-- the tables: what they tell are frozen code objects (or an exception's fields) -/
def TabI (T : List (Addr × Str)) (I H : Hp) : Prop := ∀ p ∈ T, if isFld p.2 = true then FldI I p else CodI I H p
theorem TabI.mono {T : List (Addr × Str)} {I H I' H' : Hp} (t : TabI T I H) (e : Same I I') (k : ∀ a ps, H a = some (.tbl ps) → H' a = some (.tbl ps)) (ni : ∀ a ps, H a = some (.tbl ps) → I a = none → I' a = none) : TabI T I' H' := fun p hp => by
  have tp := t p hp
  by_cases hf : isFld p.2 = true
  · rw [if_pos hf] at tp ⊢
    obtain ⟨fs, h1, h2⟩ := tp
    exact ⟨fs, e _ _ h1, h2⟩
  · rw [if_neg hf] at tp ⊢
    obtain ⟨ps, h1, h0, h2, h3⟩ := tp
    refine ⟨ps, k _ _ h1, ni _ _ h1 h0, h2, fun pos cv hc => ?_⟩
    obtain ⟨c, e1, e2⟩ := h3 pos cv hc
    exact ⟨c, e1, e _ _ e2⟩
section
variable {K : PySem.W.Frag} {I I' H H' : Hp}
/-- the rows of an owned list of owned lists -/
inductive Rows (K : PySem.W.Frag) (I H : Hp) : List Addr → List (List PyData) → Prop
  | nil : Rows K I H [] []
  | cons {a : Addr} {as : List Addr} {us : List V} {r : List PyData} {rs : List (List PyData)} : H a = some (.lst us) → RpAll K I us r → Rows K I H as rs → Rows K I H (a :: as) (r :: rs)
def RepO (K : PySem.W.Frag) (I H : Hp) : O → V → List Addr → Prop
  | .fr d, v, F => F = [] ∧ Rp K I v d
  | .ol ds, v, F => ∃ a vs, v = .ref a ∧ F = [a] ∧ H a = some (.lst vs) ∧ RpAll K I vs ds
  | .oo rs, v, F => ∃ a as, v = .ref a ∧ F = a :: as ∧ (a :: as).Nodup ∧ H a = some (.lst (as.map V.ref)) ∧ Rows K I H as rs
  | .od es, v, F => ∃ a, v = .ref a ∧ F = [a] ∧ ((∃ kvs, H a = some (.dK kvs) ∧ RpKv K I kvs es) ∨ ∃ ts, H a = some (dN a ts) ∧ RpKt K I ts es)
theorem Rows.mono {as : List Addr} {rs : List (List PyData)} (e : Same I I') (h : Rows K I H as rs) (k : ∀ a ∈ as, H' a = H a) : Rows K I' H' as rs := by
  induction h with
  | nil => exact .nil
  | cons h1 h2 _ ih => exact .cons (by rw [k _ (by simp)]; exact h1) (h2.mono e) (ih fun a ha => k a (by simp [ha]))
theorem RepO.mono {o : O} {v : V} {F : List Addr} (h : RepO K I H o v F) (e : Same I I') (k : ∀ a ∈ F, H' a = H a) : RepO K I' H' o v F := by
  cases o with
  | fr d => exact ⟨h.1, h.2.mono e⟩
  | ol ds =>
    obtain ⟨a, vs, rfl, rfl, h1, h2⟩ := h
    exact ⟨a, vs, rfl, rfl, by rw [k a (by simp)]; exact h1, h2.mono e⟩
  | oo rs =>
    obtain ⟨a, as, rfl, rfl, nd, h1, h2⟩ := h
    exact ⟨a, as, rfl, rfl, nd, by rw [k a (by simp)]; exact h1, h2.mono e fun b hb => k b (by simp [hb])⟩
  | od es =>
    obtain ⟨a, rfl, rfl, h⟩ := h
    refine ⟨a, rfl, rfl, ?_⟩
    rw [k a (by simp)]
    rcases h with ⟨kvs, h1, h2⟩ | ⟨ts, h1, h2⟩
    · exact .inl ⟨kvs, h1, h2.mono e⟩
    · exact .inr ⟨ts, h1, h2.mono e⟩
end
structure Step (I H : Hp) (S : Addr → Prop) (I' H' : Hp) (S' : Addr → Prop) : Prop where
  i1 : Same I I'
  fr : ∀ a o, H a = some o → ¬ S a → NT o → H' a = some o
  th : ∀ a o, H a = some o → ¬ S a → ∃ o', H' a = some o'
  s' : ∀ a, S' a → S a ∨ H a = none
  i' : ∀ a o, I' a = some o → I a = some o ∨ S a ∨ H a = none
section
variable {I H I1 H1 I2 H2 : Hp} {S S1 S2 : Addr → Prop}
theorem Step.refl : Step I H S I H S := ⟨Same.refl _, fun _ _ h _ _ => h, fun _ o h _ => ⟨o, h⟩, fun _ h => .inl h, fun _ _ h => .inl h⟩
theorem Step.back (a : Step I H S I1 H1 S1) {x : Addr} (h : S1 x ∨ H1 x = none) : S x ∨ H x = none := by
  rcases h with h | h
  · exact a.s' x h
  · cases q : H x with
    | none => exact .inr rfl
    | some o =>
      by_cases hs : S x
      · exact .inl hs
      · by_cases nt : NT o
        · rw [a.fr x o q hs nt] at h; cases h
        · obtain ⟨u, hu⟩ := a.th x o q hs
          rw [hu] at h; cases h
theorem Step.trans (a : Step I H S I1 H1 S1) (b : Step I1 H1 S1 I2 H2 S2) : Step I H S I2 H2 S2 := by
  have ns : ∀ x o, H x = some o → ¬ S x → ¬ S1 x := fun x o h hs h1 => by
    rcases a.s' x h1 with z | z
    · exact hs z
    · rw [h] at z; cases z
  refine ⟨a.i1.trans b.i1, fun x o h hs nt => ?_, fun x o h hs => ?_, fun x h => a.back (b.s' x h), fun x o h => ?_⟩
  · exact b.fr x o (a.fr x o h hs nt) (ns x o h hs) nt
  · obtain ⟨o1, h1⟩ := a.th x o h hs
    exact b.th x o1 h1 (ns x o h hs)
  · rcases b.i' x o h with z | z
    · exact a.i' x o z
    · exact .inr (a.back z)
/-- less is owned behind it -/
theorem Step.less (a : Step I H S I1 H1 S1) (h : ∀ x, S2 x → S1 x) : Step I H S I1 H1 S2 := ⟨a.i1, a.fr, a.th, fun x q => a.s' x (h x q), a.i'⟩
/-- something owned stands aside -/
theorem Step.aside (a : Step I H S I1 H1 S1) (T : Addr → Prop) (ht : ∀ x, T x → ∃ o, H x = some o) (hd : ∀ x, T x → ¬ S x) : Step I H (fun x => S x ∨ T x) I1 H1 (fun x => S1 x ∨ T x) := by
  refine ⟨a.i1, fun x o h hs => a.fr x o h fun z => hs (.inl z), fun x o h hs => a.th x o h fun z => hs (.inl z), fun x h => ?_, fun x o h => ?_⟩
  · rcases h with h | h
    · rcases a.s' x h with z | z
      · exact .inl (.inl z)
      · exact .inr z
    · exact .inl (.inr h)
  · rcases a.i' x o h with z | z | z
    · exact .inl z
    · exact .inr (.inl (.inl z))
    · exact .inr (.inr z)
end
/-- the slots that hold what they held at the entry, and that -/
abbrev Pn := List Nat × (Nat → V) × List (Addr × Str)
def Ow (F : Nat → List Addr) : Addr → Prop := fun a => ∃ i, a ∈ F i
structure Sim (K : PySem.W.Frag) (π : Pn) (I H : Hp) (σ : St) (env : Env) (F : Nat → List Addr) : Prop where
  len : env.length = σ.length
  rep : ∀ (i : Nat) (o : O), env[i]? = some (some o) → ∃ v, σ[i]? = some (some v) ∧ RepO K I H o v (F i)
  out : ∀ i : Nat, (∀ o, env[i]? ≠ some (some o)) → F i = []
  dis : ∀ (i j : Nat) (a : Addr), a ∈ F i → a ∈ F j → i = j
  djI : ∀ (i : Nat) (a : Addr), a ∈ F i → I a = none
  sub : Same I H
  pin : ∀ i ∈ π.1, σ[i]? = some (some (π.2.1 i))
  tab : TabI π.2.2 I H
section
variable {K : PySem.W.Frag} {π : Pn} {I H I' H' : Hp} {σ : St} {env : Env} {F : Nat → List Addr}
end
/-- its value is o at v; R: what o owns -/
def Aft (K : PySem.W.Frag) (π : Pn) (I H : Hp) (F : Nat → List Addr) (σ : St) (env' : Env) (o : O) (v : V) (H' : Hp) : Prop :=
  ∃ I' F' R, RepO K I' H' o v R ∧ Sim K π I' H' σ env' F' ∧ (∀ a ∈ R, I' a = none) ∧ (∀ a, Ow F' a → a ∉ R) ∧ Step I H (Ow F) I' H' (fun a => Ow F' a ∨ a ∈ R)
/-- its value is the data d at v -/
def AftD (K : PySem.W.Frag) (π : Pn) (I H : Hp) (F : Nat → List Addr) (σ : St) (env' : Env) (d : PyData) (v : V) (H' : Hp) : Prop :=
  ∃ I' F', Rp K I' v d ∧ Sim K π I' H' σ env' F' ∧ Step I H (Ow F) I' H' (Ow F')
/-- behind a statement -/
def AftS (K : PySem.W.Frag) (π : Pn) (I H : Hp) (F : Nat → List Addr) (σ' : St) (env' : Env) (H' : Hp) : Prop :=
  ∃ I' F', Sim K π I' H' σ' env' F' ∧ Step I H (Ow F) I' H' (Ow F')
/-- an exception has come -/
def Err (T : List (Addr × Str)) (I H : Hp) (S : Addr → Prop) (H' : Hp) (d : Option Addr) : Prop := ∃ I', Same I' H' ∧ TabI T I' H' ∧ (∀ (dx : Addr) (fs : List (Str × V)), d = some dx → H' dx = some (.xd fs) → I' dx = some (.xd fs)) ∧ Step I H S I' H' (fun _ => False)
section
variable {K : PySem.W.Frag} {π : Pn} {I H I1 H1 H2 : Hp} {σ σ' : St} {env : Env} {F F1 : Nat → List Addr} {o : O} {d : PyData} {v : V}
theorem AftS.trans (st : Step I H (Ow F) I1 H1 (Ow F1)) (h : AftS K π I1 H1 F1 σ env H2) : AftS K π I H F σ env H2 := let ⟨I', F', s, t⟩ := h; ⟨I', F', s, st.trans t⟩
theorem AftD.trans (st : Step I H (Ow F) I1 H1 (Ow F1)) (h : AftD K π I1 H1 F1 σ env d v H2) : AftD K π I H F σ env d v H2 := let ⟨I', F', r, s, t⟩ := h; ⟨I', F', r, s, st.trans t⟩
theorem Aft.trans (st : Step I H (Ow F) I1 H1 (Ow F1)) (h : Aft K π I1 H1 F1 σ env o v H2) : Aft K π I H F σ env o v H2 := let ⟨I', F', R, r, s, a, b, t⟩ := h; ⟨I', F', R, r, s, a, b, st.trans t⟩
theorem Err.trans {T : List (Addr × Str)} {S S1 : Addr → Prop} {d : Option Addr} (st : Step I H S I1 H1 S1) (h : Err T I1 H1 S1 H2 d) : Err T I H S H2 d := by
  obtain ⟨I', s, t, f, k⟩ := h
  exact ⟨I', s, t, f, st.trans k⟩
theorem Err.of {T : List (Addr × Str)} {S S1 : Addr → Prop} (st : Step I H S I1 H1 S1) (s : Same I1 H1) (t : TabI T I1 H1) : Err T I H S H1 none := ⟨I1, s, t, fun _ _ e => (by cases e), st.less fun _ z => z.elim⟩
end
end Dy
namespace Dy
open PySem PySem.Spec PyProof.Rows L2
/-- what is carried: the written part, the module's names, the pinned slots, the wish about exceptions -/
structure G where
  K : PySem.W.Frag
  mg : Str → Option Value
  pn : Pn
  E : XK
abbrev EF := Env → Res (O × Env)
abbrev TF := Env → Res (Bool × Env)
inductive Fl where
  | nx | bk | ct
  | rt (o : O)
abbrev SF := Env → Res (Fl × Env)
inductive AF where
  | v (f : EF)
  | s (i : Nat)
section
variable {g : G} {σ : St} {H : Hp}
end
section
variable {g : G} {X : Cx} {e : Expr} {es : List Expr}
end
/-- an argument that is read: data, or an owned list of data -/
def DiO (K : PySem.W.Frag) (I H : Hp) (a : Addr) (es : List (PyData × PyData)) : Prop := (∃ kvs, H a = some (.dK kvs) ∧ RpKv K I kvs es) ∨ ∃ ts, H a = some (dN a ts) ∧ RpKt K I ts es
def RpS (K : PySem.W.Frag) (I H : Hp) (v : V) (d : PyData) : Prop := Rp K I v d ∨ (∃ a vs ds, v = .ref a ∧ d = .list ds ∧ H a = some (.lst vs) ∧ RpAll K I vs ds) ∨ ∃ a es, v = .ref a ∧ d = .dict es ∧ DiO K I H a es
/-- what a new value adds -/
structure Grow (K : PySem.W.Frag) (I H I' H' : Hp) (o : O) (v : V) (R : List Addr) : Prop where
  rep : RepO K I' H' o v R
  i1 : Same I I'
  h1 : Same H H'
  sub : Same I' H'
  fresh : ∀ a ∈ R, H a = none
  nI : ∀ a ∈ R, I' a = none
  i' : ∀ a o, I' a = some o → I a = some o ∨ H a = none
theorem same_new {H : Hp} {p : Addr} {o : HO} (h : H p = none) : Same H (upd H p o) := fun b x e => by
  rw [upd_ne (ne_of_none e h)]; exact e
theorem none_of_same {I H : Hp} (s : Same I H) {a : Addr} (h : H a = none) : I a = none := by
  cases q : I a with
  | none => rfl
  | some o => rw [s a o q] at h; cases h
/-- a new list of its own -/
theorem Grow.lst {K : PySem.W.Frag} {I H : Hp} {ds : List PyData} {vs : List V} {p : Addr} (s : Same I H) (n : H p = none) (r : RpAll K I vs ds) : Grow K I H I (upd H p (.lst vs)) (.ol ds) (.ref p) [p] :=
  ⟨⟨p, vs, rfl, rfl, upd_same, r⟩, Same.refl _, same_new n, s.trans (same_new n), fun a h => by simp at h; subst h; exact n, fun a h => by simp at h; subst h; exact none_of_same s n, fun _ _ h => .inl h⟩
end Dy
namespace Dy
open PySem PySem.Spec PyProof.Rows L2
section
variable {g : G} {X : Cx} {a b c e : Expr} {es : List Expr} {pos : Pos}
def one (r : V → Hp → VK → Prop) : List V → Hp → VK → Prop
  | [x], H, Q => r x H Q
  | _, _, _ => False
end
end Dy
namespace Dy
open PySem PySem.Spec PyProof.Rows L2
section
variable {g : G} {X : Cx} {a b c e : Expr} {es : List Expr} {pos : Pos} {σ : St} {H I : Hp} {env : Env} {F : Nat → List Addr}
theorem rpss_int {K : PySem.W.Frag} {I H : Hp} {v : V} {i : Int} (h : RpS K I H v (.int i)) : v = .int i := by
  rcases h with h | ⟨_, _, _, _, e, _⟩ | ⟨_, _, _, e, _⟩
  · cases h; rfl
  · cases e
  · cases e
variable {st : Stmt} {rest : List Stmt} {D : Ends}
end
end Dy
namespace Dy
open PySem PySem.Spec PyProof.Rows L2
section
variable {K : PySem.W.Frag} {π : Pn} {I H I' H' : Hp} {σ : St} {env e : Env} {F F' : Nat → List Addr}
end
theorem Step.one {I H I1 H1 : Hp} {S S1 : Addr → Prop} (a : Step I H S I1 H1 S1) {D : Addr} {o : HO} (h : H D = some o) (n : ¬ S D) (i : I D = none) (nt : NT o := by exact NT.lst) : H1 D = some o ∧ ¬ S1 D ∧ I1 D = none := by
  refine ⟨a.fr D o h n nt, fun z => ?_, ?_⟩
  · rcases a.s' D z with y | y
    · exact n y
    · rw [h] at y; cases y
  · cases q : I1 D with
    | none => rfl
    | some u =>
      rcases a.i' D u q with y | y | y
      · rw [i] at y; cases y
      · exact (n y).elim
      · rw [h] at y; cases y
section
variable {g : G} {X : Cx} {a b c e : Expr} {es : List Expr} {pos : Pos} {σ : St} {H I : Hp} {env : Env} {F : Nat → List Addr}
end
end Dy
namespace Dy
open PySem PySem.Spec PyProof.Rows L2
structure FnG (P : Program) (w : World) (K : PySem.W.Frag) (mg : Str → Option Value) (base : Heap) (k : Nat) (f : Addr) (fd : FuncData) (ps : List Str) (sp : Sp) : Prop where
  len : ∀ vs H Q E, sp vs H Q E → vs.length = ps.length
  run : ∀ (A : Around) (outer : List PySem.Env) (s : Shared) (H : Hp) (args : Args) (us : List Value) (vs : List V) (Q : VK) (E : XK), A.guards = some [] → Room k A → L2.Env0 P w K mg base A outer s H → BindsTo s fd args (ps.zip us) → Vals vs us →
    sp vs H Q E → codeAny (model P w) A (.call (.ref f) args) (CR (L2.CX P w) outer P w H s Q E) s
end Dy
namespace Dy
open PySem PySem.Spec PyProof.Rows L2
theorem FnG.mono {P : Program} {w : World} {K : PySem.W.Frag} {mg : Str → Option Value} {base : Heap} {j k : Nat} {f : Addr} {fd : FuncData} {ps : List Str} {sp : Sp} (F : FnG P w K mg base j f fd ps sp) (h : j ≤ k) : FnG P w K mg base k f fd ps sp :=
  ⟨F.len, fun A outer s H args us vs Q E hg hr => F.run A outer s H args us vs Q E hg (hr.mono h)⟩
section
variable {X : Cx} {k : Nat} {f : Addr} {fd : FuncData} {ps : List Str} {sp : Sp} {E : XK} {x : Str} {p pos : Pos} {e : Expr} {es : List Expr} {t : TA}
end
abbrev Fn := List O → Res (O × List O)
section
variable {g : G} {σ : St} {I H : Hp} {env : Env} {F : Nat → List Addr}
end
section
variable {g : G} {X : Cx} {k : Nat} {f : Addr} {fd : FuncData} {ps : List Str} {m : Fn} {x : Str} {p pos : Pos} {e : Expr} {es : List Expr} {as : List AF}
end
end Dy
namespace Dy
open PySem PySem.Spec PyProof.Rows L2
end Dy
namespace Dy
open PySem PySem.Spec PyProof.Rows L2
open AutoSeq1 (wpAny_loadPart')
section
variable {X : Cx} {pins : List (Addr × Obj)} {σ : St} {H : Hp} {s : Shared} {a : Addr} {xs ys : List V} {t : Bool}
end
end Dy
namespace Dy
open PySem PySem.Spec PyProof.Rows L2
def dAt (es : List (PyData × PyData)) (k : PyData) : Option PyData := (es.find? fun e => PyData.eqv e.1 k).map (·.2)
mutual
theorem key_eqv : ∀ {a b : PyData} {n m : NestedKey}, keyOf a = some n → keyOf b = some m → PyData.eqv a b = NestedKey.beq n m
  | .none, b, n, m, ha, hb => by
    simp only [keyOf, Option.some.injEq] at ha; subst ha
    cases b <;> simp only [keyOf, Option.some.injEq, Option.map_eq_some_iff, reduceCtorEq] at hb
    · subst hb; rfl
    · subst hb; rfl
    · obtain ⟨ks, _, rfl⟩ := hb; rfl
  | .int i, b, n, m, ha, hb => by
    simp only [keyOf, Option.some.injEq] at ha; subst ha
    cases b <;> simp only [keyOf, Option.some.injEq, Option.map_eq_some_iff, reduceCtorEq] at hb
    · subst hb; rfl
    · subst hb
      simp only [PyData.eqv, NestedKey.beq]
      by_cases h : i = ‹Int› <;> simp [h]
    · obtain ⟨ks, _, rfl⟩ := hb; rfl
  | .tuple xs, b, n, m, ha, hb => by
    simp only [keyOf, Option.map_eq_some_iff] at ha
    obtain ⟨ks, h1, rfl⟩ := ha
    cases b with
    | none => simp only [keyOf, Option.some.injEq] at hb; subst hb; rfl
    | int i => simp only [keyOf, Option.some.injEq] at hb; subst hb; rfl
    | tuple ys =>
      simp only [keyOf, Option.map_eq_some_iff] at hb
      obtain ⟨ls, h2, rfl⟩ := hb
      simp only [PyData.eqv, NestedKey.beq]
      exact keys_eqv h1 h2
    | bool _ => simp [keyOf] at hb
    | str _ => simp [keyOf] at hb
    | list _ => simp [keyOf] at hb
    | dict _ => simp [keyOf] at hb
  | .bool _, _, _, _, ha, _ => by simp [keyOf] at ha
  | .str _, _, _, _, ha, _ => by simp [keyOf] at ha
  | .list _, _, _, _, ha, _ => by simp [keyOf] at ha
  | .dict _, _, _, _, ha, _ => by simp [keyOf] at ha
theorem keys_eqv : ∀ {a b : List PyData} {n m : List NestedKey}, keysOf a = some n → keysOf b = some m → PyData.eqvAll a b = NestedKey.beqAll n m
  | [], b, n, m, ha, hb => by
    simp only [keysOf, Option.some.injEq] at ha; subst ha
    cases b with
    | nil => simp only [keysOf, Option.some.injEq] at hb; subst hb; rfl
    | cons y ys =>
      simp only [keysOf, Option.bind_eq_some_iff, Option.map_eq_some_iff] at hb
      obtain ⟨k, _, ks, _, rfl⟩ := hb; rfl
  | x :: xs, b, n, m, ha, hb => by
    simp only [keysOf, Option.bind_eq_some_iff, Option.map_eq_some_iff] at ha
    obtain ⟨k, h1, ks, h2, rfl⟩ := ha
    cases b with
    | nil => simp only [keysOf, Option.some.injEq] at hb; subst hb; rfl
    | cons y ys =>
      simp only [keysOf, Option.bind_eq_some_iff, Option.map_eq_some_iff] at hb
      obtain ⟨l, h3, ls, h4, rfl⟩ := hb
      simp only [PyData.eqvAll, NestedKey.beqAll]
      rw [key_eqv h1 h3, keys_eqv h2 h4]
end
theorem key_dec {a b : PyData} {n m : NestedKey} (ha : keyOf a = some n) (hb : keyOf b = some m) : PyData.eqv a b = decide (n = m) := by rw [NestedKey.decide_eq]; exact key_eqv ha hb
theorem kD_dec (a b : Key) : PyData.eqv (kD a) (kD b) = decide (a = b) := by
  cases a <;> cases b <;> simp [kD, PyData.eqv]
  · rename_i x y; by_cases h : x = y <;> simp [h]
  · rename_i x y; by_cases h : x = y <;> simp [h]
inductive VN (K : PySem.W.Frag) (I : Hp) : List (PyData × PyData) → List YP → Prop
  | nil : VN K I [] []
  | cons {kd d : PyData} {k : NestedKey} {b : Addr} {v : V} {u : Value} {es : List (PyData × PyData)} {ys : List YP} : keyOf kd = some k → k.depth ≤ 8 → Rp K I (.ref b) kd → Rp K I v d → RelV v u → VN K I es ys → VN K I ((kd, d) :: es) ((k, b, u) :: ys)
inductive VKs (K : PySem.W.Frag) (I : Hp) : List (PyData × PyData) → List (Key × Value) → Prop
  | nil : VKs K I [] []
  | cons {k : Key} {d : PyData} {v : V} {u : Value} {es : List (PyData × PyData)} {vs : List (Key × Value)} : Rp K I v d → RelV v u → VKs K I es vs → VKs K I ((kD k, d) :: es) ((k, u) :: vs)
section
variable {K : PySem.W.Frag} {I : Hp}
theorem VN.of : ∀ {ts : List TP} {es : List (PyData × PyData)} {ys : List YP}, RpKt K I ts es → Paired PY ts ys → VN K I es ys
  | _, _, _, .nil, .nil => .nil
  | _, _, _, .cons (kd := kd) h1 h2 h3 h4 t, .cons (b := y) p q => by
    obtain ⟨k, b, u⟩ := y
    obtain ⟨e1, e2, e3⟩ := p
    dsimp only at e1 e2 e3
    subst e1 e2
    exact .cons h1 h2 h3 h4 e3 (VN.of t q)
theorem VN.length : ∀ {es : List (PyData × PyData)} {ys : List YP}, VN K I es ys → es.length = ys.length
  | _, _, .nil => rfl
  | _, _, .cons _ _ _ _ _ t => by simp [t.length]
theorem VKs.of : ∀ {kvs : List (Key × V)} {es : List (PyData × PyData)} {vs : List (Key × Value)}, RpKv K I kvs es → KV kvs vs → VKs K I es vs
  | _, _, _, .nil, .nil => .nil
  | _, _, _, .cons h t, .cons (b := y) p q => by
    obtain ⟨k, u⟩ := y
    obtain ⟨e1, e2⟩ := p
    dsimp only at e1 e2
    subst e1
    exact .cons h e2 (VKs.of t q)
theorem VKs.length : ∀ {es : List (PyData × PyData)} {ys : List (Key × Value)}, VKs K I es ys → es.length = ys.length
  | _, _, .nil => rfl
  | _, _, .cons _ _ t => by simp [t.length]
theorem VN.at {kd : PyData} {n : NestedKey} (hk : keyOf kd = some n) : ∀ {es : List (PyData × PyData)} {ys : List YP}, VN K I es ys → (atKey ys n = none ∧ dAt es kd = none) ∨ ∃ b u v d, atKey ys n = some (b, u) ∧ dAt es kd = some d ∧ Rp K I v d ∧ RelV v u
  | _, _, .nil => .inl ⟨rfl, rfl⟩
  | _, _, .cons (kd := kd') (k := k') (b := b') h1 h2 h3 h4 h5 t => by
    have e := key_dec h1 hk
    by_cases c : k' = n
    · subst c
      right
      refine ⟨b', _, _, _, ?_, ?_, h4, h5⟩
      · unfold atKey; rw [List.find?_cons_of_pos (by simp)]; rfl
      · unfold dAt; rw [List.find?_cons_of_pos (by simp [e])]; rfl
    · rcases VN.at hk t with ⟨a1, a2⟩ | ⟨b, u, v, d, a1, a2, a3⟩
      · left
        refine ⟨?_, ?_⟩
        · simpa [atKey, List.find?_cons, c] using a1
        · simpa [dAt, List.find?_cons, e, c] using a2
      · right
        refine ⟨b, u, v, d, ?_, ?_, a3⟩
        · simpa [atKey, List.find?_cons, c] using a1
        · simpa [dAt, List.find?_cons, e, c] using a2
theorem VKs.at (k : Key) : ∀ {es : List (PyData × PyData)} {ys : List (Key × Value)}, VKs K I es ys → (valueAt ys k = none ∧ dAt es (kD k) = none) ∨ ∃ u v d, valueAt ys k = some u ∧ dAt es (kD k) = some d ∧ Rp K I v d ∧ RelV v u
  | _, _, .nil => .inl ⟨rfl, rfl⟩
  | _, _, .cons (k := k') h4 h5 t => by
    have e := kD_dec k' k
    by_cases c : k' = k
    · subst c
      right
      refine ⟨_, _, _, ?_, ?_, h4, h5⟩
      · unfold valueAt; rw [List.find?_cons_of_pos (by simp)]; rfl
      · unfold dAt; rw [List.find?_cons_of_pos (by simp [e])]; rfl
    · rcases VKs.at k t with ⟨a1, a2⟩ | ⟨u, v, d, a1, a2, a3⟩
      · left
        refine ⟨?_, ?_⟩
        · simpa [valueAt, List.find?_cons, c] using a1
        · simpa [dAt, List.find?_cons, e, c] using a2
      · right
        refine ⟨u, v, d, ?_, ?_, a3⟩
        · simpa [valueAt, List.find?_cons, c] using a1
        · simpa [dAt, List.find?_cons, e, c] using a2
end
section
variable {X : Cx} {pins : List (Addr × Obj)} {σ : St} {I H : Hp} {s : Shared} {a : Addr} {es : List (PyData × PyData)} {k : PyData}
end
section
variable {P : Program} {w : World} {K : PySem.W.Frag} {I H : Hp} {h : Heap} {a : Addr} {es : List (PyData × PyData)}
end
section
variable {X : Cx} {pins : List (Addr × Obj)} {σ : St} {I H : Hp} {s : Shared} {a : Addr} {es : List (PyData × PyData)} {k d : PyData} {y : V} {u : Value} {A : Around} {E : Value → Shared → Prop}
end
end Dy
namespace Dy
open PySem PySem.Spec PyProof.Rows L2
section
variable {K : PySem.W.Frag} {I H : Hp} {v u : V} {d e : PyData}
theorem RpS.int {i : Int} (h : RpS K I H v (.int i)) : v = .int i := rpss_int h
theorem RpS.str {x : Str} (h : RpS K I H v (.str x)) : v = .str x := by
  rcases h with h | ⟨_, _, _, _, e, _⟩ | ⟨_, _, _, e, _⟩
  · cases h; rfl
  · cases e
  · cases e
theorem RpS.lst {ds : List PyData} (s : Same I H) (h : RpS K I H v (.list ds)) : ∃ a vs, v = .ref a ∧ LsL K H a vs ∧ RpAll K I vs ds := by
  rcases h with h | ⟨a, vs, ds, rfl, e, h1, h2⟩ | ⟨_, _, _, e, _⟩
  · cases h with
    | lst h1 h2 => exact ⟨_, _, rfl, h1.mono s, h2⟩
  · cases e; exact ⟨a, vs, rfl, .of h1, h2⟩
  · cases e
end
section
variable {X : Cx} {K : PySem.W.Frag}
end
section
variable {g : G} {X : Cx} {a b c e : Expr} {pos p2 : Pos} {σ : St} {H : Hp}
end
end Dy
namespace Dy
open PySem PySem.Spec PyProof.Rows L2
section
variable {X : Cx} {K : PySem.W.Frag}
/-- isinstance -/
inductive Ty where
  | int | bool | str | list | tuple | dict
def Ty.name : Ty → String
  | .int => "int"
  | .bool => "bool"
  | .str => "str"
  | .list => "list"
  | .tuple => "tuple"
  | .dict => "dict"
end
section
variable {g : G} {X : Cx} {a b c e : Expr} {pos p p2 : Pos} {σ : St} {H : Hp}
end
end Dy
namespace Dy
open PySem PySem.Spec PyProof.Rows L2
section
variable {g : G} {X : Cx} {a b c e : Expr} {es : List Expr} {pos p tpos : Pos} {σ : St} {H : Hp} {elts : List Expr} {kk : Nat} {tg : Expr}
end
end Dy
namespace Dy
open PySem PySem.Spec PyProof.Rows L2
mutual
def rw8 : PyData → Nat
  | .none => 4
  | .bool _ => 5
  | .int i => i.natAbs.log2 + 2
  | .str x => (reprText x).length
  | .list xs => rw8s xs + 2
  | .tuple xs => rw8s xs + 2
  | .dict _ => 0
def rw8s : List PyData → Nat
  | [] => 0
  | x :: xs => rw8 x + 2 + rw8s xs
end
def rOk (d : PyData) : Bool := d.canLay0 && (d.showable && decide (d.depth ≤ 64 ∧ rw8 d ≤ 16777216))
def pRepr (d : PyData) : Option O := if rOk d = true then some (.fr (.str d.shown)) else none
section
variable {X : Cx}
end
section
variable {g : G} {X : Cx} {a b c e : Expr} {es : List Expr} {pos p1 p2 p3 : Pos} {σ : St} {H I : Hp} {env : Env} {F : Nat → List Addr} {D : Ends}
end
end Dy
namespace Dy
open PySem PySem.Spec PyProof.Rows L2
section
variable {T : List (Addr × Str)} {g : G} {X : Cx} {k : Nat} {ps : List Str} {m : Fn} {x : Str} {p pos : Pos} {e : Expr} {es : List Expr} {as : List AF}
end
section
variable {X : Cx} {x : Str} {pos : Pos}
end
end Dy
namespace Dy
open PySem
section
variable (env : Env) (i j n m : Nat) (f k : EF) (t u : TF) (s s' : SF) (as : List AF) (x y z : AF) (d : PyData)
end
section
variable (i j : Int) (xs ys : List PyData) (d e : PyData) (a b : Str) (t : Bool) (rs : List (List PyData))
end
end Dy
namespace Dy
open PySem PySem.Spec PyProof.Rows L2
theorem Rows.len {K : PySem.W.Frag} {I H : Hp} {as : List Addr} {rs : List (List PyData)} (h : Rows K I H as rs) : as.length = rs.length := by
  induction h with
  | nil => rfl
  | cons _ _ _ ih => simp [ih]
theorem Rows.at {K : PySem.W.Frag} {I H : Hp} {as : List Addr} {rs : List (List PyData)} (h : Rows K I H as rs) : ∀ {k : Nat} {r : List PyData}, rs[k]? = some r → ∃ a us, as[k]? = some a ∧ H a = some (.lst us) ∧ RpAll K I us r := by
  induction h with
  | nil => intro k r e; simp at e
  | cons h1 h2 _ ih =>
    intro k r e
    cases k with
    | zero => simp at e; subst e; exact ⟨_, _, rfl, h1, h2⟩
    | succ k =>
      obtain ⟨a, us, e1, e2, e3⟩ := ih (k := k) (r := r) (by simpa using e)
      exact ⟨a, us, by simpa using e1, e2, e3⟩
/-- some addresses stand aside -/
theorem Step.set {I H I1 H1 : Hp} {S S1 : Addr → Prop} (a : Step I H S I1 H1 S1) {T : List Addr} (h : ∀ x ∈ T, ∃ o, H x = some o ∧ NT o) (n : ∀ x ∈ T, ¬ S x) (i : ∀ x ∈ T, I x = none) : (∀ x ∈ T, H1 x = H x) ∧ (∀ x ∈ T, ¬ S1 x) ∧ ∀ x ∈ T, I1 x = none := by
  refine ⟨fun x hx => ?_, fun x hx => ?_, fun x hx => ?_⟩ <;> obtain ⟨o, ho, nt⟩ := h x hx <;> have := a.one ho (n x hx) (i x hx) nt
  · rw [this.1, ho]
  · exact this.2.1
  · exact this.2.2
section
variable {g : G} {X : Cx} {a b c e : Expr} {es : List Expr} {pos : Pos} {σ : St} {H I : Hp} {env : Env} {F : Nat → List Addr}
end
end Dy
namespace Dy
open PySem PySem.Spec PyProof.Rows L2
section
variable {g : G} {X : Cx} {a b c e : Expr} {es : List Expr} {pos p1 p2 px : Pos} {σ : St} {H I : Hp} {env : Env} {F : Nat → List Addr} {D : Ends}
end
end Dy
namespace Dy
open PySem PySem.Spec PyProof.Rows L2
section
variable {g : G} {X : Cx} {a b c e : Expr} {es : List Expr} {pos p1 p2 px : Pos} {σ : St} {H I : Hp} {env : Env} {F : Nat → List Addr} {D : Ends} {st : Stmt} {sts : List Stmt}
end
end Dy
namespace Dy
open PySem PySem.Spec PyProof.Rows L2
section
variable {g : G} {X : Cx} {a b c e : Expr} {es : List Expr} {pos p1 p2 px : Pos} {σ : St} {H I : Hp} {env : Env} {F : Nat → List Addr} {D : Ends}
end
end Dy
namespace Dy
open PySem PySem.Spec PyProof.Rows L2
section
variable {K : PySem.W.Frag} {I H : Hp} {X : Cx}
end
end Dy
namespace Dy
open PySem PySem.Spec PyProof.Rows L2
end Dy
namespace Dy
open PySem PySem.Spec PyProof.Rows L2
/-- what stands for a dict -/
def DiOb (K : PySem.W.Frag) (I : Hp) (ob : HO) (a : Addr) (es : List (PyData × PyData)) : Prop := (∃ kvs, ob = .dK kvs ∧ RpKv K I kvs es) ∨ ∃ ts, ob = dN a ts ∧ RpKt K I ts es
theorem DiOb.at {K : PySem.W.Frag} {I H : Hp} {ob : HO} {a : Addr} {es : List (PyData × PyData)} (h : DiOb K I ob a es) (e : H a = some ob) : DiO K I H a es := by
  rcases h with ⟨kvs, rfl, h⟩ | ⟨ts, rfl, h⟩
  · exact .inl ⟨kvs, e, h⟩
  · exact .inr ⟨ts, e, h⟩
section
variable {X : Cx} {pins : List (Addr × Obj)} {σ : St} {I H : Hp} {s : Shared} {a : Addr} {es : List (PyData × PyData)} {k d : PyData} {y v : V} {u r : Value} {A : Around} {E : Value → Shared → Prop}
end
section
variable {X : Cx}
variable {o e : Expr} {es : List Expr} {to : TE} {t : TA} {name : Str} {apos cpos : Pos} {id : String} {r : V → List V → Hp → VK → Prop}
end
section
variable {g : G} {X : Cx} {a b c e : Expr} {es : List Expr} {pos p1 p2 px : Pos} {σ : St} {H I : Hp} {env : Env} {F : Nat → List Addr} {D : Ends} {st : Stmt} {sts : List Stmt}
end
end Dy
namespace Dy
open PySem PySem.Spec PyProof.Rows L2 HT
section
variable {prog : Program} {w : World} {A : Around} {E : Value → Shared → Prop} {s : Shared}
end
section
variable {X : Cx}
end
section
variable {g : G} {X : Cx} {a b c e : Expr} {es : List Expr} {pos p1 p2 p3 : Pos} {σ : St} {H I : Hp} {env : Env} {F : Nat → List Addr} {D : Ends}
end
end Dy
namespace Dy
open PySem PySem.Spec PyProof.Rows L2
section
variable {g : G} {X : Cx} {e : Expr} {pos : Pos} {σ : St}
end
end Dy
namespace Dy
open PySem PySem.Spec PyProof.Rows L2
section
variable {X : Cx} {pins : List (Addr × Obj)} {σ : St} {I H : Hp} {s : Shared}
end
section
variable {X : Cx}
end
section
variable {g : G} {X : Cx} {a b c e : Expr} {es : List Expr} {pos p1 p2 px : Pos} {σ : St} {H I : Hp} {env : Env} {F : Nat → List Addr} {D : Ends} {st : Stmt} {sts : List Stmt}
end
section
variable {X : Cx} {K : PySem.W.Frag}
end
end Dy
namespace Dy
open PySem PySem.Spec PyProof.Rows L2
section
variable {g : G} {X : Cx} {a b c e : Expr} {es : List Expr} {pos p1 p2 p3 px : Pos} {σ : St} {H I : Hp} {env : Env} {F : Nat → List Addr} {D : Ends} {st : Stmt} {sts : List Stmt}
end
end Dy
namespace Dy
open PySem PySem.Spec PyProof.Rows L2
open LamX (CodeO TabB LamS lamEnv lamCx)
section
variable {X : Cx} {pins : List (Addr × Obj)} {σ : L2.St} {H : Hp} {s : Shared}
end
end Dy
namespace Dy
open PySem PySem.Spec PyProof.Rows L2
open LamX (CodeO TabB LamS lamEnv lamCx)
section
variable {X : Cx} {pins : List (Addr × Obj)} {σ : L2.St} {H : Hp} {s : Shared}
end
end Dy
namespace Dy
open PySem PySem.Spec PyProof.Rows L2
open LamX (CodeO TabB LamS lamEnv lamCx)
section
variable {g : G} {X : Cx}
end
end Dy
namespace Dy
open PySem PySem.Spec PyProof.Rows L2
section
variable {X : Cx}
end
section
variable {g : G} {X : Cx} {a b c e : Expr} {es : List Expr} {pos p1 p2 p3 px : Pos} {σ : St} {H I : Hp} {env : Env} {F : Nat → List Addr} {D : Ends} {st : Stmt} {sts : List Stmt}
end
end Dy
namespace Dy
open PySem PySem.Spec PyProof.Rows L2
open LamX (TabB)
end Dy
namespace Dy
open PySem PySem.Spec PyProof.Rows L2
open LamX (TabB)
section
variable {T : List (Addr × Str)} {g : G} {X : Cx} {k : Nat} {ps : List Str} {m : Fn} {x : Str} {p pos : Pos} {e : Expr} {es : List Expr} {as : List AF}
end
def excB (K : PySem.W.Frag) (C : Addr) : Bool :=
  He.eqO (PySem.W.findIn K (.ref C) "__getattribute__") (some (some (.builtin "BaseException.__getattribute__"))) &&
  (He.eqO (PySem.W.findIn K (.ref C) "__getattr__") (some none) &&
  (decide (PySem.W.subIn K (.ref C) (.type "BaseException") = some true) &&
  (PySem.W.hasDictIn K C &&
  (He.eqO (PySem.W.findIn K (.ref C) "__class__") (some (some (.builtin "object.__class__"))) &&
  (He.eqO (PySem.W.specialIn K (.builtin "object.__class__") "__get__") (some (some (.builtin "getset_descriptor.__get__"))) &&
  (decide (PySem.W.takesIn K (.builtin "object.__class__") = some true) &&
  decide (PySem.W.mroIn K C (.type "object") = some true)))))))
def oneB (K : PySem.W.Frag) (A : List Str) (pe x : Str) : Bool :=
  (He.Fa.glo x).ok K && ((He.Fa.exc x).ok K && (excB K (He.ga K x) && ((He.Fa.exm x pe true).ok K && (decide (PySem.W.kitOne K (.ref (He.ga K x)) (.type "ValueError") = some true) &&
    A.all fun y => (He.Fa.glo y).ok K && decide (PySem.W.kitOne K (.ref (He.ga K x)) (.ref (He.ga K y)) = some (decide (x = y)))))))
def setB (L A : List Str) (pe : Str) (K : PySem.W.Frag) : Bool := (He.Fa.glo pe).ok K && L.all fun x => oneB K A pe x
section
variable {g : G} {X : Cx} {a b c e : Expr} {es : List Expr} {pos p1 p2 p3 px : Pos} {L A : List Str} {pe : Str} {PEa : Addr}
end
def ndB (TF : List He.Defn) (K : PySem.W.Frag) : Bool := TF.all fun p => TF.all fun q => decide ((He.cT K p).2 = (He.cT K q).2 → p = q)
end Dy
namespace Dy
open PySem PySem.Spec PyProof.Rows L2
section
variable {X : Cx} {K : PySem.W.Frag}
end
end Dy
namespace Dy
open PySem PySem.Spec PyProof.Rows L2
section
variable {g : G} {X : Cx} {a b c e : Expr} {es : List Expr} {pos p tpos : Pos} {σ : St} {H : Hp} {tg : Expr}
end
end Dy
namespace Dy
open PySem PySem.Spec PyProof.Rows L2
section
variable {g : G} {X : Cx} {a b c e : Expr} {es : List Expr} {pos p1 p2 px : Pos} {σ : St} {H I I' H1 : Hp} {env e' : Env} {F F' : Nat → List Addr} {D : Ends}
end
end Dy
namespace Dy
open PySem PySem.Spec PyProof.Rows L2
open PySem.W (alike alike_all_cons toks_eqv eqAt_alike oneLt_alike dataLt EachIs AllAlike Sortable SortsAt keyToks sortLe sortVals sorted_vals sortVals_each dataLe dataType looks_reads dataType_alike dataType_tuple each_katTups kat_lt kat_cons kat_yes kat_no kat_nil kat_kind KeyedOut sorted_data alike_unique sort_unique sortLe_total sameRank)
open Classical in
section
variable {h : Heap} {ds : List PyData}
end
section
variable {prog : Program} {w : World} {A : Around} {s : Shared}
end
section
variable {X : Cx} {K : PySem.W.Frag}
end
end Dy
namespace Dy
open PySem PySem.Spec PyProof.Rows L2
section
variable {g : G} {X : Cx} {a b c e : Expr} {es : List Expr} {pos p1 p2 p3 px py : Pos} {σ : St} {H I I' H1 : Hp} {env e' : Env} {F F' : Nat → List Addr} {D : Ends}
end
section
variable {X : Cx} {K : PySem.W.Frag}
end
end Dy
namespace Dy
open PySem PySem.Spec PyProof.Rows L2
section
variable {X : Cx}
end
section
variable {g : G} {X : Cx} {a b c e : Expr} {es : List Expr} {pos p1 p2 p3 px py : Pos} {σ : St} {H I I' H1 : Hp} {env e' : Env} {F F' : Nat → List Addr} {D : Ends}
end
end Dy
namespace Dy
open PySem PySem.Spec PyProof.Rows L2
section
variable {g : G} {X : Cx} {a b c e : Expr} {es : List Expr} {pos p1 p2 p3 : Pos} {x : AF}
end
section
variable {g : G} {X : Cx} {pos p1 px : Pos} {σ : St} {H : Hp}
end
end Dy
namespace Dy
open PySem PySem.Spec PyProof.Rows L2
section
variable {X : Cx} {pins : List (Addr × Obj)} {σ : St} {H : Hp} {s : Shared} {a C : Addr} {xs : Str} {i : Nat} {E : Value → Shared → Prop}
end
end Dy
namespace Dy
open PySem PySem.Spec PyProof.Rows L2
section
variable {CX : CXT} {P : Program} {w : World} {K : PySem.W.Frag} {mg : Str → Option Value} {base : Heap} {N : List Str} {qual : Str} {scope : Scope} {f cc C : Addr} {cd cl : Value} {cld : Option Addr} {csl : Array (Option Value)} {A : Around} {outer : List PySem.Env} {s : Shared} {H : Hp} {E : XK} {us : List Value} {vs : List V} {h₀ : Heap} {tk : Nat}
end
end Dy
namespace Dy
open PySem PySem.Spec PyProof.Rows L2
section
variable {X : Cx} {H : Hp} {s : Shared} {a C : Addr} {p q : Int} {q0 q1 q2 q3 q4 q5 q6 q7 q8 q9 q10 r1 r2 r3 r4 t1 t2 t3 t4 : Pos} {j : Nat} {mid : Str}
end
end Dy
namespace Dy
open PySem PySem.Spec PyProof.Rows L2
section
variable {g : G} {X : Cx} {e1 e2 : Expr} {p1 p3 pos : Pos} {mid : Str}
end
end Dy
namespace Dy
open PySem PySem.Spec PyProof.Rows L2
section
variable {g : G} {X : Cx} {a C dx : Addr} {oe : Obj} {pn : List (Addr × Obj)} {i : Nat} {n : Str} {p1 pos : Pos} {p q : Int}
end
end Dy
namespace Dy
open PySem PySem.Spec PyProof.Rows L2
open LamX (CodeO TabB LamS lamEnv lamCx)
section
variable {g : G} {X : Cx} {a b c e : Expr} {es : List Expr} {pos p1 p2 p3 px : Pos} {σ : St} {H I : Hp} {env : Env} {F : Nat → List Addr} {D : Ends} {st : Stmt} {sts : List Stmt}
end
section
variable {g : G} {X : Cx} {a b c e e1 e2 : Expr} {es : List Expr} {pos p1 p2 p3 px : Pos} {A : List Str} {PEa : Addr} {mid : Str}
end
end Dy
namespace Dy
open PySem PySem.Spec PyProof.Rows L2
open LamX (CodeO TabB LamS lamEnv lamCx)
section
variable {g : G} {X : Cx}
end
end Dy
namespace Dy
open PySem PySem.Spec PyProof.Rows L2
section
variable {q0 q1 q2 q3 q4 q5 q6 q7 q8 q9 q10 r1 r2 r3 r4 t1 t2 t3 t4 : Pos} {j : Nat} {mid : Str}
end
end Dy
namespace Dy
open PySem PySem.Spec PyProof.Rows L2
section
variable {g : G} {X : Cx} {e : Expr} {y : Exn} {f : Int → Int → EF} {p q : Int}
end
section
variable {X : Cx}
end
end Dy
namespace Dy
open PySem PySem.Spec PyProof.Rows L2
open LamX (CodeO TabB LamS lamEnv lamCx)
section
variable {g : G} {X : Cx}
end
end Dy
namespace Dy
open PySem PySem.Spec PyProof.Rows L2
section
variable {g : G} {X : Cx} {a C dx : Addr} {oe : Obj} {i : Nat} {n x : Str} {p1 pos : Pos} {p q : Int} {A : List Str} {PEa : Addr} {mid : Str}
end
end Dy
namespace Dy
open PySem PySem.Spec PyProof.Rows L2
section
variable {g : G} {X : Cx} {a b c : Expr} {pos p tpos : Pos} {elts : List Expr} {kk : Nat}
end
end Dy
namespace Dy
open PySem PySem.Spec PyProof.Rows L2
section
variable {g : G} {X : Cx} {e : Expr} {px : Pos}
end
end Dy
namespace Dy
open PySem PySem.Spec PyProof.Rows L2
section
variable {g : G} {X : Cx} {a b c e o : Expr} {es : List Expr} {pos p1 p2 p3 px : Pos} {σ : St} {H I : Hp} {env : Env} {F : Nat → List Addr}
end
end Dy
namespace Dy
open PySem PySem.Spec PyProof.Rows L2
section
variable {g : G} {X : Cx} {σ : St} {H : Hp}
end
section
variable {T : List (Addr × Str)} {g : G} {X : Cx} {k : Nat} {ps ks : List Str} {perm : List Nat} {m : Fn} {x : Str} {p pos : Pos} {kws : List Keyword} {as : List AF}
end
end Dy
namespace Dy
open PySem PySem.Spec PyProof.Rows L2
section
variable {g : G} {X : Cx} {a b c e o : Expr} {es : List Expr} {pos p1 p2 p3 px : Pos} {σ : St} {H I : Hp} {env : Env} {F : Nat → List Addr}
end
end Dy
namespace Dy
open PySem PySem.Spec PyProof.Rows L2
section
variable {prog : Program} {w : World} {A : Around} {E : Value → Shared → Prop} {s : Shared} {z TI TO i1 i2 : Addr} {fp1 fp2 : List Addr} {n1 n2 i : Nat} {P1 P2 : Nat → Value → Prop} {St1 St2 : Nat → Heap → Prop} {a1 a2 f0 : Value} {f : Bool}
end
section
variable {g : G} {X : Cx} {a b c e o : Expr} {es : List Expr} {pos p p1 p2 p3 px tpos : Pos} {σ : St} {H I : Hp} {env : Env} {F : Nat → List Addr}
end
end Dy
namespace Dy
open PySem PySem.Spec PyProof.Rows L2
section
variable {g : G} {X : Cx} {a b c e : Expr} {pos p1 p2 : Pos} {σ : St} {H H3 : Hp} {D : Ends}
end
end Dy
namespace Dy
open PySem PySem.Spec PyProof.Rows L2
section
variable {K : PySem.W.Frag} {I H : Hp} {X : Cx}
end
end Dy
namespace Dy
open PySem PySem.Spec PyProof.Rows L2
section
variable {g : G} {X : Cx} {a b c e : Expr} {pos : Pos}
end
end Dy
namespace Dy
open PySem PySem.Spec PyProof.Rows L2
section
variable {K : PySem.W.Frag} {I H : Hp} {X : Cx}
end
end Dy
namespace Dy
open PySem PySem.Calls PySem.Spec PyProof.Rows L2
open PySem.W (alike alike_all_cons toks_eqv eqAt_alike oneLt_alike dataLt EachIs AllAlike Sortable SortsAt keyToks sortLe sortVals sorted_vals sortVals_each sortVals_length sortVals_data dataLe dataType looks_reads dataType_alike dataType_tuple each_katTups kat_lt kat_cons kat_yes kat_no kat_nil kat_kind KeyedOut sorted_data alike_unique sort_unique sortLe_total sameRank copyHeap copyHeap_at copyHeap_old sortingHeap sorting_copy_old list_sort_vals each_map bound_map)
section
variable {prog : Program} {w : World} {A : Around} {s : Shared}
end
section
variable {X : Cx} {K : PySem.W.Frag}
end
end Dy
namespace Dy
open PySem PySem.Spec PyProof.Rows L2
section
variable {X : Cx}
end
section
variable {g : G} {X : Cx} {a b c e o : Expr} {es : List Expr} {pos p1 p2 p3 px : Pos} {σ : St} {H I : Hp} {env : Env} {F : Nat → List Addr} {D : Ends}
end
end Dy
namespace Dy
open PySem PySem.Spec PyProof.Rows L2
open LamX (CodeO TabB LamS lamEnv lamCx)
section
variable {g : G} {X : Cx}
end
section
variable {g : G} {X : Cx} {a b c e : Expr} {es : List Expr} {pos p1 p2 p3 px : Pos} {σ : St} {H I : Hp} {env : Env} {F : Nat → List Addr} {D : Ends}
end
end Dy
namespace Dy
open PySem PySem.Spec PyProof.Rows L2
section
variable {K : PySem.W.Frag}
end
end Dy
namespace W40
open PySem PySem.Spec PyProof.Rows L2 Dy
def topS (i : Nat) : Stmt := PySem.Challenge.pw_codepick_k40_contexts_known.main.body.getD i (.Pass ⟨0, 0, 0, 0⟩)
abbrev s__law_pen : Stmt := topS 18
abbrev s_is_between : Stmt := topS 6
abbrev s_is_arities : Stmt := topS 7
abbrev s_need_arities : Stmt := topS 8
abbrev s_is_node : Stmt := topS 10
abbrev s_is_written : Stmt := topS 11
abbrev s_is_step : Stmt := topS 13
abbrev s_has_hole : Stmt := topS 14
abbrev s_is_context : Stmt := topS 15
abbrev s__law_refused : Stmt := topS 25
abbrev s__law_cell_at : Stmt := topS 17
abbrev s__law_draw : Stmt := topS 19
abbrev s__law_pick : Stmt := topS 20
abbrev s__law_tree : Stmt := topS 22
abbrev s__law_context : Stmt := topS 23
abbrev s__law_arities : Stmt := topS 21
abbrev s__law_odd_ones : Stmt := topS 24
abbrev s_law : Stmt := topS 26
def D0 : He.DefD := ⟨("_law_pen", none), "_law_pen", "_law_pen", defArgs s__law_pen, defBody s__law_pen, defScope s__law_pen, [], []⟩
def D1 : He.DefD := ⟨("is_between", none), "is_between", "is_between", defArgs s_is_between, defBody s_is_between, defScope s_is_between, [], []⟩
def D2 : He.DefD := ⟨("is_arities", none), "is_arities", "is_arities", defArgs s_is_arities, defBody s_is_arities, defScope s_is_arities, [], []⟩
def D3 : He.DefD := ⟨("need_arities", none), "need_arities", "need_arities", defArgs s_need_arities, defBody s_need_arities, defScope s_need_arities, [], []⟩
def D4 : He.DefD := ⟨("is_node", none), "is_node", "is_node", defArgs s_is_node, defBody s_is_node, defScope s_is_node, [], []⟩
def D5 : He.DefD := ⟨("is_written", none), "is_written", "is_written", defArgs s_is_written, defBody s_is_written, defScope s_is_written, [], []⟩
def D6 : He.DefD := ⟨("is_step", none), "is_step", "is_step", defArgs s_is_step, defBody s_is_step, defScope s_is_step, [], []⟩
def D7 : He.DefD := ⟨("has_hole", none), "has_hole", "has_hole", defArgs s_has_hole, defBody s_has_hole, defScope s_has_hole, [], []⟩
def D8 : He.DefD := ⟨("is_context", none), "is_context", "is_context", defArgs s_is_context, defBody s_is_context, defScope s_is_context, [], []⟩
def D9 : He.DefD := ⟨("_law_refused", none), "_law_refused", "_law_refused", defArgs s__law_refused, defBody s__law_refused, defScope s__law_refused, [], []⟩
def D10 : He.DefD := ⟨("_law_cell_at", none), "_law_cell_at", "_law_cell_at", defArgs s__law_cell_at, defBody s__law_cell_at, defScope s__law_cell_at, [], []⟩
def D11 : He.DefD := ⟨("_law_draw", none), "_law_draw", "_law_draw", defArgs s__law_draw, defBody s__law_draw, defScope s__law_draw, [], []⟩
def D12 : He.DefD := ⟨("_law_pick", none), "_law_pick", "_law_pick", defArgs s__law_pick, defBody s__law_pick, defScope s__law_pick, [], []⟩
def D13 : He.DefD := ⟨("_law_tree", none), "_law_tree", "_law_tree", defArgs s__law_tree, defBody s__law_tree, defScope s__law_tree, [], []⟩
def D14 : He.DefD := ⟨("_law_context", none), "_law_context", "_law_context", defArgs s__law_context, defBody s__law_context, defScope s__law_context, [], []⟩
def D15 : He.DefD := ⟨("_law_arities", none), "_law_arities", "_law_arities", defArgs s__law_arities, defBody s__law_arities, defScope s__law_arities, [], []⟩
def D16 : He.DefD := ⟨("_law_odd_ones", none), "_law_odd_ones", "_law_odd_ones", defArgs s__law_odd_ones, defBody s__law_odd_ones, defScope s__law_odd_ones, [], []⟩
def D17 : He.DefD := ⟨("law", none), "law", "law", defArgs s_law, defBody s_law, defScope s_law, [], []⟩
def FA0 : List He.Fa := [.glo "_law_pen", .glo "is_between", .glo "is_arities", .glo "need_arities", .glo "is_node", .glo "is_written", .glo "is_step", .glo "has_hole", .glo "is_context", .glo "_law_refused", .glo "_law_cell_at", .glo "_law_draw", .glo "_law_pick", .glo "_law_tree", .glo "_law_context", .glo "_law_arities", .glo "_law_odd_ones", .glo "law", .free "all", .free "bool", .free "enumerate", .free "int", .free "isinstance", .free "len", .free "list", .free "max", .free "min", .free "range", .free "repr", .free "str"]
def FA1 : List He.Fa := [.free "tuple", .int "MOST_ARITY" 2, .int "MOST_OPERATORS" 6]
def FA : List He.Fa := FA0 ++ FA1
def FN : List He.DefD := [D0, D1, D2, D3, D4, D5, D6, D7, D8, D9, D10, D11, D12, D13, D14, D15, D16, D17]
def TF : List He.Defn := []
def EX (K : PySem.W.Frag) : Bool := setB ["NoArities"] ["NoArities"] "PickError" K && ndB TF K
def LO0 : List Str := ["__name__", "PickError", "NoArities", "MOST_OPERATORS", "MOST_ARITY", "is_between", "is_arities", "need_arities", "is_node", "is_written", "is_step", "has_hole", "is_context", "_law_cell_at", "_law_pen", "_law_draw", "_law_pick", "_law_arities", "_law_tree", "_law_context", "_law_odd_ones", "_law_refused"]
def LO : List Str := LO0
abbrev R : PySem.W.OpenRow := PySem.W.OpenLaw.row PySem.Challenge.rw_codepick_k40_contexts_known
abbrev hk : PySem.W.Hook := He.hookX 6 FA FN [] TF EX
def ob (s : PySem.W.SharedT) : He.AlX := He.obsX 6 FA FN [] TF EX (HandSHeadRun.getT s)
theorem run (w : World) : HandSHeadRun.RunEq R (PySem.W.view R.prog [26]) hk ob 8000 LO w := by
  intro os
  kernel_rfl
end W40
namespace Dy
open PySem PySem.Spec PyProof.Rows L2
def Res.post {α : Type} (P : α → Prop) (E : Exn → Prop) : Res α → Prop
  | .ok a => P a
  | .er x => E x
  | .no => False
def ofO {α : Type} : Option α → Res α
  | some a => .ok a
  | none => .no
theorem LsL.sq {K : PySem.W.Frag} {I : Hp} {a : Addr} {xs : List V} (h : LsL K I a xs) : SqL K I a xs := by
  rcases h with h | ⟨its, n, h1, h2, h3⟩
  · exact .inl h
  · exact .inr ⟨_, its.toArray, n, h1, rfl, rfl, rfl, by simpa using h2, by simpa using h3⟩
theorem LsL.obj {X : Cx} {pins : List (Addr × Obj)} {σ : St} {H : Hp} {s : Shared} {a : Addr} {xs : List V} (J : Inv X pins σ H s) (h : LsL X.K H a xs) : xs.length ≤ sizeLine ∧ ∃ (its : List Value) (n : Nat), Vals xs its ∧ xs.length = its.length ∧ s.heap.get? a = some { cls := .type "list", data := .seq its.toArray n } := by
  rcases h with h | ⟨its, n, h1, h2, h3⟩
  · obtain ⟨z, its, n, r, e⟩ := h.ok J.hok
    exact ⟨z, its, n, r, r.length, e⟩
  · exact ⟨by rw [h3.length]; exact h2, its, n, h3, h3.length, J.kIn a _ h1⟩
theorem LsT.sq {K : PySem.W.Frag} {I : Hp} {a : Addr} {xs : List V} (h : LsT K I a xs) : SqT K I a xs := by
  rcases h with ⟨o, _, h⟩ | ⟨o, its, n, h1, h2, h3⟩
  · exact .inl (.inr ⟨o, h⟩)
  · exact .inr ⟨o, its, n, h1, h2.1, h3⟩
/-- a new plain tuple -/
def NewT (H : Hp) (xs : List V) (Q : VK) : Prop := ∀ p o, PlT o → H p = none → Q (.ref p) (upd H p (.frz o (.tup xs)))
section
variable {K : PySem.W.Frag} {I I' H H' : Hp}
theorem same_t {a : Addr} {xs : List V} (e : Same I I') (h : SqT K I a xs) : SqT K I' a xs := by
  rcases h with h | h
  · exact .inl (same_rd e h)
  · exact .inr h
theorem RpAll.get : ∀ {vs : List V} {ds : List PyData} {i : Nat} {d : PyData}, RpAll K I vs ds → ds[i]? = some d → ∃ v, vs[i]? = some v ∧ Rp K I v d
  | _, _, _, _, .nil, e => by simp at e
  | _, _, 0, _, .cons h _, e => by simp at e; subst e; exact ⟨_, rfl, h⟩
  | _, _, i + 1, d, .cons _ t, e => by
    obtain ⟨v, h1, h2⟩ := RpAll.get (i := i) (d := d) t (by simpa using e)
    exact ⟨v, by simpa using h1, h2⟩
theorem RpAll.app : ∀ {vs ws : List V} {ds es : List PyData}, RpAll K I vs ds → RpAll K I ws es → RpAll K I (vs ++ ws) (ds ++ es)
  | _, _, _, _, .nil, s => s
  | _, _, _, _, .cons h t, s => .cons h (t.app s)
theorem RpAll.takes : ∀ {vs : List V} {ds : List PyData} (n : Nat), RpAll K I vs ds → RpAll K I (vs.take n) (ds.take n)
  | _, _, 0, _ => .nil
  | _, _, _ + 1, .nil => .nil
  | _, _, n + 1, .cons h t => .cons h (t.takes n)
theorem RpAll.drops : ∀ {vs : List V} {ds : List PyData} (n : Nat), RpAll K I vs ds → RpAll K I (vs.drop n) (ds.drop n)
  | _, _, 0, h => h
  | _, _, _ + 1, .nil => .nil
  | _, _, n + 1, .cons _ t => t.drops n
theorem RpAll.sets : ∀ {vs : List V} {ds : List PyData} {v : V} {d : PyData} (i : Nat), RpAll K I vs ds → Rp K I v d → RpAll K I (vs.set i v) (ds.set i d)
  | _, _, _, _, _, .nil, _ => .nil
  | _, _, _, _, 0, .cons _ t, h => .cons h t
  | _, _, _, _, i + 1, .cons h0 t, h => .cons h0 (t.sets i h)
end
theorem NT.ext {φ : Heap → Prop} : NT (.ext φ) := fun _ h => by cases h
theorem kt_upd {H : Hp} {a : Addr} {u o : HO} (h : H a = some u) (n : NT u) : ∀ b ps, H b = some (.tbl ps) → upd H a o b = some (.tbl ps) := fun b ps e => by
  rw [upd_ne (fun z => by subst z; rw [h] at e; cases e; exact n _ rfl)]; exact e
theorem kt_new {H : Hp} {a : Addr} {o : HO} (h : H a = none) : ∀ b ps, H b = some (.tbl ps) → upd H a o b = some (.tbl ps) := fun b ps e => by
  rw [upd_ne (fun z => by subst z; rw [h] at e; cases e)]; exact e
section
variable {K : PySem.W.Frag} {I I' H H' : Hp}
theorem Rows.domN {as : List Addr} {rs : List (List PyData)} (h : Rows K I H as rs) : ∀ a ∈ as, ∃ o, H a = some o ∧ NT o := by
  induction h with
  | nil => intro a ha; cases ha
  | cons h1 _ _ ih =>
    intro a ha
    rcases List.mem_cons.mp ha with rfl | ha
    · exact ⟨_, h1, NT.lst⟩
    · exact ih a ha
theorem Rows.frz {as : List Addr} {rs : List (List PyData)} (e : Same I I') (h : Rows K I H as rs) (k : ∀ a ∈ as, I' a = H a) : RpAll K I' (as.map V.ref) (rs.map PyData.list) := by
  induction h with
  | nil => exact .nil
  | cons h1 h2 _ ih => exact .cons (.lst (LsL.of (by rw [k _ (by simp)]; exact h1)) (h2.mono e)) (ih fun a ha => k a (by simp [ha]))
theorem RepO.domN {o : O} {v : V} {F : List Addr} (h : RepO K I H o v F) : ∀ a ∈ F, ∃ u, H a = some u ∧ NT u := by
  cases o with
  | fr d => intro a ha; rw [h.1] at ha; cases ha
  | ol ds =>
    obtain ⟨a, vs, rfl, rfl, h1, h2⟩ := h
    intro b hb
    simp at hb; subst hb
    exact ⟨_, h1, NT.lst⟩
  | oo rs =>
    obtain ⟨a, as, rfl, rfl, nd, h1, h2⟩ := h
    intro b hb
    rcases List.mem_cons.mp hb with rfl | hb
    · exact ⟨_, h1, NT.lst⟩
    · exact h2.domN b hb
  | od es =>
    obtain ⟨a, rfl, rfl, h⟩ := h
    intro b hb
    simp at hb; subst hb
    rcases h with ⟨kvs, h1, h2⟩ | ⟨ts, h1, h2⟩
    · exact ⟨_, h1, NT.dK⟩
    · exact ⟨_, h1, NT.ext⟩
theorem Rows.dom {as : List Addr} {rs : List (List PyData)} (h : Rows K I H as rs) : ∀ a ∈ as, ∃ o, H a = some o := fun a ha => let ⟨o, e, _⟩ := h.domN a ha; ⟨o, e⟩
theorem RepO.dom {o : O} {v : V} {F : List Addr} (h : RepO K I H o v F) : ∀ a ∈ F, ∃ u, H a = some u := fun a ha => let ⟨o, e, _⟩ := h.domN a ha; ⟨o, e⟩
/-- the heap with F frozen -/
def frz (I H : Hp) (F : List Addr) : Hp := fun a => if a ∈ F then H a else I a
theorem frz_same {F : List Addr} (d : ∀ a ∈ F, I a = none) : Same I (frz I H F) := fun a o e => by
  unfold frz
  rw [if_neg (fun h => by rw [d a h] at e; cases e)]
  exact e
theorem frz_ni {o : O} {v : V} {F : List Addr} {a : Addr} {ps : Array Value} (r : RepO K I H o v F) (h : H a = some (.tbl ps)) (h2 : I a = none) : frz I H F a = none := by
  unfold frz
  rw [if_neg (fun z => ?_)]
  · exact h2
  · obtain ⟨u, e, n⟩ := r.domN a z
    rw [h] at e; cases e; exact n _ rfl
theorem frz_sub {F : List Addr} (s : Same I H) : Same (frz I H F) H := fun a o e => by
  unfold frz at e
  split at e
  · exact e
  · exact s _ _ e
theorem RepO.frz {o : O} {v : V} {F : List Addr} (h : RepO K I H o v F) (d : ∀ a ∈ F, I a = none) : Rp K (frz I H F) v o.data := by
  have e := frz_same (H := H) d
  cases o with
  | fr d => exact h.2.mono e
  | ol ds =>
    obtain ⟨a, vs, rfl, rfl, h1, h2⟩ := h
    exact .lst (LsL.of (by unfold Dy.frz; rw [if_pos (by simp)]; exact h1)) (h2.mono e)
  | oo rs =>
    obtain ⟨a, as, rfl, rfl, nd, h1, h2⟩ := h
    refine .lst (LsL.of (by unfold Dy.frz; rw [if_pos (by simp)]; exact h1)) (h2.frz e fun b hb => ?_)
    unfold Dy.frz; rw [if_pos (by simp [hb])]
  | od es =>
    obtain ⟨a, rfl, rfl, h⟩ := h
    have z : Dy.frz I H [a] a = H a := by unfold Dy.frz; rw [if_pos (by simp)]
    rcases h with ⟨kvs, h1, h2⟩ | ⟨ts, h1, h2⟩
    · exact .dic (.inl (z.trans h1)) (h2.mono e)
    · exact .dit (.inl (z.trans h1)) (h2.mono e)
end
section
variable {I H I1 H1 I2 H2 : Hp} {S S1 S2 : Addr → Prop}
theorem Step.of4 (i1 : Same I I1) (fr : ∀ a o, H a = some o → ¬ S a → H1 a = some o) (s' : ∀ a, S1 a → S a ∨ H a = none) (i' : ∀ a o, I1 a = some o → I a = some o ∨ S a ∨ H a = none) : Step I H S I1 H1 S1 :=
  ⟨i1, fun a o h n _ => fr a o h n, fun a o h n => ⟨o, fr a o h n⟩, s', i'⟩
end
/-- what is owned aside stays as it is -/
theorem Step.keeps {I H I1 H1 : Hp} {S S1 : Addr → Prop} (a : Step I H S I1 H1 S1) {F : List Addr} (hd : ∀ x ∈ F, ∃ o, H x = some o ∧ NT o) (hn : ∀ x ∈ F, ¬ S x) : ∀ x ∈ F, H1 x = H x := fun x hx => by
  obtain ⟨o, h, nt⟩ := hd x hx
  rw [h, a.fr x o h (hn x hx) nt]
section
variable {K : PySem.W.Frag} {π : Pn} {I H I' H' : Hp} {σ : St} {env : Env} {F : Nat → List Addr}
theorem Sim.domN (s : Sim K π I H σ env F) {i : Nat} {a : Addr} (h : a ∈ F i) : ∃ o, H a = some o ∧ NT o := by
  by_cases q : ∃ o, env[i]? = some (some o)
  · obtain ⟨o, q⟩ := q
    obtain ⟨v, _, r⟩ := s.rep i o q
    exact r.domN a h
  · rw [s.out i fun o e => q ⟨o, e⟩] at h; cases h
theorem Sim.dom (s : Sim K π I H σ env F) {i : Nat} {a : Addr} (h : a ∈ F i) : ∃ o, H a = some o := let ⟨o, e, _⟩ := s.domN h; ⟨o, e⟩
theorem Sim.domO (s : Sim K π I H σ env F) {a : Addr} (h : Ow F a) : ∃ o, H a = some o := let ⟨_, q⟩ := h; s.dom q
theorem Sim.ktO (s : Sim K π I H σ env F) {i : Nat} {a : Addr} {o : HO} (h : a ∈ F i) : ∀ b ps, H b = some (.tbl ps) → upd H a o b = some (.tbl ps) := by
  obtain ⟨u, e, n⟩ := s.domN h
  exact kt_upd e n
/-- a slot is changed -/
def upF (F : Nat → List Addr) (i : Nat) (R : List Addr) : Nat → List Addr := fun j => if j = i then R else F j
theorem upF_same {i : Nat} {R : List Addr} : upF F i R i = R := if_pos rfl
theorem upF_ne {i j : Nat} {R : List Addr} (h : j ≠ i) : upF F i R j = F j := if_neg h
/-- the frame over a greater frozen heap, the other slots' things untouched -/
theorem Sim.put (s : Sim K π I H σ env F) {i : Nat} {x : Option O} {sv : Option V} {R : List Addr} (hi : i < env.length) (e : Same I I') (sub : Same I' H')
    (k : ∀ j, j ≠ i → ∀ a ∈ F j, H' a = H a) (nI : ∀ j, j ≠ i → ∀ a ∈ F j, I' a = none) (nR : ∀ a ∈ R, I' a = none) (dR : ∀ j, j ≠ i → ∀ a ∈ F j, a ∉ R)
    (hx : ∀ o, x = some o → ∃ v, sv = some v ∧ RepO K I' H' o v R) (hn : x = none → R = []) (hp : i ∈ π.1 → sv = some (π.2.1 i)) (kt : ∀ a ps, H a = some (.tbl ps) → H' a = some (.tbl ps) := by exact fun _ _ h => h) (ni : ∀ a ps, H a = some (.tbl ps) → I a = none → I' a = none := by exact fun _ _ _ h => h) : Sim K π I' H' (σ.set i sv) (env.set i x) (upF F i R) := by
  refine ⟨by simp [s.len], fun j o q => ?_, fun j q => ?_, fun j l a h1 h2 => ?_, fun j a h => ?_, sub, fun p hp' => ?_, s.tab.mono e kt ni⟩
  · by_cases hj : j = i
    · subst hj
      rw [List.getElem?_set_self hi] at q
      obtain ⟨v, e1, r⟩ := hx o (Option.some.inj q)
      exact ⟨v, by rw [List.getElem?_set_self (by rw [← s.len]; exact hi), e1], by rw [upF_same]; exact r⟩
    · rw [List.getElem?_set_ne (Ne.symm hj)] at q
      obtain ⟨v, e1, r⟩ := s.rep j o q
      exact ⟨v, by rw [List.getElem?_set_ne (Ne.symm hj)]; exact e1, by rw [upF_ne hj]; exact r.mono e (k j hj)⟩
  · by_cases hj : j = i
    · subst hj
      rw [upF_same]
      cases x with
      | none => exact hn rfl
      | some o => exact absurd (List.getElem?_set_self hi) (q o)
    · rw [upF_ne hj]
      exact s.out j fun o z => q o (by rw [List.getElem?_set_ne (Ne.symm hj)]; exact z)
  · by_cases hj : j = i
    · by_cases hl : l = i
      · rw [hj, hl]
      · subst hj
        rw [upF_same] at h1
        rw [upF_ne hl] at h2
        exact absurd h1 (dR l hl a h2)
    · by_cases hl : l = i
      · subst hl
        rw [upF_same] at h2
        rw [upF_ne hj] at h1
        exact absurd h2 (dR j hj a h1)
      · rw [upF_ne hj] at h1
        rw [upF_ne hl] at h2
        exact s.dis j l a h1 h2
  · by_cases hj : j = i
    · subst hj; rw [upF_same] at h; exact nR a h
    · rw [upF_ne hj] at h; exact nI j hj a h
  · by_cases hj : p = i
    · subst hj
      rw [List.getElem?_set_self (by rw [← s.len]; exact hi), hp hp']
    · rw [List.getElem?_set_ne (Ne.symm hj)]; exact s.pin p hp'
/-- the frame as it is, over another heap -/
theorem Sim.heap (s : Sim K π I H σ env F) (e : Same I I') (sub : Same I' H') (k : ∀ a, Ow F a → H' a = H a) (nI : ∀ a, Ow F a → I' a = none) (kt : ∀ a ps, H a = some (.tbl ps) → H' a = some (.tbl ps) := by exact fun _ _ h => h) (ni : ∀ a ps, H a = some (.tbl ps) → I a = none → I' a = none := by exact fun _ _ _ h => h) : Sim K π I' H' σ env F :=
  ⟨s.len, fun i o q => let ⟨v, e1, r⟩ := s.rep i o q; ⟨v, e1, r.mono e fun a ha => k a ⟨i, ha⟩⟩, s.out, s.dis, fun i a h => nI a ⟨i, h⟩, sub, s.pin, s.tab.mono e kt ni⟩
theorem set_same {α : Type} : ∀ {l : List α} {i : Nat} {x : α}, l[i]? = some x → l.set i x = l
  | [], _, _, h => by simp at h
  | a :: l, 0, x, h => by simp at h; subst h; rfl
  | a :: l, i + 1, x, h => by
    rw [List.set_cons_succ, set_same (by simpa using h)]
end
section
variable {K : PySem.W.Frag} {π : Pn} {I H I1 H1 H2 : Hp} {σ σ' : St} {env : Env} {F F1 : Nat → List Addr} {o : O} {d : PyData} {v : V}
theorem Aft.frz (h : Aft K π I H F σ env o v H1) : AftD K π I H F σ env o.data v H1 := by
  obtain ⟨I', F', R, r, s, nR, dR, st⟩ := h
  have e : Same I' (Dy.frz I' H1 R) := frz_same nR
  refine ⟨Dy.frz I' H1 R, F', r.frz nR, s.heap e (frz_sub s.sub) (fun _ _ => rfl) (fun a ha => ?_) (fun _ _ h => h) (fun a ps h1 h2 => frz_ni r h1 h2), ⟨st.i1.trans e, st.fr, st.th, fun a ha => st.s' a (.inl ha), fun a u q => ?_⟩⟩
  · unfold Dy.frz; rw [if_neg (dR a ha)]; obtain ⟨i, hi⟩ := ha; exact s.djI i a hi
  · unfold Dy.frz at q
    split at q
    · exact .inr (st.s' a (.inr (by assumption)))
    · exact st.i' a u q
theorem AftD.toS (h : AftD K π I H F σ env d v H1) : AftS K π I H F σ env H1 := let ⟨I', F', _, s, st⟩ := h; ⟨I', F', s, st⟩
theorem AftD.aft (h : AftD K π I H F σ env d v H1) : Aft K π I H F σ env (.fr d) v H1 := by
  obtain ⟨I', F', r, s, st⟩ := h
  exact ⟨I', F', [], ⟨rfl, r⟩, s, fun a ha => (nomatch ha), fun a _ ha => (nomatch ha), st.less fun a ha => Or.elim ha id fun z => (nomatch z)⟩
end
end Dy
namespace Dy
open PySem PySem.Spec PyProof.Rows L2
/-- an exception of the program as HandS tells it: its class's address, its own dict -/
def XR (mg : Str → Option Value) (x : Exn) (c : Value) (d : Option Addr) (_H : Hp) : Prop := ∃ a, mg x.cls = some (.ref a) ∧ c = .ref a ∧ (x.args = [] → d = none) ∧ ∀ p q : Int, x.args = [.int p, .int q] → ∃ (dx : Addr) (fs : List (Str × V)), d = some dx ∧ _H dx = some (.xd fs) ∧ fs.lookup ("amount" : Str) = some (V.int p) ∧ fs.lookup ("limit" : Str) = some (V.int q)
def G.err (g : G) (I H : Hp) (F : Nat → List Addr) (x : Exn) : Prop := ∀ H' c d, Err g.pn.2.2 I H (Ow F) H' d → XR g.mg x c d H' → g.E c d H'
def tD (g : G) (f : EF) : TE := fun σ H Q => ∃ I env F, Sim g.K g.pn I H σ env F ∧ (f env).post (fun r => ∀ v H', Aft g.K g.pn I H F σ r.2 r.1 v H' → Q v H') (g.err I H F)
def tT (g : G) (f : TF) : TT := fun σ H Q => ∃ I env F, Sim g.K g.pn I H σ env F ∧ (f env).post (fun r => ∀ H', AftS g.K g.pn I H F σ r.2 H' → Q r.1 H') (g.err I H F)
def FlP (g : G) (D : Ends) (I H : Hp) (F : Nat → List Addr) : Fl × Env → Prop
  | (.nx, e) => ∀ σ' H', AftS g.K g.pn I H F σ' e H' → D.nx σ' H'
  | (.bk, e) => ∀ σ' H', AftS g.K g.pn I H F σ' e H' → D.bk σ' H'
  | (.ct, e) => ∀ σ' H', AftS g.K g.pn I H F σ' e H' → D.ct σ' H'
  | (.rt o, e) => ∀ v σ' H', Aft g.K g.pn I H F σ' e o v H' → D.rt v H'
def tS (g : G) (f : SF) : TS := fun D σ H => ∃ I env F, Sim g.K g.pn I H σ env F ∧ (f env).post (FlP g D I H F) (g.err I H F)
inductive AV where
  | d (x : PyData)
  | s (i : Nat)
def evA : List AF → Env → Res (List AV × Env)
  | [], e => .ok ([], e)
  | .v f :: as, e => f e >>= fun r => evA as r.2 >>= fun q => .ok (.d r.1.data :: q.1, q.2)
  | .s i :: as, e => match e[i]? with
    | some (some _) => evA as e >>= fun q => .ok (.s i :: q.1, q.2)
    | _ => .no
inductive RepAV (K : PySem.W.Frag) (I : Hp) (σ : St) : List AV → List V → Prop
  | nil : RepAV K I σ [] []
  | d {x : PyData} {v : V} {as : List AV} {vs : List V} : Rp K I v x → RepAV K I σ as vs → RepAV K I σ (.d x :: as) (v :: vs)
  | s {i : Nat} {v : V} {as : List AV} {vs : List V} : σ[i]? = some (some v) → RepAV K I σ as vs → RepAV K I σ (.s i :: as) (v :: vs)
def tArg (g : G) : AF → TE
  | .v f => tD g f
  | .s i => tVar i
def tA (g : G) (as : List AF) : TA := fun σ H Q => ∃ I env F, Sim g.K g.pn I H σ env F ∧
  (evA as env).post (fun r => ∀ vs H' I' F', Sim g.K g.pn I' H' σ r.2 F' → Step I H (Ow F) I' H' (Ow F') → RepAV g.K I' σ r.1 vs → Q vs H') (g.err I H F)
section
variable {g : G} {σ : St} {H : Hp}
theorem err_step {I I1 H1 : Hp} {F F1 : Nat → List Addr} {x : Exn} (st : Step I H (Ow F) I1 H1 (Ow F1)) (h : g.err I H F x) : g.err I1 H1 F1 x := fun H' c d e r => h H' c d (Err.trans st e) r
theorem tA_nil {Q : List V → Hp → Prop} (h : tA g [] σ H Q) : Q [] H := by
  obtain ⟨I, env, F, s, p⟩ := h
  exact p [] H I F s Step.refl .nil
theorem tA_cons {a : AF} {as : List AF} {Q : List V → Hp → Prop} (h : tA g (a :: as) σ H Q) : tArg g a σ H fun x H1 => tA g as σ H1 fun xs H2 => Q (x :: xs) H2 := by
  obtain ⟨I, env, F, s, p⟩ := h
  cases a with
  | v f =>
    refine ⟨I, env, F, s, ?_⟩
    unfold evA at p
    cases q : f env with
    | no => rw [q] at p; exact p
    | er x => rw [q] at p; exact p
    | ok r =>
      rw [q] at p
      intro v H1 af
      obtain ⟨I1, F1, rp, s1, st1⟩ := af.frz
      refine ⟨I1, r.2, F1, s1, ?_⟩
      rw [bind_ok] at p
      cases q2 : evA as r.2 with
      | no => rw [q2] at p; exact p
      | er x => rw [q2] at p; exact err_step st1 p
      | ok r2 =>
        rw [q2] at p
        intro vs H2 I2 F2 s2 st2 av
        exact p (v :: vs) H2 I2 F2 s2 (st1.trans st2) (.d (rp.mono st2.i1) av)
  | s i =>
    unfold evA at p
    cases q0 : env[i]? with
    | none => rw [q0] at p; exact p.elim
    | some y =>
      cases y with
      | none => rw [q0] at p; exact p.elim
      | some o =>
        rw [q0] at p
        obtain ⟨v, hv, _⟩ := s.rep i o q0
        refine ⟨v, hv, I, env, F, s, ?_⟩
        cases q2 : evA as env with
        | no => simp only [q2] at p; exact p
        | er x => simp only [q2] at p; exact p
        | ok r2 =>
          simp only [q2] at p
          intro vs H2 I2 F2 s2 st2 av
          exact p (v :: vs) H2 I2 F2 s2 st2 (.s hv av)
end
theorem PE.imp {X : Cx} {e : Expr} {t u : TE} (h : PE X e t) (i : ∀ σ H Q, u σ H Q → t σ H Q) : PE X e u := ⟨fun pins s σ H Q I q => h.run pins s σ H Q I (i σ H Q q)⟩
theorem PT.imp {X : Cx} {e : Expr} {t u : TT} (h : PT X e t) (i : ∀ σ H Q, u σ H Q → t σ H Q) : PT X e u := ⟨fun pins s σ H Q I q => h.run pins s σ H Q I (i σ H Q q)⟩
theorem PW.imp {X : Cx} {e : Expr} {t u : TT} (h : PW X e t) (i : ∀ σ H Q, u σ H Q → t σ H Q) : PW X e u := ⟨fun wh pins s σ H Q I q => h.run wh pins s σ H Q I (i σ H Q q)⟩
theorem PA.imp {X : Cx} {e : List Expr} {t u : TA} (h : PA X e t) (i : ∀ σ H Q, u σ H Q → t σ H Q) : PA X e u := ⟨fun ps pins s σ H Q I q => h.run ps pins s σ H Q I (i σ H Q q)⟩
theorem PS.imp {X : Cx} {e : Stmt} {t u : TS} (h : PS X e t) (i : ∀ D σ H, u D σ H → t D σ H) : PS X e u := ⟨fun pins s σ H D I q => h.run pins s σ H D I (i D σ H q)⟩
theorem PSs.imp {X : Cx} {e : List Stmt} {t u : TS} (h : PSs X e t) (i : ∀ D σ H, u D σ H → t D σ H) : PSs X e u := ⟨fun pins s σ H D I q => h.run pins s σ H D I (i D σ H q)⟩
theorem PI.imp {X : Cx} {tg e : Expr} {t u : TI} (h : PI X tg e t) (i : ∀ σ H Q, u σ H Q → t σ H Q) : PI X tg e u := ⟨fun pins s σ H Q I q => h.run pins s σ H Q I (i σ H Q q)⟩
theorem PG.imp {X : Cx} {e : Expr} {t u : TG} (h : PG X e t) (i : ∀ v σ H Q, u v σ H Q → t v σ H Q) : PG X e u := ⟨fun pins s σ H v w Q I r q => h.run pins s σ H v w Q I r (i v σ H Q q)⟩
def DE (g : G) (X : Cx) (e : Expr) (f : EF) : Prop := PE X e (tD g f)
def DX (g : G) (X : Cx) (e : Expr) (a : AF) : Prop := PE X e (tArg g a)
def DA (g : G) (X : Cx) (es : List Expr) (as : List AF) : Prop := PA X es (tA g as)
def DT (g : G) (X : Cx) (e : Expr) (f : TF) : Prop := PT X e (tT g f)
def DW (g : G) (X : Cx) (e : Expr) (f : TF) : Prop := PW X e (tT g f)
def DS (g : G) (X : Cx) (st : Stmt) (f : SF) : Prop := PS X st (tS g f)
def DSs (g : G) (X : Cx) (st : List Stmt) (f : SF) : Prop := PSs X st (tS g f)
section
variable {g : G} {X : Cx} {e : Expr} {es : List Expr}
theorem dx_v {f : EF} (h : DE g X e f) : DX g X e (.v f) := h
theorem dx_s {x : Str} {pos : Pos} (i : Nat) (h : PE X (.Name x pos) (tVar i)) : DX g X (.Name x pos) (.s i) := h
theorem da_nil : DA g X [] [] := PA.imp pa_nil fun σ H Q h => tA_nil h
theorem da_cons {a : AF} {as : List AF} (h : DX g X e a) (hr : DA g X es as) (hs : starEach (e :: es) X.env = (false, eval e X.env) :: starEach es X.env := by rfl) : DA g X (e :: es) (a :: as) :=
  PA.imp (pa_cons h hr hs) fun σ H Q h => tA_cons h
def fC (d : PyData) : EF := fun env => .ok (.fr d, env)
theorem aftC {I H : Hp} {F : Nat → List Addr} {σ : St} {env : Env} {d : PyData} {v : V} (s : Sim g.K g.pn I H σ env F) (r : Rp g.K I v d) : Aft g.K g.pn I H F σ env (.fr d) v H :=
  AftD.aft ⟨I, F, r, s, Step.refl⟩
theorem de_c {v : V} {d : PyData} (h : PE X e (tC v)) (r : ∀ I, Rp g.K I v d) : DE g X e (fC d) := PE.imp h fun σ H Q q => by
  obtain ⟨I, env, F, s, p⟩ := q
  exact p v H (aftC s (r I))
theorem de_int {i j pos} : DE g X (.Constant (.int i) j pos) (fC (.int i)) := de_c pe_int fun _ => .int i
theorem de_bl {b j pos} : DE g X (.Constant (.bool b) j pos) (fC (.bool b)) := de_c pe_bl fun _ => .bl b
theorem de_non {j pos} : DE g X (.Constant .none j pos) (fC .none) := de_c pe_non fun _ => .non
theorem de_str {x j pos} : DE g X (.Constant (.str x) j pos) (fC (.str x)) := de_c pe_str fun _ => .str x
/-- a module's int -/
theorem de_gint {x : Str} {i : Int} {t : Tok} {pos : Pos} (hg : Gl X x) (hm : X.mg x = some (.int i t)) (hd : (x == ("__debug__" : Str)) = false := by decide) : DE g X (.Name x pos) (fC (.int i)) :=
  de_c (v := .int i) (pe_glob hg hm ⟨t, rfl⟩ hd) fun _ => .int i
/-- a name, its value frozen -/
def fV (i : Nat) : EF := fun env => match env[i]? with
  | some (some (.fr d)) => .ok (.fr d, env)
  | some (some o) => .ok (.fr o.data, env.set i (some (.fr o.data)))
  | _ => .no
theorem sim_frz {I H : Hp} {F : Nat → List Addr} {σ : St} {env : Env} {i : Nat} {o : O} (s : Sim g.K g.pn I H σ env F) (q : env[i]? = some (some o)) :
    ∃ v I', σ[i]? = some (some v) ∧ Rp g.K I' v o.data ∧ Sim g.K g.pn I' H σ (env.set i (some (.fr o.data))) (upF F i []) ∧ Step I H (Ow F) I' H (Ow (upF F i [])) := by
  obtain ⟨v, e1, r⟩ := s.rep i o q
  have nI : ∀ a ∈ F i, I a = none := fun a ha => s.djI i a ha
  have hi : i < env.length := by
    cases Nat.lt_or_ge i env.length with
    | inl h => exact h
    | inr h => rw [List.getElem?_eq_none h] at q; cases q
  have sm := frz_same (H := H) nI
  have rp := r.frz nI
  refine ⟨v, Dy.frz I H (F i), e1, rp, ?_, ?_⟩
  · have := s.put (i := i) (x := some (.fr o.data)) (sv := some v) (R := []) hi sm (frz_sub s.sub) (fun _ _ _ _ => rfl) (fun j hj a ha => ?_) (fun a ha => nomatch ha) (fun _ _ _ _ h => nomatch h) (fun o' e => ?_) (fun e => by cases e) (fun hp => ?_) (fun _ _ h => h) (fun a ps h1 h2 => frz_ni r h1 h2)
    · rw [set_same e1] at this; exact this
    · unfold Dy.frz; rw [if_neg (fun h => hj (s.dis j i a ha h))]; exact s.djI j a ha
    · cases e; exact ⟨v, rfl, rfl, rp⟩
    · have := s.pin i hp; rw [e1] at this; exact Option.some.inj this
  · refine Step.of4 sm (fun _ _ h _ => h) (fun a ⟨j, ha⟩ => ?_) (fun a u h => ?_)
    · by_cases hj : j = i
      · subst hj; rw [upF_same] at ha; cases ha
      · rw [upF_ne hj] at ha; exact .inl ⟨j, ha⟩
    · unfold Dy.frz at h
      split at h
      · exact .inr (.inl ⟨i, by assumption⟩)
      · exact .inl h
theorem de_v {x : Str} {pos : Pos} (i : Nat) (h : PE X (.Name x pos) (tVar i)) : DE g X (.Name x pos) (fV i) := PE.imp h fun σ H Q q => by
  obtain ⟨I, env, F, s, p⟩ := q
  unfold fV at p
  cases q : env[i]? with
  | none => rw [q] at p; exact p.elim
  | some y =>
    cases y with
    | none => rw [q] at p; exact p.elim
    | some o =>
      have key : (match o with | .fr d => Res.ok (O.fr d, env) | o => .ok (O.fr o.data, env.set i (some (.fr o.data)))) = .ok (O.fr o.data, env.set i (some (.fr o.data))) := by
        cases o with
        | fr d => show Res.ok (O.fr d, env) = Res.ok (O.fr d, env.set i (some (O.fr d))); rw [set_same q]
        | ol _ => rfl
        | oo _ => rfl
        | od _ => rfl
      rw [q] at p
      have p : (Res.ok (O.fr o.data, env.set i (some (.fr o.data)))).post (fun r => ∀ v H', Aft g.K g.pn I H F σ r.2 r.1 v H' → Q v H') (g.err I H F) := by
        rw [← key]; cases o <;> exact p
      obtain ⟨v, I', e1, rp, s', st⟩ := sim_frz s q
      exact ⟨v, e1, p v H (AftD.aft ⟨I', _, rp, s', st⟩)⟩
/-- a name whose thing goes out of the def -/
def fM (i : Nat) : EF := fun env => match env[i]? with
  | some (some o) => .ok (o, env.set i none)
  | _ => .no
theorem de_m {x : Str} {pos : Pos} (i : Nat) (h : PE X (.Name x pos) (tVar i)) : DE g X (.Name x pos) (fM i) := PE.imp h fun σ H Q q => by
  obtain ⟨I, env, F, s, p⟩ := q
  unfold fM at p
  cases q : env[i]? with
  | none => rw [q] at p; exact p.elim
  | some y =>
    cases y with
    | none => rw [q] at p; exact p.elim
    | some o =>
      rw [q] at p
      obtain ⟨v, e1, r⟩ := s.rep i o q
      have hi : i < env.length := by
        cases Nat.lt_or_ge i env.length with
        | inl h => exact h
        | inr h => rw [List.getElem?_eq_none h] at q; cases q
      refine ⟨v, e1, p v H ⟨I, upF F i [], F i, r, ?_, fun a ha => s.djI i a ha, fun a ⟨j, hj⟩ ha => ?_, ?_⟩⟩
      · have := s.put (i := i) (x := none) (sv := some v) (R := []) hi (Same.refl _) s.sub (fun _ _ _ _ => rfl) (fun j _ a ha => s.djI j a ha) (fun a ha => nomatch ha) (fun _ _ _ _ h => nomatch h) (fun o' e => by cases e) (fun _ => rfl) (fun hp => ?_)
        · rw [set_same e1] at this; exact this
        · have := s.pin i hp; rw [e1] at this; exact Option.some.inj this
      · by_cases h : j = i
        · subst h; rw [upF_same] at hj; cases hj
        · rw [upF_ne h] at hj; exact h (s.dis j i a hj ha)
      · refine Step.of4 (Same.refl _) (fun _ _ h _ => h) (fun a ha => .inl ?_) (fun _ _ h => .inl h)
        rcases ha with ⟨j, hj⟩ | ha
        · by_cases h : j = i
          · subst h; rw [upF_same] at hj; cases hj
          · rw [upF_ne h] at hj; exact ⟨j, hj⟩
        · exact ⟨i, ha⟩
end
def DrO (K : PySem.W.Frag) (I H : Hp) (a : Addr) (es : List (PyData × PyData)) : Prop := (∃ kvs, Rd H a (.dK kvs) ∧ RpKv K I kvs es) ∨ ∃ ts, Rd H a (dN a ts) ∧ RpKt K I ts es
theorem DiO.rd {K : PySem.W.Frag} {I H : Hp} {a : Addr} {es : List (PyData × PyData)} (h : DiO K I H a es) : DrO K I H a es := by
  rcases h with ⟨k, h1, h2⟩ | ⟨k, h1, h2⟩
  · exact .inl ⟨k, .inl h1, h2⟩
  · exact .inr ⟨k, .inl h1, h2⟩
inductive RpSs (K : PySem.W.Frag) (I H : Hp) : List V → List PyData → Prop
  | nil : RpSs K I H [] []
  | cons {v : V} {d : PyData} {vs : List V} {ds : List PyData} : RpS K I H v d → RpSs K I H vs ds → RpSs K I H (v :: vs) (d :: ds)
def rsv (env : Env) : AV → Option PyData
  | .d x => some x
  | .s i => match env[i]? with
    | some (some (.fr d)) => some d
    | some (some (.ol ds)) => some (.list ds)
    | some (some (.od es)) => some (.dict es)
    | _ => none
def rsvs (env : Env) : List AV → Option (List PyData)
  | [] => some []
  | a :: as => match rsv env a, rsvs env as with
    | some d, some ds => some (d :: ds)
    | _, _ => none
theorem rsvs_rep {K : PySem.W.Frag} {π : Pn} {I H : Hp} {σ : St} {env : Env} {F : Nat → List Addr} (s : Sim K π I H σ env F) : ∀ {as : List AV} {vs : List V} {ds : List PyData}, RepAV K I σ as vs → rsvs env as = some ds → RpSs K I H vs ds
  | _, _, ds, .nil, h => by cases h; exact .nil
  | _, _, ds, .d (as := as) r t, h => by
    unfold rsvs at h
    cases q : rsvs env as with
    | none => rw [q] at h; cases h
    | some es => rw [q] at h; cases h; exact .cons (.inl r) (rsvs_rep s t q)
  | _, _, ds, .s (i := i) (as := as) r t, h => by
    unfold rsvs at h
    cases q : rsvs env as with
    | none => rw [q] at h; cases q9 : rsv env (.s i) <;> (rw [q9] at h; cases h)
    | some es =>
      rw [q] at h
      cases q2 : rsv env (.s i) with
      | none => rw [q2] at h; cases h
      | some d =>
        rw [q2] at h; cases h
        refine .cons ?_ (rsvs_rep s t q)
        simp only [rsv] at q2
        cases q3 : env[i]? with
        | none => rw [q3] at q2; cases q2
        | some y =>
          cases y with
          | none => rw [q3] at q2; cases q2
          | some o =>
            obtain ⟨w, e1, rp⟩ := s.rep i o q3
            rw [r] at e1; cases e1
            rw [q3] at q2
            cases o with
            | fr x => cases q2; exact .inl rp.2
            | ol xs =>
              cases q2
              obtain ⟨a, us, rfl, _, h1, h2⟩ := rp
              exact .inr (.inl ⟨a, us, xs, rfl, rfl, h1, h2⟩)
            | oo _ => cases q2
            | od es =>
              cases q2
              obtain ⟨a, rfl, _, h1⟩ := rp
              exact .inr (.inr ⟨a, es, rfl, rfl, h1⟩)
theorem Grow.val {K : PySem.W.Frag} {I H : Hp} {d : PyData} {v : V} (s : Same I H) (r : Rp K I v d) : Grow K I H I H (.fr d) v [] :=
  ⟨⟨rfl, r⟩, Same.refl _, Same.refl _, s, fun _ h => (nomatch h), fun _ h => (nomatch h), fun _ _ h => .inl h⟩
/-- a new tuple -/
theorem Grow.tup {K : PySem.W.Frag} {I H : Hp} {ds : List PyData} {vs : List V} {p : Addr} {ob : Obj} (s : Same I H) (pl : PlT ob) (n : H p = none) (r : RpAll K I vs ds) : Grow K I H (upd I p (.frz ob (.tup vs))) (upd H p (.frz ob (.tup vs))) (.fr (.tuple ds)) (.ref p) [] := by
  have nI := none_of_same s n
  have e : Same I (upd I p (.frz ob (.tup vs))) := same_new nI
  refine ⟨⟨rfl, .tup (LsT.of pl upd_same) (r.mono e)⟩, e, same_new n, fun b x q => ?_, fun _ h => (nomatch h), fun _ h => (nomatch h), fun a o q => ?_⟩
  · by_cases h : b = p
    · subst h; rw [upd_same] at q ⊢; exact q
    · rw [upd_ne h] at q ⊢; exact s b x q
  · by_cases h : a = p
    · subst h; exact .inr n
    · rw [upd_ne h] at q; exact .inl q
theorem Grow.aft {K : PySem.W.Frag} {π : Pn} {I H I' H' : Hp} {o : O} {v : V} {R : List Addr} {σ : St} {env : Env} {F : Nat → List Addr} (g : Grow K I H I' H' o v R) (s : Sim K π I H σ env F) : Aft K π I H F σ env o v H' := by
  have nF : ∀ a, Ow F a → I' a = none := fun a ⟨i, ha⟩ => by
    cases q : I' a with
    | none => rfl
    | some u =>
      rcases g.i' a u q with z | z
      · rw [s.djI i a ha] at z; cases z
      · obtain ⟨w, hw⟩ := s.dom ha; rw [z] at hw; cases hw
  refine ⟨I', F, R, g.rep, s.heap g.i1 g.sub (fun a ha => ?_) nF (fun a ps h => g.h1 a _ h) (fun a ps h1 h2 => by
    cases q : I' a with
    | none => rfl
    | some u =>
      rcases g.i' a u q with z | z
      · rw [h2] at z; cases z
      · rw [h1] at z; cases z), g.nI, fun a ha hr => ?_, Step.of4 g.i1 (fun a u h _ => g.h1 a u h) (fun a h => ?_) (fun a u h => ?_)⟩
  · obtain ⟨w, hw⟩ := s.domO ha; rw [hw, g.h1 a w hw]
  · obtain ⟨w, hw⟩ := s.domO ha; rw [g.fresh a hr] at hw; cases hw
  · rcases h with h | h
    · exact .inl h
    · exact .inr (g.fresh a h)
  · rcases g.i' a u h with z | z
    · exact .inl z
    · exact .inr (.inr z)
/-- the operation r of HandS does on data what f tells -/
def OpS (K : PySem.W.Frag) (r : List V → Hp → VK → Prop) (f : List PyData → Option O) : Prop :=
  ∀ (vs : List V) (ds : List PyData) (I H : Hp) (Q : VK) (o : O), Same I H → RpSs K I H vs ds → f ds = some o → (∀ v H' I' R, Grow K I H I' H' o v R → Q v H') → r vs H Q
def fOp (f : List PyData → Option O) (as : List AF) : EF := fun env => evA as env >>= fun r => match rsvs r.2 r.1 with
  | none => .no
  | some ds => match f ds with
    | none => .no
    | some o => .ok (o, r.2)
end Dy
namespace Dy
open PySem PySem.Spec PyProof.Rows L2
section
variable {g : G} {X : Cx} {a b c e : Expr} {es : List Expr} {pos : Pos}
theorem op_key {r : List V → Hp → VK → Prop} {f : List PyData → Option O} {as : List AF} {σ : St} {H : Hp} {Q : VK} (ops : OpS g.K r f) (h : tD g (fOp f as) σ H Q) : tA g as σ H fun vs H' => r vs H' Q := by
  obtain ⟨I, env, F, s, p⟩ := h
  refine ⟨I, env, F, s, ?_⟩
  unfold fOp at p
  cases q : evA as env with
  | no => rw [q] at p; exact p
  | er x => rw [q] at p; exact p
  | ok y =>
    rw [q, bind_ok] at p
    cases q2 : rsvs y.2 y.1 with
    | none => rw [q2] at p; exact p.elim
    | some ds =>
      cases q3 : f ds with
      | none => simp only [q2, q3] at p; exact p.elim
      | some o =>
        simp only [q2, q3] at p
        intro vs H' I' F' s' st av
        exact ops vs ds I' H' Q o s'.sub (rsvs_rep s' av q2) q3 fun v H'' I'' R gr => p v H'' (Aft.trans st (gr.aft s'))
def two (r : R2) : List V → Hp → VK → Prop
  | [x, y], H, Q => r x y H Q
  | _, _, _ => False
theorem tA2 {x y : AF} {σ : St} {H : Hp} {R : List V → Hp → Prop} (h : tA g [x, y] σ H R) : tArg g x σ H fun v H1 => tArg g y σ H1 fun u H2 => R [v, u] H2 := by
  have := tA_cons h
  cases x with
  | v f =>
    obtain ⟨I, env, F, s, p⟩ := this
    refine ⟨I, env, F, s, ?_⟩
    cases q : f env with
    | no => rw [q] at p; exact p
    | er x => rw [q] at p; exact p
    | ok r =>
      rw [q] at p
      intro v H1 af
      have p2 := tA_cons (p v H1 af)
      cases y with
      | v f2 =>
        obtain ⟨I2, env2, F2, s2, p3⟩ := p2
        refine ⟨I2, env2, F2, s2, ?_⟩
        cases q2 : f2 env2 with
        | no => rw [q2] at p3; exact p3
        | er x => rw [q2] at p3; exact p3
        | ok r2 => rw [q2] at p3; intro v2 H2 af2; exact tA_nil (p3 v2 H2 af2)
      | s j =>
        obtain ⟨u, hu, p3⟩ := p2
        exact ⟨u, hu, tA_nil p3⟩
  | s i =>
    obtain ⟨v, hv, p⟩ := this
    refine ⟨v, hv, ?_⟩
    have p2 := tA_cons p
    cases y with
    | v f2 =>
      obtain ⟨I2, env2, F2, s2, p3⟩ := p2
      refine ⟨I2, env2, F2, s2, ?_⟩
      cases q2 : f2 env2 with
      | no => rw [q2] at p3; exact p3
      | er x => rw [q2] at p3; exact p3
      | ok r2 => rw [q2] at p3; intro v2 H2 af2; exact tA_nil (p3 v2 H2 af2)
    | s j =>
      obtain ⟨u, hu, p3⟩ := p2
      exact ⟨u, hu, tA_nil p3⟩
theorem tArg_mono {x : AF} {σ : St} {H : Hp} {Q Q' : VK} (h : tArg g x σ H Q) (i : ∀ v H', Q v H' → Q' v H') : tArg g x σ H Q' := by
  cases x with
  | v f =>
    obtain ⟨I, env, F, s, p⟩ := h
    refine ⟨I, env, F, s, ?_⟩
    cases q : f env with
    | no => rw [q] at p; exact p
    | er x => rw [q] at p; exact p
    | ok r => rw [q] at p; exact fun v H' af => i _ _ (p v H' af)
  | s j =>
    obtain ⟨v, hv, q⟩ := h
    exact ⟨v, hv, i _ _ q⟩
theorem tA1 {x : AF} {σ : St} {H : Hp} {R : List V → Hp → Prop} (h : tA g [x] σ H R) : tArg g x σ H fun v H1 => R [v] H1 := tArg_mono (tA_cons h) fun _ _ q => tA_nil q
/-- a built-in function, a built-in type called -/
theorem de_callB {id : String} {x : Str} {p : Pos} {r : List V → Hp → VK → Prop} {f : List PyData → Option O} {as : List AF} (hc : CallR X (.builtin id) r) (ops : OpS g.K r f) (hg : Gl X x) (hm : X.mg x = none) (hv : bootBuiltins x = some (.builtin id)) (ha : DA g X (e :: es) as)
    (hn : x ≠ "__name__" := by decide) (hdb : (x == ("__debug__" : Str)) = false := by decide) (he : starEach (e :: es) X.env = (false, eval e X.env) :: starEach es X.env := by rfl) (hpl : (backTo pos (starEach es X.env)).any (·.1) = false := by rfl) :
    DE g X (.Call (.Name x p) (e :: es) [] pos) (fOp f as) := PE.imp (pe_callB hc hg hm hv ha hn hdb he hpl) fun σ H Q h => op_key ops h
theorem de_callTy {T : String} {x : Str} {p : Pos} {r : List V → Hp → VK → Prop} {f : List PyData → Option O} {as : List AF} (hc : CallR X (.type T) r) (ops : OpS g.K r f) (hg : Gl X x) (hm : X.mg x = none) (hv : bootBuiltins x = some (.type T)) (ha : DA g X (e :: es) as)
    (hn : x ≠ "__name__" := by decide) (hdb : (x == ("__debug__" : Str)) = false := by decide) (he : starEach (e :: es) X.env = (false, eval e X.env) :: starEach es X.env := by rfl) (hpl : (backTo pos (starEach es X.env)).any (·.1) = false := by rfl) :
    DE g X (.Call (.Name x p) (e :: es) [] pos) (fOp f as) := PE.imp (pe_callTy hc hg hm hv ha hn hdb he hpl) fun σ H Q h => op_key ops h
/-- a op b; a cmp b; a[b]; op a -/
theorem de_op {op : Operator} {r : R2} {f : List PyData → Option O} {x y : AF} (ho : OpR X (binaryOp op) r) (ops : OpS g.K (two r) f) (ha : DX g X a x) (hb : DX g X b y) : DE g X (.BinOp a op b pos) (fOp f [x, y]) :=
  PE.imp (pe_op ho ha hb) fun σ H Q h => tA2 (op_key ops h)
theorem de_cmp {op : CmpOp} {r : R2} {f : List PyData → Option O} {x y : AF} (ho : OpR X (compareOp op) r) (ops : OpS g.K (two r) f) (ha : DX g X a x) (hb : DX g X b y) (hm : behindInMarks op b = false) : DE g X (.Compare a [op] [b] pos) (fOp f [x, y]) :=
  PE.imp (pe_cmpR ho ha hb hm) fun σ H Q h => tA2 (op_key ops h)
theorem de_ix {r : R2} {f : List PyData → Option O} {x y : AF} (ho : IxR X r) (ops : OpS g.K (two r) f) (ha : DX g X a x) (hb : DX g X b y) (hs : PlainIx b) : DE g X (.Subscript a b pos) (fOp f [x, y]) :=
  PE.imp (pe_ix ho ha hb hs) fun σ H Q h => tA2 (op_key ops h)
theorem de_un {op : UnaryOp} {r : V → Hp → VK → Prop} {f : List PyData → Option O} {x : AF} (ho : UnR X (unaryOp op) r) (ops : OpS g.K (one r) f) (ha : DX g X a x) : DE g X (.UnaryOp op a pos) (fOp f [x]) :=
  PE.imp (pe_un ho ha) fun σ H Q h => tA1 (op_key ops h)
/-- arguments that are all data -/
def dvs : List AV → Option (List PyData)
  | [] => some []
  | .d x :: as => (dvs as).map (x :: ·)
  | .s _ :: _ => none
theorem dvs_rep {K : PySem.W.Frag} {I : Hp} {σ : St} : ∀ {as : List AV} {vs : List V} {ds : List PyData}, RepAV K I σ as vs → dvs as = some ds → RpAll K I vs ds
  | _, _, _, .nil, h => by cases h; exact .nil
  | _, _, _, .d (as := as) r t, h => by
    unfold dvs at h
    cases q : dvs as with
    | none => rw [q] at h; cases h
    | some es => rw [q] at h; cases h; exact .cons r (dvs_rep t q)
  | _, _, _, .s _ _, h => by cases h
def OpV (K : PySem.W.Frag) (r : List V → Hp → VK → Prop) (f : List PyData → Option O) : Prop :=
  ∀ (vs : List V) (ds : List PyData) (I H : Hp) (Q : VK) (o : O), Same I H → RpAll K I vs ds → f ds = some o → (∀ v H' I' R, Grow K I H I' H' o v R → Q v H') → r vs H Q
def fOv (f : List PyData → Option O) (as : List AF) : EF := fun env => evA as env >>= fun r => match dvs r.1 with
  | none => .no
  | some ds => match f ds with
    | none => .no
    | some o => .ok (o, r.2)
theorem ov_key {r : List V → Hp → VK → Prop} {f : List PyData → Option O} {as : List AF} {σ : St} {H : Hp} {Q : VK} (ops : OpV g.K r f) (h : tD g (fOv f as) σ H Q) : tA g as σ H fun vs H' => r vs H' Q := by
  obtain ⟨I, env, F, s, p⟩ := h
  refine ⟨I, env, F, s, ?_⟩
  unfold fOv at p
  cases q : evA as env with
  | no => rw [q] at p; exact p
  | er x => rw [q] at p; exact p
  | ok y =>
    rw [q, bind_ok] at p
    cases q2 : dvs y.1 with
    | none => rw [q2] at p; exact p.elim
    | some ds =>
      cases q3 : f ds with
      | none => simp only [q2, q3] at p; exact p.elim
      | some o =>
        simp only [q2, q3] at p
        intro vs H' I' F' s' st av
        exact ops vs ds I' H' Q o s'.sub (dvs_rep av q2) q3 fun v H'' I'' R gr => p v H'' (Aft.trans st (gr.aft s'))
/-- displays -/
def pTup (ds : List PyData) : Option O := if ds.length ≤ 100000 then some (.fr (.tuple ds)) else none
def pLst (ds : List PyData) : Option O := if ds.length ≤ 100000 then some (.ol ds) else none
/-- a new tuple is laid, plain -/
theorem ep_newT {X : Cx} {pins : List (Addr × Obj)} {σ : St} {H : Hp} {s : Shared} {xs : List V} {its : List Value} {Q : VK} (I : Inv X pins σ H s) (hz : xs.length ≤ sizeLine) (r : Vals xs its) (q : NewT H xs Q) :
    EP X pins σ Q (.ref s.heap.objs.size) { s with heap := s.heap.push { cls := .type "tuple", data := .seq its.toArray } } := by
  refine ⟨.ref s.heap.objs.size, upd H s.heap.objs.size (.frz { cls := .type "tuple", data := .seq its.toArray } (.tup xs)), I.laid (t' := s.toks) (fun b ob q => Heap.get?_push_of_some _ q) (Nat.le_refl _) ?_, rfl, q _ _ PlT.mk (I.hok.fresh (Nat.le_refl _))⟩
  exact ⟨Heap.get?_push_size _ rfl, hz, _, r, IsTup.new _ _⟩
/-- a tuple of written items, plain -/
def tTupP (t : TA) : TE := fun σ H Q => t σ H fun xs H1 => xs.length ≤ sizeLine ∧ NewT H1 xs Q
theorem pe_tupP {X : Cx} {es : List Expr} {t : TA} {pos : Pos} {x1} (h : PA X es t) : PE X (.Tuple es x1 pos) (tTupP t) := by
  refine ⟨fun pins s σ H Q I hq => ?_⟩
  refine wpAny_Tuple_spliced (thn (h.run pos pins s σ H _ I hq) fun us s1 ⟨xs, H1, I1, r, z, q⟩ => ⟨by rw [← r.length]; exact z, ?_⟩)
  have hf : H1 s1.heap.objs.size = none := I1.hok.fresh (Nat.le_refl _)
  refine ⟨.ref s1.heap.objs.size, upd H1 s1.heap.objs.size (.frz { cls := .type "tuple", data := .seq us.toArray } (.tup xs)), I1.laid (t' := s1.toks) (fun b u e => Heap.get?_push_of_some _ e) (Nat.le_refl _) ?_, rfl, q _ _ PlT.mk hf⟩
  exact ⟨Heap.get?_push_size _ rfl, z, us, r, ⟨_, Heap.get?_push_size _ rfl, rfl, _, rfl⟩⟩
theorem ov_tup {K : PySem.W.Frag} : OpV K (fun xs H1 Q => xs.length ≤ sizeLine ∧ NewT H1 xs Q) pTup := fun vs ds I H Q o s r e k => by
  unfold pTup at e
  by_cases hz : ds.length ≤ 100000
  · rw [if_pos hz] at e; cases e
    exact ⟨by rw [r.length]; exact Nat.le_trans hz (by decide), fun p _ pl np => k _ _ _ _ (Grow.tup s pl np r)⟩
  · rw [if_neg hz] at e; cases e
theorem ov_lst {K : PySem.W.Frag} : OpV K (fun xs H1 Q => xs.length ≤ sizeLine ∧ ∀ p, H1 p = none → Q (.ref p) (upd H1 p (.lst xs))) pLst := fun vs ds I H Q o s r e k => by
  unfold pLst at e
  by_cases hz : ds.length ≤ 100000
  · rw [if_pos hz] at e; cases e
    exact ⟨by rw [r.length]; exact Nat.le_trans hz (by decide), fun p np => k _ _ _ _ (Grow.lst s np r)⟩
  · rw [if_neg hz] at e; cases e
theorem de_tup {x1} {as : List AF} (h : DA g X es as) : DE g X (.Tuple es x1 pos) (fOv pTup as) := PE.imp (pe_tupP h) fun σ H Q q => ov_key ov_tup q
theorem de_lst {as : List AF} (h : DA g X es as) : DE g X (.List es pos) (fOv pLst as) := PE.imp (pe_lst h) fun σ H Q q => ov_key ov_lst q
/-- (a, *b) -/
def seqOf : PyData → Option (List PyData)
  | .list xs => some xs
  | .tuple xs => some xs
  | _ => none
def on1 (f : PyData → Option O) : List PyData → Option O
  | [a] => f a
  | _ => none
def on2 (f : PyData → PyData → Option O) : List PyData → Option O
  | [a, b] => f a b
  | _ => none
theorem ops1 {K : PySem.W.Frag} {r : V → Hp → VK → Prop} {f : PyData → Option O} (h : ∀ (v : V) (d : PyData) (I H : Hp) (Q : VK) (o : O), Same I H → RpS K I H v d → f d = some o → (∀ v H' I' R, Grow K I H I' H' o v R → Q v H') → r v H Q) : OpS K (one r) (on1 f) := by
  intro vs ds I H Q o s q e k
  match vs, ds, q with
  | _, _, .nil => simp [on1] at e
  | _, _, .cons q1 .nil => exact h _ _ I H Q o s q1 e k
  | _, _, .cons _ (.cons _ _) => simp [on1] at e
theorem ops2 {K : PySem.W.Frag} {r : R2} {f : PyData → PyData → Option O} (h : ∀ (v u : V) (d e : PyData) (I H : Hp) (Q : VK) (o : O), Same I H → RpS K I H v d → RpS K I H u e → f d e = some o → (∀ v H' I' R, Grow K I H I' H' o v R → Q v H') → r v u H Q) : OpS K (two r) (on2 f) := by
  intro vs ds I H Q o s q e k
  match vs, ds, q with
  | _, _, .nil => simp [on2] at e
  | _, _, .cons _ .nil => simp [on2] at e
  | _, _, .cons q1 (.cons q2 .nil) => exact h _ _ _ _ I H Q o s q1 q2 e k
  | _, _, .cons _ (.cons _ (.cons _ _)) => simp [on2] at e
def isL : PyData → Bool
  | .list _ => true
  | .dict _ => true
  | _ => false
def pStar (d x : PyData) : Option O := if isL d then none else match seqOf x with
  | some xs => if xs.length < 100000 then some (.fr (.tuple (d :: xs))) else none
  | none => none
theorem rps_rp {K : PySem.W.Frag} {I H : Hp} {v : V} {d : PyData} (h : RpS K I H v d) (n : isL d = false) : Rp K I v d := by
  rcases h with h | ⟨a, vs, ds, rfl, rfl, h1, h2⟩ | ⟨a, es, rfl, rfl, h1⟩
  · exact h
  · cases n
  · cases n
theorem rps_seq {K : PySem.W.Frag} {I H : Hp} {v : V} {d : PyData} {xs : List PyData} (s : Same I H) (h : RpS K I H v d) (e : seqOf d = some xs) : ∃ p vs, v = .ref p ∧ (SqT K H p vs ∨ SqL K H p vs) ∧ RpAll K I vs xs := by
  rcases h with h | ⟨a, vs, ds, rfl, rfl, h1, h2⟩ | ⟨a, es, rfl, rfl, h1⟩
  · cases h with
    | lst h1 h2 => cases e; exact ⟨_, _, rfl, .inr (h1.mono s).sq, h2⟩
    | tup h1 h2 => cases e; exact ⟨_, _, rfl, .inl (same_t s h1.sq), h2⟩
    | non => cases e
    | bl => cases e
    | int => cases e
    | str => cases e
    | dic => cases e
    | dit => cases e
  · cases e; exact ⟨_, _, rfl, .inr (SqL.of h1), h2⟩
  · cases e
end
end Dy
namespace Dy
open PySem PySem.Spec PyProof.Rows L2
theorem post_bind {α β : Type} {r : Res α} {k : α → Res β} {P : β → Prop} {E : Exn → Prop} : (r >>= k).post P E ↔ r.post (fun a => (k a).post P E) E := by
  cases r <;> exact Iff.rfl
theorem post_mono {α : Type} {r : Res α} {P P' : α → Prop} {E E' : Exn → Prop} (h : r.post P E) (hp : ∀ a, P a → P' a) (he : ∀ x, E x → E' x) : r.post P' E' := by
  cases r with
  | ok a => exact hp a h
  | er x => exact he x h
  | no => exact h
section
variable {g : G} {X : Cx} {a b c e : Expr} {es : List Expr} {pos : Pos} {σ : St} {H I : Hp} {env : Env} {F : Nat → List Addr}
theorem tD_seq {f : EF} {β : Type} {k : O × Env → Res β} {P : β → Prop} {Q : VK} (s : Sim g.K g.pn I H σ env F) (p : (f env >>= k).post P (g.err I H F))
    (h : ∀ r v H1, Aft g.K g.pn I H F σ r.2 r.1 v H1 → (k r).post P (g.err I H F) → Q v H1) : tD g f σ H Q :=
  ⟨I, env, F, s, post_mono (post_bind.mp p) (fun r q v H1 af => h r v H1 af q) fun _ z => z⟩
theorem tT_seq {f : TF} {β : Type} {k : Bool × Env → Res β} {P : β → Prop} {Q : Bool → Hp → Prop} (s : Sim g.K g.pn I H σ env F) (p : (f env >>= k).post P (g.err I H F))
    (h : ∀ r H1, AftS g.K g.pn I H F σ r.2 H1 → (k r).post P (g.err I H F) → Q r.1 H1) : tT g f σ H Q :=
  ⟨I, env, F, s, post_mono (post_bind.mp p) (fun r q H1 af => h r H1 af q) fun _ z => z⟩
def fB (f : EF) : TF := fun env => f env >>= fun r => match r.1 with
  | .fr (.bool b) => .ok (b, r.2)
  | _ => .no
theorem tB_key {f : EF} {Q : Bool → Hp → Prop} (h : tT g (fB f) σ H Q) : tD g f σ H fun x H1 => ∃ k, x = .bl k ∧ Q k H1 := by
  obtain ⟨I, env, F, s, p⟩ := h
  refine tD_seq s p fun r v H1 af q => ?_
  obtain ⟨o, e⟩ := r
  cases o with
  | ol _ => exact q.elim
  | oo _ => exact q.elim
  | od _ => exact q.elim
  | fr d =>
    cases d with
    | bool b =>
      obtain ⟨I', F', rp, s', st⟩ := af.frz
      cases rp
      exact ⟨b, rfl, q H1 ⟨I', F', s', st⟩⟩
    | _ => exact q.elim
theorem dt_val {f : EF} (h : DE g X e f) (he : ∀ whole, isTrue e X.env whole = (do let v ← whole; standAt e.pos; holding [v] (truthy v)) := by intro _; rfl) : DT g X e (fB f) :=
  PT.imp (pt_val h he) fun σ H Q q => tB_key q
theorem dt_cmp {op : CmpOp} {r : R2} {f : List PyData → Option O} {x y : AF} (ho : OpR X (compareOp op) r) (ops : OpS g.K (two r) f) (ha : DX g X a x) (hb : DX g X b y) (hm : behindInMarks op b = false) : DT g X (.Compare a [op] [b] pos) (fB (fOp f [x, y])) :=
  PT.imp (pt_cmpR ho ha hb hm) fun σ H Q h => tA2 (op_key ops (tB_key h))
def fNot (t : TF) : TF := fun env => t env >>= fun r => .ok (!r.1, r.2)
theorem dt_not {t : TF} (h : DT g X a t) : DT g X (.UnaryOp .Not a pos) (fNot t) := PT.imp (pt_not h) fun σ H Q q => by
  obtain ⟨I, env, F, s, p⟩ := q
  exact tT_seq s p fun r H1 af q => q H1 af
def fAndT (t u : TF) : TF := fun env => t env >>= fun r => if r.1 = true then u r.2 else .ok (false, r.2)
def fOrT (t u : TF) : TF := fun env => t env >>= fun r => if r.1 = true then .ok (true, r.2) else u r.2
theorem AftS.go {P : Prop} {H1 : Hp} {env' : Env} (af : AftS g.K g.pn I H F σ env' H1) (h : ∀ I1 F1, Sim g.K g.pn I1 H1 σ env' F1 → Step I H (Ow F) I1 H1 (Ow F1) → P) : P := let ⟨I1, F1, s, st⟩ := af; h I1 F1 s st
theorem dw_or1 {t : TF} (h : DT g X a t) : DW g X (.BoolOp .Or [a] pos) t := pw_or1 h
theorem tT_again {u : TF} {Q : Bool → Hp → Prop} {H1 : Hp} {env' : Env} (af : AftS g.K g.pn I H F σ env' H1) (p : (u env').post (fun r => ∀ H', AftS g.K g.pn I H F σ r.2 H' → Q r.1 H') (g.err I H F)) : tT g u σ H1 Q :=
  af.go fun I1 F1 s1 st => ⟨I1, env', F1, s1, post_mono p (fun r q H' af' => q H' (AftS.trans st af')) fun x z => err_step st z⟩
theorem tD_again {f : EF} {Q : VK} {H1 : Hp} {env' : Env} (af : AftS g.K g.pn I H F σ env' H1) (p : (f env').post (fun r => ∀ v H', Aft g.K g.pn I H F σ r.2 r.1 v H' → Q v H') (g.err I H F)) : tD g f σ H1 Q :=
  af.go fun I1 F1 s1 st => ⟨I1, env', F1, s1, post_mono p (fun r q v H' af' => q v H' (Aft.trans st af')) fun x z => err_step st z⟩
theorem dw_or {t u : TF} (ha : DT g X a t) (hb : DW g X (.BoolOp .Or (b :: es) pos) u) : DW g X (.BoolOp .Or (a :: b :: es) pos) (fOrT t u) := PW.imp (pw_or ha hb) fun σ H Q h => by
  obtain ⟨I, env, F, s, p⟩ := h
  refine tT_seq s p fun r H1 af q => ?_
  by_cases hr : r.1 = true
  · rw [if_pos hr] at q ⊢; exact q H1 af
  · rw [if_neg hr] at q ⊢; exact tT_again af q
theorem dw_t {t : TF} (h : DW g X e t) : DT g X e t := PW.pt h
def fAnd (f k : EF) : EF := fun env => fB f env >>= fun r => if r.1 = true then k r.2 else .ok (.fr (.bool false), r.2)
def fOr (f k : EF) : EF := fun env => fB f env >>= fun r => if r.1 = true then .ok (.fr (.bool true), r.2) else k r.2
theorem de_one {op} {f : EF} (h : DE g X a f) : DE g X (.BoolOp op [a] pos) f := pe_one h
theorem tB_seq {f : EF} {β : Type} {k : Bool × Env → Res β} {P : β → Prop} {Q : VK} (s : Sim g.K g.pn I H σ env F) (p : (fB f env >>= k).post P (g.err I H F))
    (h : ∀ r H1, AftS g.K g.pn I H F σ r.2 H1 → (k r).post P (g.err I H F) → Q (.bl r.1) H1) : tD g f σ H Q := by
  refine tD_seq (k := fun r => (match r.1 with | .fr (.bool b) => Res.ok (b, r.2) | _ => .no) >>= k) s (by
    unfold fB at p
    rw [post_bind] at p ⊢
    rw [post_bind] at p
    exact post_mono p (fun r q => post_bind.mpr q) fun _ z => z) fun r v H1 af q => ?_
  obtain ⟨o, e⟩ := r
  cases o with
  | ol _ => exact q.elim
  | oo _ => exact q.elim
  | od _ => exact q.elim
  | fr d =>
    cases d with
    | bool b =>
      obtain ⟨I', F', rp, s', st⟩ := af.frz
      cases rp
      exact h (b, e) H1 ⟨I', F', s', st⟩ q
    | _ => exact q.elim
theorem rbl {K : PySem.W.Frag} {I : Hp} {b : Bool} : Rp K I (.bl b) (.bool b) := .bl b
theorem AftS.val {H1 : Hp} {env' : Env} {d : PyData} {v : V} (af : AftS g.K g.pn I H F σ env' H1) (r : ∀ I, Rp g.K I v d) : Aft g.K g.pn I H F σ env' (.fr d) v H1 :=
  af.go fun I1 F1 s1 st => AftD.aft ⟨I1, F1, r I1, s1, st⟩
theorem de_and {f k : EF} (ha : DE g X a f) (hb : DE g X (.BoolOp .And (b :: es) pos) k) : DE g X (.BoolOp .And (a :: b :: es) pos) (fAnd f k) := PE.imp (pe_and ha hb) fun σ H Q h => by
  obtain ⟨I, env, F, s, p⟩ := h
  refine tB_seq s p fun r H1 af q => ⟨r.1, rfl, ?_⟩
  by_cases hr : r.1 = true
  · rw [if_pos hr] at q ⊢; exact tD_again af q
  · rw [if_neg hr] at q ⊢; exact q _ H1 (af.val fun _ => rbl)
def fNotV (f : EF) : EF := fun env => fB f env >>= fun r => .ok (.fr (.bool (!r.1)), r.2)
theorem de_not {f : EF} (ha : DE g X a f) : DE g X (.UnaryOp .Not a pos) (fNotV f) := PE.imp (pe_not ha) fun σ H Q h => by
  obtain ⟨I, env, F, s, p⟩ := h
  exact tB_seq s p fun r H1 af q => ⟨r.1, rfl, q _ H1 (af.val fun _ => rbl)⟩
def fIf (t : TF) (f k : EF) : EF := fun env => t env >>= fun r => if r.1 = true then f r.2 else k r.2
theorem de_if {t : TF} {f k : EF} (hc : DT g X c t) (ha : DE g X a f) (hb : DE g X b k) : DE g X (.IfExp c a b pos) (fIf t f k) := PE.imp (pe_ifExp hc ha hb) fun σ H Q h => by
  obtain ⟨I, env, F, s, p⟩ := h
  refine tT_seq s p fun r H1 af q => ?_
  by_cases hr : r.1 = true
  · rw [if_pos hr] at q ⊢; exact tD_again af q
  · rw [if_neg hr] at q ⊢; exact tD_again af q
/-- a < b < c of ints -/
def ints2 : Option (List PyData) → Option (Int × Int)
  | some [.int i, .int j] => some (i, j)
  | _ => none
def ints1 : Option (List PyData) → Option Int
  | some [.int i] => some i
  | _ => none
theorem ints2_inv {x : Option (List PyData)} {i j : Int} (h : ints2 x = some (i, j)) : x = some [.int i, .int j] := by
  unfold ints2 at h
  split at h
  · cases h; rfl
  · cases h
theorem ints1_inv {x : Option (List PyData)} {i : Int} (h : ints1 x = some i) : x = some [.int i] := by
  unfold ints1 at h
  split at h
  · cases h; rfl
  · cases h
def fChI (c1 c2 : Int → Int → Bool) (x y z : AF) : EF := fun env => evA [x, y] env >>= fun r => match ints2 (rsvs r.2 r.1) with
  | some ij => if c1 ij.1 ij.2 = true then evA [z] r.2 >>= fun q => match ints1 (rsvs q.2 q.1) with
      | some k => .ok (.fr (.bool (c2 ij.2 k)), q.2)
      | none => .no
    else .ok (.fr (.bool false), r.2)
  | none => .no
theorem ch_key {c1 c2 : Int → Int → Bool} {x y z : AF} {Q : VK} (h : tD g (fChI c1 c2 x y z) σ H Q) : tArg g x σ H fun v H1 => tArg g y σ H1 fun u H2 => rI0 (fun i j => .bl (c1 i j)) v u H2 fun w H3 => ∃ k, w = .bl k ∧
    (if k = true then tArg g z σ H3 fun w' H4 => rI0 (fun i j => .bl (c2 i j)) u w' H4 Q else Q (.bl false) H3) := by
  obtain ⟨I, env, F, s, p⟩ := h
  have key : tA g [x, y] σ H (fun vs H2 => ∃ v u, vs = [v, u] ∧ rI0 (fun i j => .bl (c1 i j)) v u H2 fun w H3 => ∃ k, w = .bl k ∧ (if k = true then tArg g z σ H3 fun w' H4 => rI0 (fun i j => .bl (c2 i j)) u w' H4 Q else Q (.bl false) H3)) := by
    refine ⟨I, env, F, s, post_mono (post_bind.mp p) (fun r q vs H' I' F' s' st av => ?_) fun _ z => z⟩
    cases q2 : ints2 (rsvs r.2 r.1) with
    | none => simp only [q2] at q; exact q.elim
    | some ij =>
      obtain ⟨i, j⟩ := ij
      simp only [q2] at q
      have rr := rsvs_rep s' av (ints2_inv q2)
      match vs, rr with
      | _, .cons r1 (.cons r2 .nil) =>
        cases rpss_int r1
        cases rpss_int r2
        refine ⟨_, _, rfl, i, j, rfl, rfl, c1 i j, rfl, ?_⟩
        by_cases hc : c1 i j = true
        · rw [if_pos hc] at q ⊢
          refine tArg_mono (tA1 (R := fun vs H4 => ∃ w', vs = [w'] ∧ rI0 (fun i j => .bl (c2 i j)) (V.int j) w' H4 Q) ⟨I', r.2, F', s', post_mono (post_bind.mp q) (fun r3 q3 vs3 H3 I3 F3 s3 st3 av3 => ?_) fun x zz => err_step st zz⟩) fun w' H4 ⟨_, e4, q4⟩ => by cases e4; exact q4
          cases q5 : ints1 (rsvs r3.2 r3.1) with
          | none => simp only [q5] at q3; exact q3.elim
          | some k =>
            simp only [q5] at q3
            have rr3 := rsvs_rep s3 av3 (ints1_inv q5)
            match vs3, rr3 with
            | _, .cons r1 .nil =>
              cases rpss_int r1
              exact ⟨_, rfl, j, k, rfl, rfl, q3 _ H3 (AftS.val ⟨I3, F3, s3, st.trans st3⟩ fun _ => rbl)⟩
        · rw [if_neg hc] at q ⊢
          exact q _ H' (AftS.val ⟨I', F', s', st⟩ fun _ => rbl)
  refine tArg_mono (tA2 key) fun v H1 q => tArg_mono q fun u H2 q => ?_
  obtain ⟨v', u', e, q⟩ := q
  cases e
  exact q
theorem de_chI {op op' : CmpOp} {c1 c2 : Int → Int → Bool} {x y z : AF} (ho : OpR X (compareOp op) (rI0 fun i j => .bl (c1 i j))) (ho' : OpR X (compareOp op') (rI0 fun i j => .bl (c2 i j))) (h : ∀ {ta tb tc : TE}, PE X a ta → PE X b tb → PE X c tc → PE X e (tChain (rI0 fun i j => .bl (c1 i j)) (rI0 fun i j => .bl (c2 i j)) ta tb tc))
    (ha : DX g X a x) (hb : DX g X b y) (hc : DX g X c z) : DE g X e (fChI c1 c2 x y z) := PE.imp (h ha hb hc) fun σ H Q q => ch_key q
theorem dt_chI {c1 c2 : Int → Int → Bool} {x y z : AF} (h : ∀ {ta tb tc : TE}, PE X a ta → PE X b tb → PE X c tc → PT X e (tTest (tChain (rI0 fun i j => .bl (c1 i j)) (rI0 fun i j => .bl (c2 i j)) ta tb tc)))
    (ha : DX g X a x) (hb : DX g X b y) (hc : DX g X c z) : DT g X e (fB (fChI c1 c2 x y z)) := PT.imp (h ha hb hc) fun σ H Q q => ch_key (tB_key q)
variable {st : Stmt} {rest : List Stmt} {D : Ends}
theorem FlP_step {I1 H1 : Hp} {F1 : Nat → List Addr} {r : Fl × Env} (st : Step I H (Ow F) I1 H1 (Ow F1)) (h : FlP g D I H F r) : FlP g D I1 H1 F1 r := by
  obtain ⟨fl, e⟩ := r
  cases fl with
  | nx => exact fun σ' H' af => h σ' H' (AftS.trans st af)
  | bk => exact fun σ' H' af => h σ' H' (AftS.trans st af)
  | ct => exact fun σ' H' af => h σ' H' (AftS.trans st af)
  | rt o => exact fun v σ' H' af => h v σ' H' (Aft.trans st af)
def fSeq (s t : SF) : SF := fun env => s env >>= fun r => match r.1 with
  | .nx => t r.2
  | _ => .ok r
def fSkip : SF := fun env => .ok (.nx, env)
def fNo : SF := fun _ => .no
theorem dss_nil : DSs g X [] fSkip := PSs.imp pss_nil fun D σ H h => by
  obtain ⟨I, env, F, s, p⟩ := h
  exact p σ H ⟨I, F, s, Step.refl⟩
theorem dss_one {f : SF} (h : DS g X st f) : DSs g X [st] f := pss_one h
theorem tS_again {f : SF} {σ' : St} {H1 : Hp} {env' : Env} (af : AftS g.K g.pn I H F σ' env' H1) (p : (f env').post (FlP g D I H F) (g.err I H F)) : tS g f D σ' H1 := by
  obtain ⟨I1, F1, s, st⟩ := af
  exact ⟨I1, env', F1, s, post_mono p (fun r q => FlP_step st q) fun x z => err_step st z⟩
theorem dss_cons {f k : SF} (h1 : DS g X st f) (h2 : DSs g X rest k) : DSs g X (st :: rest) (fSeq f k) := PSs.imp (pss_cons h1 h2) fun D σ H h => by
  obtain ⟨I, env, F, s, p⟩ := h
  refine ⟨I, env, F, s, post_mono (post_bind.mp p) (fun r q => ?_) fun _ z => z⟩
  obtain ⟨fl, e⟩ := r
  cases fl with
  | nx => exact fun σ' H' af => tS_again af q
  | bk => exact q
  | ct => exact q
  | rt o => exact q
def fRet (f : EF) : SF := fun env => f env >>= fun r => .ok (.rt r.1, r.2)
theorem ds_ret {f : EF} (h : DE g X e f) : DS g X (.Return (some e) pos) (fRet f) := PS.imp (ps_ret h) fun D σ H h => by
  obtain ⟨I, env, F, s, p⟩ := h
  exact tD_seq s p fun r v H1 af q => q v σ H1 af
def fEx (f : EF) : SF := fun env => f env >>= fun r => .ok (.nx, r.2)
theorem ds_expr {f : EF} (h : DE g X e f) (hs : swapsWith e none pos.line X.env = pure false := by rfl) : DS g X (.Expr e pos) (fEx f) := PS.imp (ps_expr h hs) fun D σ H h => by
  obtain ⟨I, env, F, s, p⟩ := h
  exact tD_seq s p fun r v H1 af q => q σ H1 af.frz.toS
def fIfS (t : TF) (f k : SF) : SF := fun env => t env >>= fun r => if r.1 = true then f r.2 else k r.2
theorem ds_if {t : TF} {f k : SF} {s1 s2 : List Stmt} (hc : DT g X c t) (ha : DSs g X s1 f) (hb : DSs g X s2 k) : DS g X (.If c s1 s2 pos) (fIfS t f k) := PS.imp (ps_if hc ha hb) fun D σ H h => by
  obtain ⟨I, env, F, s, p⟩ := h
  refine tT_seq s p fun r H1 af q => ?_
  by_cases hr : r.1 = true
  · rw [if_pos hr] at q ⊢; exact tS_again af q
  · rw [if_neg hr] at q ⊢; exact tS_again af q
theorem ow_up {i : Nat} {R : List Addr} {x : Addr} (h : Ow (upF F i R) x) : Ow F x ∨ x ∈ R := by
  obtain ⟨j, hj⟩ := h
  by_cases e : j = i
  · subst e; rw [upF_same] at hj; exact .inr hj
  · rw [upF_ne e] at hj; exact .inl ⟨j, hj⟩
/-- what an expression gave is stored in slot i -/
theorem Aft.store {i : Nat} {o : O} {v : V} {H1 : Hp} {env' : Env} (hi : i < env'.length) (hp : i ∉ g.pn.1) (af : Aft g.K g.pn I H F σ env' o v H1) : AftS g.K g.pn I H F (σ.set i (some v)) (env'.set i (some o)) H1 := by
  obtain ⟨I', F', R, r, s, nR, dR, st⟩ := af
  refine ⟨I', upF F' i R, s.put hi (Same.refl _) s.sub (fun _ _ _ _ => rfl) (fun j _ a ha => s.djI j a ha) nR (fun j _ a ha => dR a ⟨j, ha⟩) (fun o' e => ?_) (fun e => by cases e) (fun h => absurd h hp), st.less fun a ha => ow_up ha⟩
  cases e; exact ⟨v, rfl, r⟩
def fSet (i : Nat) (f : EF) : SF := fun env => f env >>= fun r => if i < r.2.length then .ok (.nx, r.2.set i (some r.1)) else .no
theorem set_key {i : Nat} {f : EF} (hp : i ∉ g.pn.1) (h : tS g (fSet i f) D σ H) : tAsg (tD g f) (gName i) D σ H := by
  obtain ⟨I, env, F, s, p⟩ := h
  refine tD_seq s p fun r v H1 af q => ?_
  by_cases hi : i < r.2.length
  · rw [if_pos hi] at q; exact q _ _ (af.store hi hp)
  · rw [if_neg hi] at q; exact q.elim
theorem ds_set {i : Nat} {x : Str} {f : EF} {pos' : Pos} (hN : X.N.Nodup) (hi : X.N[i]? = some x) (hx : Loc X.env.scope x) (hp : i ∉ g.pn.1) (he : DE g X e f) (hs : swapsWith e (some (.Name x pos')) pos.line X.env = pure false := by rfl)
    (hf : X.fn x = true ∨ X.env.scope.names.lookup x = some .local := by first | exact .inl rfl | exact .inr rfl | assumption) : DS g X (.Assign [.Name x pos'] e pos) (fSet i f) := PS.imp (ps_set hN hi hx he hs hf) fun D σ H h => set_key hp h
inductive T1 where
  | n (i : Nat)
  | t (is : List Nat)
def T1.slots : T1 → List Nat
  | .n i => [i]
  | .t is => is
inductive Tg where
  | nm (i : Nat)
  | tu (is : List Nat)
  | tl (is : List Nat)
  | tw (ts : List T1)
def gNames : List Nat → TGs
  | [] => gNil
  | i :: is => gCons (gName i) (gNames is)
def gW (K : PySem.W.Frag) : List T1 → TGs
  | [] => gNil
  | .n i :: ts => gCons (gName i) (gW K ts)
  | .t is :: ts => gCons (gTup K is.length (gNames is)) (gW K ts)
def rdT (K : PySem.W.Frag) : Tg → TG
  | .nm i => gName i
  | .tu is => gTup K is.length (gNames is)
  | .tl is => gUnl K is.length (gNames is)
  | .tw ts => gTup K ts.length (gW K ts)
def Tg.slots : Tg → List Nat
  | .nm i => [i]
  | .tu is => is
  | .tl is => is
  | .tw ts => ts.flatMap T1.slots
def setAll : List Nat → List PyData → Env → Option Env
  | [], [], e => some e
  | i :: is, d :: ds, e => if i < e.length then setAll is ds (e.set i (some (.fr d))) else none
  | _, _, _ => none
def setW : List T1 → List PyData → Env → Option Env
  | [], [], e => some e
  | .n i :: ts, d :: ds, e => if i < e.length then setW ts ds (e.set i (some (.fr d))) else none
  | .t is :: ts, .tuple xs :: ds, e => match setAll is xs e with
    | some e' => setW ts ds e'
    | none => none
  | _, _, _ => none
def asT : Tg → PyData → Env → Res Env
  | .nm i, d, e => ofO (setAll [i] [d] e)
  | .tu is, .tuple ds, e => ofO (setAll is ds e)
  | .tl is, .list ds, e => ofO (setAll is ds e)
  | .tw ts, .tuple ds, e => ofO (setW ts ds e)
  | _, _, _ => .no
/-- σ' is σ but for some slots -/
def Only' (is : List Nat) (σ σ' : St) : Prop := σ'.length = σ.length ∧ ∀ i, i ∉ is → σ'[i]? = σ[i]?
theorem names_key : ∀ (is : List Nat) {vs : List V} {ds : List PyData} {σ : St} {env env' : Env} {F : Nat → List Addr} {I H : Hp} {Q : St → Hp → Prop}, (∀ i ∈ is, i ∉ g.pn.1) → Sim g.K g.pn I H σ env F → RpAll g.K I vs ds → setAll is ds env = some env' →
    (∀ σ' F', Only' is σ σ' → Sim g.K g.pn I H σ' env' F' → (∀ a, Ow F' a → Ow F a) → Q σ' H) → gNames is vs σ H Q
  | [], _, _, σ, env, env', F, I, H, Q, _, s, .nil, e, k => by cases e; exact ⟨rfl, k σ F ⟨rfl, fun _ _ => rfl⟩ s fun _ z => z⟩
  | [], _, _, _, _, _, _, _, _, _, _, _, .cons _ _, e, _ => by cases e
  | _ :: _, _, _, _, _, _, _, _, _, _, _, _, .nil, e, _ => by cases e
  | i :: is, _, _, σ, env, env', F, I, H, Q, hp, s, .cons (v := v) (d := d) r t, e, k => by
    unfold setAll at e
    by_cases hi : i < env.length
    · rw [if_pos hi] at e
      refine ⟨v, _, rfl, ?_⟩
      have s1 : Sim g.K g.pn I H (σ.set i (some v)) (env.set i (some (.fr d))) (upF F i []) := s.put hi (Same.refl _) s.sub (fun _ _ _ _ => rfl) (fun j _ a ha => s.djI j a ha) (fun _ h => nomatch h) (fun _ _ _ _ h => nomatch h) (fun o e => by cases e; exact ⟨v, rfl, rfl, r⟩) (fun e => by cases e) (fun h => absurd h (hp i (by simp)))
      refine names_key is (fun j hj => hp j (by simp [hj])) s1 t e fun σ' F' ho s' hF => k σ' F' ⟨by rw [ho.1, List.length_set], fun j hj => ?_⟩ s' fun a ha => ?_
      · simp only [List.mem_cons, not_or] at hj
        rw [ho.2 j hj.2, List.getElem?_set_ne (Ne.symm hj.1)]
      · rcases ow_up (hF a ha) with z | z
        · exact z
        · cases z
    · rw [if_neg hi] at e; cases e
theorem setAll_len : ∀ (is : List Nat) (ds : List PyData) (a b : Env), setAll is ds a = some b → ds.length = is.length := by
  intro is
  induction is with
  | nil => intro ds a b h; cases ds <;> simp [setAll] at h ⊢
  | cons i is ih =>
    intro ds a b h
    cases ds with
    | nil => simp [setAll] at h
    | cons d ds =>
      unfold setAll at h
      split at h
      · simp [ih _ _ _ h]
      · cases h
theorem setW_len : ∀ (ts : List T1) (ds : List PyData) (a b : Env), setW ts ds a = some b → ds.length = ts.length
  | [], [], _, _, _ => rfl
  | [], _ :: _, _, _, h => by simp [setW] at h
  | .n i :: ts, [], _, _, h => by simp [setW] at h
  | .t is :: ts, [], _, _, h => by simp [setW] at h
  | .n i :: ts, d :: ds, a, b, h => by
    unfold setW at h
    split at h
    · simp [setW_len ts ds _ _ h]
    · cases h
  | .t is :: ts, d :: ds, a, b, h => by
    cases d with
    | tuple xs =>
      simp only [setW] at h
      split at h
      · simp [setW_len ts ds _ _ h]
      · cases h
    | _ => simp [setW] at h
theorem w_key : ∀ (ts : List T1) {vs : List V} {ds : List PyData} {σ : St} {env env' : Env} {F : Nat → List Addr} {I H : Hp} {Q : St → Hp → Prop}, (∀ i ∈ ts.flatMap T1.slots, i ∉ g.pn.1) → Sim g.K g.pn I H σ env F → RpAll g.K I vs ds → setW ts ds env = some env' →
    (∀ σ' F', Only' (ts.flatMap T1.slots) σ σ' → Sim g.K g.pn I H σ' env' F' → (∀ a, Ow F' a → Ow F a) → Q σ' H) → gW g.K ts vs σ H Q
  | [], _, _, σ, env, env', F, I, H, Q, _, s, .nil, e, k => by cases e; exact ⟨rfl, k σ F ⟨rfl, fun _ _ => rfl⟩ s fun _ z => z⟩
  | [], _, _, _, _, _, _, _, _, _, _, _, .cons _ _, e, _ => by cases e
  | .n _ :: _, _, _, _, _, _, _, _, _, _, _, _, .nil, e, _ => by cases e
  | .t _ :: _, _, _, _, _, _, _, _, _, _, _, _, .nil, e, _ => by cases e
  | .n i :: ts, _, _, σ, env, env', F, I, H, Q, hp, s, .cons (v := v) (d := d) r t, e, k => by
    unfold setW at e
    by_cases hi : i < env.length
    · rw [if_pos hi] at e
      refine ⟨v, _, rfl, ?_⟩
      have s1 : Sim g.K g.pn I H (σ.set i (some v)) (env.set i (some (.fr d))) (upF F i []) := s.put hi (Same.refl _) s.sub (fun _ _ _ _ => rfl) (fun j _ a ha => s.djI j a ha) (fun _ h => nomatch h) (fun _ _ _ _ h => nomatch h) (fun o e => by cases e; exact ⟨v, rfl, rfl, r⟩) (fun e => by cases e) (fun h => absurd h (hp i (by simp [T1.slots])))
      refine w_key ts (fun j hj => hp j (by rw [List.flatMap_cons]; exact List.mem_append_right _ hj)) s1 t e fun σ' F' ho s' hF => k σ' F' ⟨by rw [ho.1, List.length_set], fun j hj => ?_⟩ s' fun a ha => ?_
      · rw [List.flatMap_cons] at hj
        have h1 : j ≠ i := fun z => hj (List.mem_append_left _ (by simp [T1.slots, z]))
        rw [ho.2 j fun z => hj (List.mem_append_right _ z), List.getElem?_set_ne (Ne.symm h1)]
      · rcases ow_up (hF a ha) with z | z
        · exact z
        · cases z
    · rw [if_neg hi] at e; cases e
  | .t is :: ts, _, _, σ, env, env', F, I, H, Q, hp, s, .cons (v := v) (d := d) r t, e, k => by
    cases d with
    | tuple xs =>
      simp only [setW] at e
      cases q : setAll is xs env with
      | none => rw [q] at e; cases e
      | some e1 =>
        rw [q] at e
        cases r with
        | tup h1 h2 =>
          refine ⟨_, _, rfl, _, _, rfl, same_t s.sub h1.sq, by rw [h2.length]; exact setAll_len _ _ _ _ q, names_key is (fun j hj => hp j (by rw [List.flatMap_cons]; exact List.mem_append_left _ hj)) s h2 q fun σ1 F1 ho1 s1 hF1 => ?_⟩
          refine w_key ts (fun j hj => hp j (by rw [List.flatMap_cons]; exact List.mem_append_right _ hj)) s1 t e fun σ' F' ho s' hF => k σ' F' ⟨by rw [ho.1, ho1.1], fun j hj => ?_⟩ s' fun a ha => hF1 a (hF a ha)
          rw [List.flatMap_cons] at hj
          rw [ho.2 j fun z => hj (List.mem_append_right _ z), ho1.2 j fun z => hj (List.mem_append_left _ z)]
    | _ => simp [setW] at e
theorem tg_key {t : Tg} {v : V} {d : PyData} {env' : Env} {Q : St → Hp → Prop} (hp : ∀ i ∈ t.slots, i ∉ g.pn.1) (s : Sim g.K g.pn I H σ env F) (r : Rp g.K I v d) (e : asT t d env = .ok env')
    (k : ∀ σ' F', Only' t.slots σ σ' → Sim g.K g.pn I H σ' env' F' → (∀ a, Ow F' a → Ow F a) → Q σ' H) : rdT g.K t v σ H Q := by
  have ofs : ∀ {x : Option Env}, ofO x = .ok env' → x = some env' := fun {x} h => by cases x <;> cases h; rfl
  cases t with
  | nm i =>
    have := names_key [i] hp s (.cons r .nil) (ofs e) k
    obtain ⟨v', r', e1, q⟩ := this
    cases e1
    exact q.2
  | tu is =>
    cases r with
    | tup h1 h2 =>
      have e := ofs e
      have hl : ∀ (is : List Nat) (ds : List PyData) (a b : Env), setAll is ds a = some b → ds.length = is.length := by
        intro is
        induction is with
        | nil => intro ds a b h; cases ds <;> simp [setAll] at h ⊢
        | cons i is ih =>
          intro ds a b h
          cases ds with
          | nil => simp [setAll] at h
          | cons d ds =>
            unfold setAll at h
            split at h
            · simp [ih _ _ _ h]
            · cases h
      exact ⟨_, _, rfl, same_t s.sub h1.sq, by rw [h2.length]; exact hl _ _ _ _ e, names_key is hp s h2 e k⟩
    | _ => cases e
  | tl is =>
    cases r with
    | lst h1 h2 =>
      have e := ofs e
      have hl : ∀ (is : List Nat) (ds : List PyData) (a b : Env), setAll is ds a = some b → ds.length = is.length := by
        intro is
        induction is with
        | nil => intro ds a b h; cases ds <;> simp [setAll] at h ⊢
        | cons i is ih =>
          intro ds a b h
          cases ds with
          | nil => simp [setAll] at h
          | cons d ds =>
            unfold setAll at h
            split at h
            · simp [ih _ _ _ h]
            · cases h
      exact ⟨_, _, rfl, (h1.mono s.sub).sq, by rw [h2.length]; exact hl _ _ _ _ e, names_key is hp s h2 e k⟩
    | _ => cases e
  | tw ts =>
    cases r with
    | tup h1 h2 =>
      have e := ofs e
      exact ⟨_, _, rfl, same_t s.sub h1.sq, by rw [h2.length]; exact setW_len _ _ _ _ e, w_key ts hp s h2 e k⟩
    | _ => cases e
/-- a, b = e -/
def fAsT (t : Tg) (f : EF) : SF := fun env => f env >>= fun r => asT t r.1.data r.2 >>= fun e => .ok (.nx, e)
theorem ds_asT {t : Tg} {f : EF} {tg : Expr} (hp : ∀ i ∈ t.slots, i ∉ g.pn.1) (he : DE g X e f) (hg : PG X tg (rdT g.K t)) (hs : swapsWithSole [tg] e pos.line X.env = pure false := by rfl) (hw : swappedStores [tg] e X.env = pure none := by rfl)
    (h1 : (assignEach [tg] X.env).map (·.2) = [assign tg X.env] := by rfl) : DS g X (.Assign [tg] e pos) (fAsT t f) := PS.imp (ps_asg he hg hs hw h1) fun D σ H h => by
  obtain ⟨I, env, F, s, p⟩ := h
  refine tD_seq s p fun r v H1 af q => ?_
  obtain ⟨I', F', rp, s', st⟩ := af.frz
  cases q2 : asT t r.1.data r.2 with
  | no => rw [q2] at q; exact q.elim
  | er x => exfalso; revert q2; unfold asT ofO; split <;> (try split) <;> exact fun h => by cases h
  | ok e' =>
    rw [q2] at q
    exact tg_key hp s' rp q2 fun σ' F'' _ s'' hF => q σ' H1 ⟨I', F'', s'', st.less hF⟩
def ItOk (K : PySem.W.Frag) (I0 : Hp) (J : It) (ds : List PyData) : Prop := ∀ (I H : Hp) (i : Nat), Same I0 I → Same I H →
  (∀ d, ds[i]? = some d → J.go i H ∧ ∀ x H', J.yld i H x H' → ∃ I', Grow K I H I' H' (.fr d) x []) ∧ (ds.length = i → J.stop i H)
abbrev IF := Env → Res (List PyData × Env)
def tI (g : G) (f : IF) : TI := fun σ H R => ∃ I env F, Sim g.K g.pn I H σ env F ∧ (f env).post (fun r => ∀ J H' I' F', Sim g.K g.pn I' H' σ r.2 F' → Step I H (Ow F) I' H' (Ow F') → ItOk g.K I' J r.1 → R J H') (g.err I H F)
def DI (g : G) (X : Cx) (tg iter : Expr) (f : IF) : Prop := PI X tg iter (tI g f)
def fFor (t : Tg) (body : SF) : List PyData → SF
  | [], env => .ok (.nx, env)
  | d :: ds, env => asT t d env >>= fun e => body e >>= fun r => match r.1 with
    | .nx => fFor t body ds r.2
    | .ct => fFor t body ds r.2
    | .bk => .ok (.nx, r.2)
    | .rt o => .ok (.rt o, r.2)
def fForS (f : IF) (t : Tg) (body : SF) : SF := fun env => f env >>= fun r => fFor t body r.1 r.2
theorem asT_er {t : Tg} {d : PyData} {x : Exn} : asT t d env ≠ .er x := by
  unfold asT ofO
  split <;> (try split) <;> exact fun h => by cases h
theorem for_key {J : It} {ds : List PyData} {t : Tg} {body : SF} (hp : ∀ i ∈ t.slots, i ∉ g.pn.1) (s : Sim g.K g.pn I H σ env F) (ok : ItOk g.K I J ds) (p : (fFor t body ds env).post (FlP g D I H F) (g.err I H F)) :
    ∃ W : Nat → Nat → St → Hp → Prop, (∃ m, W 0 m σ H) ∧ ∀ i m σ H, W i m σ H →
      (J.stop i H ∧ D.nx σ H) ∨ (J.go i H ∧ ∃ N : St → Hp → Prop, (∀ σ' H', N σ' H' → ∃ m', m' < m ∧ W (i + 1) m' σ' H') ∧ ∀ x H', J.yld i H x H' → rdT g.K t x σ H' fun σ2 H2 => tS g body { D with nx := N, ct := N, bk := D.nx } σ2 H2) := by
  let L : List PyData → St → Hp → Prop := fun ds' σ H => ∃ I1 env F, Sim g.K g.pn I1 H σ env F ∧ Same I I1 ∧ (fFor t body ds' env).post (FlP g D I1 H F) (g.err I1 H F)
  refine ⟨fun i m σ H => m = ds.length - i ∧ i ≤ ds.length ∧ L (ds.drop i) σ H, ⟨ds.length, by simp, Nat.zero_le _, I, env, F, s, Same.refl _, p⟩, ?_⟩
  rintro i m σ H ⟨rfl, hi, I1, env, F, s, sm, p⟩
  by_cases hlt : i < ds.length
  · have hd : ds[i]? = some ds[i] := List.getElem?_eq_getElem hlt
    have dr : ds.drop i = ds[i] :: ds.drop (i + 1) := List.drop_eq_getElem_cons hlt
    rw [dr] at p
    have ok1 := (ok I1 H i sm s.sub).1 _ hd
    refine .inr ⟨ok1.1, L (ds.drop (i + 1)), fun σ' H' n => ⟨ds.length - (i + 1), by omega, rfl, hlt, n⟩, fun x H' y => ?_⟩
    obtain ⟨I2, gr⟩ := ok1.2 x H' y
    have p2 := post_bind.mp p
    cases q2 : asT t ds[i] env with
    | no => rw [q2] at p2; exact p2.elim
    | er x => exact absurd q2 asT_er
    | ok e' =>
      rw [q2] at p2
      obtain ⟨I3, F3, rp, s3, st3⟩ := (gr.aft s).frz
      refine tg_key hp s3 rp q2 fun σ' F'' _ s'' hF => ?_
      have st4 := st3.less hF
      refine ⟨I3, e', F'', s'', post_mono (post_bind.mp p2) (fun r q => ?_) fun x z => err_step st4 z⟩
      obtain ⟨fl, e⟩ := r
      have nxt : (fFor t body (ds.drop (i + 1)) e).post (FlP g D I1 H F) (g.err I1 H F) → ∀ σ5 H5, AftS g.K g.pn I3 H' F'' σ5 e H5 → L (ds.drop (i + 1)) σ5 H5 := fun q σ5 H5 af => by
        obtain ⟨I5, F5, s5, st5⟩ := af
        have st6 := st4.trans st5
        exact ⟨I5, e, F5, s5, sm.trans st6.i1, post_mono q (fun r z => FlP_step st6 z) fun x z => err_step st6 z⟩
      cases fl with
      | nx => exact fun σ5 H5 af => nxt q σ5 H5 af
      | ct => exact fun σ5 H5 af => nxt q σ5 H5 af
      | bk => exact fun σ5 H5 af => q σ5 H5 (AftS.trans st4 af)
      | rt o => exact fun v σ5 H5 af => q v σ5 H5 (Aft.trans st4 af)
  · have e : i = ds.length := by omega
    subst e
    rw [List.drop_length] at p
    exact .inl ⟨(ok I1 H _ sm s.sub).2 rfl, p σ H ⟨I1, F, s, Step.refl⟩⟩
theorem ds_for {f : IF} {t : Tg} {body : SF} {tg iter : Expr} {sb : List Stmt} (hp : ∀ i ∈ t.slots, i ∉ g.pn.1) (hps : PassesOwn (model X.prog X.w) X.A X.env X.xe) (hc : X.calm = true) (hi : DI g X tg iter f) (hg : PG X tg (rdT g.K t)) (hb : DSs g X sb body)
    (hs : ∀ x, foldedSetIterable iter X.env x = pure x := by intro _; rfl) : DS g X (.For tg iter sb [] pos) (fForS f t body) := PS.imp (ps_for hps hc hi hg hb hs) fun D σ H h => by
  obtain ⟨I, env, F, s, p⟩ := h
  refine ⟨I, env, F, s, post_mono (post_bind.mp p) (fun r q J H' I' F' s' st ok => ?_) fun _ z => z⟩
  exact for_key hp s' ok (post_mono q (fun r z => FlP_step st z) fun x z => err_step st z)
end
end Dy
namespace Dy
open PySem PySem.Spec PyProof.Rows L2
def wipeE (env : Env) : List Nat → Env
  | [] => env
  | v :: vs => (wipeE env vs).set v none
theorem wipe_get {α : Type} (w : List (Option α) → List Nat → List (Option α)) (h0 : ∀ l, w l [] = l) (h1 : ∀ l v vs, w l (v :: vs) = (w l vs).set v none) (l : List (Option α)) : ∀ (vs : List Nat) (i : Nat), (w l vs)[i]? = if i ∈ vs then (if i < l.length then some none else none) else l[i]? := by
  have hl : ∀ vs, (w l vs).length = l.length := by
    intro vs
    induction vs with
    | nil => rw [h0]
    | cons v vs ih => rw [h1, List.length_set, ih]
  intro vs
  induction vs with
  | nil => intro i; rw [h0, if_neg (by simp)]
  | cons v vs ih =>
    intro i
    rw [h1]
    by_cases hv : v = i
    · subst hv
      rw [if_pos (by simp)]
      by_cases hi : v < l.length
      · rw [if_pos hi, List.getElem?_set_self (by rw [hl]; exact hi)]
      · rw [if_neg hi, List.getElem?_eq_none (by rw [List.length_set, hl]; omega)]
    · rw [List.getElem?_set_ne hv, ih i]
      by_cases hi : i ∈ vs
      · rw [if_pos hi, if_pos (List.mem_cons_of_mem _ hi)]
      · rw [if_neg hi, if_neg (by simp only [List.mem_cons, not_or]; exact ⟨fun e => hv e.symm, hi⟩)]
theorem wipe_at (σ : St) (vs : List Nat) (i : Nat) : (wipe σ vs)[i]? = if i ∈ vs then (if i < σ.length then some none else none) else σ[i]? := wipe_get wipe (fun _ => rfl) (fun _ _ _ => rfl) σ vs i
theorem wipeE_at (e : Env) (vs : List Nat) (i : Nat) : (wipeE e vs)[i]? = if i ∈ vs then (if i < e.length then some none else none) else e[i]? := wipe_get wipeE (fun _ => rfl) (fun _ _ _ => rfl) e vs i
theorem wipeE_length (e : Env) : ∀ vs : List Nat, (wipeE e vs).length = e.length
  | [] => rfl
  | v :: vs => by unfold wipeE; rw [List.length_set, wipeE_length e vs]
theorem wipe_only {vs is : List Nat} {σ σ2 : St} (hs : ∀ i ∈ is, i ∈ vs) (h : Only' is (wipe σ vs) σ2) : wipe σ2 vs = wipe σ vs := by
  have hl : σ2.length = σ.length := by rw [h.1, wipe_length]
  refine List.ext_getElem? fun i => ?_
  rw [wipe_at, wipe_at, hl]
  by_cases hi : i ∈ vs
  · rw [if_pos hi, if_pos hi]
  · rw [if_neg hi, if_neg hi, h.2 i fun z => hi (hs i z), wipe_at, if_neg hi]
def clF (F : Nat → List Addr) (vs : List Nat) : Nat → List Addr := fun i => if i ∈ vs then [] else F i
theorem clF_ow {F : Nat → List Addr} {vs : List Nat} {a : Addr} (h : Ow (clF F vs) a) : Ow F a := by
  obtain ⟨i, hi⟩ := h
  unfold clF at hi
  split at hi
  · cases hi
  · exact ⟨i, hi⟩
section
variable {K : PySem.W.Frag} {π : Pn} {I H I' H' : Hp} {σ : St} {env e : Env} {F F' : Nat → List Addr}
theorem Sim.wipe (s : Sim K π I H σ env F) {vs : List Nat} (hp : ∀ i ∈ vs, i ∉ π.1) : Sim K π I H (L2.wipe σ vs) (wipeE env vs) (clF F vs) := by
  refine ⟨by rw [wipeE_length, wipe_length, s.len], fun i o q => ?_, fun i q => ?_, fun i j a h1 h2 => ?_, fun i a h => ?_, s.sub, fun i hi => ?_, s.tab⟩
  · rw [wipeE_at] at q
    by_cases h : i ∈ vs
    · rw [if_pos h] at q; split at q <;> cases q
    · rw [if_neg h] at q
      obtain ⟨v, e1, r⟩ := s.rep i o q
      exact ⟨v, by rw [wipe_at, if_neg h]; exact e1, by unfold clF; rw [if_neg h]; exact r⟩
  · unfold clF
    by_cases h : i ∈ vs
    · rw [if_pos h]
    · rw [if_neg h]; exact s.out i fun o z => q o (by rw [wipeE_at, if_neg h]; exact z)
  · unfold clF at h1 h2
    split at h1
    · cases h1
    · split at h2
      · cases h2
      · exact s.dis i j a h1 h2
  · unfold clF at h
    split at h
    · cases h
    · exact s.djI i a h
  · rw [wipe_at, if_neg fun z => hp i z hi]; exact s.pin i hi
/-- behind the block: its own slots as they were, where they held data -/
def frO : Option (Option O) → Option O
  | some (some (.fr d)) => some (.fr d)
  | _ => none
def unw (env e : Env) : List Nat → Env
  | [] => e
  | v :: vs => (unw env e vs).set v (frO env[v]?)
theorem unw_length (env e : Env) : ∀ vs : List Nat, (unw env e vs).length = e.length
  | [] => rfl
  | v :: vs => by unfold unw; rw [List.length_set, unw_length env e vs]
theorem unw_at (env e : Env) : ∀ (vs : List Nat) (i : Nat), (unw env e vs)[i]? = if i ∈ vs then (if i < e.length then some (frO env[i]?) else none) else e[i]?
  | [], i => by rw [if_neg (by simp)]; rfl
  | v :: vs, i => by
    unfold unw
    by_cases hv : v = i
    · subst hv
      rw [if_pos (by simp)]
      by_cases hi : v < e.length
      · rw [if_pos hi, List.getElem?_set_self (by rw [unw_length]; exact hi)]
      · rw [if_neg hi, List.getElem?_eq_none (by rw [List.length_set, unw_length]; omega)]
    · rw [List.getElem?_set_ne hv, unw_at env e vs i]
      by_cases hi : i ∈ vs
      · rw [if_pos hi, if_pos (List.mem_cons_of_mem _ hi)]
      · rw [if_neg hi, if_neg (by simp only [List.mem_cons, not_or]; exact ⟨fun e => hv e.symm, hi⟩)]
theorem Sim.unwipe (s0 : Sim K π I H σ env F) (sm : Same I I') {vs : List Nat} (hp : ∀ i ∈ vs, i ∉ π.1) (s : Sim K π I' H' (L2.wipe σ vs) e F') : Sim K π I' H' σ (unw env e vs) (clF F' vs) := by
  have hl : e.length = σ.length := by rw [s.len, wipe_length]
  refine ⟨by rw [unw_length, hl], fun i o q => ?_, fun i q => ?_, fun i j a h1 h2 => ?_, fun i a h => ?_, s.sub, fun i hi => s0.pin i hi, s.tab⟩
  · rw [unw_at] at q
    by_cases h : i ∈ vs
    · rw [if_pos h] at q
      by_cases hi : i < e.length
      · rw [if_pos hi] at q
        have q := Option.some.inj q
        unfold frO at q
        cases q3 : env[i]? with
        | none => rw [q3] at q; cases q
        | some y =>
          cases y with
          | none => rw [q3] at q; cases q
          | some o' =>
            rw [q3] at q
            cases o' with
            | fr d =>
              cases q
              obtain ⟨v, e1, r⟩ := s0.rep i _ q3
              exact ⟨v, e1, by unfold clF; rw [if_pos h]; exact ⟨rfl, r.2.mono sm⟩⟩
            | ol _ => cases q
            | oo _ => cases q
            | od _ => cases q
      · rw [if_neg hi] at q; cases q
    · rw [if_neg h] at q
      obtain ⟨v, e1, r⟩ := s.rep i o q
      rw [wipe_at, if_neg h] at e1
      exact ⟨v, e1, by unfold clF; rw [if_neg h]; exact r⟩
  · unfold clF
    by_cases h : i ∈ vs
    · rw [if_pos h]
    · rw [if_neg h]; exact s.out i fun o z => q o (by rw [unw_at, if_neg h]; exact z)
  · unfold clF at h1 h2
    split at h1
    · cases h1
    · split at h2
      · cases h2
      · exact s.dis i j a h1 h2
  · unfold clF at h
    split at h
    · cases h
    · exact s.djI i a h
end
def nE {α : Type} : Res α → Res α
  | .er _ => .no
  | x => x
theorem nE_post {α : Type} {r : Res α} {P : α → Prop} {E E' : Exn → Prop} (h : (nE r).post P E) : r.post P E' := by
  cases r with
  | ok a => exact h
  | er x => exact h.elim
  | no => exact h
def lcL (vs : List Nat) (t : Tg) (test : TF) (elt : EF) : List PyData → Env → List PyData → Res (List PyData × Env)
  | [], e, acc => .ok (acc, e)
  | d :: ds, e, acc => asT t d e >>= fun e1 => nE (test e1) >>= fun b => if b.1 = true then nE (elt b.2) >>= fun r => if acc.length < 100000 then lcL vs t test elt ds (wipeE r.2 vs) (acc ++ [r.1.data]) else .no
    else lcL vs t test elt ds (wipeE b.2 vs) acc
def fLc (fi : IF) (vs : List Nat) (t : Tg) (test : TF) (elt : EF) : EF := fun env => fi env >>= fun r => lcL vs t test elt r.1 (wipeE r.2 vs) [] >>= fun q => .ok (.ol q.1, unw r.2 q.2 vs)
def fYes : TF := fun env => .ok (true, env)
def G.nox (g : G) : G := { g with E := fun _ _ _ => False }
section
variable {g : G} {X : Cx} {a b c e : Expr} {es : List Expr} {pos : Pos} {σ : St} {H I : Hp} {env : Env} {F : Nat → List Addr}
theorem lcL_er {vs : List Nat} {t : Tg} {test : TF} {elt : EF} : ∀ {ds : List PyData} {e : Env} {acc : List PyData} {x : Exn}, lcL vs t test elt ds e acc ≠ .er x
  | [], _, _, _ => fun h => by cases h
  | d :: ds, e, acc, x => fun h => by
    unfold lcL at h
    cases q : asT t d e with
    | no => rw [q] at h; cases h
    | er y => exact asT_er q
    | ok e1 =>
      rw [q, bind_ok] at h
      cases q2 : test e1 with
      | no => rw [q2] at h; cases h
      | er y => rw [q2] at h; cases h
      | ok b =>
        rw [q2] at h
        have h : (if b.1 = true then nE (elt b.2) >>= fun r => if acc.length < 100000 then lcL vs t test elt ds (wipeE r.2 vs) (acc ++ [r.1.data]) else .no else lcL vs t test elt ds (wipeE b.2 vs) acc) = .er x := h
        by_cases hb : b.1 = true
        · rw [if_pos hb] at h
          cases q3 : elt b.2 with
          | no => rw [q3] at h; cases h
          | er y => rw [q3] at h; cases h
          | ok r =>
            rw [q3] at h
            have h : (if acc.length < 100000 then lcL vs t test elt ds (wipeE r.2 vs) (acc ++ [r.1.data]) else .no) = .er x := h
            split at h
            · exact lcL_er h
            · cases h
        · rw [if_neg hb] at h; exact lcL_er h
theorem lc_key {fi : IF} {vs : List Nat} {t : Tg} {test : TF} {elt : EF} {Q : VK} (hp : ∀ i ∈ vs, i ∉ g.pn.1) (hv : ∀ i ∈ t.slots, i ∈ vs) (h : tD g (fLc fi vs t test elt) σ H Q) : tLc (tI g fi) (rdT g.K t) (tT g.nox test) (tD g.nox elt) vs σ H Q := by
  obtain ⟨I, env, F, s, p⟩ := h
  refine ⟨I, env, F, s, post_mono (post_bind.mp p) (fun r q J H1 I1 F1 s1 st1 ok D nD => ?_) fun _ z => z⟩
  have nI : I1 D = none := none_of_same s1.sub nD
  have nF : ∀ {F2 : Nat → List Addr}, F2 = F1 → ¬ Ow F2 D := fun e z => by subst e; obtain ⟨o, ho⟩ := s1.domO z; rw [nD] at ho; cases ho
  let PP : List PyData × Env → Prop := fun q => ∀ v H', Aft g.K g.pn I H F σ (unw r.2 q.2 vs) (.ol q.1) v H' → Q v H'
  let L : List PyData → Hp → Prop := fun ds H2 => ∃ I2 e F2 acc us, Sim g.K g.pn I2 H2 (wipe σ vs) e F2 ∧ H2 D = some (.lst us) ∧ RpAll g.K I2 us acc ∧ I2 D = none ∧ ¬ Ow F2 D ∧ Step I1 H1 (Ow F1) I2 H2 (fun a => Ow F2 a ∨ a = D) ∧
    (lcL vs t test elt ds e acc).post PP (fun _ => False)
  have q0 : (lcL vs t test elt r.1 (wipeE r.2 vs) []).post PP (fun _ => False) := by
    have q := post_bind.mp q
    cases z : lcL vs t test elt r.1 (wipeE r.2 vs) [] with
    | no => rw [z] at q; exact q
    | er x => exact absurd z lcL_er
    | ok y => rw [z] at q; exact q
  refine ⟨fun i m H2 => m = r.1.length - i ∧ i ≤ r.1.length ∧ L (r.1.drop i) H2, ⟨r.1.length, by simp, Nat.zero_le _, I1, wipeE r.2 vs, clF F1 vs, [], [], ?_, upd_same, .nil, nI, fun z => nF rfl (clF_ow z), ?_, q0⟩, ?_⟩
  · refine (s1.wipe hp).heap (Same.refl _) (s1.sub.trans (same_new nD)) (fun a ha => ?_) (fun a ⟨i, hi⟩ => (s1.wipe hp).djI i a hi) (kt_new nD)
    rw [upd_ne]; intro z; subst z; exact nF rfl (clF_ow ha)
  · refine Step.of4 (Same.refl _) (fun a o h _ => same_new nD a o h) (fun a h => ?_) (fun a o h => .inl h)
    rcases h with h | h
    · exact .inl (clF_ow h)
    · subst h; exact .inr nD
  · rintro i m H2 ⟨rfl, hi, I2, e, F2, acc, us, s2, hD, ra, iD, oD, st2, p2⟩
    have sm : Same I1 I2 := st2.i1
    by_cases hlt : i < r.1.length
    · have hd : r.1[i]? = some r.1[i] := List.getElem?_eq_getElem hlt
      have dr : r.1.drop i = r.1[i] :: r.1.drop (i + 1) := List.drop_eq_getElem_cons hlt
      rw [dr] at p2
      have ok1 := (ok I2 H2 i sm s2.sub).1 _ hd
      refine .inr ⟨ok1.1, L (r.1.drop (i + 1)), fun H' n => ⟨r.1.length - (i + 1), by omega, rfl, hlt, n⟩, fun x H3 y => ?_⟩
      obtain ⟨I3, gr⟩ := ok1.2 x H3 y
      obtain ⟨I4, F4, rp, s4, st4⟩ := (gr.aft s2).frz
      have p3 := post_bind.mp p2
      cases q2 : asT t r.1[i] e with
      | no => rw [q2] at p3; exact p3.elim
      | er x => exact absurd q2 asT_er
      | ok e1 =>
        rw [q2] at p3
        refine tg_key (fun j hj => hp j (hv j hj)) s4 rp q2 fun σ2 F5 ho s5 hF => ?_
        have wσ := wipe_only hv ho
        refine ⟨wσ, ?_⟩
        have st5 := st4.less hF
        obtain ⟨d1, d2, d3⟩ := st5.one hD oD iD
        have TD : ∀ x, x = D → ∃ o, H2 x = some o := fun x e => by subst e; exact ⟨_, hD⟩
        have TN : ∀ x, x = D → ¬ Ow F2 x := fun x e => by subst e; exact oD
        refine ⟨I4, e1, F5, s5, post_mono (nE_post (post_bind.mp p3)) (fun b pb H6 af => ?_) fun _ z => z⟩
        obtain ⟨I6, F6, s6, st6⟩ := af
        have st56 := st5.trans st6
        obtain ⟨b1, b2, b3⟩ := st56.one hD oD iD
        by_cases hb : b.1 = true
        · rw [if_pos hb] at pb ⊢
          refine ⟨I6, b.2, F6, s6, post_mono (nE_post (post_bind.mp pb)) (fun r7 p7 v7 H7 af7 => ?_) fun _ z => z⟩
          obtain ⟨I8, F8, rp8, s8, st8⟩ := af7.frz
          have st58 := st56.trans st8
          obtain ⟨c1, c2, c3⟩ := st58.one hD oD iD
          by_cases hz : acc.length < 100000
          · rw [if_pos hz] at p7
            refine ⟨us, c1, by rw [ra.length]; exact Nat.lt_of_lt_of_le hz (by decide), I8, wipeE r7.2 vs, clF F8 vs, acc ++ [r7.1.data], us ++ [v7], ?_, upd_same, (ra.mono st58.i1).app (.cons rp8 .nil), c3, fun z => c2 (clF_ow z), ?_, p7⟩
            · rw [← wσ]
              refine (s8.wipe hp).heap (Same.refl _) (fun a o h => ?_) (fun a ha => ?_) (fun a ⟨j, hj⟩ => (s8.wipe hp).djI j a hj) (kt_upd c1 NT.lst)
              · rw [upd_ne (fun z => by subst z; rw [c3] at h; cases h)]; exact s8.sub a o h
              · rw [upd_ne]; intro z; subst z; exact c2 (clF_ow ha)
            · refine st2.trans ((st58.aside (fun x => x = D) TD TN).trans (Step.of4 (Same.refl _) (fun a o h n => ?_) (fun a h => ?_) (fun a o h => .inl h)))
              · rw [upd_ne fun z => n (.inr z)]; exact h
              · rcases h with h | h
                · exact .inl (.inl (clF_ow h))
                · exact .inl (.inr h)
          · rw [if_neg hz] at p7; exact p7.elim
        · rw [if_neg hb] at pb ⊢
          refine ⟨I6, wipeE b.2 vs, clF F6 vs, acc, us, ?_, b1, ra.mono st56.i1, b3, fun z => b2 (clF_ow z), ?_, pb⟩
          · rw [← wσ]; exact s6.wipe hp
          · refine st2.trans ((st56.aside (fun x => x = D) TD TN).less fun a h => ?_)
            rcases h with h | h
            · exact .inl (clF_ow h)
            · exact .inr h
    · have e0 : i = r.1.length := by omega
      subst e0
      rw [List.drop_length] at p2
      refine .inl ⟨(ok I2 H2 _ sm s2.sub).2 rfl, p2 _ _ ⟨I2, clF F2 vs, [D], ⟨D, us, rfl, rfl, hD, ra⟩, s1.unwipe sm hp s2, fun a ha => ?_, fun a ha hr => ?_, ?_⟩⟩
      · simp at ha; subst ha; exact iD
      · simp at hr; subst hr; exact oD (clF_ow ha)
      · refine st1.trans (st2.less fun a h => ?_)
        rcases h with h | h
        · exact .inl (clF_ow h)
        · simp at h; exact .inr h
theorem pts_yes : PTs X [] (tT g fYes) := ⟨fun pins s σ H Q I h => pts_nil.run pins s σ H Q I (by
  obtain ⟨I, env, F, s, p⟩ := h
  exact p H ⟨I, F, s, Step.refl⟩)⟩
theorem de_lc {elt tg iter : Expr} {ifs : List Expr} {scope : Scope} {own : List (Str × Nat)} {fi : IF} {t : Tg} {test : TF} {fe : EF} (hp : ∀ i ∈ own.map (·.2), i ∉ g.pn.1) (hv : ∀ i ∈ t.slots, i ∈ own.map (·.2)) (hc : X.calm = true) (hN : X.N.Nodup) (hi : DI g X tg iter fi) (ok : BlkOk X.N X.env.scope scope own)
    (hg : ∀ (s : Shared) (H : Hp) (C : Addr) (cl : List (Str × Addr)) (fp : List Addr), PG (X.blk s H scope (compEnvC scope cl C X.env) fp) tg (rdT g.K t)) (ht : ∀ (s : Shared) (H : Hp) (C : Addr) (cl : List (Str × Addr)) (fp : List Addr), PTs (X.blk s H scope (compEnvC scope cl C X.env) fp) ifs (tT g.nox test))
    (he : ∀ (s : Shared) (H : Hp) (C : Addr) (cl : List (Str × Addr)) (fp : List Addr), DE g.nox (X.blk s H scope (compEnvC scope cl C X.env) fp) elt fe) (hs : ∀ x, foldedSetIterable iter X.env x = pure x := by intro _; rfl) :
    DE g X (.ListComp elt [⟨tg, iter, ifs, 0⟩] scope pos) (fLc fi (own.map (·.2)) t test fe) := PE.imp (pe_lc hc hN hi ok hg ht he hs) fun σ H Q h => lc_key hp hv h
/-- y = [..] -/
theorem ds_setLc {i : Nat} {y : Str} {py : Pos} {elt tg iter : Expr} {ifs : List Expr} {scope : Scope} {own : List (Str × Nat)} {spos : Pos} {fi : IF} {t : Tg} {test : TF} {fe : EF} (hpi : i ∉ g.pn.1) (hp : ∀ i ∈ own.map (·.2), i ∉ g.pn.1) (hv : ∀ i ∈ t.slots, i ∈ own.map (·.2)) (hc : X.calm = true) (hN : X.N.Nodup) (hy : X.N[i]? = some y) (hyl : X.env.scope.names.lookup y = some .local)
    (hsw : swapsWith (.ListComp elt [⟨tg, iter, ifs, 0⟩] scope pos) (some (.Name y py)) spos.line X.env = pure true) (hi : DI g X tg iter fi) (ok : BlkOk X.N X.env.scope scope own)
    (hg : ∀ (s : Shared) (H : Hp) (C : Addr) (cl : List (Str × Addr)) (fp : List Addr), PG (X.blk s H scope (compEnvC scope cl C X.env) fp) tg (rdT g.K t)) (ht : ∀ (s : Shared) (H : Hp) (C : Addr) (cl : List (Str × Addr)) (fp : List Addr), PTs (X.blk s H scope (compEnvC scope cl C X.env) fp) ifs (tT g.nox test))
    (he : ∀ (s : Shared) (H : Hp) (C : Addr) (cl : List (Str × Addr)) (fp : List Addr), DE g.nox (X.blk s H scope (compEnvC scope cl C X.env) fp) elt fe) (hs : ∀ x, foldedSetIterable iter X.env x = pure x := by intro _; rfl) :
    DS g X (.Assign [.Name y py] (.ListComp elt [⟨tg, iter, ifs, 0⟩] scope pos) spos) (fSet i (fLc fi (own.map (·.2)) t test fe)) := PS.imp (ps_setLc hc hN hy hyl hsw hi ok hg ht he hs) fun D σ H h => by
  have := set_key hpi h
  exact lc_key hp hv this
end
end Dy
namespace Dy
open PySem PySem.Spec PyProof.Rows L2
end Dy
namespace Dy
open PySem PySem.Spec PyProof.Rows L2
theorem FnG.imp {P : Program} {w : World} {K : PySem.W.Frag} {mg : Str → Option Value} {base : Heap} {k : Nat} {f : Addr} {fd : FuncData} {ps : List Str} {sp sp' : Sp} (F : FnG P w K mg base k f fd ps sp) (h : ∀ vs H Q E, sp' vs H Q E → sp vs H Q E) : FnG P w K mg base k f fd ps sp' :=
  ⟨fun vs H Q E q => F.len vs H Q E (h _ _ _ _ q), fun A outer s H args us vs Q E hg hr he hb hv hs => F.run A outer s H args us vs Q E hg hr he hb hv (h _ _ _ _ hs)⟩
/-- by its body -/
theorem fnG_ofc {P : Program} {w : World} {K : PySem.W.Frag} {mg : Str → Option Value} {base : Heap} {k : Nat} {x qual : Str} {st : Stmt} {f : Addr} {fd : FuncData} {N ps : List Str} {sp : Sp} (F : Fun K x qual st f fd) (S : FnScope N ps (defScope st))
    (len : ∀ vs H Q E, sp vs H Q E → vs.length = ps.length)
    (body : ∀ (cdv : Value) (hcv : fd.code = cdv) (A : Around) (outer : List PySem.Env) (s : Shared) (H : Hp) (vs : List V) (Q : VK) (E : XK), (A.deeper (envOfC qual (defScope st) s.heap.objs.size f cdv)).guards = some [] → Room k (A.deeper (envOfC qual (defScope st) s.heap.objs.size f cdv)) → sp vs H Q E →
      ∃ t, PSs (cxOf (L2.CX P w) P w K mg base N qual (defScope st) f cdv A outer s H E) (defBody st) t ∧ t { nx := fun _ H' => Q .non H', rt := Q } (L2.start N vs) H) : FnG P w K mg base (k + 1) f fd ps sp := by
  obtain ⟨oc, od, kV, doc, pm, an, cdv, ct, osl, rfl, lk, hcd⟩ := F.ex
  refine ⟨len, ?_⟩
  intro A outer s H args us vs Q E hg hr e0 hb r hsp
  have KX : K.In s.heap := e0.mod.kin.keeps (fun b o e => (e0.bs b o e).1)
  have lim : s.heap.NoLimit := e0.mod.nolimit.keeps (fun b o e => (e0.bs b o e).1)
  have hk : ∀ y ∈ ps.zip us, (defScope st).names.lookup y.1 = some .local ∨ ((defScope st).names.lookup y.1 = some .cell ∧ ((cellsFrom (s.heap.objs.size + 1) (defScope st).names []).lookup y.1).isSome = true) := by
    intro y hy
    rcases S.par y.1 (List.of_mem_zip hy).1 with q | q
    · exact Or.inl q
    · exact Or.inr ⟨q, PySem.W.cellsFrom_some _ _ _ (Or.inl q)⟩
  refine codeAny_call_function hr.depth (KX f _ lk) rfl S.co S.gen rfl (PySem.W.codeRec_of KX hcd) (hb _ _ _ _ ?_)
  refine wpAny_newFunctionEnv_cells S.kind hk (fun env he s1 hc => ?_)
  subst he
  refine ⟨lim.keeps hc.toInCall.keep, codeAny_func ?_⟩
  obtain ⟨t, ht, hq⟩ := body cdv rfl A outer s H vs Q E hg (hr.deeper _) hsp
  have J : Inv (cxOf (L2.CX P w) P w K mg base N qual (defScope st) f cdv A outer s H E) [] (L2.start N vs) H s1 := inv_start S hr.hd e0 (len vs H Q E hsp) r hc
  refine wpAny_mono (ht.run [] s1 (L2.start N vs) H _ J hq) (fun fl s' hs => ?_) (fun e s' hs => hs)
  cases fl with
  | ret u =>
    obtain ⟨v, σ', H', J', rv, q⟩ := hs
    exact ⟨v, H', J'.os, J'.bare, J'.base, J'.hok, rv, q⟩
  | next =>
    obtain ⟨σ', H', J', q⟩ := hs
    exact ⟨.non, H', J'.os, J'.bare, J'.base, J'.hok, rfl, q⟩
  | brk =>
    obtain ⟨_, _, _, q⟩ := hs
    exact q.elim
  | cont =>
    obtain ⟨_, _, _, q⟩ := hs
    exact q.elim
section
variable {X : Cx} {k : Nat} {f : Addr} {fd : FuncData} {ps : List Str} {sp : Sp} {E : XK} {x : Str} {p pos : Pos} {e : Expr} {es : List Expr} {t : TA}
theorem runG {pins : List (Addr × Obj)} {σ : St} {H : Hp} {s : Shared} {Q : VK} {us : List Value} {vs : List V} (F : FnG X.prog X.w X.K X.mg X.base k f fd ps sp) (hg : X.A.guards = some []) (hr : Room k X.A) (hb : Binds X.K fd ps []) (hx : Passes (L2.CX X.prog X.w) X E)
    (J : Inv X pins σ H s) (r : Vals vs us) (h : sp vs H Q E) : wpAny (model X.prog X.w) X.A (call (.ref f) us) (EP X pins σ Q) X.xe s := by
  have hl : (us ++ []).length = ps.length := by rw [List.append_nil, ← r.length]; exact F.len _ _ _ _ h
  have hb' := hb s us J.kIn hl
  rw [List.append_nil] at hb'
  refine wpAny_call (codeAny_mono (F.run X.A X.stack s H ⟨us, []⟩ us vs Q E hg hr J.env0 hb' r h) (fun y s' hq => ?_))
  cases y with
  | error u => exact hx pins σ H s u s' J hq
  | ok fl =>
    cases fl with
    | ret u => exact J.after hq
    | next => exact hq.elim
    | brk => exact hq.elim
    | cont => exact hq.elim
theorem peG (F : FnG X.prog X.w X.K X.mg X.base k f fd ps sp) (hgd : X.A.guards = some []) (hr : Room k X.A) (hg : Gl X x) (hm : X.mg x = some (.ref f)) (hk : PySem.W.keepIn X.K (.ref f) = true) (hb : Binds X.K fd ps []) (hx : Passes (L2.CX X.prog X.w) X E)
    (ha : PA X (e :: es) t) (hdb : (x == ("__debug__" : Str)) = false := by decide) (he : starEach (e :: es) X.env = (false, eval e X.env) :: starEach es X.env := by rfl) (hpl : (backTo pos (starEach es X.env)).any (·.1) = false := by rfl) :
    PE X (.Call (.Name x p) (e :: es) [] pos) (fun σ H Q => t σ H fun vs H1 => sp vs H1 Q E) := by
  refine ⟨fun pins s σ H Q J h => wpAny_Call_Name_kw (ld_glob J hg hm ?_ hdb)⟩
  refine PySem.W.callWith_K (h₀ := X.base) J.ok.mod.kin hk (thn (ha.run pos pins s σ H _ J h) ?_) he hpl
  rintro us s1 ⟨vs, H1, J1, r, q⟩
  exact ⟨J1.kIn, runG F hgd hr hb hx J1 r q⟩
end
def p0 (T : List (Addr × Str)) : Pn := ([], fun _ => .non, T)
def spD (K : PySem.W.Frag) (mg : Str → Option Value) (T : List (Addr × Str)) (m : Fn) : Sp := fun vs H Q E => ∃ I os F, Sim K (p0 T) I H (vs.map some) (os.map some) F ∧
  (m os).post (fun r => ∀ v H', Aft K (p0 T) I H F (vs.map some) (r.2.map some) r.1 v H' → Q v H') (fun x => ∀ H' c d, Err T I H (Ow F) H' d → XR mg x c d H' → E c d H')
def isFr : O → Bool
  | .fr _ => true
  | _ => false
def okA (rp : List Nat) : Nat → List O → Bool
  | _, [] => true
  | k, o :: os => (rp.contains k || isFr o) && okA rp (k + 1) os
def bkA (rp : List Nat) (e : Env) : Nat → List O → Option (List O)
  | _, [] => some []
  | k, o :: os => match (if rp.contains k then (e[k]?).join else some o), bkA rp e (k + 1) os with
    | some o', some os' => some (o' :: os')
    | _, _ => none
def fnM (n N : Nat) (rp : List Nat) (body : SF) : Fn := fun os => if os.length = n ∧ okA rp 0 os = true then
    body (os.map some ++ List.replicate (N - n) none) >>= fun r => match bkA rp r.2 0 os with
      | none => .no
      | some os' => match r.1 with
        | .rt o => .ok (o, os')
        | .nx => .ok (.fr .none, os')
        | _ => .no
  else .no
theorem okA_at {rp : List Nat} : ∀ {os : List O} {k i : Nat} {o : O}, okA rp k os = true → os[i]? = some o → k + i ∉ rp → isFr o = true
  | [], _, _, _, _, h, _ => by simp at h
  | o :: os, k, 0, _, h, e, n => by
    simp at e; subst e
    unfold okA at h
    simp only [Bool.and_eq_true, Bool.or_eq_true, List.contains_iff_mem] at h
    rcases h.1 with z | z
    · exact absurd z n
    · exact z
  | o :: os, k, i + 1, _, h, e, n => by
    unfold okA at h
    simp only [Bool.and_eq_true] at h
    exact okA_at (k := k + 1) (i := i) h.2 (by simpa using e) (by rwa [Nat.add_right_comm k 1 i, Nat.add_assoc])
theorem bkA_at {rp : List Nat} {e : Env} : ∀ {os os' : List O} {k i : Nat} {o' : O}, bkA rp e k os = some os' → os'[i]? = some o' → (k + i ∈ rp ∧ e[k + i]? = some (some o')) ∨ (k + i ∉ rp ∧ os[i]? = some o')
  | [], _, _, _, _, h, e1 => by cases h; simp at e1
  | o :: os, os', k, i, o', h, e1 => by
    unfold bkA at h
    cases q1 : (if rp.contains k then (e[k]?).join else some o) with
    | none => rw [q1] at h; cases h
    | some y =>
      cases q2 : bkA rp e (k + 1) os with
      | none => rw [q1, q2] at h; cases h
      | some ys =>
        rw [q1, q2] at h; cases h
        cases i with
        | zero =>
          simp at e1; subst e1
          by_cases hk : k ∈ rp
          · left
            refine ⟨hk, ?_⟩
            rw [if_pos (by simpa using hk)] at q1
            rw [Nat.add_zero]
            cases z : e[k]? with
            | none => rw [z] at q1; cases q1
            | some w => rw [z] at q1; cases w <;> cases q1; rfl
          · right
            refine ⟨hk, ?_⟩
            rw [if_neg (by simpa using hk)] at q1
            simpa using q1
        | succ i =>
          rcases bkA_at q2 (i := i) (o' := o') (by simpa using e1) with ⟨a, b⟩ | ⟨a, b⟩
          · exact .inl ⟨by rwa [Nat.add_right_comm k 1 i, Nat.add_assoc] at a, by rwa [Nat.add_right_comm k 1 i, Nat.add_assoc] at b⟩
          · exact .inr ⟨by rwa [Nat.add_right_comm k 1 i, Nat.add_assoc] at a, by simpa using b⟩
theorem bkA_len {rp : List Nat} {e : Env} : ∀ {os os' : List O} {k : Nat}, bkA rp e k os = some os' → os'.length = os.length
  | [], _, _, h => by cases h; rfl
  | o :: os, os', k, h => by
    unfold bkA at h
    cases q1 : (if rp.contains k then (e[k]?).join else some o) with
    | none => rw [q1] at h; cases h
    | some y =>
      cases q2 : bkA rp e (k + 1) os with
      | none => rw [q1, q2] at h; cases h
      | some ys => rw [q1, q2] at h; cases h; simp [bkA_len q2]
theorem getm {α : Type} {l : List α} {i : Nat} {x : α} (h : (l.map some)[i]? = some (some x)) : l[i]? = some x := by
  rw [List.getElem?_map] at h
  cases q : l[i]? with
  | none => rw [q] at h; cases h
  | some y => rw [q] at h; cases h; rfl
theorem putm {α : Type} {l : List α} {i : Nat} {x : α} (h : l[i]? = some x) : (l.map some)[i]? = some (some x) := by rw [List.getElem?_map, h]; rfl
/-- back in the caller: the arguments behind the body -/
theorem back_args {T : List (Addr × Str)} {K : PySem.W.Frag} {I H : Hp} {F : Nat → List Addr} {vs : List V} {os os' : List O} {rp : List Nat} {π : Pn} {σ' : St} {e : Env} {o : O} {v : V} {H' : Hp} (s0 : Sim K (p0 T) I H (vs.map some) (os.map some) F) (hπ : π.1 = rp) (hT : π.2.2 = T) (hv : ∀ i ∈ rp, vs[i]? = some (π.2.1 i))
    (hok : okA rp 0 os = true) (hb : bkA rp e 0 os = some os') (af : Aft K π I H F σ' e o v H') : Aft K (p0 T) I H F (vs.map some) (os'.map some) o v H' := by
  obtain ⟨I', F', R, r, s, nR, dR, st⟩ := af
  have hl : os'.length = vs.length := by
    have h1 := bkA_len hb
    have h2 := s0.len
    simp only [List.length_map] at h2
    omega
  let F2 : Nat → List Addr := fun i => if i ∈ rp then F' i else []
  have ow : ∀ a, Ow F2 a → Ow F' a := fun a ⟨i, hi⟩ => by
    by_cases h : i ∈ rp
    · exact ⟨i, by simpa [F2, h] using hi⟩
    · simp [F2, h] at hi
  refine ⟨I', F2, R, r, ⟨by simp [hl], fun i y q => ?_, fun i q => ?_, fun i j a h1 h2 => ?_, fun i a h => ?_, s.sub, (fun i hi => by cases hi), (by rw [← hT] at *; exact s.tab)⟩, nR, fun a ha => dR a (ow a ha), st.less fun a h => h.elim (fun z => .inl (ow a z)) .inr⟩
  · have q := getm q
    rcases bkA_at hb q with ⟨h1, h2⟩ | ⟨h1, h2⟩
    · rw [Nat.zero_add] at h1 h2
      obtain ⟨u, e1, rr⟩ := s.rep i y h2
      have e2 := s.pin i (by rw [hπ]; exact h1)
      rw [e1] at e2; cases e2
      exact ⟨_, putm (hv i h1), by simpa [F2, h1] using rr⟩
    · rw [Nat.zero_add] at h1
      have fr := okA_at hok h2 (by rw [Nat.zero_add]; exact h1)
      cases y with
      | fr d =>
        obtain ⟨u, e1, rr⟩ := s0.rep i _ (putm h2)
        exact ⟨u, e1, by simp [F2, h1, RepO]; exact rr.2.mono st.i1⟩
      | ol _ => cases fr
      | oo _ => cases fr
      | od _ => cases fr
  · by_cases h : i ∈ rp
    · have h1 := hv i h
      have hi : i < os'.length := by
        rw [hl]
        cases Nat.lt_or_ge i vs.length with
        | inl z => exact z
        | inr z => rw [List.getElem?_eq_none z] at h1; cases h1
      exact absurd (putm (List.getElem?_eq_getElem hi)) (q _)
    · simp [F2, h]
  · by_cases h : i ∈ rp
    · by_cases h' : j ∈ rp
      · exact s.dis i j a (by simpa [F2, h] using h1) (by simpa [F2, h'] using h2)
      · simp [F2, h'] at h2
    · simp [F2, h] at h1
  · by_cases h' : i ∈ rp
    · exact s.djI i a (by simpa [F2, h'] using h)
    · simp [F2, h'] at h
theorem sim_start {T : List (Addr × Str)} {K : PySem.W.Frag} {I H : Hp} {F : Nat → List Addr} {vs : List V} {os : List O} {N : List Str} {rp : List Nat} {n : Nat} (s0 : Sim K (p0 T) I H (vs.map some) (os.map some) F) (hv : vs.length = n) (hrp : ∀ i ∈ rp, i < n) :
    Sim K (rp, (fun i => vs.getD i .non), T) I H (L2.start N vs) (os.map some ++ List.replicate (N.length - n) none) F := by
  have hl := s0.len
  simp only [List.length_map] at hl
  have low : ∀ i, i < vs.length → (L2.start N vs)[i]? = (vs.map some)[i]? := fun i h => by unfold L2.start; rw [List.getElem?_append_left (by simpa using h)]
  have env : ∀ i o, (os.map some ++ List.replicate (N.length - n) none)[i]? = some (some o) → (os.map some)[i]? = some (some o) := fun i o q => by
    by_cases h : i < os.length
    · rwa [List.getElem?_append_left (by simpa using h)] at q
    · rw [List.getElem?_append_right (by simpa using h), List.getElem?_replicate] at q
      split at q <;> cases q
  refine ⟨by unfold L2.start; simp [hl, hv], fun i o q => ?_, fun i q => s0.out i fun o z => q o ?_, s0.dis, s0.djI, s0.sub, fun i hi => ?_, s0.tab⟩
  · have q := env i o q
    obtain ⟨v, e1, r⟩ := s0.rep i o q
    refine ⟨v, ?_, r⟩
    rw [low i (by
      cases Nat.lt_or_ge i vs.length with
      | inl z => exact z
      | inr z => rw [List.getElem?_eq_none (by simpa using z)] at e1; cases e1)]
    exact e1
  · rw [List.getElem?_append_left (by
      cases Nat.lt_or_ge i os.length with
      | inl h => simpa using h
      | inr h => rw [List.getElem?_eq_none (by simpa using h)] at z; cases z)]
    exact z
  · have h := hrp i hi
    rw [low i (by omega), List.getElem?_map]
    show Option.map some vs[i]? = some (some (vs.getD i .non))
    rw [List.getD_eq_getElem?_getD, List.getElem?_eq_getElem (by omega)]
    rfl
/-- THE RULE for a def -/
theorem fnDc {T : List (Addr × Str)} {P : Program} {w : World} {K : PySem.W.Frag} {mg : Str → Option Value} {base : Heap} {k : Nat} {x qual : Str} {st : Stmt} {f : Addr} {fd : FuncData} {N ps : List Str} {n nN : Nat} {rp : List Nat} {m : SF} (F : Fun K x qual st f fd) (S : FnScope N ps (defScope st)) (hn : ps.length = n) (hN : N.length = nN) (hrp : ∀ i ∈ rp, i < n)
    (body : ∀ (cdv : Value) (hcv : fd.code = cdv) (A : Around) (outer : List PySem.Env) (s : Shared) (H : Hp) (pv : Nat → V) (E : XK), (A.deeper (envOfC qual (defScope st) s.heap.objs.size f cdv)).guards = some [] → Room k (A.deeper (envOfC qual (defScope st) s.heap.objs.size f cdv)) →
      DSs ⟨K, mg, (rp, pv, T), E⟩ (cxOf (L2.CX P w) P w K mg base N qual (defScope st) f cdv A outer s H E) (defBody st) m) : FnG P w K mg base (k + 1) f fd ps (spD K mg T (fnM n nN rp m)) := by
  have ln : ∀ {vs : List V} {H : Hp} {Q : VK} {E : XK}, spD K mg T (fnM n nN rp m) vs H Q E → ∃ I os F, Sim K (p0 T) I H (vs.map some) (os.map some) F ∧ os.length = n ∧ okA rp 0 os = true ∧ vs.length = n ∧
      (m (os.map some ++ List.replicate (nN - n) none) >>= fun r => match bkA rp r.2 0 os with
      | none => .no
      | some os' => match r.1 with
        | .rt o => .ok (o, os')
        | .nx => .ok (.fr .none, os')
        | _ => .no).post (fun r => ∀ v H', Aft K (p0 T) I H F (vs.map some) (r.2.map some) r.1 v H' → Q v H') (fun x => ∀ H' c d, Err T I H (Ow F) H' d → XR mg x c d H' → E c d H') := by
    rintro vs H Q E ⟨I, os, F, s, p⟩
    unfold fnM at p
    by_cases h : os.length = n ∧ okA rp 0 os = true
    · rw [if_pos h] at p
      have hl := s.len
      simp only [List.length_map] at hl
      exact ⟨I, os, F, s, h.1, h.2, by omega, p⟩
    · rw [if_neg h] at p; exact p.elim
  refine fnG_ofc F S (fun vs H Q E h => ?_) fun cdv hcv A outer s H vs Q E hg hr h => ?_
  · obtain ⟨_, _, _, _, _, _, h, _⟩ := ln h
    rw [hn, h]
  · obtain ⟨I, os, F, sim, h1, h2, h3, p⟩ := ln h
    refine ⟨_, body cdv hcv A outer s H (fun i => vs.getD i .non) E hg hr, I, _, F, sim_start (N := N) sim h3 hrp, ?_⟩
    rw [hN]
    refine post_mono (post_bind.mp p) (fun r q => ?_) fun x z => z
    obtain ⟨fl, e⟩ := r
    have hv : ∀ i ∈ rp, vs[i]? = some (vs.getD i .non) := fun i hi => by
      have := hrp i hi
      rw [List.getD_eq_getElem?_getD, List.getElem?_eq_getElem (by omega)]; rfl
    cases qb : bkA rp e 0 os with
    | none => simp only [qb] at q; exact q.elim
    | some os' =>
      simp only [qb] at q
      cases fl with
      | rt o => exact fun v σ' H' af => q v H' (back_args sim rfl rfl hv h2 qb af)
      | nx => exact fun σ' H' ⟨I', F', s', st'⟩ => q .non H' (back_args sim rfl rfl hv h2 qb (AftD.aft ⟨I', F', .non, s', st'⟩))
      | bk => exact q.elim
      | ct => exact q.elim
theorem fnD {T : List (Addr × Str)} {P : Program} {w : World} {K : PySem.W.Frag} {mg : Str → Option Value} {base : Heap} {k : Nat} {x qual : Str} {st : Stmt} {f : Addr} {fd : FuncData} {N ps : List Str} {n nN : Nat} {rp : List Nat} {m : SF} (F : Fun K x qual st f fd) (S : FnScope N ps (defScope st)) (hn : ps.length = n) (hN : N.length = nN) (hrp : ∀ i ∈ rp, i < n)
    (body : ∀ (cdv : Value) (A : Around) (outer : List PySem.Env) (s : Shared) (H : Hp) (pv : Nat → V) (E : XK), (A.deeper (envOfC qual (defScope st) s.heap.objs.size f cdv)).guards = some [] → Room k (A.deeper (envOfC qual (defScope st) s.heap.objs.size f cdv)) →
      DSs ⟨K, mg, (rp, pv, T), E⟩ (cxOf (L2.CX P w) P w K mg base N qual (defScope st) f cdv A outer s H E) (defBody st) m) : FnG P w K mg base (k + 1) f fd ps (spD K mg T (fnM n nN rp m)) :=
  fnDc F S hn hN hrp fun cdv _ => body cdv
def sl : List AV → Nat → Option Nat
  | [], _ => none
  | .s j :: as, i => if j = i then some 0 else (sl as i).map (· + 1)
  | .d _ :: as, i => (sl as i).map (· + 1)
def ndS : List AV → Bool
  | [] => true
  | .d _ :: as => ndS as
  | .s i :: as => (sl as i).isNone && ndS as
def rsO (env : Env) : List AV → Option (List O)
  | [] => some []
  | .d x :: as => (rsO env as).map (.fr x :: ·)
  | .s i :: as => match (env[i]?).join, rsO env as with
    | some o, some os => some (o :: os)
    | _, _ => none
def putB : List AV → List O → Env → Env
  | .d _ :: as, _ :: os, e => putB as os e
  | .s i :: as, o :: os, e => putB as os (e.set i (some o))
  | _, _, e => e
def fCall (m : Fn) (as : List AF) : EF := fun env => evA as env >>= fun r => match rsO r.2 r.1 with
  | none => .no
  | some os => if ndS r.1 = true then m os >>= fun q => .ok (q.1, putB r.1 q.2 r.2) else .no
theorem sl_some : ∀ {as : List AV} {i k : Nat}, sl as i = some k → as[k]? = some (.s i)
  | [], _, _, h => by cases h
  | .s j :: as, i, k, h => by
    unfold sl at h
    by_cases e : j = i
    · rw [if_pos e] at h; cases h; subst e; rfl
    · rw [if_neg e] at h
      cases q : sl as i with
      | none => rw [q] at h; cases h
      | some k' => rw [q] at h; cases h; simpa using sl_some q
  | .d _ :: as, i, k, h => by
    unfold sl at h
    cases q : sl as i with
    | none => rw [q] at h; cases h
    | some k' => rw [q] at h; cases h; simpa using sl_some q
theorem sl_of : ∀ {as : List AV} {i k : Nat}, ndS as = true → as[k]? = some (.s i) → sl as i = some k
  | [], _, _, _, h => by simp at h
  | .s j :: as, i, 0, n, h => by
    simp at h; subst h
    unfold sl; rw [if_pos rfl]
  | .s j :: as, i, k + 1, n, h => by
    unfold ndS at n
    simp only [Bool.and_eq_true] at n
    have q := sl_of (k := k) n.2 (by simpa using h)
    have hj : j ≠ i := fun e => by subst e; rw [q] at n; exact absurd n.1 (by simp)
    unfold sl; rw [if_neg hj, q]; rfl
  | .d _ :: as, i, 0, n, h => by simp at h
  | .d _ :: as, i, k + 1, n, h => by
    have q : sl as i = some k := sl_of (as := as) (k := k) n (by simpa using h)
    unfold sl; rw [q]; rfl
theorem putB_len : ∀ {as : List AV} {os : List O} {e : Env}, (putB as os e).length = e.length
  | [], _, _ => rfl
  | .d _ :: _, [], _ => rfl
  | .s _ :: _, [], _ => rfl
  | .d _ :: as, _ :: os, e => by unfold putB; exact putB_len
  | .s i :: as, o :: os, e => by unfold putB; rw [putB_len, List.length_set]
theorem putB_at : ∀ {as : List AV} {os : List O} {e : Env} {i : Nat}, ndS as = true → os.length = as.length → (∀ j, (sl as j).isSome = true → j < e.length) → (putB as os e)[i]? = match sl as i with
    | some k => (os[k]?).map some
    | none => e[i]?
  | [], _, _, _, _, _, _ => rfl
  | .d _ :: as, [], _, _, _, h, _ => by cases h
  | .s _ :: as, [], _, _, _, h, _ => by cases h
  | .d _ :: as, o :: os, e, i, n, h, b => by
    unfold putB sl
    rw [putB_at (as := as) (i := i) n (by simpa using h) fun j hj => b j (by unfold sl; cases q : sl as j <;> simp [q] at hj ⊢)]
    cases sl as i <;> rfl
  | .s j :: as, o :: os, e, i, n, h, b => by
    unfold ndS at n
    simp only [Bool.and_eq_true] at n
    unfold putB sl
    rw [putB_at (i := i) n.2 (by simpa using h) fun j' hj => by
      rw [List.length_set]
      refine b j' ?_
      unfold sl
      split
      · rfl
      · cases q : sl as j' <;> simp [q] at hj ⊢]
    by_cases e1 : j = i
    · subst e1
      rw [if_pos rfl]
      cases q : sl as j with
      | some k => rw [q] at n; exact absurd n.1 (by simp)
      | none =>
        show (e.set j (some o))[j]? = _
        rw [List.getElem?_set_self (b j (by unfold sl; rw [if_pos rfl]; rfl))]; rfl
    · rw [if_neg e1]
      cases q : sl as i with
      | none =>
        show (e.set j (some o))[i]? = _
        rw [List.getElem?_set_ne e1]; rfl
      | some k => rfl
theorem rsO_len {env : Env} : ∀ {as : List AV} {os : List O}, rsO env as = some os → os.length = as.length
  | [], _, h => by cases h; rfl
  | .d x :: as, os, h => by
    unfold rsO at h
    cases q : rsO env as with
    | none => rw [q] at h; cases h
    | some y => rw [q] at h; cases h; simp [rsO_len q]
  | .s i :: as, os, h => by
    unfold rsO at h
    cases q1 : (env[i]?).join with
    | none => rw [q1] at h; cases h
    | some o =>
      cases q : rsO env as with
      | none => rw [q1, q] at h; cases h
      | some y => rw [q1, q] at h; cases h; simp [rsO_len q]
theorem rsO_at {env : Env} : ∀ {as : List AV} {os : List O} {k : Nat} {o : O}, rsO env as = some os → os[k]? = some o → (∃ x, as[k]? = some (.d x) ∧ o = .fr x) ∨ (∃ i, as[k]? = some (.s i) ∧ env[i]? = some (some o))
  | [], _, _, _, h, e => by cases h; simp at e
  | .d x :: as, os, k, o, h, e => by
    unfold rsO at h
    cases q : rsO env as with
    | none => rw [q] at h; cases h
    | some y =>
      rw [q] at h; cases h
      cases k with
      | zero => simp at e; subst e; exact .inl ⟨x, rfl, rfl⟩
      | succ k => rcases rsO_at (k := k) q (by simpa using e) with ⟨x, a, b⟩ | ⟨i, a, b⟩
                  · exact .inl ⟨x, by simpa using a, b⟩
                  · exact .inr ⟨i, by simpa using a, b⟩
  | .s i :: as, os, k, o, h, e => by
    unfold rsO at h
    cases q1 : (env[i]?).join with
    | none => rw [q1] at h; cases h
    | some o1 =>
      cases q : rsO env as with
      | none => rw [q1, q] at h; cases h
      | some y =>
        rw [q1, q] at h; cases h
        cases k with
        | zero =>
          simp at e; subst e
          refine .inr ⟨i, rfl, ?_⟩
          cases z : env[i]? with
          | none => rw [z] at q1; cases q1
          | some w => rw [z] at q1; cases w <;> cases q1; rfl
        | succ k => rcases rsO_at (k := k) q (by simpa using e) with ⟨x, a, b⟩ | ⟨i, a, b⟩
                    · exact .inl ⟨x, by simpa using a, b⟩
                    · exact .inr ⟨i, by simpa using a, b⟩
theorem av_len {K : PySem.W.Frag} {I : Hp} {σ : St} : ∀ {as : List AV} {vs : List V}, RepAV K I σ as vs → vs.length = as.length
  | _, _, .nil => rfl
  | _, _, .d _ t => by simp [av_len t]
  | _, _, .s _ t => by simp [av_len t]
theorem av_at {K : PySem.W.Frag} {I : Hp} {σ : St} : ∀ {as : List AV} {vs : List V} {k : Nat} {a : AV}, RepAV K I σ as vs → as[k]? = some a → ∃ v, vs[k]? = some v ∧ (match a with | .d x => Rp K I v x | .s i => σ[i]? = some (some v))
  | _, _, _, _, .nil, h => by simp at h
  | _, _, 0, _, .d r t, h => by simp at h; subst h; exact ⟨_, rfl, r⟩
  | _, _, 0, _, .s r t, h => by simp at h; subst h; exact ⟨_, rfl, r⟩
  | _, _, k + 1, a, .d r t, h => by obtain ⟨v, h1, h2⟩ := av_at (k := k) t (by simpa using h); exact ⟨v, by simpa using h1, h2⟩
  | _, _, k + 1, a, .s r t, h => by obtain ⟨v, h1, h2⟩ := av_at (k := k) t (by simpa using h); exact ⟨v, by simpa using h1, h2⟩
section
variable {g : G} {σ : St} {I H : Hp} {env : Env} {F : Nat → List Addr}
/-- the caller's frame lends some of its slots -/
def lend (as : List AV) (F : Nat → List Addr) : Nat → List Addr := fun k => match as[k]? with
  | some (.s i) => F i
  | _ => []
theorem sim_lend {K : PySem.W.Frag} {π : Pn} {as : List AV} {vs : List V} {os : List O} (s : Sim K π I H σ env F) (nd : ndS as = true) (av : RepAV K I σ as vs) (ro : rsO env as = some os) : Sim K (p0 π.2.2) I H (vs.map some) (os.map some) (lend as F) := by
  refine ⟨by simp [rsO_len ro, av_len av], fun k o q => ?_, fun k q => ?_, fun k l a h1 h2 => ?_, fun k a h => ?_, s.sub, (fun i hi => by cases hi), s.tab⟩
  · rcases rsO_at ro (getm q) with ⟨x, h1, rfl⟩ | ⟨i, h1, h2⟩
    · obtain ⟨v, e1, r⟩ := av_at av h1
      exact ⟨v, putm e1, by unfold lend; rw [h1]; exact ⟨rfl, r⟩⟩
    · obtain ⟨v, e1, r⟩ := av_at av h1
      obtain ⟨v', e2, r'⟩ := s.rep i o h2
      have r : σ[i]? = some (some v) := r
      rw [r] at e2; cases e2
      exact ⟨v, putm e1, by unfold lend; rw [h1]; exact r'⟩
  · unfold lend
    cases z : as[k]? with
    | none => rfl
    | some y =>
      cases y with
      | d x => rfl
      | s i =>
        have hk : k < os.length := by
          rw [rsO_len ro]
          cases Nat.lt_or_ge k as.length with
          | inl h => exact h
          | inr h => rw [List.getElem?_eq_none h] at z; cases z
        exact absurd (putm (List.getElem?_eq_getElem hk)) (q _)
  · unfold lend at h1 h2
    cases z1 : as[k]? with
    | none => rw [z1] at h1; cases h1
    | some y1 =>
      cases z2 : as[l]? with
      | none => rw [z2] at h2; cases h2
      | some y2 =>
        rw [z1] at h1; rw [z2] at h2
        cases y1 with
        | d _ => cases h1
        | s i =>
          cases y2 with
          | d _ => cases h2
          | s j =>
            have e := s.dis i j a h1 h2
            subst e
            have e1 := sl_of nd z1
            rw [sl_of nd z2] at e1
            exact (Option.some.inj e1).symm
  · unfold lend at h
    cases z1 : as[k]? with
    | none => rw [z1] at h; cases h
    | some y =>
      rw [z1] at h
      cases y with
      | d _ => cases h
      | s i => exact s.djI i a h
theorem lend_ow {as : List AV} {a : Addr} (h : Ow (lend as F) a) : ∃ (k i : Nat), as[k]? = some (AV.s i) ∧ a ∈ F i := by
  obtain ⟨k, hk⟩ := h
  unfold lend at hk
  cases z : as[k]? with
  | none => rw [z] at hk; cases hk
  | some y =>
    rw [z] at hk
    cases y with
    | d _ => cases hk
    | s i => exact ⟨k, i, z, hk⟩
theorem back_call {K : PySem.W.Frag} {π : Pn} {as : List AV} {vs : List V} {os os' : List O} {o : O} {v : V} {H' : Hp} (s : Sim K π I H σ env F) (nd : ndS as = true) (av : RepAV K I σ as vs) (ro : rsO env as = some os)
    (af : Aft K (p0 π.2.2) I H (lend as F) (vs.map some) (os'.map some) o v H') : Aft K π I H F σ (putB as os' env) o v H' := by
  obtain ⟨I', FA, R, r, sA, nR, dR, st⟩ := af
  have hlo : os'.length = as.length := by
    have := sA.len
    simp only [List.length_map] at this
    rw [this, av_len av]
  have hin : ∀ j, (sl as j).isSome = true → j < env.length := fun j hj => by
    cases q : sl as j with
    | none => rw [q] at hj; cases hj
    | some k =>
      obtain ⟨w, _, e1⟩ := av_at av (sl_some q)
      have e1 : σ[j]? = some (some w) := e1
      rw [s.len]
      cases Nat.lt_or_ge j σ.length with
      | inl h => exact h
      | inr h => rw [List.getElem?_eq_none h] at e1; cases e1
  let F2 : Nat → List Addr := fun i => match sl as i with
    | some k => FA k
    | none => F i
  have notL : ∀ i, sl as i = none → ∀ a ∈ F i, ¬ Ow (lend as F) a := fun i hn a ha h => by
    obtain ⟨k, j, e1, e2⟩ := lend_ow h
    have e := s.dis i j a ha e2
    subst e
    rw [sl_of nd e1] at hn; cases hn
  have F2s : ∀ {i k}, sl as i = some k → F2 i = FA k := fun {i k} h => by show (match sl as i with | some k => FA k | none => F i) = _; rw [h]
  have F2n : ∀ {i}, sl as i = none → F2 i = F i := fun {i} h => by show (match sl as i with | some k => FA k | none => F i) = _; rw [h]
  have keepH : ∀ i, sl as i = none → ∀ a ∈ F i, H' a = H a := fun i hn a ha => by
    obtain ⟨u, hu, nu⟩ := s.domN ha
    rw [hu, st.fr a u hu (notL i hn a ha) nu]
  have nA : ∀ i, sl as i = none → ∀ a ∈ F i, ∀ k, a ∉ FA k := fun i hn a ha k hk => by
    obtain ⟨u, hu⟩ := s.dom ha
    rcases st.s' a (.inl ⟨k, hk⟩) with z | z
    · exact notL i hn a ha z
    · rw [hu] at z; cases z
  have ow : ∀ a, Ow F2 a → Ow FA a ∨ ∃ i, sl as i = none ∧ a ∈ F i := fun a ⟨i, hi⟩ => by
    cases q : sl as i with
    | some k => rw [F2s q] at hi; exact .inl ⟨k, hi⟩
    | none => rw [F2n q] at hi; exact .inr ⟨i, q, hi⟩
  refine ⟨I', F2, R, r, ⟨by rw [putB_len, s.len], fun i y q => ?_, fun i q => ?_, fun i j a h1 h2 => ?_, fun i a h => ?_, sA.sub, s.pin, sA.tab⟩, nR, fun a ha hr => ?_, ⟨st.i1, fun a u h n nt => ?_, fun a u h n => ?_, fun a h => ?_, fun a u h => ?_⟩⟩
  · rw [putB_at nd hlo hin] at q
    cases z : sl as i with
    | none =>
      rw [z] at q
      obtain ⟨w, e1, rr⟩ := s.rep i y q
      exact ⟨w, e1, by rw [F2n z]; exact rr.mono st.i1 (keepH i z)⟩
    | some k =>
      rw [z] at q
      have q : (os'[k]?).map some = some (some y) := q
      cases z2 : os'[k]? with
      | none => rw [z2] at q; cases q
      | some y' =>
        rw [z2] at q; cases q
        obtain ⟨w, e1, rr⟩ := sA.rep k y (putm z2)
        obtain ⟨w', e2, e3⟩ := av_at av (sl_some z)
        have e3 : σ[i]? = some (some w') := e3
        have := getm e1
        rw [e2] at this; cases this
        exact ⟨_, e3, by rw [F2s z]; exact rr⟩
  · cases z : sl as i with
    | none =>
      rw [F2n z]
      exact s.out i fun o hz => q o (by rw [putB_at nd hlo hin, z]; exact hz)
    | some k =>
      rw [F2s z]
      refine sA.out k fun o hz => q o ?_
      rw [putB_at nd hlo hin, z]
      show (os'[k]?).map some = some (some o)
      rw [getm hz]; rfl
  · cases z1 : sl as i with
    | none =>
      rw [F2n z1] at h1
      cases z2 : sl as j with
      | none => rw [F2n z2] at h2; exact s.dis i j a h1 h2
      | some l => rw [F2s z2] at h2; exact absurd h2 (nA i z1 a h1 l)
    | some k =>
      rw [F2s z1] at h1
      cases z2 : sl as j with
      | none => rw [F2n z2] at h2; exact absurd h1 (nA j z2 a h2 k)
      | some l =>
        rw [F2s z2] at h2
        have e := sA.dis k l a h1 h2
        subst e
        have := sl_some z1
        rw [sl_some z2] at this
        cases this; rfl
  · cases z1 : sl as i with
    | none =>
      rw [F2n z1] at h
      cases q : I' a with
      | none => rfl
      | some u =>
        rcases st.i' a u q with y | y | y
        · rw [s.djI i a h] at y; cases y
        · exact (notL i z1 a h y).elim
        · obtain ⟨w, hw⟩ := s.dom h; rw [y] at hw; cases hw
    | some k => rw [F2s z1] at h; exact sA.djI k a h
  · rcases ow a ha with z | ⟨i, hn, hi⟩
    · exact dR a z hr
    · obtain ⟨u, hu⟩ := s.dom hi
      rcases st.s' a (.inr hr) with z | z
      · exact notL i hn a hi z
      · rw [hu] at z; cases z
  · refine st.fr a u h (fun z => n ?_) nt
    obtain ⟨k, i, _, hi⟩ := lend_ow z
    exact ⟨i, hi⟩
  · refine st.th a u h fun z => n ?_
    obtain ⟨k, i, _, hi⟩ := lend_ow z
    exact ⟨i, hi⟩
  · have lo : ∀ a, Ow (lend as F) a → Ow F a := fun a z => by obtain ⟨k, i, _, hi⟩ := lend_ow z; exact ⟨i, hi⟩
    rcases h with h | h
    · rcases ow a h with z | ⟨i, _, hi⟩
      · rcases st.s' a (.inl z) with y | y
        · exact .inl (lo a y)
        · exact .inr y
      · exact .inl ⟨i, hi⟩
    · rcases st.s' a (.inr h) with y | y
      · exact .inl (lo a y)
      · exact .inr y
  · rcases st.i' a u h with z | z | z
    · exact .inl z
    · obtain ⟨k, i, _, hi⟩ := lend_ow z
      exact .inr (.inl ⟨i, hi⟩)
    · exact .inr (.inr z)
theorem call_key {m : Fn} {as : List AF} {Q : VK} (h : tD g (fCall m as) σ H Q) : tA g as σ H fun vs H1 => spD g.K g.mg g.pn.2.2 m vs H1 Q g.E := by
  obtain ⟨I, env, F, s, p⟩ := h
  refine ⟨I, env, F, s, post_mono (post_bind.mp p) (fun r q vs H' I' F' s' st av => ?_) fun _ z => z⟩
  cases qo : rsO r.2 r.1 with
  | none => simp only [qo] at q; exact q.elim
  | some os =>
    simp only [qo] at q
    by_cases nd : ndS r.1 = true
    · rw [if_pos nd] at q
      refine ⟨I', os, lend r.1 F', sim_lend s' nd av qo, post_mono (post_bind.mp q) (fun y z v H'' af => ?_) fun x z H'' c d er xr => ?_⟩
      · exact z v H'' (Aft.trans st (back_call s' nd av qo af))
      · refine z H'' c d (Err.trans st ?_) xr
        obtain ⟨I2, e1, e2, ef, k⟩ := er
        have lo : ∀ a, Ow (lend r.1 F') a → Ow F' a := fun a z => by obtain ⟨_, i, _, hi⟩ := lend_ow z; exact ⟨i, hi⟩
        refine ⟨I2, e1, e2, ef, k.i1, fun a u hu n => k.fr a u hu fun z => n (lo a z), fun a u hu n => k.th a u hu fun z => n (lo a z), fun a z => z.elim, fun a u z => ?_⟩
        rcases k.i' a u z with y | y | y
        · exact .inl y
        · exact .inr (.inl (lo a y))
        · exact .inr (.inr y)
    · rw [if_neg nd] at q; exact q.elim
end
section
variable {g : G} {X : Cx} {k : Nat} {f : Addr} {fd : FuncData} {ps : List Str} {m : Fn} {x : Str} {p pos : Pos} {e : Expr} {es : List Expr} {as : List AF}
theorem de_call (F : FnG X.prog X.w X.K X.mg X.base k f fd ps (spD g.K g.mg g.pn.2.2 m)) (hgd : X.A.guards = some []) (hr : Room k X.A) (hg : Gl X x) (hm : X.mg x = some (.ref f)) (hk : PySem.W.keepIn X.K (.ref f) = true) (hb : Binds X.K fd ps []) (hx : Passes (L2.CX X.prog X.w) X g.E)
    (ha : DA g X (e :: es) as) (hdb : (x == ("__debug__" : Str)) = false := by decide) (he : starEach (e :: es) X.env = (false, eval e X.env) :: starEach es X.env := by rfl) (hpl : (backTo pos (starEach es X.env)).any (·.1) = false := by rfl) :
    DE g X (.Call (.Name x p) (e :: es) [] pos) (fCall m as) := PE.imp (peG F hgd hr hg hm hk hb hx ha hdb he hpl) fun σ H Q h => call_key h
end
end Dy
namespace Dy
open PySem PySem.Spec PyProof.Rows L2
/-- the script's ints as data -/
theorem rp_ints {K : PySem.W.Frag} {I : Hp} : ∀ ns : List Int, RpAll K I (ns.map V.int) (ns.map PyData.int)
  | [] => .nil
  | n :: ns => .cons (.int n) (rp_ints ns)
end Dy
namespace Dy
open PySem PySem.Spec PyProof.Rows L2
open AutoSeq1 (wpAny_loadPart')
theorem meets_enum1 {v : Value} {o : Obj} {Hh : Heap → Prop} (B : Begins v o Hh) :
    Meets (Builtin.«enumerate.__new__» ⟨[.type "enumerate", v], []⟩) (fun _ R s => Hh s.heap ∧ R (.ok (.ret (.ref (s.heap.push o).objs.size))) { s with heap := (s.heap.push o).push { cls := .type "enumerate", data := .fields #[.none, .bool false, .ref s.heap.objs.size, rawInt 0, .none, .none] } }) :=
  .of_wp fun prog w A R s h => by
    obtain ⟨hp, gg, dd, tk, os⟩ := s
    obtain ⟨h1, h⟩ := h
    have hsub := sub_enumerate
    have q1 : ∀ {A' : Around} {E : Value → Shared → Prop} {Q : Value → Shared → Prop}, Q (.ref hp.objs.size) ⟨hp.push o, gg, dd, tk, os⟩ → wpAny (model prog w) A' (pyIter v) Q E ⟨hp, gg, dd, tk, os⟩ := by
      intro A' E Q q
      exact B.iter prog w _ _ ⟨hp, gg, dd, tk, os⟩ _ h1 q
    wp_walk using q1
    refine wpAny_stack_any fun stk => wpAny_pure ?_
    split
    · rename_i c _ _ _ _ _
      cases (c == Value.type "enumerate") <;> (wp_walk using q1; exact ⟨_, rfl, h⟩)
    · wp_walk using q1
      exact ⟨_, rfl, h⟩
theorem call_enum1 {prog : Program} {w : World} {A : Around} {E : Value → Shared → Prop} {s : Shared} {v : Value} {o : Obj} {Hh : Heap → Prop} {Q : Value → Shared → Prop} (B : Begins v o Hh) (h1 : Hh s.heap)
    (h : ∀ h', IsEnum h' (s.heap.objs.size + 1) s.heap.objs.size 0 .none → h'.get? s.heap.objs.size = some o → (∀ b o, s.heap.get? b = some o → h'.get? b = some o) → Q (.ref (s.heap.objs.size + 1)) { s with heap := h' }) :
    wpAny (model prog w) A (call (.type "enumerate") [v]) Q E s := by
  refine callType_new F.called_enumerate (by decide) (F.typeCall_enumerate_1 _) (F.newCall_enumerate_1 _) (fun obj => F.args_object_init_2 obj _) F.entry_enumerate_new (meets_enum1 B) ⟨h1, ?_⟩
  have hz : (s.heap.push o).objs.size = s.heap.objs.size + 1 := Heap.size_push ..
  let en : Obj := { cls := .type "enumerate", data := .fields #[.none, .bool false, .ref s.heap.objs.size, rawInt 0, .none, .none] }
  have he : IsEnum ((s.heap.push o).push en) (s.heap.objs.size + 1) s.heap.objs.size 0 .none := by
    have q := Heap.get?_push_size (s.heap.push o) (o := en) rfl
    rw [hz] at q
    exact q
  show _ ∧ _
  rw [hz]
  exact ⟨⟨_, he, rfl⟩, h _ he (Heap.get?_push_of_some _ (Heap.get?_push_size _ B.free)) fun b u x => Heap.get?_push_of_some _ (Heap.get?_push_of_some _ x)⟩
def SqX (t : Bool) (K : PySem.W.Frag) (H : Hp) (a : Addr) (xs : List V) : Prop := if t = true then SqT K H a xs else SqL K H a xs
def IsX (t : Bool) (h : Heap) (a : Addr) (items : Array Value) : Prop := if t = true then h.IsTuple a items else h.IsList a items
def ItX (t : Bool) (h : Heap) (it a : Addr) (i : Nat) : Prop := if t = true then h.IsTupleIter it a i else h.IsListIter it a i
def itO (t : Bool) (a : Addr) : Obj := if t = true then { cls := .type "tuple_iterator", data := .fields #[.ref a, .int 0 0] } else { cls := .type "list_iterator", data := .fields #[.ref a, .int 0 0] }
theorem begX (t : Bool) (a : Addr) (items : Array Value) : Begins (.ref a) (itO t a) fun h => IsX t h a items := by
  cases t
  · exact begins_list a items
  · exact begins_tuple a items
theorem itX_new {t : Bool} {h : Heap} {it a : Addr} (e : h.get? it = some (itO t a)) : ItX t h it a 0 := by
  cases t
  · exact ⟨_, e, rfl, rfl⟩
  · exact ⟨_, e, rfl, rfl⟩
theorem drX {prog : Program} {w : World} {A : Around} (hh : A.handled = none) (t : Bool) (it a : Addr) (hne : a ≠ it) (items : Array Value) : Draws prog w A it [it, a] items.size (fun i v => items[i]? = some v) (fun i h => ItX t h it a i ∧ IsX t h a items) := by
  cases t
  · exact Draws.list hh it a hne items
  · exact Draws.tuple hh it a hne items
theorem itX_obj {t : Bool} {h : Heap} {it a : Addr} {i : Nat} (x : ItX t h it a i) : ∃ o, h.get? it = some o ∧ ∀ v, o.data ≠ .cell v := by
  cases t
  · obtain ⟨o, e, _, d⟩ := x
    exact ⟨o, e, fun v z => by rw [d] at z; cases z⟩
  · obtain ⟨o, e, _, d⟩ := x
    exact ⟨o, e, fun v z => by rw [d] at z; cases z⟩
theorem itX_at {t : Bool} {h h' : Heap} {it a : Addr} {i : Nat} (x : ItX t h it a i) (k : ∀ o, h.get? it = some o → h'.get? it = some o) : ItX t h' it a i := by
  cases t
  · obtain ⟨o, e, r⟩ := x
    exact ⟨o, k o e, r⟩
  · obtain ⟨o, e, r⟩ := x
    exact ⟨o, k o e, r⟩
section
variable {X : Cx} {pins : List (Addr × Obj)} {σ : St} {H : Hp} {s : Shared} {a : Addr} {xs ys : List V} {t : Bool}
theorem invX (J : Inv X pins σ H s) (h : SqX t X.K H a xs) : ∃ its : List Value, Vals xs its ∧ IsX t s.heap a its.toArray ∧ a < s.heap.objs.size := by
  cases t
  · obtain ⟨its, r, p, _⟩ := J.list h
    exact ⟨its, r, p.isList, by obtain ⟨_, _, e, _⟩ := p; exact Heap.lt_size e⟩
  · obtain ⟨its, r, p, _⟩ := J.tuple h
    exact ⟨its, r, p, by obtain ⟨_, e, _⟩ := p; exact Heap.lt_size e⟩
theorem invX_inj (J : Inv X pins σ H s) (h : SqX t X.K H a xs) (h' : SqX t X.K H a ys) : xs = ys := by
  cases t
  · exact J.list_inj h h'
  · exact J.tuple_inj h h'
end
/-- enumerate -/
def ItEn (t : Bool) (K : PySem.W.Frag) (a : Addr) : It :=
  ⟨fun i H => ∃ (xs : List V) (x : V), SqX t K H a xs ∧ xs[i]? = some x, fun i H v H' => ∃ T ob x, v = .ref T ∧ PlT ob ∧ H T = none ∧ H' = upd H T (.frz ob (.tup [.int (i : Nat), x])) ∧ ∀ xs, SqX t K H a xs → xs[i]? = some x, fun i H => ∃ xs : List V, SqX t K H a xs ∧ xs.length = i⟩
theorem turn_en {P : Program} {w : World} {K : PySem.W.Frag} {elts : List Expr} {kk : Nat} {tpos : Pos} (t : Bool) (a e it : Addr) (hai : a ≠ it) (hae : a ≠ e) :
    Turn P w K (.Tuple elts kk tpos) (ItEn t K a) [e, it] e (fun i h => (∃ old, IsEnum h e it ((i : Nat) : Int) old) ∧ ItX t h it a i ∧ e ≠ it) where
  mem := by simp
  obj := by
    rintro i h ⟨⟨old, he⟩, hx, _⟩ b hb
    simp only [List.mem_cons, List.not_mem_nil, or_false] at hb
    rcases hb with rfl | rfl
    · exact ⟨_, he, fun v q => nomatch q⟩
    · exact itX_obj hx
  keep := by
    rintro i h h' ⟨⟨old, he⟩, hx, hne⟩ k
    exact ⟨⟨old, k e (by simp) _ he⟩, itX_at hx fun o q => k it (by simp) o q, hne⟩
  item := by
    intro X hP hw hK hc i pins s σ H E J hf stt hg
    subst hP hw hK
    obtain ⟨⟨old, he⟩, hit, hne⟩ := stt
    obtain ⟨xs, x, hq, hx⟩ := hg
    obtain ⟨its, rv, p, _⟩ := invX J hq
    obtain ⟨u, hu, ru⟩ := rv.get hx
    have hel : e < s.heap.objs.size := Heap.lt_size he
    have hil : it < s.heap.objs.size := by obtain ⟨_, q, _⟩ := itX_obj hit; exact Heap.lt_size q
    have hi : i < its.toArray.size := by
      rw [List.size_toArray]
      cases Nat.lt_or_ge i its.length with
      | inl z => exact z
      | inr z => rw [List.getElem?_eq_none z] at hu; cases hu
    refine wpAny_pyNext_enum_itemD (drX (A := X.A.in1) (J.ok.hd hc) t it a hai its.toArray) he ⟨hit, p⟩ hi hne (by simp only [List.mem_cons, List.not_mem_nil, or_false, not_or]; exact ⟨hne, Ne.symm hae⟩) fun y h' tk hy ho hst hT hsz hk => ?_
    have ey : y = u := by
      have hy : its.toArray[i]? = some y := hy
      have : its[i]? = some y := by simpa using hy
      rw [hu] at this; exact (Option.some.inj this).symm
    subst ey
    refine ⟨_, rfl, wpAny_letOwnedTupleGo_enum (s := { s with heap := h', toks := tk + 1 }) ho fun h'' he' sb => ?_⟩
    have hT2 : h''.get? s.heap.objs.size = some { cls := .type "tuple", data := .seq #[.int i tk, y] } := (sb.2 _ (Nat.ne_of_gt hel)).trans hT
    have nw : ObjOk X.prog X.w (upd H s.heap.objs.size (.frz { cls := .type "tuple", data := .seq #[.int i tk, y] } (.tup [.int (i : Nat), x]))) h'' s.heap.objs.size (.frz { cls := .type "tuple", data := .seq #[.int i tk, y] } (.tup [.int (i : Nat), x])) :=
      ⟨hT2, by show 2 ≤ sizeLine; decide, [.int i tk, y], .cons ⟨_, rfl⟩ (.cons ru .nil), ⟨_, hT2, rfl, _, rfl⟩⟩
    have J1 : Inv X pins σ (upd H s.heap.objs.size (.frz { cls := .type "tuple", data := .seq #[.int i tk, y] } (.tup [.int (i : Nat), x]))) { s with heap := h'', toks := tk + 1 } := by
      refine J.turnedNew (ch := [e, it]) (fun b ob hb q => ?_) hf (Nat.le_refl _) nw
      simp only [List.mem_cons, List.not_mem_nil, or_false, not_or] at hb
      exact (sb.2 b hb.1).trans (hk b ob hb.1 hb.2 q)
    refine ⟨.ref s.heap.objs.size, _, J1, rfl, ⟨_, _, x, rfl, PlT.mk, J.hok.fresh (Nat.le_refl _), rfl, fun ys hy => by rw [invX_inj J hy hq]; exact hx⟩, ⟨⟨y, ?_⟩, itX_at hst.1 fun o q => (sb.2 it (Ne.symm hne)).trans q, hne⟩, fun b hb => ?_⟩
    · have e1 : ((i + 1 : Nat) : Int) = (i : Int) + 1 := by omega
      rw [e1]
      exact he'
    · simp only [List.mem_cons, List.not_mem_nil, or_false] at hb
      have hb' : b < s.heap.objs.size := by rcases hb with rfl | rfl <;> assumption
      rw [upd_ne (Nat.ne_of_lt hb')]
      exact (hf b (by simpa using hb)).1
  done := by
    intro X hP hw hK hc i pins s σ H E J hf stt hg
    subst hP hw hK
    obtain ⟨⟨old, he⟩, hit, hne⟩ := stt
    obtain ⟨xs, hq, hx⟩ := hg
    obtain ⟨its, rv, p, _⟩ := invX J hq
    obtain ⟨f0, f1, f2, f3, f4, f5⟩ := hf it (by simp)
    have hn : its.toArray.size = i := by rw [List.size_toArray, ← rv.length]; exact hx
    have D := drX (prog := X.prog) (w := X.w) (A := X.A.in1) (J.ok.hd hc) t it a hai its.toArray
    rw [hn] at D
    exact wpAny_pyNext_enum_endD D he ⟨hit, p⟩ fun h' eb => ⟨rfl, J.turned (t' := s.toks) (fun b o hb q => eb b o hb q) f0 f1 f3 f4 f5⟩
  self := by
    rintro A i s Q E ⟨⟨_, he⟩, _⟩ h
    exact wpAny_pyIter_enum he h
def iEn (K : PySem.W.Frag) (ta : TA) : TI := fun σ H R => ta σ H fun vs H1 => ∃ a t xs, vs = [.ref a] ∧ SqX t K H1 a xs ∧ R (ItEn t K a) H1
theorem pi_en {X : Cx} {e : Expr} {ta : TA} {p pos tpos : Pos} {elts : List Expr} {kk : Nat} (hg : Gl X "enumerate") (hm : X.mg "enumerate" = none) (ha : PA X [e] ta) (hs : starEach [e] X.env = [(false, eval e X.env)] := by rfl) :
    PI X (.Tuple elts kk tpos) (.Call (.Name "enumerate" p) [e] [] pos) (iEn X.K ta) := by
  refine ⟨fun pins s σ H R J h => ?_⟩
  refine Call_ (ld_blt J hg hm boot_enumerate (PyProof.Rows.callWith_type1 (thn (ha.run pos pins s σ H _ J h) ?_) hs rfl))
  rintro us s1 ⟨vs, H1, J1, r1, a, t, xs, rfl, hq, q⟩
  cases r1 with
  | cons r rr =>
    cases rr
    cases r
    obtain ⟨its, rv, p', hlt⟩ := invX J1 hq
    refine call_enum1 (begX t a its.toArray) p' fun h' he hit hk => wpAny_pyIter_enum he ?_
    have J2 : Inv X pins σ H1 { s1 with heap := h' } := J1.kept (t' := s1.toks) hk
    refine ⟨s1.heap.objs.size + 1, [s1.heap.objs.size + 1, s1.heap.objs.size], _, _, H1, rfl, J2, turn_en t a (s1.heap.objs.size + 1) s1.heap.objs.size (Nat.ne_of_lt hlt) (Nat.ne_of_lt (Nat.lt_succ_of_lt hlt)), ⟨⟨.none, he⟩, itX_new hit, Nat.succ_ne_self _⟩, fun b hb => ?_, q⟩
    have hle : s1.heap.objs.size ≤ b := by
      simp only [List.mem_cons, List.not_mem_nil, or_false] at hb
      rcases hb with z | z
      · rw [z]; exact Nat.le_succ _
      · rw [z]; exact Nat.le_refl _
    exact J1.fpOk hle (J1.hok.fresh hle)
end Dy
namespace Dy
open PySem PySem.Spec PyProof.Rows L2
def kindK : PyData → Option Bool
  | .int _ => some false
  | .str _ => some false
  | .tuple xs => match keysOf xs with
    | some ks => if NestedKey.depthAll ks ≤ 7 then some true else none
    | none => none
  | _ => none
def okK (es : List (PyData × PyData)) (k : PyData) : Bool := match kindK k with
  | none => false
  | some b => match es with
    | [] => true
    | e :: _ => decide (kindK e.1 = some b)
def dPut (es : List (PyData × PyData)) (k v : PyData) : List (PyData × PyData) := if (dAt es k).isSome = true then es.map fun e => if PyData.eqv e.1 k = true then (e.1, v) else e else es ++ [(k, v)]
theorem kind_t {k : PyData} (h : kindK k = some true) : ∃ n, keyOf k = some n ∧ n.depth ≤ 8 ∧ ∃ xs, k = .tuple xs := by
  cases k <;> simp only [kindK, reduceCtorEq, Option.some.injEq] at h
  rename_i xs
  split at h
  · rename_i ks q
    split at h
    · rename_i hz
      exact ⟨.tup ks, by simp [keyOf, q], by simp only [NestedKey.depth]; omega, _, rfl⟩
    · cases h
  · cases h
theorem kind_of {k : PyData} {n : NestedKey} (h1 : keyOf k = some n) (h2 : n.depth ≤ 8) {xs : List PyData} (h3 : k = .tuple xs) : kindK k = some true := by
  subst h3
  simp only [keyOf, Option.map_eq_some_iff] at h1
  obtain ⟨ks, h1, rfl⟩ := h1
  simp only [NestedKey.depth] at h2
  simp only [kindK, h1]
  rw [if_pos (by omega)]
theorem kind_f {k : PyData} (h : kindK k = some false) : ∃ y : Key, k = kD y := by
  cases k <;> simp only [kindK, reduceCtorEq, Option.some.injEq] at h
  · exact ⟨.inl _, rfl⟩
  · exact ⟨.inr _, rfl⟩
  · split at h
    · split at h <;> cases h
    · cases h
theorem kind_kD (y : Key) : kindK (kD y) = some false := by cases y <;> rfl
section
variable {K : PySem.W.Frag} {I : Hp}
theorem VN.app : ∀ {es fs : List (PyData × PyData)} {ys zs : List YP}, VN K I es ys → VN K I fs zs → VN K I (es ++ fs) (ys ++ zs)
  | _, _, _, _, .nil, s => s
  | _, _, _, _, .cons h1 h2 h3 h4 h5 t, s => .cons h1 h2 h3 h4 h5 (t.app s)
theorem VKs.app : ∀ {es fs : List (PyData × PyData)} {ys zs : List (Key × Value)}, VKs K I es ys → VKs K I fs zs → VKs K I (es ++ fs) (ys ++ zs)
  | _, _, _, _, .nil, s => s
  | _, _, _, _, .cons h4 h5 t, s => .cons h4 h5 (t.app s)
theorem VN.upd {kd d : PyData} {n : NestedKey} {v : V} {u : Value} (hk : keyOf kd = some n) (rv : Rp K I v d) (ru : RelV v u) : ∀ {es : List (PyData × PyData)} {ys : List YP}, VN K I es ys →
    VN K I (es.map fun e => if PyData.eqv e.1 kd = true then (e.1, d) else e) (ys.map (putAt n u))
  | _, _, .nil => .nil
  | _, _, .cons (kd := kd') (k := k') h1 h2 h3 h4 h5 t => by
    have e := key_dec h1 hk
    have ih := VN.upd hk rv ru t
    simp only [List.map_cons]
    by_cases c : k' = n
    · simp only [e, c, decide_true, if_true, putAt]; exact .cons (c ▸ h1) (c ▸ h2) h3 rv ru ih
    · simp only [e, c, decide_false, Bool.false_eq_true, if_false, putAt]; exact .cons h1 h2 h3 h4 h5 ih
theorem VKs.upd {k : Key} {d : PyData} {v : V} {u : Value} (rv : Rp K I v d) (ru : RelV v u) : ∀ {es : List (PyData × PyData)} {ys : List (Key × Value)}, VKs K I es ys →
    VKs K I (es.map fun e => if PyData.eqv e.1 (kD k) = true then (e.1, d) else e) (ys.map fun kv => if kv.1 = k then (kv.1, u) else kv)
  | _, _, .nil => .nil
  | _, _, .cons (k := k') h4 h5 t => by
    have e := kD_dec k' k
    have ih := VKs.upd (k := k) rv ru t
    simp only [List.map_cons]
    by_cases c : k' = k
    · subst c; rw [if_pos (by rw [e]; simp), if_pos rfl]; exact .cons rv ru ih
    · rw [if_neg (by rw [e]; simp [c]), if_neg c]; exact .cons h4 h5 ih
theorem VN.put {kd d : PyData} {n : NestedKey} {b : Addr} {v : V} {u : Value} {es : List (PyData × PyData)} {ys : List YP} (hk : keyOf kd = some n) (h8 : n.depth ≤ 8) (rb : Rp K I (.ref b) kd) (rv : Rp K I v d) (ru : RelV v u) (h : VN K I es ys) :
    VN K I (dPut es kd d) (storedH ys n b u) := by
  unfold dPut storedH
  rcases h.at hk with ⟨a1, a2⟩ | ⟨b', u', v', d', a1, a2, _⟩
  · rw [a1, a2]; exact h.app (.cons hk h8 rb rv ru .nil)
  · rw [a1, a2]; exact h.upd hk rv ru
theorem VKs.put {k : Key} {d : PyData} {v : V} {u : Value} {es : List (PyData × PyData)} {ys : List (Key × Value)} (rv : Rp K I v d) (ru : RelV v u) (h : VKs K I es ys) : VKs K I (dPut es (kD k) d) (stored ys k u) := by
  have ea : (ys.any fun kv => decide (kv.1 = k)) = (valueAt ys k).isSome := by
    clear h
    induction ys with
    | nil => rfl
    | cons x xs ih => by_cases c : x.1 = k <;> simp [valueAt, List.find?_cons, c] <;> simpa [valueAt] using ih
  unfold dPut stored
  rw [ea]
  rcases h.at k with ⟨a1, a2⟩ | ⟨u', v', d', a1, a2, _⟩
  · rw [a1, a2]; exact h.app (.cons rv ru .nil)
  · rw [a1, a2]; exact h.upd rv ru
theorem VN.key : ∀ {es : List (PyData × PyData)} {ys : List YP}, VN K I es ys → ∀ y ∈ ys, ∃ kd, keyOf kd = some y.1 ∧ y.1.depth ≤ 8 ∧ Rp K I (.ref y.2.1) kd
  | _, _, .nil, y, hy => nomatch hy
  | _, _, .cons h1 h2 h3 _ _ t, y, hy => by
    rcases List.mem_cons.mp hy with rfl | hy
    · exact ⟨_, h1, h2, h3⟩
    · exact t.key y hy
end
section
variable {X : Cx} {pins : List (Addr × Obj)} {σ : St} {I H : Hp} {s : Shared} {a : Addr} {es : List (PyData × PyData)} {k : PyData}
mutual
theorem key_is (J : Inv X pins σ H s) (sm : Same I H) : ∀ {d : PyData} {v : V} {n : NestedKey} {u : Value}, Rp X.K I v d → keyOf d = some n → RelV v u → NestedIs s.heap n u
  | .none, v, n, u, r, h, ru => by cases r; simp only [keyOf, Option.some.injEq] at h; subst h; cases (show u = Value.none from ru); exact .none
  | .int i, v, n, u, r, h, ru => by cases r; simp only [keyOf, Option.some.injEq] at h; subst h; obtain ⟨t, rfl⟩ := ru; exact .int _ _
  | .tuple xs, v, n, u, r, h, ru => by
    simp only [keyOf, Option.map_eq_some_iff] at h
    obtain ⟨ks, h1, rfl⟩ := h
    cases r with
    | @tup a vs _ hs ha =>
      cases (show u = Value.ref a from ru)
      obtain ⟨its, rv, ⟨o, h2, h3, m, h4⟩, _⟩ := J.tuple (same_t sm hs.sq)
      exact .tup h2 h3 h4 (by simpa using keys_are J sm ha h1 rv)
  | .bool _, _, _, _, _, h, _ => by simp [keyOf] at h
  | .str _, _, _, _, _, h, _ => by simp [keyOf] at h
  | .list _, _, _, _, _, h, _ => by simp [keyOf] at h
  | .dict _, _, _, _, _, h, _ => by simp [keyOf] at h
theorem keys_are (J : Inv X pins σ H s) (sm : Same I H) : ∀ {ds : List PyData} {vs : List V} {ns : List NestedKey} {us : List Value}, RpAll X.K I vs ds → keysOf ds = some ns → Vals vs us → NestedAll s.heap ns us
  | [], vs, ns, us, r, h, rv => by
    cases r; cases rv
    simp only [keysOf, Option.some.injEq] at h; subst h; exact .nil
  | d :: ds, vs, ns, us, r, h, rv => by
    simp only [keysOf, Option.bind_eq_some_iff, Option.map_eq_some_iff] at h
    obtain ⟨k, h1, ks, h2, rfl⟩ := h
    cases r with
    | cons r1 r2 =>
      cases rv with
      | cons v1 v2 => exact .cons (key_is J sm r1 h1 v1) (keys_are J sm r2 h2 v2)
end
theorem rp_tup_ref {K : PySem.W.Frag} {v : V} {xs : List PyData} (h : Rp K I v (.tuple xs)) : ∃ b, v = .ref b := by cases h; exact ⟨_, rfl⟩
theorem rpkt_kind {K : PySem.W.Frag} {ts : List TP} {ys : List YP} (h : RpKt K I ts es) (p : Paired PY ts ys) : ∀ e ∈ es, kindK e.1 = some true := by
  induction es generalizing ts ys with
  | nil => intro e he; cases he
  | cons x es ih =>
    cases h with
    | cons h1 h2 h3 h4 t =>
      cases p with
      | @cons _ y _ _ p q =>
        intro e he
        rcases List.mem_cons.mp he with he | he
        · subst he
          obtain ⟨_, e2, _⟩ := p
          dsimp only at e2 ⊢
          subst e2
          cases h3 with
          | tup a b => exact kind_of h1 h2 rfl
          | lst a b => simp [keyOf] at h1
          | dic a b => simp [keyOf] at h1
          | dit a b => simp [keyOf] at h1
        · exact ih t q e he
theorem rd_obj {P : Program} {w : World} {H : Hp} {h : Heap} {a : Addr} {u : HO} (ok : HOk P w H h) (e : Rd H a u) : ObjOk P w H h a u := by
  rcases e with e | ⟨o, e⟩
  · exact ok a _ e
  · exact (show h.get? a = some o ∧ ObjOk P w H h a u from ok a _ e).2
theorem viewT {ts : List TP} (J : Inv X pins σ H s) (sm : Same I H) (h1 : Rd H a (dN a ts)) (h2 : RpKt X.K I ts es) :
    ∃ ys, VN X.K I es ys ∧ s.heap.DictOfH (nestedKind X.prog X.w) a ys ∧ es.length ≤ sizeLine ∧ (a == sysModules) = false := by
  obtain ⟨⟨hd, z, ys, py, o, es', ep, e1, e2, e3, e4, e5⟩, _⟩ := (rd_obj J.hok h1)
  have vn := VN.of h2 py
  refine ⟨ys, vn, ⟨o, es', ep, e1, e2, e3, e4 X.w, fun y hy => ?_, e5⟩, by rw [vn.length, ← Paired.length py]; exact z, hd⟩
  obtain ⟨kd, q1, q2, q3⟩ := vn.key y hy
  exact ⟨key_is J sm q3 q1 rfl, q2⟩
/-- a dict with tuples for keys, or empty -/
theorem viewN (J : Inv X pins σ H s) (sm : Same I H) (h : DrO X.K I H a es) (ok : okK es k = true) (hk : kindK k = some true) :
    ∃ ys, VN X.K I es ys ∧ s.heap.DictOfH (nestedKind X.prog X.w) a ys ∧ es.length ≤ sizeLine ∧ (a == sysModules) = false := by
  rcases h with ⟨kvs, h1, h2⟩ | ⟨ts, h1, h2⟩
  · have : es = [] := by
      cases h2 with
      | nil => rfl
      | cons r t => unfold okK at ok; rw [hk] at ok; simp only [decide_eq_true_eq] at ok; rw [kind_kD] at ok; cases ok
    subst this
    cases h2
    obtain ⟨z, hd, vs, rel, o, es', ep, e1, e2, e3, e4, e5, e6⟩ := dk_rd J.hok h1
    cases rel
    have e4' : es'.toList = [] := by
      have := e5
      cases q : es'.toList with
      | nil => rfl
      | cons x r => rw [q] at this; cases this
    exact ⟨[], .nil, ⟨o, es', ep, e1, e2, e3, e4', (fun x hx => by cases hx), List.nodup_nil⟩, Nat.zero_le _, hd⟩
  · exact viewT J sm h1 h2
theorem viewK {y : Key} (J : Inv X pins σ H s) (h : DrO X.K I H a es) (ok : okK es (kD y) = true) :
    ∃ vs, VKs X.K I es vs ∧ s.heap.DictOf (mixKind X.prog X.w) a vs ∧ es.length ≤ sizeLine ∧ (a == sysModules) = false := by
  rcases h with ⟨kvs, h1, h2⟩ | ⟨ts, h1, h2⟩
  · obtain ⟨z, hd, vs, rel, dd⟩ := dk_rd J.hok h1
    have vk := VKs.of h2 rel
    exact ⟨vs, vk, dd, by rw [vk.length, ← rel.length]; exact z, hd⟩
  · obtain ⟨⟨hd, z, ys, py, o, es', ep, e1, e2, e3, e4, e5⟩, _⟩ := (rd_obj J.hok h1)
    have : es = [] := by
      cases es with
      | nil => rfl
      | cons x r =>
        have := rpkt_kind h2 py x (by simp)
        unfold okK at ok; rw [kind_kD] at ok; simp only [decide_eq_true_eq] at ok
        rw [this] at ok; cases ok
    subst this
    cases h2; cases py
    have e4' : es' = #[] := by simpa using e4 X.w
    subst e4'
    exact ⟨[], .nil, ⟨o, #[], ep, e1, e2, e3, (fun e he => by simp at he), .nil, List.nodup_nil⟩, Nat.zero_le _, hd⟩
end
section
variable {P : Program} {w : World} {K : PySem.W.Frag} {I H : Hp} {h : Heap} {a : Addr} {es : List (PyData × PyData)}
end
/-- d[k] -/
def rDG (K : PySem.W.Frag) : R2 := fun x y H Q => ∃ a I es k d, x = .ref a ∧ Same I H ∧ DrO K I H a es ∧ Rp K I y k ∧ okK es k = true ∧ dAt es k = some d ∧ ∀ v, Rp K I v d → Q v H
/-- len(d) -/
def rDL (K : PySem.W.Frag) : List V → Hp → VK → Prop := fun xs H Q => ∃ a I es, xs = [.ref a] ∧ Same I H ∧ DrO K I H a es ∧ Q (.int ((es.length : Nat) : Int)) H
section
variable {X : Cx} {pins : List (Addr × Obj)} {σ : St} {I H : Hp} {s : Shared} {a : Addr} {es : List (PyData × PyData)} {k d : PyData} {y : V} {u : Value} {A : Around} {E : Value → Shared → Prop}
theorem kD_rel {k : Key} (r : Rp X.K I y (kD k)) : y = kV k := by
  cases k with
  | inl i => cases r; rfl
  | inr x => cases r; rfl
theorem okK_kind (h : okK es k = true) : kindK k = some true ∨ kindK k = some false := by
  unfold okK at h
  cases q : kindK k with
  | none => rw [q] at h; cases h
  | some b => cases b
              · exact .inr rfl
              · exact .inl rfl
theorem room8 {A : Around} (hu : A.units + 10 < cLine) : (nestedKind X.prog X.w).room A.in1 := by
  show A.in1.units + 8 < cLine
  have : A.in1.units = A.units + 1 := rfl
  omega
theorem di_typeIs (J : Inv X pins σ H s) (h : DrO X.K I H a es) : s.TypeIs (.ref a) "dict" ∧ (∀ b, Value.ref a = .ref b → ∃ ob, s.heap.get? b = some ob ∧ ob.dict = none) ∧ (a == sysModules) = false := by
  rcases h with ⟨kvs, h1, h2⟩ | ⟨ts, h1, h2⟩
  · exact isD_at J (.inl ⟨kvs, h1⟩)
  · obtain ⟨⟨hd, z, ys, py, o, es', ep, e1, e2, e3, e4, e5⟩, _⟩ := (rd_obj J.hok h1)
    exact ⟨⟨o, e1, e2.1⟩, fun b q => by cases q; exact ⟨o, e1, e2.2.1⟩, hd⟩
theorem dd_get {Q : Value → Shared → Prop} (hu : A.units + 10 < cLine) (J : Inv X pins σ H s) (sm : Same I H) (h : DrO X.K I H a es) (ry : Rp X.K I y k) (ru : RelV y u) (ok : okK es k = true) (hd : dAt es k = some d)
    (q : ∀ v w' s', Inv X pins σ H s' → Rp X.K I v d → RelV v w' → Q w' s') : wpAny (model X.prog X.w) A (getItem (.ref a) u) Q E s := by
  rcases okK_kind ok with hk | hk
  · obtain ⟨n, h1, h2, xs, rfl⟩ := kind_t hk
    obtain ⟨b, rfl⟩ := rp_tup_ref ry
    cases (show u = Value.ref b from ru)
    obtain ⟨ys, vn, dd, z, hs⟩ := viewN J sm h ok hk
    rcases vn.at h1 with ⟨_, e⟩ | ⟨b', u', v', d', e1, e2, e3, e4⟩
    · rw [e] at hd; cases hd
    · rw [e2] at hd; cases hd
      exact wpAny_getItem_heap (room8 hu) ⟨key_is J sm ry h1 rfl, h2⟩ dd e1 (q v' u' _ (J.tok _) e3 e4)
  · obtain ⟨k, rfl⟩ := kind_f hk
    obtain ⟨vs, vk, dd, z, hs⟩ := viewK J h ok
    have ey := kD_rel ry
    subst ey
    rcases vk.at k with ⟨_, e⟩ | ⟨u', v', d', e1, e2, e3, e4⟩
    · rw [e] at hd; cases hd
    · rw [e2] at hd; cases hd
      exact wpAny_getItem_of (kV_is ru) dd.mapOf e1 (q v' u' _ (J.tok _) e3 e4)
theorem ix_dict (hu : X.A.units + 10 < cLine) : IxR X (rDG X.K) := by
  intro value slice pins s σ H x y v u Q J rx ry h hs
  obtain ⟨a, I, es, k, d, rfl, sm, hd, rk, ok, e, q⟩ := h
  cases (show v = Value.ref a from rx)
  have hT := (di_typeIs J hd).1
  unfold subscriptTail
  refine wpAny_bind ?_
  rw [getitemInPython_of_ne hT.not_modules]
  refine wpAny_bind (wpAny_specialOf hT PySem.F.slot_dict_getitem.lookup ?_)
  have fin : wpAny (model X.prog X.w) X.A (subscripted slice false (.ref a) u) (fun r s₃ => wpAny (model X.prog X.w) X.A (letTemporaryGo value (.ref a) r >>= fun _ => pure r) (EP X pins σ Q) X.xe s₃) X.xe s := by
    rw [hs]
    exact wpAny_operating (dd_get hu J sm hd rk ry ok e fun v' w' s' J' r1 r2 => wpAny_bind (wpAny_letTemporaryGo (wpAny_pure ⟨v', H, J', r2, q v' r1⟩)))
  first
    | exact wpAny_pure (wpAny_bind fin)
    | exact wpAny_bind (wpAny_pure (wpAny_bind fin))
    | exact wpAny_bind fin
theorem rpkv_len {K : PySem.W.Frag} : ∀ {kvs : List (Key × V)} {es : List (PyData × PyData)}, RpKv K I kvs es → kvs.length = es.length
  | _, _, .nil => rfl
  | _, _, .cons _ t => by simp [rpkv_len t]
theorem call_lenDD : CallR X (.builtin "len") (rDL X.K) := by
  intro pins s σ H xs us Q J r h
  obtain ⟨a, I, es, rfl, sm, hd, q⟩ := h
  obtain ⟨u, rfl, rx⟩ := vals1 r
  cases (show u = Value.ref a from rx)
  rcases hd with ⟨kvs, h1, h2⟩ | ⟨ts, h1, h2⟩
  · refine d_len J h1 fun t s' J' => ?_
    rw [rpkv_len h2]
    exact ⟨.int _, H, J', ⟨t, rfl⟩, q⟩
  · obtain ⟨ys, vn, dd, z, hd⟩ := viewT J sm h1 h2
    refine call_len_dictH hd dd (by rw [← vn.length]; rw [sizeLine_eq] at z; omega) ?_
    rw [← vn.length]
    exact ⟨.int _, H, J.tok _, ⟨_, rfl⟩, q⟩
end
end Dy
namespace Dy
open PySem PySem.Spec PyProof.Rows L2
section
variable {K : PySem.W.Frag} {I H : Hp} {v u : V} {d e : PyData}
mutual
theorem Rp.dp (s : Same I H) : ∀ {v : V} {d : PyData}, Rp K I v d → d.canLay0 = true → Dp K H v d
  | _, _, .non, _ => .non
  | _, _, .bl b, _ => .bl b
  | _, _, .int i, _ => .int i
  | _, _, .str x, _ => .str x
  | _, _, .lst h a, c => .lst (h.mono s).sq (RpAll.dp s a (by simpa [PyData.canLay0] using c))
  | _, _, .tup h a, c => .tup (same_t s h.sq) (RpAll.dp s a (by simpa [PyData.canLay0] using c))
  | _, _, .dic h a, c => by simp [PyData.canLay0] at c
  | _, _, .dit h a, c => by simp [PyData.canLay0] at c
theorem RpAll.dp (s : Same I H) : ∀ {vs : List V} {ds : List PyData}, RpAll K I vs ds → PyData.canLayAll0 ds = true → DpAll K H vs ds
  | _, _, .nil, _ => .nil
  | _, _, .cons h t, c => by
    simp only [PyData.canLayAll0, Bool.and_eq_true] at c
    exact .cons (Rp.dp s h c.1) (RpAll.dp s t c.2)
end
theorem RpS.dp (s : Same I H) (h : RpS K I H v d) (c : d.canLay0 = true) : Dp K H v d := by
  rcases h with h | ⟨a, vs, ds, rfl, rfl, h1, h2⟩ | ⟨a, es, rfl, rfl, h1⟩
  · exact h.dp s c
  · exact .lst (SqL.of h1) (h2.dp s (by simpa [PyData.canLay0] using c))
  · simp [PyData.canLay0] at c
theorem RpS.bl {x : Bool} (h : RpS K I H v (.bool x)) : v = .bl x := by
  rcases h with h | ⟨_, _, _, _, e, _⟩ | ⟨_, _, _, e, _⟩
  · cases h; rfl
  · cases e
  · cases e
theorem RpS.non (h : RpS K I H v .none) : v = .non := by
  rcases h with h | ⟨_, _, _, _, e, _⟩ | ⟨_, _, _, e, _⟩
  · cases h; rfl
  · cases e
  · cases e
theorem RpS.tup {ds : List PyData} (s : Same I H) (h : RpS K I H v (.tuple ds)) : ∃ a vs, v = .ref a ∧ SqT K H a vs ∧ RpAll K I vs ds := by
  rcases h with h | ⟨_, _, _, _, e, _⟩ | ⟨_, _, _, e, _⟩
  · cases h with
    | tup h1 h2 => exact ⟨_, _, rfl, same_t s h1.sq, h2⟩
  · cases e
  · cases e
theorem RpAll.ints : ∀ {vs : List V} {ns : List Int}, RpAll K I vs (ns.map PyData.int) → vs = ns.map V.int
  | _, [], h => by cases h; rfl
  | _, n :: ns, h => by
    cases h with
    | cons h t => cases h; rw [RpAll.ints t]; rfl
theorem RpAll.bools : ∀ {vs : List V} {ns : List Bool}, RpAll K I vs (ns.map PyData.bool) → vs = ns.map V.bl
  | _, [], h => by cases h; rfl
  | _, n :: ns, h => by
    cases h with
    | cons h t => cases h; rw [RpAll.bools t]; rfl
/-- all ints, all truths -/
def intsOf : List PyData → Option (List Int)
  | [] => some []
  | .int i :: ds => (intsOf ds).map (i :: ·)
  | _ => none
def boolsOf : List PyData → Option (List Bool)
  | [] => some []
  | .bool i :: ds => (boolsOf ds).map (i :: ·)
  | _ => none
theorem intsOf_inv : ∀ {ds : List PyData} {ns : List Int}, intsOf ds = some ns → ds = ns.map PyData.int
  | [], _, h => by cases h; rfl
  | .int i :: ds, ns, h => by
    unfold intsOf at h
    cases q : intsOf ds with
    | none => rw [q] at h; cases h
    | some ms => rw [q] at h; cases h; rw [intsOf_inv q]; rfl
  | .none :: _, _, h => by cases h
  | .bool _ :: _, _, h => by cases h
  | .str _ :: _, _, h => by cases h
  | .list _ :: _, _, h => by cases h
  | .tuple _ :: _, _, h => by cases h
  | .dict _ :: _, _, h => by cases h
theorem boolsOf_inv : ∀ {ds : List PyData} {ns : List Bool}, boolsOf ds = some ns → ds = ns.map PyData.bool
  | [], _, h => by cases h; rfl
  | .bool i :: ds, ns, h => by
    unfold boolsOf at h
    cases q : boolsOf ds with
    | none => rw [q] at h; cases h
    | some ms => rw [q] at h; cases h; rw [boolsOf_inv q]; rfl
  | .none :: _, _, h => by cases h
  | .int _ :: _, _, h => by cases h
  | .str _ :: _, _, h => by cases h
  | .list _ :: _, _, h => by cases h
  | .tuple _ :: _, _, h => by cases h
  | .dict _ :: _, _, h => by cases h
theorem boolsOf_map (ns : List Bool) : boolsOf (ns.map PyData.bool) = some ns := by
  induction ns with
  | nil => rfl
  | cons n ns ih => rw [List.map_cons, boolsOf, ih]; rfl
end
theorem OpR.or {X : Cx} {f : Value → Value → Sem Value} {r r' : R2} (h : OpR X f r) (h' : OpR X f r') : OpR X f (fun x y H Q => r x y H Q ∨ r' x y H Q) := by
  intro pins s σ H x y v u Q J rx ry q
  rcases q with q | q
  · exact h pins s σ H x y v u Q J rx ry q
  · exact h' pins s σ H x y v u Q J rx ry q
section
variable {X : Cx} {K : PySem.W.Frag}
def rCatL (K : PySem.W.Frag) : R2 := fun x y H Q => ∃ l b xs zs, x = .ref l ∧ y = .ref b ∧ LsL K H l xs ∧ LsL K H b zs ∧ xs.length + zs.length ≤ sizeLine ∧ ∀ p, H p = none → Q (.ref p) (upd H p (.lst (xs ++ zs)))
theorem op_catL : OpR X (binaryOp .Add) (rCatL X.K) := by
  rintro pins s σ H x y v u Q J rx ry ⟨l, b, xs, zs, rfl, rfl, hl, hb, hz, q⟩
  cases rx
  cases ry
  obtain ⟨z, its, n, r, e0, e⟩ := hl.obj J
  obtain ⟨z2, its2, n2, r2, e20, e2⟩ := hb.obj J
  refine PySem.P.add_list e e2 ?_ (by rw [List.size_toArray, List.size_toArray, ← e0, ← e20]; exact hz)
  rw [show its.toArray ++ its2.toArray = (its ++ its2).toArray by simp]
  exact ⟨.ref _, _, J.lnew (t' := s.toks) (r.append r2) (by rw [List.length_append]; exact hz), rfl, q _ J.fresh⟩
/-- t + u, what is new is plain -/
def rCatP (K : PySem.W.Frag) : R2 := fun x y H Q => ∃ a b xs ys, x = .ref a ∧ y = .ref b ∧ SqT K H a xs ∧ SqT K H b ys ∧ xs.length + ys.length ≤ sizeLine ∧
  (xs = [] → Q (.ref b) H) ∧ (xs ≠ [] → ys = [] → Q (.ref a) H) ∧ (xs ≠ [] → ys ≠ [] → NewT H (xs ++ ys) Q)
theorem op_catP : OpR X (binaryOp .Add) (rCatP X.K) := by
  intro pins s σ H x y v u Q I rx ry h
  obtain ⟨a, b, xs, ys, rfl, rfl, ha, hb, hz, q0, q1, q2⟩ := h
  by_cases hx : xs = []
  · exact op_catA pins s σ H _ _ v u Q I rx ry ⟨a, b, xs, ys, rfl, rfl, ha, hb, hz, q0, q1, fun h => absurd hx h⟩
  · cases rx
    cases ry
    obtain ⟨its, r1, p1, _⟩ := I.tuple ha
    obtain ⟨its2, r2, p2, _⟩ := I.tuple hb
    refine HT.cat_tup p1 p2 (fun z => hx (r1.nil_iff.mp z)) (fun z => ⟨.ref a, H, I, rfl, q1 hx (r2.nil_iff.mp z)⟩) (fun z => ?_) (by rw [← r1.length, ← r2.length]; exact hz)
    exact ep_newT I (by rw [List.length_append]; exact hz) (r1.append r2) (q2 hx (fun w => z (r2.nil_iff.mpr w)))
def rAddS' : R2 := fun x y H Q => ∃ i j, x = .str i ∧ y = .str j ∧ i.length + j.length ≤ sizeLine ∧ Q (.str (i ++ j)) H
/-- + -/
def rAdd (K : PySem.W.Frag) : R2 := fun x y H Q => (rI0 (fun i j => .int (i + j)) x y H Q ∨ rCatL K x y H Q) ∨ (rCatP K x y H Q ∨ rAddS' x y H Q)
theorem op_addA : OpR X (binaryOp .Add) (rAdd X.K) := (op_add.or op_catL).or (op_catP.or op_add_str)
def pAdd : PyData → PyData → Option O
  | .int i, .int j => some (.fr (.int (i + j)))
  | .list xs, .list ys => if xs.length + ys.length ≤ 1000000 then some (.ol (xs ++ ys)) else none
  | .tuple xs, .tuple ys => if xs.length + ys.length ≤ 1000000 then some (.fr (.tuple (xs ++ ys))) else none
  | .str x, .str y => if x.length + y.length ≤ 1000000 then some (.fr (.str (x ++ y))) else none
  | _, _ => none
theorem six {n : Nat} (h : n ≤ 1000000) : n ≤ sizeLine := Nat.le_trans h (by decide)
theorem os_add : OpS K (two (rAdd K)) (on2 pAdd) := ops2 fun v u d e I H Q o s r1 r2 q k => by
  unfold pAdd at q
  split at q
  · cases q
    rw [r1.int, r2.int]
    exact .inl (.inl ⟨_, _, rfl, rfl, k _ _ _ _ (Grow.val s (.int _))⟩)
  · split at q
    · rename_i hz
      cases q
      obtain ⟨a, vs, rfl, h1, h2⟩ := r1.lst s
      obtain ⟨b, ws, rfl, h3, h4⟩ := r2.lst s
      exact .inl (.inr ⟨a, b, vs, ws, rfl, rfl, h1, h3, by rw [h2.length, h4.length]; exact six hz, fun p np => k _ _ _ _ (Grow.lst s np (h2.app h4))⟩)
    · cases q
  · split at q
    · rename_i hz
      cases q
      obtain ⟨a, vs, rfl, h1, h2⟩ := r1.tup s
      obtain ⟨b, ws, rfl, h3, h4⟩ := r2.tup s
      refine .inr (.inl ⟨a, b, vs, ws, rfl, rfl, h1, h3, by rw [h2.length, h4.length]; exact six hz, fun e => ?_, fun _ e => ?_, fun _ _ p _ pl np => k _ _ _ _ (Grow.tup s pl np (h2.app h4))⟩)
      · subst e
        cases h2
        exact k _ _ _ _ (Grow.val s (rps_rp r2 rfl))
      · subst e
        cases h4
        rw [List.append_nil] at k
        exact k _ _ _ _ (Grow.val s (rps_rp r1 rfl))
    · cases q
  · split at q
    · rename_i hz
      cases q
      rw [r1.str, r2.str]
      exact .inr (.inr ⟨_, _, rfl, rfl, six hz, k _ _ _ _ (Grow.val s (.str _))⟩)
    · cases q
  · cases q
def pSub : PyData → PyData → Option O
  | .int i, .int j => some (.fr (.int (i - j)))
  | _, _ => none
theorem os_sub : OpS K (two (rI0 fun i j => .int (i - j))) (on2 pSub) := ops2 fun v u d e I H Q o s r1 r2 q k => by
  unfold pSub at q
  split at q
  · cases q
    rw [r1.int, r2.int]
    exact ⟨_, _, rfl, rfl, k _ _ _ _ (Grow.val s (.int _))⟩
  · cases q
/-- * -/
def smI (i : Int) : Bool := decide (-(2 ^ 64) < i ∧ i < 2 ^ 64)
def muOk (i j : Int) : Bool := smI j || (smI i || decide (i.natAbs.log2 + j.natAbs.log2 < 1000000))
theorem muOk_ok {i j : Int} (h : muOk i j = true) : IntMulOk i j := by
  unfold muOk smI at h
  simp only [Bool.or_eq_true, decide_eq_true_eq] at h
  rcases h with h | h | h
  · exact CMul.ok (.inr h)
  · exact CMul.ok (.inl h)
  · exact CMulW.ok h
theorem op_mulM : OpR X (binaryOp .Mult) (rI (fun i j => muOk i j = true) fun i j => .int (i * j)) := opI fun _ _ _ _ _ _ _ hc q => mul_int q (muOk_ok hc)
def rRepL (K : PySem.W.Frag) : R2 := fun x y H Q => ∃ l k xs, x = .ref l ∧ y = .int k ∧ LsL K H l xs ∧ -(2 ^ 63) ≤ k ∧ k < 2 ^ 63 ∧ xs.length * k.toNat ≤ sizeLine ∧ ∀ p, H p = none → Q (.ref p) (upd H p (.lst (List.replicate k.toNat xs).flatten))
def pMul : PyData → PyData → Option O
  | .int i, .int j => if muOk i j = true then some (.fr (.int (i * j))) else none
  | .list xs, .int k => if k ≤ 100000 ∧ -100000 ≤ k ∧ xs.length * k.toNat ≤ 1000000 then some (.ol (List.replicate k.toNat xs).flatten) else none
  | .tuple xs, .int k => if xs.length ≤ 1000 ∧ 2 ≤ k ∧ k ≤ 1000 ∧ xs ≠ [] then some (.fr (.tuple (List.replicate k.toNat xs).flatten)) else none
  | _, _ => none
theorem RpAll.rep {I : Hp} {vs : List V} {ds : List PyData} (h : RpAll K I vs ds) : ∀ n : Nat, RpAll K I (List.replicate n vs).flatten (List.replicate n ds).flatten
  | 0 => .nil
  | n + 1 => by
    rw [List.replicate_succ, List.replicate_succ, List.flatten_cons, List.flatten_cons]
    exact h.app (h.rep n)
/-- // and % -/
def pDiv : PyData → PyData → Option O
  | .int i, .int j => if 0 < j ∧ j < 1073741824 then some (.fr (.int (i / j))) else none
  | _, _ => none
def pMod : PyData → PyData → Option O
  | .int i, .int j => if 0 < j then some (.fr (.int (i % j))) else none
  | _, _ => none
theorem os_mod : OpS K (two (rI (fun _ j => 0 < j) fun i j => .int (i % j))) (on2 pMod) := ops2 fun v u d e I H Q o s r1 r2 q k => by
  unfold pMod at q
  split at q
  · split at q
    · rename_i hc
      cases q
      rw [r1.int, r2.int]
      exact ⟨_, _, rfl, rfl, hc, k _ _ _ _ (Grow.val s (.int _))⟩
    · cases q
  · cases q
def pPow : PyData → PyData → Option O
  | .int i, .int j => if 0 ≤ j ∧ j ≤ 1000000 ∧ i.natAbs < 2 ^ 64 then some (.fr (.int (i ^ j.toNat))) else none
  | _, _ => none
theorem os_pow : OpS K (two (rI CPow fun i j => .int (i ^ j.toNat))) (on2 pPow) := ops2 fun v u d e I H Q o s r1 r2 q k => by
  unfold pPow at q
  split at q
  · split at q
    · rename_i hc
      cases q
      rw [r1.int, r2.int]
      exact ⟨_, _, rfl, rfl, hc, k _ _ _ _ (Grow.val s (.int _))⟩
    · cases q
  · cases q
def pNeg : PyData → Option O
  | .int i => some (.fr (.int (-i)))
  | _ => none
theorem os_neg : OpS K (one (rU fun i => .int (-i))) (on1 pNeg) := ops1 fun v d I H Q o s r1 q k => by
  unfold pNeg at q
  split at q
  · cases q
    rw [r1.int]
    exact ⟨_, rfl, k _ _ _ _ (Grow.val s (.int _))⟩
  · cases q
def cmI (c : Int → Int → Bool) : PyData → PyData → Option O
  | .int i, .int j => some (.fr (.bool (c i j)))
  | _, _ => none
theorem os_cmI {c : Int → Int → Bool} : OpS K (two (rI0 fun i j => .bl (c i j))) (on2 (cmI c)) := ops2 fun v u d e I H Q o s r1 r2 q k => by
  unfold cmI at q
  split at q
  · cases q
    rw [r1.int, r2.int]
    exact ⟨_, _, rfl, rfl, k _ _ _ _ (Grow.val s rbl)⟩
  · cases q
def shp (d : PyData) : Bool := SeqAt.shaped d
def pEq (d e : PyData) : Option O := match d, e with
  | .str a, .str b => some (.fr (.bool (decide (a = b))))
  | d, e => if shp d = true ∧ shp e = true then some (.fr (.bool (PyData.eqv d e))) else none
def pNe (d e : PyData) : Option O := match d, e with
  | .str a, .str b => some (.fr (.bool (!decide (a = b))))
  | d, e => if shp d = true ∧ shp e = true then some (.fr (.bool (!PyData.eqv d e))) else none
def rEqA (K : PySem.W.Frag) : R2 := fun x y H Q => rEqD K x y H Q ∨ rEq x y H Q
def rNeA (K : PySem.W.Frag) : R2 := fun x y H Q => rNeD K x y H Q ∨ rNe x y H Q
theorem op_eqA (hu : X.A.units + 64 < cLine) : OpR X (compareOp .Eq) (rEqA X.K) := (op_eqD hu).or op_eq
theorem op_neA (hu : X.A.units + 64 < cLine) : OpR X (compareOp .NotEq) (rNeA X.K) := (op_neD hu).or op_ne
theorem dec_str {a b : Str} : decide (V.str a = V.str b) = decide (a = b) := by
  by_cases h : a = b
  · subst h; simp
  · rw [decide_eq_false h, decide_eq_false fun z => h (V.str.inj z)]
theorem os_eq : OpS K (two (rEqA K)) (on2 pEq) := ops2 fun v u d e I H Q o s r1 r2 q k => by
  unfold pEq at q
  split at q
  · cases q
    rw [r1.str, r2.str]
    exact .inr ⟨rfl, by rw [dec_str]; exact k _ _ _ _ (Grow.val s rbl)⟩
  · split at q
    · rename_i hc
      cases q
      exact .inl ⟨_, _, r1.dp s (SeqAt.canLay_of_shaped hc.1), r2.dp s (SeqAt.canLay_of_shaped hc.2), hc.1, hc.2, k _ _ _ _ (Grow.val s rbl)⟩
    · cases q
theorem os_ne : OpS K (two (rNeA K)) (on2 pNe) := ops2 fun v u d e I H Q o s r1 r2 q k => by
  unfold pNe at q
  split at q
  · cases q
    rw [r1.str, r2.str]
    exact .inr ⟨rfl, by rw [dec_str]; exact k _ _ _ _ (Grow.val s rbl)⟩
  · split at q
    · rename_i hc
      cases q
      exact .inl ⟨_, _, r1.dp s (SeqAt.canLay_of_shaped hc.1), r2.dp s (SeqAt.canLay_of_shaped hc.2), hc.1, hc.2, k _ _ _ _ (Grow.val s rbl)⟩
    · cases q
def isN : PyData → Bool
  | .none => true
  | _ => false
def pIs (d e : PyData) : Option O := if isN e = true then some (.fr (.bool (isN d))) else none
def pIsn (d e : PyData) : Option O := if isN e = true then some (.fr (.bool (!isN d))) else none
def pIx : PyData → PyData → Option O
  | .list xs, .int i => (atI xs i).map .fr
  | .tuple xs, .int i => (atI xs i).map .fr
  | .str z, .int i => if z.length ≤ 1000000 then (atI z.cps.toList i).map fun c => .fr (.str ⟨#[c]⟩) else none
  | .dict es, k => if okK es k = true then (dAt es k).map .fr else none
  | _, _ => none
theorem okK_isL {es : List (PyData × PyData)} {k : PyData} (h : okK es k = true) : isL k = false := by
  cases k <;> first | rfl | (unfold okK kindK at h; cases h)
theorem rps_dict {I H : Hp} {v : V} {es : List (PyData × PyData)} (s : Same I H) (h : RpS K I H v (.dict es)) : ∃ a, v = .ref a ∧ DrO K I H a es := by
  rcases h with h | ⟨_, _, _, _, e, _⟩ | ⟨a, es', rfl, e, h⟩
  · cases h with
    | dic h1 h2 => exact ⟨_, rfl, .inl ⟨_, same_rd s h1, h2⟩⟩
    | dit h1 h2 => exact ⟨_, rfl, .inr ⟨_, same_rd s h1, h2⟩⟩
  · cases e
  · cases e; exact ⟨a, rfl, h.rd⟩
def rIxD (K : PySem.W.Frag) : R2 := fun x y H Q => rIx K x y H Q ∨ rDG K x y H Q
theorem ixD {X : Cx} (hu : X.A.units + 65 < cLine) : IxR X (rIxD X.K) := ix_seq.or (ix_dict (by omega))
theorem atI_rep {I : Hp} {vs : List V} {ds : List PyData} {i : Int} {d : PyData} (r : RpAll K I vs ds) (h : atI ds i = some d) : ∃ v, atI vs i = some v ∧ Rp K I v d := by
  unfold atI at h ⊢
  rw [r.length]
  cases q : ixN ds.length i with
  | none => rw [q] at h; cases h
  | some j =>
    rw [q] at h
    exact r.get h
theorem os_ix : OpS K (two (rIxD K)) (on2 pIx) := ops2 fun v u d e I H Q o s r1 r2 q k => by
  unfold pIx at q
  split at q
  · rename_i xs i
    cases z : atI xs i with
    | none => rw [z] at q; cases q
    | some x =>
      rw [z] at q; cases q
      obtain ⟨a, vs, rfl, h1, h2⟩ := r1.lst s
      obtain ⟨y, h3, h4⟩ := atI_rep h2 z
      rw [r2.int]
      exact .inl (.inl ⟨a, vs, i, y, rfl, rfl, h1.sq, h3, k _ _ _ _ (Grow.val s h4)⟩)
  · rename_i xs i
    cases z : atI xs i with
    | none => rw [z] at q; cases q
    | some x =>
      rw [z] at q; cases q
      obtain ⟨a, vs, rfl, h1, h2⟩ := r1.tup s
      obtain ⟨y, h3, h4⟩ := atI_rep h2 z
      rw [r2.int]
      exact .inl (.inr (.inl ⟨a, vs, i, y, rfl, rfl, h1, h3, k _ _ _ _ (Grow.val s h4)⟩))
  · rename_i z i
    split at q
    · rename_i hz
      cases y : atI z.cps.toList i with
      | none => rw [y] at q; cases q
      | some c =>
        rw [y] at q; cases q
        rw [r1.str, r2.int]
        exact .inl (.inr (.inr ⟨z, i, c, rfl, rfl, six hz, y, k _ _ _ _ (Grow.val s (.str _))⟩))
    · cases q
  · rename_i es
    split at q
    · rename_i hc
      cases z : dAt es e with
      | none => rw [z] at q; cases q
      | some x =>
        rw [z] at q; cases q
        obtain ⟨a, rfl, h1⟩ := rps_dict s r1
        exact .inr ⟨a, I, es, e, x, rfl, s, h1, rps_rp r2 (okK_isL hc), hc, z, fun v r => k _ _ _ _ (Grow.val s r)⟩
    · cases q
  · cases q
def cutD {α : Type} (xs : List α) (lo hi : Option Int) : List α := (xs.drop (HT.sIx xs.length 0 lo)).take (HT.sIx xs.length xs.length hi - HT.sIx xs.length 0 lo)
theorem cut_rep {I : Hp} {vs : List V} {ds : List PyData} (r : RpAll K I vs ds) (lo hi : Option Int) : RpAll K I (cutV vs lo hi) (cutD ds lo hi) := by
  unfold cutV cutD
  rw [r.length]
  exact (r.drops _).takes _
def pSl (d : PyData) (lo hi : Option Int) : Option O := match d with
  | .list xs => some (.ol (cutD xs lo hi))
  | .tuple xs => some (.fr (.tuple (cutD xs lo hi)))
  | .str z => if z.length ≤ 1000000 then some (.fr (.str (cutS z lo hi))) else none
  | _ => none
/-- t[lo:hi], what is new is plain -/
def rSlP (K : PySem.W.Frag) : V → Option Int → Option Int → Hp → VK → Prop := fun x lo hi H Q => ∃ a xs, x = .ref a ∧ SqT K H a xs ∧
  (HT.sIx xs.length 0 lo = 0 ∧ HT.sIx xs.length xs.length hi = xs.length → Q (.ref a) H) ∧ (¬ (HT.sIx xs.length 0 lo = 0 ∧ HT.sIx xs.length xs.length hi = xs.length) → NewT H (cutV xs lo hi) Q)
def rSlX' (K : PySem.W.Frag) : V → Option Int → Option Int → Hp → VK → Prop := fun x lo hi H Q => (rSlL K x lo hi H Q ∨ rSlP K x lo hi H Q) ∨ rSlS x lo hi H Q
theorem sl_tupP : SlR X (rSlP X.K) := by
  intro pins s σ H x v vl vu lo hi sl Q I rx hs pl pu h
  obtain ⟨a, xs, rfl, hx, q1, q2⟩ := h
  by_cases hw : HT.sIx xs.length 0 lo = 0 ∧ HT.sIx xs.length xs.length hi = xs.length
  · exact sl_tupA pins s σ H _ v vl vu lo hi sl Q I rx hs pl pu ⟨a, xs, rfl, hx, q1, fun h => absurd hw h⟩
  · cases rx
    obtain ⟨its, r, ht, hz⟩ := I.tuple hx
    have hlen : its.toArray.size = xs.length := by rw [List.size_toArray]; exact r.length.symm
    refine ⟨"tuple", _, PyProof.Rows.slot_tuple_getitem.lookup, ht.typeIs, ?_⟩
    refine HT.getItem_tuple_cut ht hs pl pu (by rw [hlen]; exact hw) ?_ (by rw [hlen]; exact hz)
    rw [hlen]
    exact ep_newT I (Nat.le_trans (cutV_length xs lo hi) hz) ((r.drop (HT.sIx xs.length 0 lo)).take (HT.sIx xs.length xs.length hi - HT.sIx xs.length 0 lo)) (q2 hw)
theorem sl_any : SlR X (rSlX' X.K) := (sl_list.or sl_tupP).or sl_str
theorem os_sl {v : V} {d : PyData} {lo hi : Option Int} {I H : Hp} {Q : VK} {o : O} (s : Same I H) (r1 : RpS K I H v d) (q : pSl d lo hi = some o) (k : ∀ v H' I' R, Grow K I H I' H' o v R → Q v H') : rSlX' K v lo hi H Q := by
  unfold pSl at q
  split at q
  · cases q
    obtain ⟨a, vs, rfl, h1, h2⟩ := r1.lst s
    exact .inl (.inl ⟨a, vs, rfl, h1.sq, fun p np => k _ _ _ _ (Grow.lst s np (cut_rep h2 lo hi))⟩)
  · cases q
    obtain ⟨a, vs, rfl, h1, h2⟩ := r1.tup s
    refine .inl (.inr ⟨a, vs, rfl, h1, fun e => ?_, fun _ p _ pl np => k _ _ _ _ (Grow.tup s pl np (cut_rep h2 lo hi))⟩)
    rename_i xs
    have ec : cutD xs lo hi = xs := by
      unfold cutD
      rw [← h2.length, e.1, e.2, List.drop_zero, Nat.sub_zero, h2.length, List.take_length]
    rw [ec] at k
    exact k _ _ _ _ (Grow.val s (rps_rp r1 rfl))
  · split at q
    · rename_i hz
      cases q
      rw [r1.str]
      exact .inr ⟨_, rfl, six hz, k _ _ _ _ (Grow.val s (.str _))⟩
    · cases q
  · cases q
end
section
variable {g : G} {X : Cx} {a b c e : Expr} {pos p2 : Pos} {σ : St} {H : Hp}
def pSl2l : PyData → PyData → Option O
  | d, .int i => pSl d (some i) none
  | _, _ => none
def pSl2h : PyData → PyData → Option O
  | d, .int i => pSl d none (some i)
  | _, _ => none
theorem de_slLo {x y : AF} (ha : DX g X a x) (hb : DX g X b y) (hK : X.K = g.K := by rfl) : DE g X (.Subscript a (.Slice (some b) none none p2) pos) (fOp (on2 pSl2l) [x, y]) :=
  PE.imp (pe_slice sl_any ha (po_some hb) po_none) fun σ H Q h => by
    refine tArg_mono (tA2 (op_key (r := two fun v u H1 Q => ∃ i, u = V.int i ∧ rSlX' X.K v (some i) none H1 Q) ?_ h)) fun v H1 q => tArg_mono q fun u H2 q => q
    refine ops2 fun v u d e I H Q o s r1 r2 q k => ?_
    unfold pSl2l at q
    split at q
    · rw [r2.int, hK]
      exact ⟨_, rfl, os_sl s r1 q k⟩
    · cases q
theorem de_slHi {x y : AF} (ha : DX g X a x) (hb : DX g X b y) (hK : X.K = g.K := by rfl) : DE g X (.Subscript a (.Slice none (some b) none p2) pos) (fOp (on2 pSl2h) [x, y]) :=
  PE.imp (pe_slice sl_any ha po_none (po_some hb)) fun σ H Q h => by
    refine tArg_mono (tA2 (op_key (r := two fun v u H1 Q => ∃ i, u = V.int i ∧ rSlX' X.K v none (some i) H1 Q) ?_ h)) fun v H1 q => tArg_mono q fun u H2 q => q
    refine ops2 fun v u d e I H Q o s r1 r2 q k => ?_
    unfold pSl2h at q
    split at q
    · rw [r2.int, hK]
      exact ⟨_, rfl, os_sl s r1 q k⟩
    · cases q
end
end Dy
namespace Dy
open PySem PySem.Spec PyProof.Rows L2
section
variable {X : Cx} {K : PySem.W.Frag}
theorem op_repL : OpR X (binaryOp .Mult) (rRepL X.K) := by
  rintro pins s σ H x y v u Q J rx ry ⟨l, k, xs, rfl, rfl, hL, h1, h2, hz, q⟩
  cases rx
  obtain ⟨t, rfl⟩ := ry
  obtain ⟨z, its, n, r, hl, e⟩ := hL.obj J
  have a1 : its.toArray.size * k.toNat ≤ sizeLine := by
    rw [List.size_toArray, ← hl]
    exact hz
  have a2 : ¬ its.toArray.size * k.toNat > (2 ^ 63 - 1) / 8 := Nat.not_lt.mpr (Nat.le_trans a1 (by decide))
  have a3 : ¬ (!Builtin.List.listFitsIndex k) = true := by rw [fitsIndex_both h1 h2]; decide
  have a4 : ¬ Builtin.List.listTooLong (its.toArray.size * k.toNat) = true := by rw [notLongL a1]; decide
  have a5 : List.foldl (fun x1 x2 => x1 ++ x2) #[] (List.replicate (if its.toArray.isEmpty = true then 0 else k.toNat) its.toArray) = (List.replicate k.toNat its).flatten.toArray := by
    rw [size_rep]
    cases its with
    | nil => simp
    | cons b c => rfl
  refine wpAny_binaryOp_repeat_ref (T := "list") (U := "int") (by decide) ⟨_, e, rfl⟩ (fun s' => typeIs_int s' k t) noFill_list_mul F.fills_int_mul F.slot_int_rmul repeat_list F.slot_int_index.lookup ?_
  refine call_meets F.slot_int_rmul (typeIs_int s k t) F.entry_int_rmul (F.args_int_rmul_2 _ _) (int___rmul___int_list k t l its.toArray n) ⟨e, rfl, ⟨_, e, rfl⟩, ?_⟩
  refine call_meets F.slot_list_mul ⟨_, e, rfl⟩ F.entry_list_mul (F.args_list_mul_2 _ _) (AutoListH.list___mul___list_int_3 l its.toArray n k t a3 a2 a4) ⟨e, ?_⟩
  rw [a5]
  exact ⟨.ref _, _, J.lnew (t' := s.toks) (r.rep k.toNat) (by rw [PyProof.Rows.lm_len_rep_flat, Nat.mul_comm]; exact hz), rfl, q _ J.fresh⟩
/-- t * k, what is new is plain -/
def rRepP (K : PySem.W.Frag) : R2 := fun x y H Q => ∃ l k xs, x = .ref l ∧ y = .int k ∧ SqT K H l xs ∧ xs ≠ [] ∧ 2 ≤ k ∧ k.toNat * xs.length ≤ 1000000 ∧ NewT H (List.replicate k.toNat xs).flatten Q
theorem op_repP {X : Cx} : OpR X (binaryOp .Mult) (rRepP X.K) := by
  intro pins s σ H x y v u Q I rx ry h
  obtain ⟨l, k, xs, rfl, rfl, hT, hne, h1, hz, q⟩ := h
  cases rx
  obtain ⟨t, rfl⟩ := ry
  obtain ⟨its, r, ⟨⟨cls, dd, data, sl⟩, ho, hc, n, hd⟩, hs⟩ := I.tuple hT
  simp only at hc hd
  subst hc hd
  have hle : its.length = xs.length := r.length.symm
  have hn : its ≠ [] := fun e => hne (List.eq_nil_of_length_eq_zero (by rw [← hle, e]; rfl))
  have hi : its.toArray.isEmpty = false := by
    cases its with
    | nil => exact absurd rfl hn
    | cons a b => rfl
  have hsz0 : its.toArray.size = xs.length := by rw [List.size_toArray, hle]
  have hx1 : 1 ≤ xs.length := by
    cases xs with
    | nil => exact absurd rfl hne
    | cons a b => exact Nat.succ_le_succ (Nat.zero_le _)
  have hk1 : k.toNat ≤ 1000000 := Nat.le_trans (by have := Nat.mul_le_mul_left k.toNat hx1; rwa [Nat.mul_one] at this) hz
  have hm : ((its.toArray.size : Nat) : Int) * k ≤ 1000000 := by
    rw [hsz0]
    have e : k = (k.toNat : Int) := by omega
    rw [e, ← Int.natCast_mul, Nat.mul_comm]
    omega
  have flenX : k.toNat * xs.length ≤ sizeLine := six hz
  have flen : (List.replicate k.toNat its).flatten.length ≤ sizeLine := by
    rw [PyProof.Rows.lm_len_rep_flat, hle]; exact flenX
  have c0 : (decide (k < -(2 ^ 63)) || decide (k ≥ 2 ^ 63)) = false := by
    rw [decide_eq_false (by omega), decide_eq_false (by omega)] <;> rfl
  have c1 : (its.toArray.isEmpty || k == 1) = false := by
    rw [hi, Bool.false_or]; exact beq_eq_false_iff_ne.mpr (by omega)
  have c2 : (decide (k ≤ 0) || its.toArray.isEmpty) = false := by
    rw [hi, Bool.or_false]; exact decide_eq_false (by omega)
  have c4 : Builtin.Tuple.tupleTooMany (((its.toArray.size : Nat) : Int) * k) = false := by
    unfold Builtin.Tuple.tupleTooMany
    rw [sizeLine_eq]
    exact decide_eq_false (by omega)
  have mw := tuple_mulW l its.toArray n dd sl k t c0 c1 c2 (by omega) c4 (by rw [size_rep, List.size_toArray]; exact flen)
  refine wpAny_binaryOp_repeat_ref (T := "tuple") (U := "int") (by decide) ⟨_, ho, rfl⟩ (fun s' => typeIs_int s' k t) noFill_tuple_mul F.fills_int_mul F.slot_int_rmul repeat_tuple F.slot_int_index.lookup
    (call_meets F.slot_int_rmul (typeIs_int s k t) F.entry_int_rmul (F.args_int_rmul_2 _ _) (int_rmul_tuple k t l its.toArray n dd sl) ⟨ho, rfl, ⟨_, ho, rfl⟩, call_meets F.slot_tuple_mul ⟨_, ho, rfl⟩ F.entry_tuple_mul (F.args_tuple_mul_2 _ _) mw ⟨ho, ?_⟩⟩)
  rw [size_rep]
  exact ep_newT I (by rw [PyProof.Rows.lm_len_rep_flat]; exact flenX) (r.rep k.toNat) q
def rMulA (K : PySem.W.Frag) : R2 := fun x y H Q => (rI (fun i j => muOk i j = true) (fun i j => .int (i * j)) x y H Q ∨ rRepL K x y H Q) ∨ rRepP K x y H Q
theorem op_mulA : OpR X (binaryOp .Mult) (rMulA X.K) := (op_mulM.or op_repL).or op_repP
theorem os_mul : OpS K (two (rMulA K)) (on2 pMul) := ops2 fun v u d e I H Q o s r1 r2 q k => by
  unfold pMul at q
  split at q
  · split at q
    · rename_i hc
      cases q
      rw [r1.int, r2.int]
      exact .inl (.inl ⟨_, _, rfl, rfl, hc, k _ _ _ _ (Grow.val s (.int _))⟩)
    · cases q
  · split at q
    · rename_i hc
      cases q
      obtain ⟨a, vs, rfl, h1, h2⟩ := r1.lst s
      rw [r2.int]
      exact .inl (.inr ⟨a, _, vs, rfl, rfl, h1, by omega, by omega, by rw [h2.length]; exact six hc.2.2, fun p np => k _ _ _ _ (Grow.lst s np (h2.rep _))⟩)
    · cases q
  · split at q
    · rename_i hc
      cases q
      obtain ⟨a, vs, rfl, h1, h2⟩ := r1.tup s
      rw [r2.int]
      refine .inr ⟨a, _, vs, rfl, rfl, h1, fun z => ?_, hc.2.1, by rw [h2.length]; exact Nat.le_trans (Nat.mul_le_mul (show _ ≤ 1000 by omega) hc.1) (by decide), fun p _ pl np => k _ _ _ _ (Grow.tup s pl np (h2.rep _))⟩
      subst z
      cases h2
      exact hc.2.2.2 rfl
    · cases q
  · cases q
theorem ops1c {r : List V → Hp → VK → Prop} {f : PyData → Option O} (h : ∀ (v : V) (d : PyData) (I H : Hp) (Q : VK) (o : O), Same I H → RpS K I H v d → f d = some o → (∀ v H' I' R, Grow K I H I' H' o v R → Q v H') → r [v] H Q) : OpS K r (on1 f) := by
  intro vs ds I H Q o s q e k
  match vs, ds, q with
  | _, _, .nil => simp [on1] at e
  | _, _, .cons q1 .nil => exact h _ _ I H Q o s q1 e k
  | _, _, .cons _ (.cons _ _) => simp [on1] at e
def pLen : PyData → Option O
  | .list xs => some (.fr (.int xs.length))
  | .tuple xs => some (.fr (.int xs.length))
  | .str x => if x.length ≤ 1000000 then some (.fr (.int x.length)) else none
  | .dict es => some (.fr (.int es.length))
  | _ => none
def rLenD (K : PySem.W.Frag) : List V → Hp → VK → Prop := fun xs H Q => (∃ x n, xs = [x] ∧ LenV K x H n ∧ Q (.int n) H) ∨ rDL K xs H Q
theorem call_lenA {X : Cx} : CallR X (.builtin "len") (rLenD X.K) := by
  intro pins s σ H xs us Q I r h
  rcases h with h | h
  · exact call_len pins s σ H xs us Q I r h
  · exact call_lenDD pins s σ H xs us Q I r h
theorem os_len : OpS K (rLenD K) (on1 pLen) := ops1c fun v d I H Q o s r1 q k => by
  unfold pLen at q
  split at q
  · cases q
    obtain ⟨a, vs, rfl, h1, h2⟩ := r1.lst s
    rw [← h2.length] at k
    exact .inl ⟨_, _, rfl, .inl ⟨vs, h1.sq, rfl⟩, k _ _ _ _ (Grow.val s (.int _))⟩
  · cases q
    obtain ⟨a, vs, rfl, h1, h2⟩ := r1.tup s
    rw [← h2.length] at k
    exact .inl ⟨_, _, rfl, .inr ⟨vs, h1, rfl⟩, k _ _ _ _ (Grow.val s (.int _))⟩
  · split at q
    · rename_i hz
      cases q
      rw [r1.str]
      exact .inl ⟨_, _, rfl, ⟨six hz, rfl⟩, k _ _ _ _ (Grow.val s (.int _))⟩
    · cases q
  · cases q
    obtain ⟨a, rfl, h1⟩ := rps_dict s r1
    exact .inr ⟨a, I, _, rfl, s, h1, k _ _ _ _ (Grow.val s (.int _))⟩
  · cases q
def pAll : PyData → Option O
  | .list xs => (boolsOf xs).map fun ns => .fr (.bool (ns.all id))
  | _ => none
theorem os_all : OpS K (rAll K) (on1 pAll) := ops1c fun v d I H Q o s r1 q k => by
  unfold pAll at q
  split at q
  · rename_i xs
    cases z : boolsOf xs with
    | none => rw [z] at q; cases q
    | some ns =>
      rw [z] at q; cases q
      obtain ⟨a, vs, rfl, h1, h2⟩ := r1.lst s
      rw [boolsOf_inv z] at h2
      rw [h2.bools] at h1
      exact ⟨a, ns, rfl, h1.sq, k _ _ _ _ (Grow.val s rbl)⟩
  · cases q
/-- the greatest, the least of some ints -/
def maxL : List Int → Int
  | [] => 0
  | [a] => a
  | a :: b :: r => max a (maxL (b :: r))
def minL : List Int → Int
  | [] => 0
  | [a] => a
  | a :: b :: r => min a (minL (b :: r))
theorem maxL_ge : ∀ {ns : List Int} {y : Int}, y ∈ ns → y ≤ maxL ns
  | [a], y, h => by simp at h; subst h; exact Int.le_refl _
  | a :: b :: r, y, h => by
    unfold maxL
    rcases List.mem_cons.mp h with e | h
    · subst e; omega
    · have := maxL_ge h; omega
theorem maxL_mem : ∀ {ns : List Int}, ns ≠ [] → maxL ns ∈ ns
  | [], h => absurd rfl h
  | [a], _ => by simp [maxL]
  | a :: b :: r, _ => by
    have ih := maxL_mem (ns := b :: r) (by simp)
    unfold maxL
    by_cases h : a ≤ maxL (b :: r)
    · rw [Int.max_eq_right h]; exact List.mem_cons_of_mem _ ih
    · rw [Int.max_eq_left (by omega)]; exact List.mem_cons_self
theorem minL_le : ∀ {ns : List Int} {y : Int}, y ∈ ns → minL ns ≤ y
  | [a], y, h => by simp at h; subst h; exact Int.le_refl _
  | a :: b :: r, y, h => by
    unfold minL
    rcases List.mem_cons.mp h with e | h
    · subst e; omega
    · have := minL_le h; omega
theorem minL_mem : ∀ {ns : List Int}, ns ≠ [] → minL ns ∈ ns
  | [], h => absurd rfl h
  | [a], _ => by simp [minL]
  | a :: b :: r, _ => by
    have ih := minL_mem (ns := b :: r) (by simp)
    unfold minL
    by_cases h : a ≤ minL (b :: r)
    · rw [Int.min_eq_left h]; exact List.mem_cons_self
    · rw [Int.min_eq_right (by omega)]; exact List.mem_cons_of_mem _ ih
def rMax' (K : PySem.W.Frag) : List V → Hp → VK → Prop := fun xs H Q => (∃ i j, xs = [.int i, .int j] ∧ Q (.int (if j > i then j else i)) H) ∨ rMax K xs H Q
def rMin' (K : PySem.W.Frag) : List V → Hp → VK → Prop := fun xs H Q => (∃ i j, xs = [.int i, .int j] ∧ Q (.int (if j < i then j else i)) H) ∨ rMin K xs H Q
theorem cl_max (hc : X.calm = true) : CallR X (.builtin "max") (rMax' X.K) := (call_max2 hc).or (cr_max hc)
theorem cl_min (hc : X.calm = true) : CallR X (.builtin "min") (rMin' X.K) := (call_min2 hc).or (cr_min hc)
def pMax : List PyData → Option O
  | [.int i, .int j] => some (.fr (.int (max i j)))
  | [.list xs] => match intsOf xs with
    | some (n :: ns) => some (.fr (.int (maxL (n :: ns))))
    | _ => none
  | _ => none
def pMin : List PyData → Option O
  | [.int i, .int j] => some (.fr (.int (min i j)))
  | [.list xs] => match intsOf xs with
    | some (n :: ns) => some (.fr (.int (minL (n :: ns))))
    | _ => none
  | _ => none
theorem os_max : OpS K (rMax' K) pMax := fun vs ds I H Q o s r q k => by
  unfold pMax at q
  split at q
  · rename_i i j
    cases q
    match vs, r with
    | _, .cons r1 (.cons r2 .nil) =>
      rw [r1.int, r2.int]
      refine .inl ⟨i, j, rfl, ?_⟩
      have e : (if j > i then j else i) = max i j := by split <;> omega
      rw [e]
      exact k _ _ _ _ (Grow.val s (.int _))
  · rename_i xs
    match vs, r with
    | _, .cons r1 .nil =>
      split at q
      · rename_i n ns z
        cases q
        obtain ⟨a, vs, rfl, h1, h2⟩ := r1.lst s
        rw [intsOf_inv z] at h2
        rw [h2.ints] at h1
        refine .inr ⟨a, n :: ns, rfl, h1.sq, by simp, fun m hm hb => ?_⟩
        have e : m = maxL (n :: ns) := Int.le_antisymm (maxL_ge hm) (hb _ (maxL_mem (by simp)))
        rw [e]
        exact k _ _ _ _ (Grow.val s (.int _))
      · cases q
  · cases q
theorem os_min : OpS K (rMin' K) pMin := fun vs ds I H Q o s r q k => by
  unfold pMin at q
  split at q
  · rename_i i j
    cases q
    match vs, r with
    | _, .cons r1 (.cons r2 .nil) =>
      rw [r1.int, r2.int]
      refine .inl ⟨i, j, rfl, ?_⟩
      have e : (if j < i then j else i) = min i j := by split <;> omega
      rw [e]
      exact k _ _ _ _ (Grow.val s (.int _))
  · rename_i xs
    match vs, r with
    | _, .cons r1 .nil =>
      split at q
      · rename_i n ns z
        cases q
        obtain ⟨a, vs, rfl, h1, h2⟩ := r1.lst s
        rw [intsOf_inv z] at h2
        rw [h2.ints] at h1
        refine .inr ⟨a, n :: ns, rfl, h1.sq, by simp, fun m hm hb => ?_⟩
        have e : m = minL (n :: ns) := Int.le_antisymm (hb _ (minL_mem (by simp))) (minL_le hm)
        rw [e]
        exact k _ _ _ _ (Grow.val s (.int _))
      · cases q
  · cases q
def pList (d : PyData) : Option O := (seqOf d).map .ol
theorem os_list : OpS K (fun xs H Q => ∃ p ys, xs = [.ref p] ∧ (SqL K H p ys ∨ SqT K H p ys) ∧ ∀ l, H l = none → Q (.ref l) (upd H l (.lst ys))) (on1 pList) := ops1c fun v d I H Q o s r1 q k => by
  unfold pList at q
  cases z : seqOf d with
  | none => rw [z] at q; cases q
  | some xs =>
    rw [z] at q; cases q
    obtain ⟨p, vs, rfl, h1, h2⟩ := rps_seq s r1 z
    exact ⟨p, vs, rfl, h1.symm, fun l nl => k _ _ _ _ (Grow.lst s nl h2)⟩
def pTuple (d : PyData) : Option O := (seqOf d).map fun xs => .fr (.tuple xs)
/-- tuple(x), what is new is plain -/
theorem call_tupleP : CallR X (.type "tuple") (fun xs H Q => ∃ p ys, xs = [.ref p] ∧ ((SqL X.K H p ys ∧ NewT H ys Q) ∨ (SqT X.K H p ys ∧ Q (.ref p) H))) := by
  intro pins s σ H xs us Q I r h
  obtain ⟨p, ys, rfl, h⟩ := h
  obtain ⟨u, rfl, rx⟩ := vals1 r
  cases rx
  rcases h with ⟨hq, q⟩ | ⟨hq, q⟩
  · obtain ⟨its, r', pl, hz⟩ := I.list hq
    have hlen := r'.length
    refine call_tuple_list pl.isList (fun h' kp => ?_) (by simp only [List.size_toArray] <;> omega)
    have I1 : Inv X pins σ H { s with heap := h' } := I.kept (t' := s.toks) kp
    have I2 : Inv X pins σ (upd H h'.objs.size (.frz { cls := .type "tuple", data := .seq its.toArray } (.tup ys))) { s with heap := h'.push { cls := .type "tuple", data := .seq its.toArray } } :=
      I1.laid (t' := s.toks) (fun b o e => Heap.get?_push_of_some _ e) (Nat.le_refl _) (show ObjOk X.prog X.w _ _ _ (.frz _ (.tup ys)) from ⟨Heap.get?_push_size _ rfl, hz, its, r', IsTup.new _ _⟩)
    exact ⟨.ref h'.objs.size, _, I2, rfl, q _ _ PlT.mk (I1.hok.fresh (Nat.le_refl _))⟩
  · obtain ⟨its, r', pl, hz⟩ := I.tuple hq
    exact call_tuple_same pl ⟨.ref p, H, I, rfl, q⟩
theorem os_tuple : OpS K (fun xs H Q => ∃ p ys, xs = [.ref p] ∧ ((SqL K H p ys ∧ NewT H ys Q) ∨ (SqT K H p ys ∧ Q (.ref p) H))) (on1 pTuple) := ops1c fun v d I H Q o s r1 q k => by
  unfold pTuple at q
  cases d with
  | list xs =>
    cases q
    obtain ⟨p, vs, rfl, h1, h2⟩ := r1.lst s
    exact ⟨p, vs, rfl, .inl ⟨h1.sq, fun l _ pl nl => k _ _ _ _ (Grow.tup s pl nl h2)⟩⟩
  | tuple xs =>
    cases q
    obtain ⟨p, vs, rfl, h1, h2⟩ := r1.tup s
    exact ⟨p, vs, rfl, .inr ⟨h1, k _ _ _ _ (Grow.val s (rps_rp r1 rfl))⟩⟩
  | _ => cases q
def pInt : PyData → Option O
  | .int i => some (.fr (.int i))
  | .bool b => some (.fr (.int (if b then 1 else 0)))
  | _ => none
def pStr : PyData → Option O
  | .int i => if i.natAbs < 2 ^ 1900 then some (.fr (.str (toString i))) else none
  | _ => none
theorem log_lt {i : Int} (h : i.natAbs < 2 ^ 1900) : i.natAbs.log2 < 1920 := Nat.lt_of_lt_of_le (PySem.Flt.log2_lt_of (by decide) h) (by decide)
theorem os_str : OpS K (fun xs H Q => ∃ i : Int, xs = [.int i] ∧ i.natAbs.log2 < 1920 ∧ Q (.str (toString i)) H) (on1 pStr) := ops1c fun v d I H Q o s r1 q k => by
  unfold pStr at q
  split at q
  · split at q
    · rename_i hc
      cases q
      rw [r1.int]
      exact ⟨_, rfl, log_lt hc, k _ _ _ _ (Grow.val s (.str _))⟩
    · cases q
  · cases q
def tyN : PyData → String
  | .none => "NoneType"
  | .bool _ => "bool"
  | .int _ => "int"
  | .str _ => "str"
  | .list _ => "list"
  | .tuple _ => "tuple"
  | .dict _ => "dict"
def isA : Ty → PyData → Bool
  | .int, .int _ => true
  | .int, .bool _ => true
  | .bool, .bool _ => true
  | .str, .str _ => true
  | .list, .list _ => true
  | .tuple, .tuple _ => true
  | .dict, .dict _ => true
  | _, _ => false
theorem isA_kit (t : Ty) (d : PyData) : kitB (tyN d) t.name = some (isA t d) := by
  cases t <;> cases d <;> first | rfl | (show kitB _ _ = _; decide +kernel)
/-- a value's type, with the dicts of tuples -/
inductive TyY (K : PySem.W.Frag) (H : Hp) : V → Value → Prop where
  | base {x : V} {t : Value} (h : TyOf K H x t) : TyY K H x t
  | wide {x : V} {t : Value} (h : TyX K H x t) : TyY K H x t
  | dn {a : Addr} {ts : List TP} (e : Rd H a (dN a ts)) : TyY K H (.ref a) (.type "dict")
  | dkf {a : Addr} {o : Obj} {kvs : List (Key × V)} (e : H a = some (.frz o (.dK kvs))) : TyY K H (.ref a) (.type "dict")
theorem TyY.dk {K : PySem.W.Frag} {H : Hp} {a : Addr} {kvs : List (Key × V)} (e : Rd H a (.dK kvs)) : TyY K H (.ref a) (.type "dict") := by
  rcases e with e | ⟨o, e⟩
  · exact .base (.dK e)
  · exact .dkf e
theorem kit_ofY {X : Cx} {pins : List (Addr × Obj)} {σ : St} {H : Hp} {s : Shared} {x : V} {u t : Value} (I : Inv X pins σ H s) (rx : RelV x u) (ty : TyY X.K H x t) : ∃ P : Heap → Prop, PySem.W.KitX X.K u t P ∧ P s.heap ∧ u ≠ .builtin "__main__.__loader__#opaque" := by
  cases ty with
  | base h => exact kit_of I rx (.base h)
  | wide h => exact kit_of I rx h
  | @dn a ts e =>
    cases (show u = Value.ref a from rx)
    have ok : ObjOk X.prog X.w H s.heap a (dN a ts) := by
      rcases e with e | ⟨ob, e⟩
      · exact I.hok a _ e
      · exact (show ObjOk X.prog X.w H s.heap a (.frz ob (dN a ts)) from I.hok a _ e).2
    obtain ⟨⟨_, _, ys, _, o, es, ep, h1, h2, _⟩, _⟩ := ok
    exact ⟨_, PySem.W.kitx_dict, ⟨o, h1, h2.1⟩, fun z => nomatch z⟩
  | @dkf a ob kvs e =>
    cases (show u = Value.ref a from rx)
    obtain ⟨_, _, _, vs, _, p⟩ := (show ObjOk X.prog X.w H s.heap a (.frz ob (.dK kvs)) from I.hok a _ e)
    obtain ⟨o, es, ep, h1, h2, _⟩ := p
    exact ⟨_, PySem.W.kitx_dict, ⟨o, h1, h2.1⟩, fun z => nomatch z⟩
def rIsiY (K : PySem.W.Frag) : List V → Hp → VK → Prop := fun xs H Q => ∃ (x c : V) (t u : Value) (b : Bool), xs = [x, c] ∧ ClsV c u ∧ TyY K H x t ∧ PySem.W.kitOne K t u = some b ∧ Q (.bl b) H
theorem call_isiY {X : Cx} : CallR X (.builtin "isinstance") (rIsiY X.K) := by
  intro pins s σ H xs us Q I r h
  obtain ⟨x, c, t, u, b, rfl, k, ty, e, q⟩ := h
  obtain ⟨u1, u2, rfl, r1, r2⟩ := vals2 r
  have e2 := k.eq r2
  subst e2
  obtain ⟨P, Z, p, hx⟩ := kit_ofY I r1 ty
  exact PySem.W.kia_one Z I.kIn p e hx fun tk => ⟨.bl b, H, I.tok tk, rfl, q⟩
theorem tyX {I H : Hp} {v : V} {d : PyData} (s : Same I H) (h : RpS K I H v d) : TyY K H v (.type (tyN d)) := by
  rcases h with h | ⟨a, vs, ds, rfl, rfl, h1, _⟩ | ⟨a, es, rfl, rfl, ⟨kvs, h1, _⟩ | ⟨ts, h1, _⟩⟩
  · cases h with
    | non => exact .base .non
    | bl b => exact .base (.bl b)
    | int i => exact .base (.int i)
    | str x => exact .base (.str x)
    | lst h1 _ =>
      rcases h1.mono s with (h1 | ⟨o, h1⟩) | ⟨its, n, h1, _⟩
      · exact .base (.lst h1)
      · exact .base (.frz h1)
      · exact .wide (.kList h1 rfl)
    | tup h1 _ =>
      rcases same_t s h1.sq with (h1 | ⟨o, h1⟩) | ⟨o, its, n, h1, h2, _⟩
      · exact .base (.tup h1)
      · exact .wide (.fTuple h1)
      · exact .wide (.kTuple h1 h2)
    | dic h1 _ => exact .dk (same_rd s h1)
    | dit h1 _ => exact .dn (same_rd s h1)
  · exact .base (.lst h1)
  · exact .base (.dK h1)
  · exact .dn (.inl h1)
end
section
variable {g : G} {X : Cx} {a b c e : Expr} {pos p p2 : Pos} {σ : St} {H : Hp}
theorem de_isi {x : AF} {n : Str} (t : Ty) (hg : Gl X "isinstance") (hm : X.mg "isinstance" = none) (hv : bootBuiltins "isinstance" = some (.builtin "isinstance")) (ha : DX g X a x) (hT : PE X (.Name n p2) (tC (.ty t.name))) (hK : X.K = g.K := by rfl)
    (h1 : starEach [a, .Name n p2] X.env = (false, eval a X.env) :: starEach [.Name n p2] X.env := by rfl) (h2 : starEach [.Name n p2] X.env = (false, eval (.Name n p2) X.env) :: starEach [] X.env := by rfl) (h3 : (backTo pos (starEach [.Name n p2] X.env)).any (·.1) = false := by rfl) :
    DE g X (.Call (.Name "isinstance" p) [a, .Name n p2] [] pos) (fOp (on1 fun d => some (.fr (.bool (isA t d)))) [x]) :=
  PE.imp (pe_callB call_isiY hg hm hv (pa_cons ha (pa_cons hT pa_nil h2) h1) (by decide) (by decide) h1 h3) fun σ H Q h => by
    refine tArg_mono (tA1 (op_key (r := one fun v H1 Q => rIsiY X.K [v, .ty t.name] H1 Q) ?_ h)) fun v H1 q => q
    refine ops1 fun v d I H Q o s r1 q k => ?_
    cases q
    exact ⟨v, .ty t.name, .type (tyN d), .type t.name, isA t d, rfl, .ty _, by rw [hK]; exact tyX s r1, kit_ty (isA_kit t d), k _ _ _ _ (Grow.val s rbl)⟩
def fSq (a : AF) : IF := fun env => evA [a] env >>= fun r => match dvs r.1 with
  | some [d] => match seqOf d with
    | some xs => .ok (xs, r.2)
    | none => .no
  | _ => .no
theorem it_l {K : PySem.W.Frag} {I H : Hp} {a : Addr} {vs : List V} {ds : List PyData} (h : LsL K I a vs) (r : RpAll K I vs ds) : ItOk K I (Itl K a) ds := fun I2 H2 i s1 s2 => by
  have hq : SqL K H2 a vs := (h.mono (s1.trans s2)).sq
  refine ⟨fun d hd => ?_, fun e => ⟨vs, hq, by rw [r.length]; omega⟩⟩
  obtain ⟨v, hv, rp⟩ := r.get hd
  refine ⟨⟨vs, v, hq, hv⟩, fun x H' y => ?_⟩
  obtain ⟨rfl, y⟩ := y
  have := y vs hq
  rw [hv] at this; cases this
  exact ⟨I2, Grow.val s2 (rp.mono s1)⟩
theorem it_t {K : PySem.W.Frag} {I H : Hp} {a : Addr} {vs : List V} {ds : List PyData} (h : SqT K I a vs) (r : RpAll K I vs ds) : ItOk K I (Itt K a) ds := fun I2 H2 i s1 s2 => by
  have hq : SqT K H2 a vs := same_t (s1.trans s2) h
  refine ⟨fun d hd => ?_, fun e => ⟨vs, hq, by rw [r.length]; omega⟩⟩
  obtain ⟨v, hv, rp⟩ := r.get hd
  refine ⟨⟨vs, v, hq, hv⟩, fun x H' y => ?_⟩
  obtain ⟨rfl, y⟩ := y
  have := y vs hq
  rw [hv] at this; cases this
  exact ⟨I2, Grow.val s2 (rp.mono s1)⟩
theorem di_seq {tg : Expr} {x : AF} (ha : DX g X a x) (hK : X.K = g.K := by rfl) : DI g X tg a (fSq x) := by
  refine ⟨fun pins s σ H R J h => ?_⟩
  obtain ⟨I, env, F, sm, p⟩ := h
  unfold fSq at p
  cases q : evA [x] env with
  | no => rw [q] at p; exact p.elim
  | er y =>
    rw [q] at p
    have ps : g.err I H F y := p
    refine (pi_list ha).run pins s σ H R J ?_
    refine tA1 (R := fun vs H1 => ∃ v, vs = [v] ∧ ∃ a, v = .ref a ∧ (∃ xs, SqL X.K H1 a xs) ∧ R (Itl X.K a) H1) ⟨I, env, F, sm, by rw [q]; exact ps⟩ |> fun h => tArg_mono h fun v H1 ⟨_, e, z⟩ => by cases e; exact z
  | ok r =>
    rw [q, bind_ok] at p
    cases q2 : dvs r.1 with
    | none => rw [q2] at p; exact p.elim
    | some ds =>
      match ds, q2 with
      | [], q2 => rw [q2] at p; exact p.elim
      | _ :: _ :: _, q2 => rw [q2] at p; exact p.elim
      | [d], q2 =>
        rw [q2] at p
        have ps := p
        cases d with
        | list xs =>
          have ps : ∀ J H' I' F', Sim g.K g.pn I' H' σ r.2 F' → Step I H (Ow F) I' H' (Ow F') → ItOk g.K I' J xs → R J H' := ps
          refine (pi_list ha).run pins s σ H R J ?_
          have key : tA g [x] σ H (fun vs H1 => ∃ v, vs = [v] ∧ ∃ a, v = .ref a ∧ (∃ xs, SqL X.K H1 a xs) ∧ R (Itl X.K a) H1) := by
            refine ⟨I, env, F, sm, ?_⟩
            rw [q]
            intro vs H' I' F' s' st av
            match vs, dvs_rep av q2 with
            | [v], .cons rp .nil =>
              cases rp with
              | lst h1 h2 =>
                rw [hK]
                exact ⟨_, rfl, _, rfl, ⟨_, (h1.mono s'.sub).sq⟩, ps _ _ _ _ s' st (it_l (H := H') h1 h2)⟩
          exact tArg_mono (tA1 key) fun v H1 ⟨_, e, z⟩ => by cases e; exact z
        | tuple xs =>
          have ps : ∀ J H' I' F', Sim g.K g.pn I' H' σ r.2 F' → Step I H (Ow F) I' H' (Ow F') → ItOk g.K I' J xs → R J H' := ps
          refine (pi_tup ha).run pins s σ H R J ?_
          have key : tA g [x] σ H (fun vs H1 => ∃ v, vs = [v] ∧ ∃ a, v = .ref a ∧ (∃ xs, SqT X.K H1 a xs) ∧ R (Itt X.K a) H1) := by
            refine ⟨I, env, F, sm, ?_⟩
            rw [q]
            intro vs H' I' F' s' st av
            match vs, dvs_rep av q2 with
            | [v], .cons rp .nil =>
              cases rp with
              | tup h1 h2 =>
                rw [hK]
                exact ⟨_, rfl, _, rfl, ⟨_, same_t s'.sub h1.sq⟩, ps _ _ _ _ s' st (it_t (H := H') h1.sq h2)⟩
          exact tArg_mono (tA1 key) fun v H1 ⟨_, e, z⟩ => by cases e; exact z
        | none => exact ps.elim
        | bool _ => exact ps.elim
        | int _ => exact ps.elim
        | str _ => exact ps.elim
        | dict _ => exact ps.elim
end
end Dy
namespace Dy
open PySem PySem.Spec PyProof.Rows L2
section
variable {g : G} {X : Cx} {a b c e : Expr} {es : List Expr} {pos p tpos : Pos} {σ : St} {H : Hp} {elts : List Expr} {kk : Nat} {tg : Expr}
def rng (lo : Int) (n : Nat) : List PyData := (List.range n).map fun k : Nat => PyData.int (lo + (k : Int))
theorem it_r {K : PySem.W.Frag} {I : Hp} {lo : Int} {n : Nat} : ItOk K I (Itr lo n) (rng lo n) := fun I2 H2 i s1 s2 => by
  unfold rng
  refine ⟨fun d hd => ?_, fun e => ?_⟩
  · rw [List.getElem?_map] at hd
    cases q : (List.range n)[i]? with
    | none => rw [q] at hd; cases hd
    | some k =>
      rw [q] at hd; cases hd
      obtain ⟨hk, e⟩ := List.getElem?_eq_some_iff.mp q
      rw [List.length_range] at hk
      rw [List.getElem_range] at e
      subst e
      refine ⟨hk, fun x H' y => ?_⟩
      obtain ⟨rfl, rfl⟩ := y
      exact ⟨I2, Grow.val s2 (.int _)⟩
  · rw [List.length_map, List.length_range] at e
    exact Nat.le_of_eq e
def fR1 (x : AF) : IF := fun env => evA [x] env >>= fun r => match ints1 (rsvs r.2 r.1) with
  | some n => if n ≤ 1000000000 ∧ -1000000000 ≤ n then .ok (rng 0 n.toNat, r.2) else .no
  | none => .no
theorem di_r1 {x : AF} (hg : Gl X "range") (hm : X.mg "range" = none) (ha : DA g X [a] [x]) (hs : starEach [a] X.env = [(false, eval a X.env)] := by rfl) : DI g X tg (.Call (.Name "range" p) [a] [] pos) (fR1 x) :=
  PI.imp (pi_range1 hg hm ha hs) fun σ H R h => by
    obtain ⟨I, env, F, s, p⟩ := h
    refine ⟨I, env, F, s, post_mono (post_bind.mp p) (fun r q vs H' I' F' s' st av => ?_) fun _ z => z⟩
    cases q2 : ints1 (rsvs r.2 r.1) with
    | none => simp only [q2] at q; exact q.elim
    | some n =>
      simp only [q2] at q
      by_cases hz : n ≤ 1000000000 ∧ -1000000000 ≤ n
      · rw [if_pos hz] at q
        match vs, rsvs_rep s' av (ints1_inv q2) with
        | _, .cons r1 .nil =>
          cases rpss_int r1
          exact ⟨n, rfl, by omega, by omega, q _ _ _ _ s' st it_r⟩
      · rw [if_neg hz] at q; exact q.elim
def fR2 (x y : AF) : IF := fun env => evA [x, y] env >>= fun r => match ints2 (rsvs r.2 r.1) with
  | some n => if n.1 ≤ 1000000000 ∧ -1000000000 ≤ n.1 ∧ n.2 ≤ 1000000000 ∧ -1000000000 ≤ n.2 then .ok (rng n.1 (n.2 - n.1).toNat, r.2) else .no
  | none => .no
def enumD : Nat → List PyData → List PyData
  | _, [] => []
  | i, d :: ds => .tuple [.int (i : Nat), d] :: enumD (i + 1) ds
theorem enumD_at : ∀ {ds : List PyData} {k i : Nat} {x : PyData}, (enumD k ds)[i]? = some x → ∃ d, ds[i]? = some d ∧ x = .tuple [.int ((k + i : Nat) : Int), d]
  | [], _, _, _, h => by simp [enumD] at h
  | d :: ds, k, 0, x, h => by
    unfold enumD at h
    simp at h; subst h
    exact ⟨d, rfl, rfl⟩
  | d :: ds, k, i + 1, x, h => by
    unfold enumD at h
    obtain ⟨y, h1, h2⟩ := enumD_at (ds := ds) (k := k + 1) (i := i) (x := x) (by simpa using h)
    exact ⟨y, by simpa using h1, by rw [h2]; congr 3; omega⟩
theorem enumD_len : ∀ (ds : List PyData) (k : Nat), (enumD k ds).length = ds.length
  | [], _ => rfl
  | d :: ds, k => by unfold enumD; rw [List.length_cons, enumD_len ds, List.length_cons]
def zipD : List PyData → List PyData → List PyData
  | x :: xs, y :: ys => .tuple [x, y] :: zipD xs ys
  | _, _ => []
theorem sqX_of {K : PySem.W.Frag} {I : Hp} {v : V} {d : PyData} {xs : List PyData} (h : Rp K I v d) (e : seqOf d = some xs) : ∃ a t vs, v = .ref a ∧ (∀ I', Same I I' → SqX t K I' a vs) ∧ RpAll K I vs xs := by
  cases h with
  | lst h1 h2 => cases e; exact ⟨_, false, _, rfl, fun I' s => (h1.mono s).sq, h2⟩
  | tup h1 h2 => cases e; exact ⟨_, true, _, rfl, fun I' s => same_t s h1.sq, h2⟩
  | non => cases e
  | bl => cases e
  | int => cases e
  | str => cases e
  | dic => cases e
  | dit => cases e
theorem growT {K : PySem.W.Frag} {I H : Hp} {T : Addr} {ob : Obj} {vs : List V} {ds : List PyData} (s : Same I H) (pl : PlT ob) (n : H T = none) (r : RpAll K I vs ds) : ∃ I', Grow K I H I' (upd H T (.frz ob (.tup vs))) (.fr (.tuple ds)) (.ref T) [] := ⟨_, Grow.tup s pl n r⟩
def fEn (x : AF) : IF := fun env => fSq x env >>= fun r => .ok (enumD 0 r.1, r.2)
theorem di_en {x : AF} (hg : Gl X "enumerate") (hm : X.mg "enumerate" = none) (ha : DA g X [a] [x]) (hK : X.K = g.K := by rfl) (hs : starEach [a] X.env = [(false, eval a X.env)] := by rfl) : DI g X (.Tuple elts kk tpos) (.Call (.Name "enumerate" p) [a] [] pos) (fEn x) :=
  PI.imp (pi_en hg hm ha hs) fun σ H R h => by
    obtain ⟨I, env, F, s, p⟩ := h
    unfold fEn fSq at p
    refine ⟨I, env, F, s, post_mono (post_bind.mp (post_bind.mp p)) (fun r q vs H' I' F' s' st av => ?_) fun _ z => z⟩
    cases q2 : dvs r.1 with
    | none => simp only [q2] at q; exact q.elim
    | some ds =>
      simp only [q2] at q
      match ds, vs, dvs_rep av q2 with
      | [], _, .nil => exact q.elim
      | _ :: _ :: _, _, .cons _ (.cons _ _) => exact q.elim
      | [d], [v], .cons rp .nil =>
        cases q3 : seqOf d with
        | none => simp only [q3] at q; exact q.elim
        | some xs =>
          simp only [q3] at q
          obtain ⟨a, t, ws, rfl, hq, ra⟩ := sqX_of rp q3
          rw [hK]
          refine ⟨a, t, ws, rfl, hq H' s'.sub, q _ _ _ _ s' st fun I2 H2 i s1 s2 => ⟨fun z hz => ?_, fun e => ⟨ws, hq H2 (s1.trans s2), by rw [ra.length, ← e, enumD_len]⟩⟩⟩
          obtain ⟨x, hx, rfl⟩ := enumD_at hz
          obtain ⟨w, hw, rw'⟩ := ra.get hx
          refine ⟨⟨ws, w, hq H2 (s1.trans s2), hw⟩, fun y H3 hy => ?_⟩
          obtain ⟨T, ob, x', rfl, pl, nT, rfl, hy⟩ := hy
          have := hy ws (hq H2 (s1.trans s2))
          rw [hw] at this; cases this
          rw [Nat.zero_add]
          exact growT s2 pl nT (.cons (.int _) (.cons (rw'.mono s1) .nil))
def fZp (x y : AF) : IF := fun env => evA [x, y] env >>= fun r => match dvs r.1 with
  | some [d, e] => match seqOf d, seqOf e with
    | some xs, some ys => .ok (zipD xs ys, r.2)
    | _, _ => .no
  | _ => .no
theorem Sim.own {K : PySem.W.Frag} {π : Pn} {I H : Hp} {σ : St} {env : Env} {F : Nat → List Addr} {i : Nat} {ds : List PyData} (s : Sim K π I H σ env F) (q : env[i]? = some (some (.ol ds))) :
    ∃ a vs, σ[i]? = some (some (.ref a)) ∧ H a = some (.lst vs) ∧ RpAll K I vs ds ∧ ∀ vs' ds', RpAll K I vs' ds' → AftS K π I H F σ (env.set i (some (.ol ds'))) (upd H a (.lst vs')) := by
  obtain ⟨v, e1, a, vs, rfl, hF, h1, h2⟩ := s.rep i _ q
  refine ⟨a, vs, e1, h1, h2, fun vs' ds' r => ?_⟩
  have hi : i < env.length := by
    cases Nat.lt_or_ge i env.length with
    | inl h => exact h
    | inr h => rw [List.getElem?_eq_none h] at q; cases q
  have ha : a ∈ F i := by rw [hF]; simp
  have nI := s.djI i a ha
  have ne : ∀ j, j ≠ i → ∀ b ∈ F j, b ≠ a := fun j hj b hb e => by subst e; exact hj (s.dis j i b hb ha)
  refine ⟨I, upF F i [a], ?_, Step.of4 (Same.refl _) (fun b o h n => ?_) (fun b h => ?_) (fun _ _ h => .inl h)⟩
  · have := s.put (i := i) (x := some (.ol ds')) (sv := some (.ref a)) (R := [a]) (H' := upd H a (.lst vs')) hi (Same.refl _) (fun b o h => ?_) (fun j hj b hb => ?_) (fun j _ b hb => s.djI j b hb) (fun b hb => ?_) (fun j hj b hb h => ?_) (fun o e => ?_) (fun e => by cases e) (fun hp => ?_) (s.ktO ha)
    · rw [set_same e1] at this; exact this
    · rw [upd_ne (fun e => by subst e; rw [nI] at h; cases h)]; exact s.sub b o h
    · rw [upd_ne (ne j hj b hb)]
    · simp at hb; subst hb; exact nI
    · simp at h; exact ne j hj b hb h
    · cases e; exact ⟨_, rfl, a, vs', rfl, rfl, upd_same, r⟩
    · have := s.pin i hp; rw [e1] at this; exact Option.some.inj this
  · rw [upd_ne (fun e => by subst e; exact n ⟨i, ha⟩)]; exact h
  · rcases ow_up h with z | z
    · exact .inl z
    · simp at z; subst z; exact .inl ⟨i, ha⟩
/-- x.append(e) -/
def fApp (i : Nat) (f : EF) : SF := fun env => match env[i]? with
  | some (some (.ol _)) => f env >>= fun r => match r.2[i]? with
    | some (some (.ol ds)) => if ds.length < 1000000 then .ok (.nx, r.2.set i (some (.ol (ds ++ [r.1.data])))) else .no
    | _ => .no
  | _ => .no
theorem ds_app {i : Nat} {x : Str} {px apos cpos spos : Pos} {f : EF} (hx : PE X (.Name x px) (tVar i)) (he : DE g X e f)
    (h2 : attributeBase (.Name x px) "append" X.env (eval (.Name x px) X.env) = eval (.Name x px) X.env := by rfl)
    (h3 : ((backTo cpos (starEach [e] X.env)).all (fun x => !x.1) && (backToKw cpos (keywordEach [] X.env)).all (fun x => x.1.isSome)
      && decide ([e].length + ([] : List Keyword).length + (if ([] : List Keyword).isEmpty then 0 else 1) < 30)) = true := by rfl)
    (h4 : (apos.endLine == cpos.line) = true := by rfl) (h5 : starEach [e] X.env = (false, eval e X.env) :: starEach [] X.env := by rfl)
    (hs : swapsWith (.Call (.Attribute (.Name x px) "append" apos) [e] [] cpos) none spos.line X.env = pure false := by rfl) :
    DS g X (.Expr (.Call (.Attribute (.Name x px) "append" apos) [e] [] cpos) spos) (fApp i f) := PS.imp (ps_expr (pe_bm PySem.F.plainAttrs_list PySem.F.slot_list_append PySem.F.type_list_append mt_append hx (pa_cons he pa_nil h5) h2 h3 h4 h5 rfl) hs) fun D σ H q => by
  obtain ⟨I, env, F, s, p⟩ := q
  unfold fApp at p
  split at p
  · rename_i ds0 q0
    obtain ⟨a, vs, e1, h1, h2, _⟩ := s.own q0
    refine ⟨.ref a, e1, .inl ⟨rfl, vs, SqL.of h1⟩, ?_⟩
    refine tD_seq s p fun r v H1 af q => ?_
    obtain ⟨I', F', rp, s', st⟩ := af.frz
    split at q
    · rename_i ds q1
      by_cases hz : ds.length < 1000000
      · rw [if_pos hz] at q
        obtain ⟨a', vs', e1', h1', h2', up⟩ := s'.own q1
        rw [e1] at e1'; cases e1'
        exact ⟨a, vs', v, rfl, rfl, h1', by rw [h2'.length]; exact Nat.lt_of_lt_of_le hz (by decide), q _ _ (AftS.trans st (up _ _ (h2'.app (.cons rp .nil))))⟩
      · rw [if_neg hz] at q; exact q.elim
    · exact q.elim
  · exact p.elim
/-- x[k] = e -/
def fSetI (i : Nat) (y : AF) (f : EF) : SF := fun env => f env >>= fun r => match r.2[i]? with
  | some (some (.ol _)) => evA [y] r.2 >>= fun q => match ints1 (rsvs q.2 q.1) with
    | none => .no
    | some k => match q.2[i]? with
      | some (some (.ol ds)) => match ixN ds.length k with
        | some j => .ok (.nx, q.2.set i (some (.ol (ds.set j r.1.data))))
        | none => .no
      | _ => .no
  | _ => .no
theorem ds_setI {i : Nat} {x : Str} {px spos : Pos} {f : EF} {y : AF} (hx : PE X (.Name x px) (tVar i)) (hk : DX g X b y) (he : DE g X e f)
    (ha : ∀ v, assign (.Subscript (.Name x px) b pos) X.env v = (do
      let ov ← holding [v] (eval (.Name x px) X.env)
      let iv ← holding [v, ov] (eval b X.env)
      standAt pos
      holding [v, ov, iv] (setItem ov iv v)
      release [v, ov, iv] []) := by intro _; rfl)
    (hs : swapsWithSole [.Subscript (.Name x px) b pos] e spos.line X.env = pure false := by rfl) (hw : swappedStores [.Subscript (.Name x px) b pos] e X.env = pure none := by rfl)
    (h1 : (assignEach [.Subscript (.Name x px) b pos] X.env).map (·.2) = [assign (.Subscript (.Name x px) b pos) X.env] := by rfl) :
    DS g X (.Assign [.Subscript (.Name x px) b pos] e spos) (fSetI i y f) := PS.imp (ps_asg he (pg_sub hx hk set_list ha) hs hw h1) fun D σ H q => by
  obtain ⟨I, env, F, s, p⟩ := q
  refine tD_seq s p fun r v H1 af q => ?_
  obtain ⟨I', F', rp, s', st⟩ := af.frz
  split at q
  · rename_i ds0 q0
    obtain ⟨w, hw, _⟩ := s'.rep i _ q0
    refine ⟨w, hw, ?_⟩
    refine tArg_mono (tA1 (R := fun vs H3 => ∃ u, vs = [u] ∧ rSetL w u v H3 fun H4 => D.nx σ H4) ⟨I', r.2, F', s', post_mono (post_bind.mp q) (fun r3 q3 vs3 H3 I3 F3 s3 st3 av3 => ?_) fun x zz => err_step st zz⟩) fun u H3 ⟨_, e3, z⟩ => by cases e3; exact z
    cases q5 : ints1 (rsvs r3.2 r3.1) with
    | none => simp only [q5] at q3; exact q3.elim
    | some k =>
      simp only [q5] at q3
      have rr3 := rsvs_rep s3 av3 (ints1_inv q5)
      match vs3, rr3 with
      | _, .cons r1 .nil =>
        cases rpss_int r1
        refine ⟨_, rfl, ?_⟩
        split at q3
        · rename_i ds q6
          obtain ⟨a, vs, e1, h1, h2, up⟩ := s3.own q6
          rw [hw] at e1; cases e1
          cases q7 : ixN ds.length k with
          | none => simp only [q7] at q3; exact q3.elim
          | some j =>
            simp only [q7] at q3
            exact ⟨a, vs, k, j, rfl, rfl, h1, by rw [h2.length]; exact q7, q3 _ _ (AftS.trans (st.trans st3) (up _ _ (h2.sets j (rp.mono st3.i1))))⟩
        · exact q3.elim
  · exact q.elim
end
end Dy
namespace Dy
open PySem PySem.Spec PyProof.Rows L2
theorem listText_le (ts : List Str) : (listText ts).length ≤ piled ts + 2 := by
  cases ts with
  | nil => decide +kernel
  | cons t r =>
    have h := textFrom_length_pos r 1 (("[" : Str) ++ (if (0 : Nat) > 0 then ", " else "" : String) ++ t) (Nat.succ_pos 0)
    have e : ((("[" : Str) ++ (if (0 : Nat) > 0 then ", " else "" : String) ++ t)).length = 1 + t.length := by
      rw [strLen_append, strLen_append]; rfl
    have hX : (listText (t :: r)).length = (textFrom 0 "[" (t :: r)).length + 1 := by
      show (textFrom 0 "[" (t :: r) ++ "]").length = _
      rw [strLen_append]; rfl
    have hY : (textFrom 0 "[" (t :: r)).length = (textFrom 1 (("[" : Str) ++ (if (0 : Nat) > 0 then ", " else "" : String) ++ t) r).length := rfl
    rw [hX, hY, h, e, piled_cons]; omega
mutual
theorem shown_len : ∀ d : PyData, d.canLay0 = true → d.shown.length ≤ rw8 d
  | .none, _ => by decide +kernel
  | .bool b, _ => by cases b <;> decide +kernel
  | .int i, _ => by
    show (Str.ofString (toString i)).length ≤ i.natAbs.log2 + 2
    rw [PySem.ofString_length]
    exact int_text_length_le (k := i.natAbs.log2 + 1) (by omega) (by omega)
  | .str x, _ => Nat.le_refl _
  | .list xs, h => by
    have := shown_len_all xs (by simpa [PyData.canLay0] using h)
    have := listText_le (PyData.shownAll xs)
    show (listText (PyData.shownAll xs)).length ≤ rw8s xs + 2
    omega
  | .tuple xs, h => by
    have := shown_len_all xs (by simpa [PyData.canLay0] using h)
    have := fmt_text (PyData.shownAll xs)
    show (tupleText (PyData.shownAll xs)).length ≤ rw8s xs + 2
    omega
  | .dict _, h => by simp [PyData.canLay0] at h
theorem shown_len_all : ∀ ds : List PyData, PyData.canLayAll0 ds = true → piled (PyData.shownAll ds) ≤ rw8s ds
  | [], _ => Nat.le_refl _
  | d :: ds, h => by
    have h' : d.canLay0 = true ∧ PyData.canLayAll0 ds = true := by simpa [PyData.canLayAll0] using h
    have h1 := shown_len d h'.1
    have h2 := shown_len_all ds h'.2
    show piled (d.shown :: PyData.shownAll ds) ≤ rw8 d + 2 + rw8s ds
    rw [piled_cons]
    omega
end
section
variable {X : Cx}
def rRepr (K : PySem.W.Frag) : List V → Hp → VK → Prop := fun xs H Q => ∃ x d, xs = [x] ∧ Dp K H x d ∧ d.showable = true ∧ d.hasDict = false ∧ d.depth ≤ 64 ∧ d.shown.length ≤ sizeLine ∧ Q (.str d.shown) H
theorem cr_repr {k : Nat} (hg : X.A.guards = some []) (hr : Room k X.A) : CallR X (.builtin "repr") (rRepr X.K) := by
  intro pins s σ H xs us Q J r h
  obtain ⟨x, d, rfl, hd, h1, h2, h3, h4, q⟩ := h
  obtain ⟨u, rfl, ru⟩ := vals1 r
  obtain ⟨as, rd⟩ := Dp.reads J d x u hd ru
  have hu := hr.un
  cases rd with
  | none => exact PySem.P.repr_of_none ⟨.str _, H, J.tok _, ⟨_, rfl⟩, q⟩
  | bool b => cases b <;> exact PySem.P.repr_of_bool ⟨.str _, H, J.tok _, ⟨_, rfl⟩, q⟩
  | int i t => exact PySem.P.repr_of_int (by simpa [PyData.showable] using h1) ⟨.str _, H, J.tok _, ⟨_, rfl⟩, q⟩
  | str y t => exact PySem.P.repr_of_str ⟨.str _, H, J.tok _, ⟨_, rfl⟩, q⟩ h4
  | list e1 e2 e3 e4 =>
    exact repr_of_reads' (.list e1 e2 e3 e4) h1 (PyData.noDict_hsm h2) hg (by omega) (fun _ _ z => z) (fun h' u tk k => ⟨.str _, H, J.kept (t' := tk) fun b ob q => k b ob q, ⟨_, rfl⟩, q⟩) h4
  | tuple e1 e2 e3 e4 =>
    exact repr_of_reads' (.tuple e1 e2 e3 e4) h1 (PyData.noDict_hsm h2) hg (by omega) (fun _ _ z => z) (fun h' u tk k => ⟨.str _, H, J.kept (t' := tk) fun b ob q => k b ob q, ⟨_, rfl⟩, q⟩) h4
  | dict e1 e2 e3 e4 e5 => simp [PyData.hasDict] at h2
theorem os_repr {K : PySem.W.Frag} : OpS K (rRepr K) (on1 pRepr) := ops1c fun v d I H Q o s r1 q k => by
  unfold pRepr at q
  split at q
  · rename_i hc
    cases q
    unfold rOk at hc
    simp only [Bool.and_eq_true, decide_eq_true_eq] at hc
    obtain ⟨c1, c2, c3, c4⟩ := hc
    exact ⟨v, d, rfl, r1.dp s c1, c2, PyData.hasDict_of_canLay d c1, c3, Nat.le_trans (shown_len d c1) (Nat.le_trans c4 (by decide)), k _ _ _ _ (Grow.val s (.str _))⟩
  · cases q
end
def pRev : PyData → Option O
  | .list xs => some (.ol xs.reverse)
  | _ => none
section
variable {g : G} {X : Cx} {a b c e : Expr} {es : List Expr} {pos p1 p2 p3 : Pos} {σ : St} {H I : Hp} {env : Env} {F : Nat → List Addr} {D : Ends}
def fPar (i j : Nat) (f1 f2 : EF) : SF := fun env => f1 env >>= fun r1 => f2 r1.2 >>= fun r2 => if i < r2.2.length ∧ j < r2.2.length ∧ i ≠ j then .ok (.nx, (r2.2.set i (some r1.1)).set j (some r2.1)) else .no
end
end Dy
namespace Dy
open PySem PySem.Spec PyProof.Rows L2
/-- a def of the module by its mirror -/
def CallOk (P : Program) (w : World) (K : PySem.W.Frag) (mg : Str → Option Value) (T : List (Addr × Str)) (k : Nat) (x : Str) (ps : List Str) (m : Fn) : Prop :=
  ∃ f fd, mg x = some (.ref f) ∧ PySem.W.keepIn K (.ref f) = true ∧ Binds K fd ps [] ∧ ∀ base, FnG P w K mg base k f fd ps (spD K mg T m)
theorem CallOk.mono {P : Program} {w : World} {K : PySem.W.Frag} {mg : Str → Option Value} {T : List (Addr × Str)} {j k : Nat} {x : Str} {ps : List Str} {m : Fn} (h : CallOk P w K mg T j x ps m) (l : j ≤ k) : CallOk P w K mg T k x ps m := by
  obtain ⟨f, fd, h1, h2, h3, h4⟩ := h
  exact ⟨f, fd, h1, h2, h3, fun b => (h4 b).mono l⟩
theorem callOk_of {T : List (Addr × Str)} {P : Program} {w : World} {K : PySem.W.Frag} {mg : Str → Option Value} {k : Nat} {x qual : Str} {st : Stmt} {f : Addr} {fd : FuncData} {ps : List Str} {m : Fn} (F : Fun K x qual st f fd) (hm : mg x = some (.ref f)) (hb : Binds K fd ps []) (h : ∀ base, FnG P w K mg base k f fd ps (spD K mg T m)) : CallOk P w K mg T k x ps m :=
  ⟨f, fd, hm, F.kp, hb, h⟩
theorem ru64 {k : Nat} {A : Around} (h : Room k A) : A.units + 64 < cLine := by have := h.un; omega
theorem ru65 {k : Nat} {A : Around} (h : Room k A) : A.units + 65 < cLine := by have := h.un; omega
section
variable {T : List (Addr × Str)} {g : G} {X : Cx} {k : Nat} {ps : List Str} {m : Fn} {x : Str} {p pos : Pos} {e : Expr} {es : List Expr} {as : List AF}
theorem dcall (c : CallOk X.prog X.w X.K X.mg T k x ps m) (hgd : X.A.guards = some []) (hr : Room k X.A) (hg : Gl X x) (hx : Passes (L2.CX X.prog X.w) X g.E)
    (ha : DA g X (e :: es) as) (hK : g.K = X.K := by rfl) (hM : g.mg = X.mg := by rfl) (hT : g.pn.2.2 = T := by rfl) (hdb : (x == ("__debug__" : Str)) = false := by decide) (he : starEach (e :: es) X.env = (false, eval e X.env) :: starEach es X.env := by rfl) (hpl : (backTo pos (starEach es X.env)).any (·.1) = false := by rfl) :
    DE g X (.Call (.Name x p) (e :: es) [] pos) (fCall m as) := by
  obtain ⟨f, fd, h1, h2, h3, h4⟩ := c
  have h5 := h4 X.base
  exact de_call (X := X) (by rw [hK, hM, hT]; exact h5) hgd hr hg h1 h2 h3 hx ha hdb he hpl
end
theorem npn {is rp : List Nat} (h : (is.all fun i => !rp.contains i) = true) : ∀ i ∈ is, i ∉ rp := fun i hi hr => by
  have := List.all_eq_true.mp h i hi
  rw [List.contains_iff_mem.mpr hr] at this
  cases this
theorem np1 {i : Nat} {rp : List Nat} (h : rp.contains i = false) : i ∉ rp := fun hr => by
  rw [List.contains_iff_mem.mpr hr] at h
  cases h
theorem bt_len : bootBuiltins "len" = some (.builtin "len") := by decide +kernel
theorem bt_max : bootBuiltins "max" = some (.builtin "max") := by decide +kernel
theorem bt_min : bootBuiltins "min" = some (.builtin "min") := by decide +kernel
theorem bt_all : bootBuiltins "all" = some (.builtin "all") := by decide +kernel
theorem bt_repr : bootBuiltins "repr" = some (.builtin "repr") := by decide +kernel
theorem bt_isinstance : bootBuiltins "isinstance" = some (.builtin "isinstance") := by decide +kernel
theorem bt_list : bootBuiltins "list" = some (.type "list") := by decide +kernel
theorem bt_tuple : bootBuiltins "tuple" = some (.type "tuple") := by decide +kernel
theorem bt_int : bootBuiltins "int" = some (.type "int") := by decide +kernel
theorem bt_str : bootBuiltins "str" = some (.type "str") := by decide +kernel
theorem bt_bool : bootBuiltins "bool" = some (.type "bool") := by decide +kernel
section
variable {X : Cx} {x : Str} {pos : Pos}
/-- a built-in type's name -/
theorem pty {T : String} (hg : Gl X x) (hm : X.mg x = none) (hv : bootBuiltins x = some (.type T)) (hn : x ≠ "__name__" := by decide) (hd : (x == ("__debug__" : Str)) = false := by decide) : PE X (.Name x pos) (tC (.ty T)) := by
  exact pe_bltn hg hm hv rfl hn hd
end
end Dy
namespace Dy
open PySem
section
variable (env : Env) (i j n m : Nat) (f k : EF) (t u : TF) (s s' : SF) (as : List AF) (x y z : AF) (d : PyData)
theorem a_seq : fSeq s s' env = s env >>= fun r => match r.1 with | .nx => s' r.2 | _ => .ok r := rfl
theorem a_ifS : fIfS t s s' env = t env >>= fun r => if r.1 = true then s r.2 else s' r.2 := rfl
theorem a_B : fB f env = f env >>= fun r => match r.1 with | .fr (.bool b) => .ok (b, r.2) | _ => .no := rfl
theorem a_op (g : List PyData → Option O) : fOp g as env = evA as env >>= fun r => match rsvs r.2 r.1 with | none => .no | some ds => match g ds with | none => .no | some o => .ok (o, r.2) := rfl
theorem a_ov (g : List PyData → Option O) : fOv g as env = evA as env >>= fun r => match dvs r.1 with | none => .no | some ds => match g ds with | none => .no | some o => .ok (o, r.2) := rfl
theorem a_ev0 : evA [] env = .ok ([], env) := rfl
theorem a_evv : evA (.v f :: as) env = f env >>= fun r => evA as r.2 >>= fun q => .ok (.d r.1.data :: q.1, q.2) := rfl
theorem a_evs : evA (.s i :: as) env = match env[i]? with | some (some _) => evA as env >>= fun q => .ok (.s i :: q.1, q.2) | _ => .no := rfl
theorem a_C : fC d env = .ok (.fr d, env) := rfl
theorem a_V : fV i env = match env[i]? with | some (some (.fr d)) => .ok (.fr d, env) | some (some o) => .ok (.fr o.data, env.set i (some (.fr o.data))) | _ => .no := rfl
theorem a_M : fM i env = match env[i]? with | some (some o) => .ok (o, env.set i none) | _ => .no := rfl
theorem a_set : fSet i f env = f env >>= fun r => if i < r.2.length then .ok (.nx, r.2.set i (some r.1)) else .no := rfl
theorem a_setI : fSetI i y f env = f env >>= fun r => match r.2[i]? with
  | some (some (.ol _)) => evA [y] r.2 >>= fun q => match Dy.ints1 (rsvs q.2 q.1) with
    | none => .no
    | some k => match q.2[i]? with
      | some (some (.ol ds)) => match L2.ixN ds.length k with
        | some j => .ok (.nx, q.2.set i (some (.ol (ds.set j r.1.data))))
        | none => .no
      | _ => .no
  | _ => .no := rfl
theorem a_app : fApp i f env = match env[i]? with
  | some (some (.ol _)) => f env >>= fun r => match r.2[i]? with
    | some (some (.ol ds)) => if ds.length < 1000000 then .ok (.nx, r.2.set i (some (.ol (ds ++ [r.1.data])))) else .no
    | _ => .no
  | _ => .no := rfl
theorem a_ret : fRet f env = f env >>= fun r => .ok (.rt r.1, r.2) := rfl
theorem a_ex : fEx f env = f env >>= fun r => .ok (.nx, r.2) := rfl
theorem a_skip : fSkip env = .ok (.nx, env) := rfl
theorem a_no : fNo env = .no := rfl
theorem a_not : fNot t env = t env >>= fun r => .ok (!r.1, r.2) := rfl
theorem a_andT : fAndT t u env = t env >>= fun r => if r.1 = true then u r.2 else .ok (false, r.2) := rfl
theorem a_orT : fOrT t u env = t env >>= fun r => if r.1 = true then .ok (true, r.2) else u r.2 := rfl
theorem a_and : fAnd f k env = fB f env >>= fun r => if r.1 = true then k r.2 else .ok (.fr (.bool false), r.2) := rfl
theorem a_or : fOr f k env = fB f env >>= fun r => if r.1 = true then .ok (.fr (.bool true), r.2) else k r.2 := rfl
theorem a_notV : fNotV f env = fB f env >>= fun r => .ok (.fr (.bool (!r.1)), r.2) := rfl
theorem a_if : fIf t f k env = t env >>= fun r => if r.1 = true then f r.2 else k r.2 := rfl
theorem a_par : fPar i j f k env = f env >>= fun r1 => k r1.2 >>= fun r2 => if i < r2.2.length ∧ j < r2.2.length ∧ i ≠ j then .ok (.nx, (r2.2.set i (some r1.1)).set j (some r2.1)) else .no := rfl
theorem a_call (m : Fn) : fCall m as env = evA as env >>= fun r => match rsO r.2 r.1 with | none => .no | some os => if ndS r.1 = true then m os >>= fun q => .ok (q.1, putB r.1 q.2 r.2) else .no := rfl
theorem a_forS (g : IF) (w : Tg) : fForS g w s env = g env >>= fun r => fFor w s r.1 r.2 := rfl
theorem a_sq : fSq x env = evA [x] env >>= fun r => match dvs r.1 with | some [d] => (match seqOf d with | some xs => .ok (xs, r.2) | none => .no) | _ => .no := rfl
theorem a_r1 : fR1 x env = evA [x] env >>= fun r => match Dy.ints1 (rsvs r.2 r.1) with | some n => if n ≤ 1000000000 ∧ -1000000000 ≤ n then .ok (rng 0 n.toNat, r.2) else .no | none => .no := rfl
theorem a_r2 : fR2 x y env = evA [x, y] env >>= fun r => match Dy.ints2 (rsvs r.2 r.1) with | some n => if n.1 ≤ 1000000000 ∧ -1000000000 ≤ n.1 ∧ n.2 ≤ 1000000000 ∧ -1000000000 ≤ n.2 then .ok (rng n.1 (n.2 - n.1).toNat, r.2) else .no | none => .no := rfl
theorem a_en : fEn x env = fSq x env >>= fun r => .ok (enumD 0 r.1, r.2) := rfl
theorem a_zp : fZp x y env = evA [x, y] env >>= fun r => match dvs r.1 with | some [d, e] => (match seqOf d, seqOf e with | some xs, some ys => .ok (zipD xs ys, r.2) | _, _ => .no) | _ => .no := rfl
theorem a_asT (w : Tg) : fAsT w f env = f env >>= fun r => asT w r.1.data r.2 >>= fun e => .ok (.nx, e) := rfl
theorem a_chI (c1 c2 : Int → Int → Bool) : fChI c1 c2 x y z env = evA [x, y] env >>= fun r => match Dy.ints2 (rsvs r.2 r.1) with
  | some ij => if c1 ij.1 ij.2 = true then evA [z] r.2 >>= fun q => match Dy.ints1 (rsvs q.2 q.1) with
      | some k => .ok (.fr (.bool (c2 ij.2 k)), q.2)
      | none => .no
    else .ok (.fr (.bool false), r.2)
  | none => .no := rfl
theorem a_yes : fYes env = .ok (true, env) := rfl
theorem a_lc (g : IF) (vs : List Nat) (w : Tg) : fLc g vs w t f env = g env >>= fun r => lcL vs w t f r.1 (wipeE r.2 vs) [] >>= fun q => .ok (.ol q.1, unw r.2 q.2 vs) := rfl
theorem a_fn (rp : List Nat) (os : List O) : fnM n m rp s os = if os.length = n ∧ okA rp 0 os = true then
    s (os.map some ++ List.replicate (m - n) none) >>= fun r => match bkA rp r.2 0 os with
      | none => .no
      | some os' => match r.1 with
        | .rt o => .ok (o, os')
        | .nx => .ok (.fr .none, os')
        | _ => .no
  else .no := rfl
end
section
variable (i j : Int) (xs ys : List PyData) (d e : PyData) (a b : Str) (t : Bool) (rs : List (List PyData))
theorem d_fr : (O.fr d).data = d := rfl
theorem d_ol : (O.ol xs).data = .list xs := rfl
theorem f_fr : isFr (.fr d) = true := rfl
theorem q_addI : pAdd (.int i) (.int j) = some (.fr (.int (i + j))) := rfl
theorem q_addL : pAdd (.list xs) (.list ys) = if xs.length + ys.length ≤ 1000000 then some (.ol (xs ++ ys)) else none := rfl
theorem q_addT : pAdd (.tuple xs) (.tuple ys) = if xs.length + ys.length ≤ 1000000 then some (.fr (.tuple (xs ++ ys))) else none := rfl
theorem q_addS : pAdd (.str a) (.str b) = if a.length + b.length ≤ 1000000 then some (.fr (.str (a ++ b))) else none := rfl
theorem q_sub : pSub (.int i) (.int j) = some (.fr (.int (i - j))) := rfl
theorem q_div : pDiv (.int i) (.int j) = if 0 < j ∧ j < 1073741824 then some (.fr (.int (i / j))) else none := rfl
theorem q_mod : pMod (.int i) (.int j) = if 0 < j then some (.fr (.int (i % j))) else none := rfl
theorem q_pow : pPow (.int i) (.int j) = if 0 ≤ j ∧ j ≤ 1000000 ∧ i.natAbs < 2 ^ 64 then some (.fr (.int (i ^ j.toNat))) else none := rfl
theorem q_neg : pNeg (.int i) = some (.fr (.int (-i))) := rfl
theorem q_cm (c : Int → Int → Bool) : cmI c (.int i) (.int j) = some (.fr (.bool (c i j))) := rfl
theorem q_isN : isN .none = true := rfl
theorem q_isI : isN (.int i) = false := rfl
theorem q_isS : isN (.str a) = false := rfl
theorem q_isT : isN (.tuple xs) = false := rfl
theorem q_isL : isN (.list xs) = false := rfl
theorem q_isB : isN (.bool t) = false := rfl
theorem q_lenL : pLen (.list xs) = some (.fr (.int xs.length)) := rfl
theorem q_lenT : pLen (.tuple xs) = some (.fr (.int xs.length)) := rfl
theorem q_tupL : pTuple (.list xs) = some (.fr (.tuple xs)) := rfl
theorem q_tupT : pTuple (.tuple xs) = some (.fr (.tuple xs)) := rfl
theorem q_lstL : pList (.list xs) = some (.ol xs) := rfl
theorem q_lstT : pList (.tuple xs) = some (.ol xs) := rfl
theorem q_revL : pRev (.list xs) = some (.ol xs.reverse) := rfl
theorem q_slL : pSl2l (.list xs) (.int i) = some (.ol (cutD xs (some i) none)) := rfl
theorem q_slT : pSl2l (.tuple xs) (.int i) = some (.fr (.tuple (cutD xs (some i) none))) := rfl
theorem q_shL : pSl2h (.list xs) (.int i) = some (.ol (cutD xs none (some i))) := rfl
theorem q_shT : pSl2h (.tuple xs) (.int i) = some (.fr (.tuple (cutD xs none (some i)))) := rfl
theorem q_sqL : seqOf (.list xs) = some xs := rfl
theorem q_sqT : seqOf (.tuple xs) = some xs := rfl
theorem q_intI : pInt (.int i) = some (.fr (.int i)) := rfl
theorem q_max2 : pMax [.int i, .int j] = some (.fr (.int (max i j))) := rfl
theorem q_min2 : pMin [.int i, .int j] = some (.fr (.int (min i j))) := rfl
theorem q_aII : isA .int (.int i) = true := rfl
theorem q_aBI : isA .bool (.int i) = false := rfl
theorem q_aTI : isA .tuple (.int i) = false := rfl
theorem q_aTT : isA .tuple (.tuple xs) = true := rfl
theorem q_aLL : isA .list (.list xs) = true := rfl
theorem q_aTL : isA .tuple (.list xs) = false := rfl
theorem q_aIT : isA .int (.tuple xs) = false := rfl
end
theorem lc_inv {vs : List Nat} {t : Tg} {test : TF} {elt : EF} (P : Nat → Env → List PyData → Prop) (ds : List PyData) {env : Env} {acc : List PyData} (h0 : P 0 env acc)
    (step : ∀ k d e acc, ds[k]? = some d → P k e acc → ∃ e1 b e2, asT t d e = .ok e1 ∧ test e1 = .ok (b, e2) ∧ (b = false → P (k + 1) (wipeE e2 vs) acc) ∧ (b = true → ∃ o e3, elt e2 = .ok (o, e3) ∧ acc.length < 100000 ∧ P (k + 1) (wipeE e3 vs) (acc ++ [o.data]))) :
    ∃ e acc', lcL vs t test elt ds env acc = .ok (acc', e) ∧ P ds.length e acc' := by
  suffices h : ∀ (xs : List PyData) (k : Nat) (env : Env) (acc : List PyData), ds.drop k = xs → k ≤ ds.length → P k env acc → ∃ e acc', lcL vs t test elt xs env acc = .ok (acc', e) ∧ P ds.length e acc' from h ds 0 env acc rfl (Nat.zero_le _) h0
  intro xs
  induction xs with
  | nil =>
    intro k env acc hd hk hp
    have hl : ds.length ≤ k := List.drop_eq_nil_iff.mp hd
    have : k = ds.length := by omega
    subst this
    exact ⟨env, acc, rfl, hp⟩
  | cons x xs ih =>
    intro k env acc hd hk hp
    have hlt : k < ds.length := by
      cases Nat.lt_or_ge k ds.length with
      | inl h => exact h
      | inr h => rw [List.drop_eq_nil_iff.mpr h] at hd; cases hd
    rw [List.drop_eq_getElem_cons hlt] at hd
    cases hd
    obtain ⟨e1, b, e2, a1, a2, pf, pt⟩ := step k _ env acc (List.getElem?_eq_getElem hlt) hp
    unfold lcL
    rw [a1, bind_ok, a2]
    show ∃ e acc', (if b = true then _ else _) = Res.ok (acc', e) ∧ P ds.length e acc'
    cases b with
    | false => exact ih (k + 1) _ acc rfl hlt (pf rfl)
    | true =>
      obtain ⟨o, e3, c1, c2, p⟩ := pt rfl
      rw [if_pos rfl]
      show ∃ e acc', (nE (elt e2) >>= fun r => if acc.length < 100000 then lcL vs t test elt _ (wipeE r.2 vs) (acc ++ [r.1.data]) else .no) = Res.ok (acc', e) ∧ P ds.length e acc'
      rw [c1]
      show ∃ e acc', (if acc.length < 100000 then lcL vs t test elt _ (wipeE e3 vs) (acc ++ [o.data]) else .no) = Res.ok (acc', e) ∧ P ds.length e acc'
      rw [if_pos c2]
      exact ih (k + 1) _ _ rfl hlt p
theorem rng_at {lo : Int} {n k : Nat} {d : PyData} (h : (rng lo n)[k]? = some d) : k < n ∧ d = .int (lo + k) := by
  unfold rng at h
  rw [List.getElem?_map] at h
  cases q : (List.range n)[k]? with
  | none => rw [q] at h; cases h
  | some j =>
    rw [q] at h; cases h
    obtain ⟨hk, e⟩ := List.getElem?_eq_some_iff.mp q
    rw [List.length_range] at hk
    rw [List.getElem_range] at e
    subst e
    exact ⟨hk, rfl⟩
theorem rng_len {lo : Int} {n : Nat} : (rng lo n).length = n := by unfold rng; simp
end Dy
namespace Dy
open PySem PySem.Spec PyProof.Rows L2
def lcO (vs : List Nat) (t : Tg) (elt : EF) : List PyData → Env → List (List PyData) → Res (List (List PyData) × Env)
  | [], e, acc => .ok (acc, e)
  | d :: ds, e, acc => asT t d e >>= fun e1 => nE (elt e1) >>= fun r => match r.1 with
    | .ol x => if acc.length < 100000 then lcO vs t elt ds (wipeE r.2 vs) (acc ++ [x]) else .no
    | _ => .no
def fLcO (fi : IF) (vs : List Nat) (t : Tg) (elt : EF) : EF := fun env => fi env >>= fun r => lcO vs t elt r.1 (wipeE r.2 vs) [] >>= fun q => .ok (.oo q.1, unw r.2 q.2 vs)
section
variable {g : G} {X : Cx} {a b c e : Expr} {es : List Expr} {pos : Pos} {σ : St} {H I : Hp} {env : Env} {F : Nat → List Addr}
end
end Dy
namespace Dy
open PySem PySem.Spec PyProof.Rows L2
def zN (j : Nat) : Env → Option Int := fun env => match env[j]? with
  | some (some (.fr (.int n))) => some n
  | _ => none
def zC (n : Int) : Env → Option Int := fun _ => some n
section
variable {g : G} {X : Cx} {a b c e : Expr} {es : List Expr} {pos p1 p2 px : Pos} {σ : St} {H I : Hp} {env : Env} {F : Nat → List Addr} {D : Ends}
theorem Sim.lt (s : Sim g.K g.pn I H σ env F) {i : Nat} {o : O} (q : env[i]? = some (some o)) : i < env.length := by
  cases Nat.lt_or_ge i env.length with
  | inl h => exact h
  | inr h => rw [List.getElem?_eq_none h] at q; cases q
/-- x[y][z] -/
def fIx2 (i : Nat) (y z : Env → Option Int) : EF := fun env => match env[i]?, y env, z env with
  | some (some (.oo rs)), some k, some l => match ixN rs.length k with
    | some j => match rs[j]? with
      | some r => match atI r l with
        | some d => .ok (.fr d, env)
        | none => .no
      | none => .no
    | none => .no
  | _, _, _ => .no
/-- x[y][z] = e -/
def fSetII (i : Nat) (y z : Env → Option Int) (f : EF) : SF := fun env => f env >>= fun r => match r.2[i]?, y r.2, z r.2 with
  | some (some (.oo rs)), some k, some l => match ixN rs.length k with
    | some j => match rs[j]? with
      | some w => match ixN w.length l with
        | some m => .ok (.nx, r.2.set i (some (.oo (rs.set j (w.set m r.1.data)))))
        | none => .no
      | none => .no
    | none => .no
  | _, _, _ => .no
end
end Dy
namespace Dy
open PySem PySem.Spec PyProof.Rows L2
theorem Sim.forget {K : PySem.W.Frag} {π : Pn} {I H : Hp} {σ : St} {env : Env} {F : Nat → List Addr} (s : Sim K π I H σ env F) (vs : List Nat) : Sim K π I H σ (wipeE env vs) (clF F vs) := by
  refine ⟨by rw [wipeE_length, s.len], fun i o q => ?_, fun i q => ?_, fun i j a h1 h2 => ?_, fun i a h => ?_, s.sub, s.pin, s.tab⟩
  · rw [wipeE_at] at q
    by_cases h : i ∈ vs
    · rw [if_pos h] at q; split at q <;> cases q
    · rw [if_neg h] at q
      obtain ⟨v, e1, r⟩ := s.rep i o q
      exact ⟨v, e1, by unfold clF; rw [if_neg h]; exact r⟩
  · unfold clF
    by_cases h : i ∈ vs
    · rw [if_pos h]
    · rw [if_neg h]; exact s.out i fun o z => q o (by rw [wipeE_at, if_neg h]; exact z)
  · unfold clF at h1 h2
    split at h1
    · cases h1
    · split at h2
      · cases h2
      · exact s.dis i j a h1 h2
  · unfold clF at h
    split at h
    · cases h
    · exact s.djI i a h
section
variable {g : G} {X : Cx} {a b c e : Expr} {es : List Expr} {pos p1 p2 px : Pos} {σ : St} {H I : Hp} {env : Env} {F : Nat → List Addr} {D : Ends} {st : Stmt} {sts : List Stmt}
theorem AftS.forget {H1 : Hp} {env' : Env} (af : AftS g.K g.pn I H F σ env' H1) (vs : List Nat) : AftS g.K g.pn I H F σ (wipeE env' vs) H1 := by
  obtain ⟨I', F', s, t⟩ := af
  exact ⟨I', clF F' vs, s.forget vs, t.less fun a h => clF_ow h⟩
theorem Aft.forget {H1 : Hp} {env' : Env} {o : O} {v : V} (af : Aft g.K g.pn I H F σ env' o v H1) (vs : List Nat) : Aft g.K g.pn I H F σ (wipeE env' vs) o v H1 := by
  obtain ⟨I', F', R, r, s, n, d, t⟩ := af
  exact ⟨I', clF F' vs, R, r, s.forget vs, n, fun a h => d a (clF_ow h), t.less fun a h => h.elim (fun z => .inl (clF_ow z)) .inr⟩
/-- behind a statement some slots are forgotten -/
def fWp (vs : List Nat) (f : SF) : SF := fun env => f env >>= fun r => .ok (r.1, wipeE r.2 vs)
theorem wp_key {f : SF} {vs : List Nat} (q : tS g (fWp vs f) D σ H) : tS g f D σ H := by
  obtain ⟨I, env, F, s, p⟩ := q
  refine ⟨I, env, F, s, post_mono (post_bind.mp p) (fun r q => ?_) fun _ z => z⟩
  obtain ⟨fl, e⟩ := r
  cases fl with
  | nx => exact fun σ' H' af => q σ' H' (af.forget vs)
  | bk => exact fun σ' H' af => q σ' H' (af.forget vs)
  | ct => exact fun σ' H' af => q σ' H' (af.forget vs)
  | rt o => exact fun v σ' H' af => q v σ' H' (af.forget vs)
theorem ds_wp {f : SF} (vs : List Nat) (h : DS g X st f) : DS g X st (fWp vs f) := PS.imp h fun D σ H q => wp_key q
/-- a name's thing is frozen -/
def frzE (e : Env) : List Nat → Env
  | [] => e
  | i :: is => match (frzE e is)[i]? with
    | some (some o) => (frzE e is).set i (some (.fr o.data))
    | _ => frzE e is
def fFz (vs : List Nat) (f : SF) : SF := fun env => f env >>= fun r => .ok (r.1, frzE r.2 vs)
theorem AftS.freeze {H1 : Hp} {env' : Env} (af : AftS g.K g.pn I H F σ env' H1) : ∀ vs : List Nat, AftS g.K g.pn I H F σ (frzE env' vs) H1
  | [] => af
  | i :: is => by
    have ih := AftS.freeze af is
    unfold frzE
    split
    · rename_i o q
      obtain ⟨I', F', s, t⟩ := ih
      obtain ⟨v, I2, _, _, s2, t2⟩ := sim_frz s q
      exact ⟨I2, _, s2, t.trans t2⟩
    · exact ih
theorem ds_fz {f : SF} (vs : List Nat) (h : DS g X st f) (hf : ∀ env r, f env = .ok r → r.1 = .nx) : DS g X st (fFz vs f) := PS.imp h fun D σ H q => by
  obtain ⟨I, env, F, s, p⟩ := q
  refine ⟨I, env, F, s, ?_⟩
  have p := post_bind.mp p
  cases q : f env with
  | no => rw [q] at p; exact p
  | er x => rw [q] at p; exact p
  | ok r =>
    rw [q] at p
    have h1 := hf env r q
    obtain ⟨fl, e⟩ := r
    cases h1
    exact fun σ' H' af => p σ' H' (af.freeze vs)
theorem nx_set {i : Nat} {f : EF} : ∀ env r, fSet i f env = .ok r → r.1 = .nx := fun env r h => by
  unfold fSet at h
  cases q : f env with
  | no => rw [q] at h; cases h
  | er x => rw [q] at h; cases h
  | ok y =>
    rw [q, bind_ok] at h
    split at h
    · cases h; rfl
    · cases h
/-- x.extend(e), e a new list -/
def fExt (i : Nat) (f : EF) : SF := fun env => match env[i]? with
  | some (some (.ol _)) => f env >>= fun r => match r.1 with
    | .ol ys => match r.2[i]? with
      | some (some (.ol xs)) => if xs.length + ys.length ≤ 1000000 then .ok (.nx, r.2.set i (some (.ol (xs ++ ys)))) else .no
      | _ => .no
    | _ => .no
  | _ => .no
/-- x.insert(k, e) -/
def insA (xs : List PyData) : Option (List PyData) → Option (List PyData)
  | some [.int k, d] => if xs.length < 1000000 ∧ 0 ≤ k ∧ k < 1000000 then some (xs.take k.toNat ++ [d] ++ xs.drop k.toNat) else none
  | _ => none
def fIns (i : Nat) (as : List AF) : SF := fun env => match env[i]? with
  | some (some (.ol _)) => evA as env >>= fun r => match r.2[i]? with
    | some (some (.ol xs)) => match insA xs (dvs r.1) with
      | some ys => .ok (.nx, r.2.set i (some (.ol ys)))
      | none => .no
    | _ => .no
  | _ => .no
/-- x.pop() -/
def fPop (i : Nat) : EF := fun env => match env[i]? with
  | some (some (.ol xs)) => match xs[xs.length - 1]? with
    | some d => .ok (.fr d, env.set i (some (.ol xs.dropLast)))
    | none => .no
  | _ => .no
theorem RpAll.dropLast {K : PySem.W.Frag} {I : Hp} : ∀ {vs : List V} {ds : List PyData}, RpAll K I vs ds → RpAll K I vs.dropLast ds.dropLast := fun {vs ds} h => by
  rw [List.dropLast_eq_take, List.dropLast_eq_take, h.length]; exact h.takes _
end
end Dy
namespace Dy
open PySem PySem.Spec PyProof.Rows L2
inductive Hold (K : PySem.W.Frag) (I H : Hp) : List O → List V → List (List Addr) → Prop
  | nil : Hold K I H [] [] []
  | cons {o : O} {v : V} {R : List Addr} {os : List O} {vs : List V} {Rs : List (List Addr)} : RepO K I H o v R → Hold K I H os vs Rs → Hold K I H (o :: os) (v :: vs) (R :: Rs)
theorem Hold.snoc {K : PySem.W.Frag} {I H : Hp} {os : List O} {vs : List V} {Rs : List (List Addr)} {o : O} {v : V} {R : List Addr} (h : Hold K I H os vs Rs) (r : RepO K I H o v R) : Hold K I H (os ++ [o]) (vs ++ [v]) (Rs ++ [R]) := by
  induction h with
  | nil => exact .cons r .nil
  | cons a _ ih => exact .cons a ih
theorem Hold.mono {K : PySem.W.Frag} {I H I' H' : Hp} {os : List O} {vs : List V} {Rs : List (List Addr)} (h : Hold K I H os vs Rs) (e : Same I I') (k : ∀ a ∈ Rs.flatten, H' a = H a) : Hold K I' H' os vs Rs := by
  induction h with
  | nil => exact .nil
  | cons r _ ih => exact .cons (r.mono e fun a ha => k a (by simp [ha])) (ih fun a ha => k a (by rw [List.flatten_cons]; exact List.mem_append_right _ ha))
def setO : List Nat → List O → Env → Option Env
  | [], [], e => some e
  | i :: is, o :: os, e => if i < e.length then setO is os (e.set i (some o)) else none
  | _, _, _ => none
def evO : List EF → Env → Res (List O × Env)
  | [], e => .ok ([], e)
  | f :: fs, e => f e >>= fun r => evO fs r.2 >>= fun q => .ok (r.1 :: q.1, q.2)
def fParN (is : List Nat) (fs : List EF) : SF := fun env => evO fs env >>= fun r => match setO is r.1 r.2 with
  | some e => .ok (.nx, e)
  | none => .no
section
variable {g : G} {X : Cx} {a b c e : Expr} {es : List Expr} {pos p1 p2 px : Pos} {σ : St} {H I : Hp} {env : Env} {F : Nat → List Addr} {D : Ends}
end
end Dy
namespace Dy
open PySem PySem.Spec PyProof.Rows L2
section
variable {K : PySem.W.Frag} {I H : Hp} {X : Cx}
theorem rps_tup {v : V} {ds : List PyData} (h : RpS K I H v (.tuple ds)) : Rp K I v (.tuple ds) := by
  rcases h with h | ⟨a, vs, ds, rfl, e, h1, h2⟩ | ⟨_, _, _, e, _⟩
  · exact h
  · cases e
  · cases e
def pDivW : PyData → PyData → Option O
  | .int i, .int j => if 0 < j ∧ j < 1000000000000000000000000000000 then some (.fr (.int (i / j))) else none
  | _, _ => none
theorem os_divW : OpS K (two (rI CDivW fun i j => .int (i / j))) (on2 pDivW) := ops2 fun v u d e I H Q o s r1 r2 q k => by
  unfold pDivW at q
  split at q
  · split at q
    · rename_i hc
      cases q
      rw [r1.int, r2.int]
      refine ⟨_, _, rfl, rfl, ⟨hc.1, ?_⟩, k _ _ _ _ (Grow.val s (.int _))⟩
      exact Nat.lt_of_lt_of_le (PySem.Flt.log2_lt_of (k := 100) (by decide) (by omega)) (by decide)
    · cases q
  · cases q
def fWb (vs : List Nat) (f : SF) : SF := fun env => f (wipeE env vs)
theorem a_wb (vs : List Nat) (f : SF) (env : Dy.Env) : fWb vs f env = f (wipeE env vs) := rfl
theorem q_divW (i j : Int) : pDivW (.int i) (.int j) = if 0 < j ∧ j < 1000000000000000000000000000000 then some (.fr (.int (i / j))) else none := rfl
end
end Dy
namespace Dy
open PySem PySem.Spec PyProof.Rows L2
theorem tuple_mul1 (l : Addr) (items : Array Value) (n : Nat) (dd : Option Addr) (sl : Array (Option Value)) (u : Tok) :
    Meets (Builtin.«tuple.__mul__» ⟨[.ref l, .int 1 u], []⟩) (fun _ R s => s.heap.get? l = some { cls := .type "tuple", dict := dd, data := .seq items n, slots := sl } ∧
      R (.ok (.ret (Value.ref l))) s) :=
  .of_wp fun prog w A R s h => by
    obtain ⟨hp, g, d, tk, os⟩ := s
    obtain ⟨hl, h⟩ := h
    have f1 := AutoSeq1.idx_int
    have c1 : (items.isEmpty || (1 : Int) == 1) = true := by simp
    wp_walk using wpAny_loadPart' hl
    exact ⟨_, rfl, h⟩
theorem tuple_mul0 (l : Addr) (items : Array Value) (n : Nat) (dd : Option Addr) (sl : Array (Option Value)) (x : Int) (u : Tok) (c0 : (decide (x < -(2 ^ 63)) || decide (x ≥ 2 ^ 63)) = false) (c1 : (items.isEmpty || x == 1) = false) (c2 : (decide (x ≤ 0) || items.isEmpty) = true) :
    Meets (Builtin.«tuple.__mul__» ⟨[.ref l, .int x u], []⟩) (fun _ R s => s.heap.get? l = some { cls := .type "tuple", dict := dd, data := .seq items n, slots := sl } ∧
      R (.ok (.ret (Value.ref s.heap.objs.size))) { s with heap := s.heap.push { cls := Value.type "tuple", data := Data.seq #[] }, toks := s.toks }) :=
  .of_wp fun prog w A R s h => by
    obtain ⟨hp, g, d, tk, os⟩ := s
    obtain ⟨hl, h⟩ := h
    have f1 := AutoSeq1.idx_int
    wp_walk using wpAny_loadPart' hl
    repeat (first
      | (refine wpAny_ite_false (decide_eq_false (by rw [c0]; exact Bool.false_ne_true)) ?_; wp_walk using wpAny_loadPart' hl)
      | (refine wpAny_ite_false (decide_eq_false (by rw [c1]; exact Bool.false_ne_true)) ?_; wp_walk using wpAny_loadPart' hl)
      | (refine wpAny_ite_true (decide_eq_true (by rw [c2])) ?_; wp_walk using wpAny_loadPart' hl))
    exact ⟨_, rfl, h⟩
def rRepT1 (K : PySem.W.Frag) : R2 := fun x y H Q => ∃ l k xs, x = .ref l ∧ y = .int k ∧ SqT K H l xs ∧ xs ≠ [] ∧ -1000 ≤ k ∧ ((k = 1 ∧ Q (.ref l) H) ∨ (k ≤ 0 ∧ NewT H [] Q))
theorem op_repT1 {X : Cx} : OpR X (binaryOp .Mult) (rRepT1 X.K) := by
  intro pins s σ H x y v u Q I rx ry h
  obtain ⟨l, k, xs, rfl, rfl, hT, hne, h1, q⟩ := h
  cases rx
  obtain ⟨t, rfl⟩ := ry
  obtain ⟨its, r, ⟨⟨cls, dd, data, sl⟩, ho, hc, n, hd⟩, hs⟩ := I.tuple hT
  simp only at hc hd
  subst hc hd
  have hle : its.length = xs.length := r.length.symm
  have hn : its ≠ [] := fun e => hne (by
    rw [e] at hle
    exact List.eq_nil_of_length_eq_zero hle.symm)
  have hi : its.toArray.isEmpty = false := by
    cases its with
    | nil => exact absurd rfl hn
    | cons a b => rfl
  rcases q with ⟨rfl, q⟩ | ⟨h0, q⟩
  · refine wpAny_binaryOp_repeat_ref (T := "tuple") (U := "int") (by decide) ⟨_, ho, rfl⟩ (fun s' => typeIs_int s' 1 t) noFill_tuple_mul F.fills_int_mul F.slot_int_rmul repeat_tuple F.slot_int_index.lookup
      (call_meets F.slot_int_rmul (typeIs_int s 1 t) F.entry_int_rmul (F.args_int_rmul_2 _ _) (int_rmul_tuple 1 t l its.toArray n dd sl)
        ⟨ho, rfl, ⟨_, ho, rfl⟩, call_meets F.slot_tuple_mul ⟨_, ho, rfl⟩ F.entry_tuple_mul (F.args_tuple_mul_2 _ _) (tuple_mul1 l its.toArray n dd sl t) ⟨ho, ?_⟩⟩)
    exact ⟨.ref l, H, I, rfl, q⟩
  · have c0 : (decide (k < -(2 ^ 63)) || decide (k ≥ 2 ^ 63)) = false := by
      rw [decide_eq_false (by omega), decide_eq_false (by omega)] <;> rfl
    have c1 : (its.toArray.isEmpty || k == 1) = false := by
      rw [hi, Bool.false_or]
      exact beq_eq_false_iff_ne.mpr (by omega)
    have c2 : (decide (k ≤ 0) || its.toArray.isEmpty) = true := by
      rw [decide_eq_true h0]; rfl
    refine wpAny_binaryOp_repeat_ref (T := "tuple") (U := "int") (by decide) ⟨_, ho, rfl⟩ (fun s' => typeIs_int s' k t) noFill_tuple_mul F.fills_int_mul F.slot_int_rmul repeat_tuple F.slot_int_index.lookup
      (call_meets F.slot_int_rmul (typeIs_int s k t) F.entry_int_rmul (F.args_int_rmul_2 _ _) (int_rmul_tuple k t l its.toArray n dd sl)
        ⟨ho, rfl, ⟨_, ho, rfl⟩, call_meets F.slot_tuple_mul ⟨_, ho, rfl⟩ F.entry_tuple_mul (F.args_tuple_mul_2 _ _) (tuple_mul0 l its.toArray n dd sl k t c0 c1 c2) ⟨ho, ?_⟩⟩)
    exact ep_newT I (Nat.zero_le _) .nil q
def pMulA : PyData → PyData → Option O
  | .tuple xs, .int k => if xs.length ≤ 1000 ∧ -1000 ≤ k ∧ k ≤ 1000 ∧ xs ≠ [] then some (.fr (.tuple (List.replicate k.toNat xs).flatten)) else none
  | d, e => pMul d e
def rMulB (K : PySem.W.Frag) : R2 := fun x y H Q => rMulA K x y H Q ∨ rRepT1 K x y H Q
theorem op_mulB {X : Cx} : OpR X (binaryOp .Mult) (rMulB X.K) := op_mulA.or op_repT1
theorem os_mulB {K : PySem.W.Frag} : OpS K (two (rMulB K)) (on2 pMulA) := ops2 fun v u d e I H Q o s r1 r2 q k => by
  unfold pMulA at q
  split at q
  · rename_i xs n
    split at q
    · rename_i hc
      cases q
      by_cases h2 : 2 ≤ n
      · refine .inl (os_mul [v, u] [_, _] I H Q _ s (.cons r1 (.cons r2 .nil)) ?_ k)
        show (if _ then _ else _) = _
        rw [if_pos ⟨hc.1, h2, hc.2.2.1, hc.2.2.2⟩]
      · have hu := r2.int
        subst hu
        cases rps_tup r1 with
        | tup h1 ra =>
          rename_i a vs
          refine .inr ⟨a, n, vs, rfl, rfl, same_t s h1.sq, fun z => ?_, hc.2.1, ?_⟩
          · subst z; have := ra.length; exact hc.2.2.2 (List.length_eq_zero_iff.mp this.symm)
          · by_cases h1' : n = 1
            · left
              subst h1'
              refine ⟨rfl, k _ _ I [] ?_⟩
              have : (List.replicate (1 : Int).toNat xs).flatten = xs := by simp
              rw [this]
              exact Grow.val s (.tup h1 ra)
            · right
              have : (List.replicate n.toNat xs).flatten = [] := by
                have : n.toNat = 0 := by omega
                rw [this]; rfl
              refine ⟨by omega, fun p _ pl np => ?_⟩
              rw [this] at k
              exact k _ _ _ _ (Grow.tup s pl np .nil)
    · cases q
  · exact .inl (os_mul [v, u] [_, _] I H Q o s (.cons r1 (.cons r2 .nil)) q k)
theorem q_mulAI (i j : Int) : pMulA (.int i) (.int j) = pMul (.int i) (.int j) := rfl
theorem q_mulAL (xs : List PyData) (j : Int) : pMulA (.list xs) (.int j) = pMul (.list xs) (.int j) := rfl
theorem q_mulAT (xs : List PyData) (k : Int) : pMulA (.tuple xs) (.int k) = if xs.length ≤ 1000 ∧ -1000 ≤ k ∧ k ≤ 1000 ∧ xs ≠ [] then some (.fr (.tuple (List.replicate k.toNat xs).flatten)) else none := rfl
end Dy
namespace Dy
open PySem PySem.Spec PyProof.Rows L2
section
variable {X : Cx} {pins : List (Addr × Obj)} {σ : St} {I H : Hp} {s : Shared} {a : Addr} {es : List (PyData × PyData)} {k d : PyData} {y v : V} {u r : Value} {A : Around} {E : Value → Shared → Prop}
end
section
variable {X : Cx}
variable {o e : Expr} {es : List Expr} {to : TE} {t : TA} {name : Str} {apos cpos : Pos} {id : String} {r : V → List V → Hp → VK → Prop}
end
section
variable {g : G} {X : Cx} {a b c e : Expr} {es : List Expr} {pos p1 p2 px : Pos} {σ : St} {H I : Hp} {env : Env} {F : Nat → List Addr} {D : Ends} {st : Stmt} {sts : List Stmt}
end
end Dy
namespace Dy
open PySem PySem.Spec PyProof.Rows L2 HT
section
variable {prog : Program} {w : World} {A : Around} {E : Value → Shared → Prop} {s : Shared}
end
section
variable {X : Cx}
end
section
variable {g : G} {X : Cx} {a b c e : Expr} {es : List Expr} {pos p1 p2 p3 : Pos} {σ : St} {H I : Hp} {env : Env} {F : Nat → List Addr} {D : Ends}
end
end Dy
namespace Dy
open PySem PySem.Spec PyProof.Rows L2
section
variable {g : G} {X : Cx} {e : Expr} {pos : Pos} {σ : St}
end
end Dy
namespace Dy
open PySem PySem.Spec PyProof.Rows L2
section
variable {X : Cx} {pins : List (Addr × Obj)} {σ : St} {I H : Hp} {s : Shared}
end
section
variable {X : Cx}
end
section
variable {g : G} {X : Cx} {a b c e : Expr} {es : List Expr} {pos p1 p2 px : Pos} {σ : St} {H I : Hp} {env : Env} {F : Nat → List Addr} {D : Ends} {st : Stmt} {sts : List Stmt}
end
section
variable {X : Cx} {K : PySem.W.Frag}
end
end Dy
namespace Dy
open PySem PySem.Spec PyProof.Rows L2
/-- what is known of the class x, at C -/
structure ExcOk (K : PySem.W.Frag) (mg : Str → Option Value) (x : Str) (C : Addr) : Prop where
  g : mg x = some (.ref C)
  q : PySem.W.excIn K C He.veBase "ValueError.__new__" = true
  k : PySem.W.keepIn K (.ref C) = true
  b : PySem.W.subIn K (.ref C) (.type "BaseException") = some true
  t : PySem.W.typeIn K (.ref C) = some (.type "type")
section
variable {g : G} {X : Cx} {a b c e : Expr} {es : List Expr} {pos p1 p2 p3 px : Pos} {σ : St} {H I : Hp} {env : Env} {F : Nat → List Addr} {D : Ends} {st : Stmt} {sts : List Stmt}
def fRaise (x : Str) : SF := fun _ => .er ⟨x, []⟩
theorem ds_raise {x m : Str} {C : Addr} {j : Nat} (hc : X.calm = true) (tk : Takes X (fun cls d _ H => g.E cls d H)) (T : ExcOk X.K X.mg x C) (hg : Gl X x) (hM : g.mg = X.mg := by rfl) (hdb : (x == ("__debug__" : Str)) = false := by decide) :
    DS g X (.Raise (some (.Call (.Name x p1) [.Constant (.str m) j p2] [] p3)) none pos) (fRaise x) :=
  PS.imp (ps_raise hc tk (pmk_own PySem.F.excBase_ValueError T.q T.g T.k (raises_own T.b T.t) hg hdb)) fun D σ H h => by
    obtain ⟨I, env, F, s, p⟩ := h
    exact p H (.ref C) none (Err.of Step.refl s.sub s.tab) ⟨C, by rw [hM]; exact T.g, rfl, fun _ => rfl, fun p q h => by cases h⟩
def fTry (n : Nat) (L : List Str) (f : SF) (h : Exn → SF) : SF := fun env => match f env with
  | .er x => if x.cls ∈ L ∧ x.args = [] then (match h x (List.replicate n none) with
      | .ok (.rt o, e) => .ok (.rt o, e)
      | _ => .no) else .no
  | .ok r => .ok r
  | .no => .no
theorem takes_len {W : WX} (tk : Takes X W) : Takes X (fun c d σ H => σ.length = X.N.length → W c d σ H) := fun u s' x => by
  obtain ⟨a, B, sI, pins, σ, H, cls, d, e, J, nb, up, sky, na, os, ag, w⟩ := x
  exact tk u s' ⟨a, B, sI, pins, σ, H, cls, d, e, J, nb, up, sky, na, os, ag, w J.len⟩
/-- the wish about exceptions in a try's body -/
def wTry (n : Nat) (W : WX) : XK := fun c d H => ∀ σ : St, σ.length = n → W c d σ H
theorem pass_try {W : WX} {pn : List (Addr × Obj)} {xe : Value → Shared → Prop} (tk : Takes (X.tr pn xe) W) : Passes (L2.CX X.prog X.w) (X.tr pn xe) (wTry X.N.length W) :=
  passes_call (takes_len tk) fun c d σ H h hl => h σ hl
structure TryX (K : PySem.W.Frag) (mg : Str → Option Value) (PE : Addr) (x : Str) (C : Addr) : Prop where
  g : mg x = some (.ref C)
  m : PySem.W.exmOne K (.ref C) (.ref PE) = some true
theorem sim_err {K : PySem.W.Frag} {T : List (Addr × Str)} {a : Addr} {i n : Nat} {H' : Hp} {σ' : St} (sub : Same I H') (tb : TabI T I H') (hl : σ'.length = n) (hi : i < n) : Sim K ([i], (fun _ => .ref a), T) I H' (σ'.set i (some (.ref a))) (List.replicate n none) (fun _ => []) := by
  refine ⟨by simp [hl], fun j o q => ?_, fun _ _ => rfl, fun _ _ _ h => (nomatch h), fun _ _ h => (nomatch h), sub, fun j hj => ?_, tb⟩
  · rw [List.getElem?_replicate] at q
    split at q <;> cases q
  · simp at hj; subst hj
    rw [List.getElem?_set_self (by omega)]
theorem ds_try {i : Nat} {n x : Str} {PE : Addr} {L : List Str} {f : SF} {h : Exn → SF} {body suite : List Stmt} {b₀ : Stmt} {np pos' : Pos} {Wout : WX} (hs : X.stack = X.env :: X.outer) (hf : X.env.frame = some X.env.locals) (hN : X.N.Nodup) (hi : X.N[i]? = some n) (hln : X.env.kindOf n = some .local)
    (hc : Names X x (.ref PE)) (tk : Takes X Wout) (hpn : g.pn.1 = []) (hL : ∀ y ∈ L, ∃ C, TryX X.K X.mg PE y C)
    (hb : ∀ (W : WX) (pn : List (Addr × Obj)) (xe : Value → Shared → Prop), Takes (X.tr pn xe) W → PassesOwn (model X.prog X.w) X.A X.env xe → DSs ⟨g.K, g.mg, g.pn, wTry X.N.length W⟩ (X.tr pn xe) body f)
    (hsu : ∀ (a : Addr) (oe : Obj) (pn : List (Addr × Obj)) (y : Exn) (C : Addr), y.cls ∈ L → X.mg y.cls = some (.ref C) → Zc (.ref C) none oe → (∃ vs, oe.data = .fields vs) → DSs ⟨g.K, g.mg, ([i], (fun _ => .ref a), g.pn.2.2), fun _ _ _ => False⟩ (X.suite a ((a, oe) :: pn)) (b₀ :: suite) (h y))
    (hM : g.mg = X.mg := by rfl) : DS g X (.Try body [.ExceptHandler (some (.Name x np)) (some n) (b₀ :: suite) pos'] [] [] pos) (fTry X.N.length L f h) := by
  refine PS.imp (ps_try_as (i := i) (Wout := Wout) (tb := fun W => tS ⟨g.K, g.mg, g.pn, wTry X.N.length W⟩ f)
    (ts := fun a cls d D σ H => ∃ (y : Exn) (C : Addr), y.cls ∈ L ∧ X.mg y.cls = some (.ref C) ∧ cls = .ref C ∧ d = none ∧ tS ⟨g.K, g.mg, ([i], (fun _ => .ref a), g.pn.2.2), fun _ _ _ => False⟩ (h y) D σ H)
    hs hf hN hi hln hc tk (fun W pn xe t po => hb W pn xe t po) (fun a oe cls d pn hz hv => ⟨fun pins s σ H D J q => ?_⟩)) fun D σ H q => ?_
  · obtain ⟨y, C, h1, h2, rfl, rfl, q⟩ := q
    exact (hsu a oe pn y C h1 h2 hz hv).run pins s σ H D J q
  · obtain ⟨I, env, F, s, p⟩ := q
    have hin : i < X.N.length := by
      cases Nat.lt_or_ge i X.N.length with
      | inl z => exact z
      | inr z => rw [List.getElem?_eq_none z] at hi; cases hi
    refine ⟨I, env, F, s, ?_⟩
    unfold fTry at p
    cases qf : f env with
    | no => rw [qf] at p; exact p
    | ok r => rw [qf] at p; exact p
    | er y =>
      rw [qf] at p
      intro H' cls d er xr σ' hl
      obtain ⟨C, g1, rfl, g3, _⟩ := xr
      by_cases hy : y.cls ∈ L ∧ y.args = []
      · simp only [if_pos hy] at p
        obtain ⟨C', T⟩ := hL y.cls hy.1
        rw [hM] at g1
        have e1 := T.g
        rw [g1] at e1; cases e1
        refine ⟨true, T.m, fun _ a na => ?_, fun z => by cases z⟩
        obtain ⟨I', s2, tb, _, stp⟩ := er
        refine ⟨y, C, hy.1, g1, rfl, g3 hy.2, I', List.replicate X.N.length none, fun _ => [], ?_, ?_⟩
        · exact sim_err s2 tb hl hin
        · cases qh : h y (List.replicate X.N.length none) with
          | no => rw [qh] at p; exact p.elim
          | er z => rw [qh] at p; exact p.elim
          | ok r =>
            rw [qh] at p
            obtain ⟨fl, e⟩ := r
            cases fl with
            | nx => exact p.elim
            | bk => exact p.elim
            | ct => exact p.elim
            | rt o =>
              intro v σ2 H2 af
              obtain ⟨I2, F2, R, r1, r2, r3, r4, r5⟩ := af
              refine p v σ2 H2 ⟨I2, F2, R, r1, ⟨r2.len, r2.rep, r2.out, r2.dis, r2.djI, r2.sub, (fun j hj => by rw [hpn] at hj; cases hj), r2.tab⟩, r3, r4, ?_⟩
              refine Step.trans (I1 := I') (H1 := H') (S1 := Ow fun _ => []) (stp.less fun a ha => ?_) r5
              obtain ⟨j, hj⟩ := ha; cases hj
      · simp only [if_neg hy] at p; exact p.elim
end
theorem a_raise (x : Str) (env : Env) : fRaise x env = .er ⟨x, []⟩ := rfl
theorem a_try (n : Nat) (L : List Str) (f : SF) (h : Exn → SF) (env : Env) : fTry n L f h env = match f env with
  | .er x => if x.cls ∈ L ∧ x.args = [] then (match h x (List.replicate n none) with
      | .ok (.rt o, e) => .ok (.rt o, e)
      | _ => .no) else .no
  | .ok r => .ok r
  | .no => .no := rfl
end Dy
namespace Dy
open PySem PySem.Spec PyProof.Rows L2
open LamX (CodeO TabB LamS lamEnv lamCx)
theorem lam_nf (x : Str) : isFld (x ++ "<lambda>") = false := by
  unfold isFld
  have h : (x ++ ("<lambda>" : Str)).cps.size = x.cps.size + 8 := by
    show (x.cps ++ ("<lambda>" : Str).cps).size = _
    rw [Array.size_append]
    rfl
  rw [h]
  simp
section
variable {X : Cx} {pins : List (Addr × Obj)} {σ : L2.St} {H : Hp} {s : Shared}
end
end Dy
namespace Dy
open PySem PySem.Spec PyProof.Rows L2
open LamX (CodeO TabB LamS lamEnv lamCx)
section
variable {X : Cx} {pins : List (Addr × Obj)} {σ : L2.St} {H : Hp} {s : Shared}
end
end Dy
namespace Dy
open PySem PySem.Spec PyProof.Rows L2
open LamX (CodeO TabB LamS lamEnv lamCx)
section
variable {g : G} {X : Cx}
end
end Dy
namespace Dy
open PySem PySem.Spec PyProof.Rows L2
section
variable {X : Cx}
end
def pIndex (ds : List PyData) (d : PyData) : Option PyData := if SeqAt.shaped (.list ds) = true ∧ SeqAt.shaped d = true then (ds.findIdx? fun z => PyData.eqv z d).map fun j => .int (j : Nat) else none
section
variable {g : G} {X : Cx} {a b c e : Expr} {es : List Expr} {pos p1 p2 p3 px : Pos} {σ : St} {H I : Hp} {env : Env} {F : Nat → List Addr} {D : Ends} {st : Stmt} {sts : List Stmt}
theorem call_isP {X : Cx} {a D : Addr} {oe : Obj} (hp : (a, oe) ∈ X.pn) (C : ExcC X.K D) (hz : Zc (.ref D) none oe) (hf : ∃ vs, oe.data = .fields vs) : CallR X (.builtin "isinstance") (rIsE X.K D a) := by
  intro pins s σ H xs us Q I r h
  obtain ⟨c, cv, b, rfl, hcv, e, q⟩ := h
  cases r with
  | cons rx rr =>
    cases rr with
    | cons rt rr =>
      cases rr
      cases rx
      have ec := hcv _ rt
      subst ec
      obtain ⟨hget, _⟩ := I.pin (a, oe) (List.mem_append.mpr (.inl hp))
      obtain ⟨vs, hv⟩ := hf
      have J : PySem.W.InstAt s.heap a oe D none := by
        obtain ⟨oc, od, oda, osl⟩ := oe
        obtain ⟨h1, h2⟩ := hz
        dsimp only at h1 h2 hv
        subst h1 h2 hv
        exact ⟨hget, rfl, rfl, trivial⟩
      exact PySem.W.kia_one (PySem.W.handS_kitx_exc C.hg C.hk C.hs C.hd C.ha C.hn C.ht C.hm) I.kIn J e (fun z => nomatch z) fun tk => ⟨.bl b, H, I.kept (t' := tk) fun _ _ z => z, rfl, q⟩
theorem de_isP {a C : Addr} {oe : Obj} {i : Nat} {n y : Str} {v : Bool} {cv : V} {cu : Value} (hpn : (a, oe) ∈ X.pn) (EC : ExcC X.K C) (hz : Zc (.ref C) none oe) (hv : ∃ vs, oe.data = .fields vs) (hp : g.pn = ([i], (fun _ => V.ref a), g.pn.2.2)) (hg : Gl X "isinstance") (hm : X.mg "isinstance" = none)
    (hx : PE X (.Name n p1) (tVar i)) (hT : PE X (.Name y p2) (tC cv)) (hcu : ∀ u, RelV cv u → u = cu) (kit : PySem.W.kitOne X.K (.ref C) cu = some v)
    (he : starEach [.Name n p1, .Name y p2] X.env = (false, eval (.Name n p1) X.env) :: starEach [.Name y p2] X.env := by rfl) (hpl : (backTo pos (starEach [.Name y p2] X.env)).any (·.1) = false := by rfl) :
    DE g X (.Call (.Name "isinstance" p3) [.Name n p1, .Name y p2] [] pos) (fC (.bool v)) := by
  refine PE.imp (pe_callB (call_isP hpn EC hz hv) hg hm bt_isinstance (pa_cons hx (pa_cons hT pa_nil)) (by decide) (by decide) he hpl) fun σ H Q q => ?_
  obtain ⟨I, env, F, s, p⟩ := q
  have e1 := s.pin i (by rw [hp]; simp)
  rw [hp] at e1
  exact ⟨.ref a, e1, cv, cu, v, rfl, hcu, kit, p (.bl v) H (aftC s (.bl v))⟩
end
end Dy
namespace Dy
open PySem PySem.Spec PyProof.Rows L2
open LamX (TabB)
/-- the law is called where nothing is tracked but the script and the tables -/
theorem lawT {P : Program} {w : World} {K : PySem.W.Frag} {mg mb : Str → Option Value} {k : Nat} {fa a : Addr} {cs : List (Addr × Addr)} {fd : FuncData} {x : Str} {sp : Sp} {s1 : Shared} {vs : List Value} {ns : List Int}
    (KX : K.In s1.heap) (hns : s1.heap.Ns mainGlobals mg) (hb : s1.heap.Ns builtinsNs mb) (hbb : ∀ x : Str, x ≠ "__name__" → mb x = bootBuiltins x) (hlim : s1.heap.NoLimit) (hgs : s1.gens = #[])
    (hT : ∀ p ∈ cs, s1.heap.get? p.2 = some { cls := .none, data := .fields #[] }) (nT : ∀ p ∈ cs, K.lookup p.2 = none) (C : ∀ p ∈ cs, PySem.W.CodeHd s1.heap p.1 p.2)
    (hbm : ∃ (bm : Addr) (ob : Obj), mg "__builtins__" = some (.ref bm) ∧ bm ≠ builtinsNs ∧ s1.heap.get? bm = some ob ∧ ob.cls = .type "module" ∧ ob.dict = some builtinsNs ∧ ob.data = .plain)
    (ha : s1.heap.get? a = some { cls := .type "list", data := .seq vs.toArray }) (hi : IntsAre vs ns) (hl : ns.length ≤ sizeLine) (hr : Room k callerA)
    (F : ∀ base : Heap, K.In base → base.Ns mainGlobals mg → (∀ p ∈ cs, TabB base mg p.1 p.2) → FnG P w K mg base k fa fd [x] sp) (bind : ∀ (s : Shared) (u : Value), BindsTo s fd ⟨[u], []⟩ [(x, u)])
    (hsp : ∀ H : Hp, (∀ p ∈ cs, H p.2 = some (.tbl #[])) → LsL K H a (ns.map V.int) → sp [.ref a] H (fun v _ => v = .bl true) fun _ _ _ => False) :
    codeAny (model P w) callerA (.call (.ref fa) ⟨[.ref a], []⟩) (fun r s' => r = .ok (.ret (.bool true)) ∧ OldK s1.heap s'.heap ∧ s'.os = s1.os ∧ AllBare s'.gens) s1 := by
  have rv := vals_ints hi
  have hlen := hi.length
  let B : Addr → Prop := fun b => b ∈ cs.map (·.2)
  have dB : ∀ b, B b ∨ ¬ B b := fun b => Classical.em _
  have inB : ∀ p ∈ cs, B p.2 := fun p hp => List.mem_map.mpr ⟨p, hp, rfl⟩
  have isT : ∀ b, B b → s1.heap.get? b = some { cls := .none, data := .fields #[] } := fun b hb => by
    obtain ⟨p, hp, e⟩ := List.mem_map.mp hb
    rw [← e]; exact hT p hp
  have aT : ¬ B a := fun z => by
    have q := isT a z
    rw [ha] at q
    cases q
  suffices core : ∀ H : Hp, (∀ b, B b → H b = some (.tbl #[])) → (∀ b, ¬ B b → H b = none ∨ (b = a ∧ ∃ o xs, H b = some (.frz o (.lst xs)))) → LsL K H a (ns.map V.int) → HOk P w H s1.heap → (H a ≠ none → K.lookup a = none) →
      codeAny (model P w) callerA (.call (.ref fa) ⟨[.ref a], []⟩) (fun r s' => r = .ok (.ret (.bool true)) ∧ OldK s1.heap s'.heap ∧ s'.os = s1.os ∧ AllBare s'.gens) s1 by
    open Classical in
    cases hk : K.lookup a with
    | some o =>
      have e := KX a o hk
      rw [ha] at e
      cases e
      refine core (fun b => if B b then some (.tbl #[]) else none) (fun b hb => if_pos hb) (fun b hb => .inl (if_neg hb)) (Or.inr ⟨vs, _, hk, by rw [hlen]; exact hl, rv⟩) (fun b u z => ?_) (fun z => (z (if_neg aT)).elim)
      by_cases hb : B b
      · have z' := (if_pos hb).symm.trans z
        cases z'
        exact isT b hb
      · have z' := (if_neg hb).symm.trans z
        cases z'
    | none =>
      let o1 : Obj := { cls := .type "list", data := .seq vs.toArray }
      refine core (fun b => if B b then some (.tbl #[]) else if b = a then some (.frz o1 (.lst (ns.map V.int))) else none) (fun b hb => if_pos hb) (fun b hb => ?_) (Or.inl (Or.inr ⟨o1, (if_neg aT).trans (if_pos rfl)⟩)) (fun b u z => ?_) (fun _ => hk)
      · by_cases h : b = a
        · exact Or.inr ⟨h, o1, _, (if_neg hb).trans (if_pos h)⟩
        · exact Or.inl ((if_neg hb).trans (if_neg h))
      · by_cases hb : B b
        · have z' := (if_pos hb).symm.trans z
          cases z'
          exact isT b hb
        · have z1 := (if_neg hb).symm.trans z
          by_cases h : b = a
          · have z' := (if_pos h).symm.trans z1
            cases z'
            rw [h]
            exact ⟨ha, by rw [List.length_map]; exact hl, vs, _, rv, ha⟩
          · have z' := (if_neg h).symm.trans z1
            cases z'
  intro H hB hO hS hok hK
  have up : ∀ {b : Addr} {o : Obj}, s1.heap.get? b = some o → H b = none → (hidT s1.heap H).get? b = some o := fun e n => hidT_get e n
  have free : ∀ {b : Addr} {o : Obj}, s1.heap.get? b = some o → (∀ vs n, o.data ≠ .seq vs n) → o.data ≠ .fields #[] → H b = none := by
    intro b o e d1 d2
    rcases dB b with hb | hb
    · rw [isT b hb] at e
      cases e
      exact (d2 rfl).elim
    · rcases hO b hb with z | ⟨z, _⟩
      · exact z
      · rw [z, ha] at e
        cases e
        exact (d1 _ _ rfl).elim
  have freeD : ∀ {b : Addr} {o : Obj} {es : Array DictEntry} {ep : Nat}, s1.heap.get? b = some o → o.data = .dict es ep → H b = none := by
    intro b o es ep e d
    refine free e (fun vs n z => ?_) fun z => ?_
    · rw [d] at z; cases z
    · rw [d] at z; cases z
  have ns' : ∀ {b : Addr} {m : Str → Option Value}, s1.heap.Ns b m → (hidT s1.heap H).Ns b m := by
    rintro b m ⟨o, es, ep, e, d, r⟩
    exact ⟨o, es, ep, up e (freeD e d), d, r⟩
  have kin : K.In (hidT s1.heap H) := by
    intro b o e
    refine up (KX b o e) ?_
    rcases dB b with hb | hb
    · obtain ⟨p, hp, ep⟩ := List.mem_map.mp hb
      rw [← ep, nT p hp] at e
      cases e
    · rcases hO b hb with z | ⟨z, o2, xs, q⟩
      · exact z
      · subst z
        rw [hK (by rw [q]; exact fun h => by cases h)] at e
        cases e
  have hM : Mod K mg (hidT s1.heap H) := by
    refine ⟨kin, ns' hns, ⟨mb, ns' hb, hbb⟩, ?_⟩
    obtain ⟨mc, h1, h2⟩ := hlim
    exact ⟨mc, ns' h1, h2⟩
  have TB : ∀ p ∈ cs, TabB (hidT s1.heap H) mg p.1 p.2 := fun p hp => by
    refine ⟨?_, ?_, fun z => ?_⟩
    · obtain ⟨o, us, file, tf, flags, tg, inF, text, tt, e1, r1, r2, r3, r4, r5, r6, r7, r8, hne⟩ := C p hp
      refine ⟨o, us, file, tf, flags, tg, inF, text, tt, up e1 (free e1 (fun vs n z => ?_) fun z => ?_), r1, r2, r3, r4, r5, r6, r7, r8, hne⟩
      · rw [r2] at z; cases z
      · rw [r2] at z; cases z
        simp at r3
    · obtain ⟨bm, ob, b1, b2, b3, b4, b5, b6⟩ := hbm
      have nG : bm ≠ mainGlobals := fun q => by
        obtain ⟨o, es, ep, e, hd, _⟩ := hns
        rw [q, e] at b3; cases b3
        rw [hd] at b6; cases b6
      have nP : bm ≠ p.2 := fun q => by
        rw [q, hT p hp] at b3; cases b3
        cases b6
      refine ⟨bm, ob, b1, b2, nG, nP, up b3 (free b3 (fun vs n z => ?_) fun z => ?_), b4, b5, b6⟩
      · rw [b6] at z; cases z
      · rw [b6] at z; cases z
    · obtain ⟨o, es, ep, e, hd, _⟩ := hns
      rw [z, hT p hp] at e; cases e
      cases hd
  have e0 : L2.Env0 P w K mg (hidT s1.heap H) callerA [] s1 H :=
    { frames := rfl, mod := hM, bs := fun b o e => of_hidT e, bsz := Nat.le_of_eq (hidT_size _ _), funs := trivial, frf := fun b z => (nomatch (show b ∈ ([] : List Addr) from z)), hok := hok, bare := .of_eq hgs }
  refine codeAny_mono ((F _ kin (ns' hns) TB).run callerA [] s1 H ⟨[.ref a], []⟩ [.ref a] [.ref a] _ _ rfl hr e0 (bind s1 (.ref a)) (.cons rfl .nil) (hsp H (fun p hp => hB _ (inB p hp)) hS)) ?_
  intro r s' h
  cases r with
  | error e =>
    obtain ⟨_, _, _, _, _, _, _, _, _, _, _, _, z⟩ := h
    exact z.elim
  | ok fl =>
    cases fl with
    | next => exact h.elim
    | brk => exact h.elim
    | cont => exact h.elim
    | ret u =>
      obtain ⟨v, H', os, bare, un, hok', r', q⟩ := h
      have q : v = .bl true := q
      subst q
      cases (show u = Value.bool true from r')
      have key : ∀ b o, ¬ B b → s1.heap.get? b = some o → s'.heap.get? b = some o := fun b o nb e => by
        rcases hO b nb with z | ⟨_, ob, xs, z⟩
        · exact un.keep b o e z (fun h => by cases (show b ∈ ([] : List Addr) from h)) (by simp)
        · obtain ⟨e1, _⟩ := hok b _ z
          obtain ⟨e2, _⟩ := hok' b _ (un.frzs b ob _ z)
          rw [e] at e1; cases e1
          exact e2
      have grown : ∀ p ∈ cs, ∃ more : Array Value, s'.heap.get? p.2 = some { cls := .none, data := .fields more } := fun p hp => by
        obtain ⟨more, z⟩ := un.tbls p.2 #[] (hB _ (inB p hp))
        exact ⟨_, hok' p.2 _ z⟩
      refine ⟨rfl, ⟨fun b o e => ?_, fun b o e => ?_⟩, os, bare⟩
      · rcases dB b with hb | hb
        · obtain ⟨p, hp, ep⟩ := List.mem_map.mp hb
          obtain ⟨more, hm⟩ := grown p hp
          rw [← ep] at e ⊢
          rw [hT p hp] at e
          cases e
          exact .inr (.inl ⟨((C p hp).tab (hT p hp)).isCodeTable, rfl, #[], more, rfl, by rw [Array.empty_append]; exact hm⟩)
        · exact .inl (key b o hb e)
      · rcases dB b with hb | hb
        · obtain ⟨p, hp, ep⟩ := List.mem_map.mp hb
          obtain ⟨more, hm⟩ := grown p hp
          rw [← ep]
          exact ⟨_, hm⟩
        · exact ⟨o, key b o hb e⟩
/-- what is known of the law at the head's heap h -/
def LawAtT (l : PySem.W.OpenLaw) (w : World) (K : PySem.W.Frag) (k n : Nat) (x : Str) (mg : Str → Option Value) (fa : Addr) (h : Heap) : Prop :=
  ∃ (fd : FuncData) (cs : List (Addr × Addr)) (sp : Sp), (∀ p ∈ cs, h.get? p.2 = some { cls := .none, data := .fields #[] }) ∧ (∀ p ∈ cs, K.lookup p.2 = none) ∧ (∀ p ∈ cs, PySem.W.CodeHd h p.1 p.2) ∧ (∀ (s : Shared) (u : Value), BindsTo s fd ⟨[u], []⟩ [(x, u)]) ∧
    (∀ (H : Hp) (a : Addr) (ns : List Int), ns.length ≤ n → (∀ p ∈ cs, H p.2 = some (.tbl #[])) → LsL K H a (ns.map V.int) → sp [.ref a] H (fun v _ => v = .bl true) fun _ _ _ => False) ∧
    ∀ base : Heap, K.In base → base.Ns mainGlobals mg → (∀ p ∈ cs, TabB base mg p.1 p.2) → FnG l.prog w K mg base k fa fd [x] sp
theorem walkT {l : PySem.W.OpenLaw} {n k : Nat} {q : Program} {loose : List Str} {XP : (Str → Option Value) → Heap → Prop} {YP : World → Heap → Prop} {d : DefRec} {x : Str}
    (hn : l.most = some n) (hn2 : n ≤ sizeLine) (hdf : d.params.defaults = []) (hr : Room k callerA)
    (F : ∀ (w : World) (mg : Str → Option Value) (fa : Addr) (h : Heap), YP w h → h.Ns mainGlobals mg → mg d.name = some (.ref fa) → ∃ K : PySem.W.Frag, K.In h ∧ LawAtT l w K k n x mg fa h) :
    PySem.W.WalkO q loose XP YP l.row.toRowW d [] (fun f vs => PySem.call f vs) := by
  refine Att.attach_callB hn hdf ?_
  intro w s0 s1 mg mb fa o pm cd doc a vs ns G Y ho hd hcd hmg hobj hints hlen hbits hgs
  obtain ⟨K, KX, fd, cs, sp, hT, nT, C, hb, hsp, hF⟩ := F w mg fa _ Y G.T.g hmg
  exact lawT KX G.T.g G.T.b G.T.builtins G.T.nolimit hgs hT nT C G.T.bmain hobj hints (Nat.le_trans hlen hn2) hr hF hb fun H hH hS => hsp H a ns hlen hH hS
/-- H without the tables -/
def noTab (H : Hp) : Hp := fun b => match H b with
  | some (.tbl _) => none
  | o => o
theorem noTab_of {H : Hp} {b : Addr} {o : HO} (h : H b = some o) (n : NT o) : noTab H b = some o := by
  unfold noTab
  rw [h]
  cases o with
  | tbl ps => exact (n ps rfl).elim
  | _ => rfl
theorem noTab_same {H : Hp} : Same (noTab H) H := fun b o h => by
  unfold noTab at h
  split at h
  · cases h
  · exact h
theorem law_okT {K : PySem.W.Frag} {mg : Str → Option Value} {T : List (Addr × Str)} {H : Hp} {a : Addr} {ns : List Int} {m : Fn} {os' : List O} (h : m [.fr (.list (ns.map PyData.int))] = .ok (.fr (.bool true), os')) (hT : ∀ p ∈ T, H p.1 = some (.tbl #[])) (hF : ∀ p ∈ T, isFld p.2 = false) (hS : LsL K H a (ns.map V.int)) :
    spD K mg T m [.ref a] H (fun v _ => v = .bl true) fun _ _ _ => False := by
  have hS2 : LsL K (noTab H) a (ns.map V.int) := by
    rcases hS with (z | ⟨o, z⟩) | z
    · exact .inl (.inl (noTab_of z fun _ e => by cases e))
    · exact .inl (.inr ⟨o, noTab_of z fun _ e => by cases e⟩)
    · exact .inr z
  refine ⟨noTab H, [.fr (.list (ns.map PyData.int))], fun _ => [], ⟨rfl, fun i o q => ?_, fun _ _ => rfl, fun i j a h => (nomatch h), fun i a h => (nomatch h), noTab_same, (fun i hi => (nomatch hi)), fun p hp => ?_⟩, ?_⟩
  · cases i with
    | zero =>
      cases q
      exact ⟨_, rfl, rfl, .lst hS2 (rp_ints ns)⟩
    | succ i => simp at q
  · rw [if_neg (by rw [hF p hp]; decide)]
    refine ⟨#[], hT p hp, ?_, ?_, fun pos cv hc => ?_⟩
    · unfold noTab; rw [hT p hp]
    · first | exact trivial | exact .nil | simp [TriplesOk]
    · simp [codeAmong] at hc
  · rw [h]
    intro v H' ⟨I', F', R, r, _⟩
    cases r.2
    rfl
end Dy
namespace Dy
open PySem PySem.Spec PyProof.Rows L2
open LamX (TabB)
theorem fun_of {K : PySem.W.Frag} {x qual : Str} {st : Stmt} {f : Addr} {fd : FuncData} (F : FunD K x qual (defArgs st) (defBody st) (defScope st) [] [] f fd) : Fun K x qual st f fd := by
  obtain ⟨oc, od, dV, kV, doc, pm, an, cdv, ct, osl, e, lk, hc, hd, _⟩ := F.ex
  rcases hd with ⟨_, rfl⟩ | ⟨z, _⟩
  · exact ⟨⟨oc, od, kV, doc, pm, an, cdv, ct, osl, e, lk, hc⟩, F.kp⟩
  · exact (z rfl).elim
def CallB (P : Program) (w : World) (K : PySem.W.Frag) (mg : Str → Option Value) (base : Heap) (T : List (Addr × Str)) (k : Nat) (x : Str) (ps : List Str) (m : Fn) : Prop :=
  ∃ f fd, mg x = some (.ref f) ∧ PySem.W.keepIn K (.ref f) = true ∧ Binds K fd ps [] ∧ FnG P w K mg base k f fd ps (spD K mg T m)
theorem CallB.mono {P : Program} {w : World} {K : PySem.W.Frag} {mg : Str → Option Value} {base : Heap} {T : List (Addr × Str)} {j k : Nat} {x : Str} {ps : List Str} {m : Fn} (h : CallB P w K mg base T j x ps m) (l : j ≤ k) : CallB P w K mg base T k x ps m := by
  obtain ⟨f, fd, h1, h2, h3, h4⟩ := h
  exact ⟨f, fd, h1, h2, h3, h4.mono l⟩
section
variable {T : List (Addr × Str)} {g : G} {X : Cx} {k : Nat} {ps : List Str} {m : Fn} {x : Str} {p pos : Pos} {e : Expr} {es : List Expr} {as : List AF}
end
/-- L: the classes whose instances are raised and caught; A: the classes that are asked for; pe: the one that is caught -/
structure ExcSet (K : PySem.W.Frag) (mg : Str → Option Value) (L A : List Str) (pe : Str) (PE : Addr) : Prop where
  pe : mg pe = some (.ref PE)
  ok : ∀ x ∈ L, ∃ C, ExcOk K mg x C ∧ ExcC K C ∧ TryX K mg PE x C ∧ PySem.W.kitOne K (.ref C) (.type "ValueError") = some true
  kit : ∀ x ∈ L, ∀ y ∈ A, ∃ C D, mg x = some (.ref C) ∧ mg y = some (.ref D) ∧ PySem.W.kitOne K (.ref C) (.ref D) = some (decide (x = y))
theorem excB_ok {K : PySem.W.Frag} {C : Addr} (h : excB K C = true) : ExcC K C := by
  obtain ⟨h1, h⟩ := He.ba h
  obtain ⟨h2, h⟩ := He.ba h
  obtain ⟨h3, h⟩ := He.ba h
  obtain ⟨h4, h⟩ := He.ba h
  obtain ⟨h5, h⟩ := He.ba h
  obtain ⟨h6, h⟩ := He.ba h
  obtain ⟨h7, h8⟩ := He.ba h
  exact ⟨He.eqO_ok h1, He.eqO_ok h2, of_decide_eq_true h3, h4, He.eqO_ok h5, He.eqO_ok h6, of_decide_eq_true h7, of_decide_eq_true h8⟩
theorem setB_ok {K : PySem.W.Frag} {h : Heap} {mg : Str → Option Value} {L A : List Str} {pe : Str} (X : K.In h) (G : h.Ns mainGlobals mg) (b : setB L A pe K = true) : ExcSet K mg L A pe (He.ga K pe) := by
  obtain ⟨b1, b2⟩ := He.ba b
  refine ⟨He.glo_ok X G b1, fun x hx => ?_, fun x hx y hy => ?_⟩
  · obtain ⟨c1, c⟩ := He.ba (List.all_eq_true.mp b2 x hx)
    obtain ⟨c2, c⟩ := He.ba c
    obtain ⟨c3, c⟩ := He.ba c
    obtain ⟨c4, c⟩ := He.ba c
    obtain ⟨c5, c6⟩ := He.ba c
    obtain ⟨e1, e2, e3, e4⟩ := He.exc_ok c2
    have g := He.glo_ok X G c1
    exact ⟨He.ga K x, ⟨g, e1, e2, e3, e4⟩, excB_ok c3, ⟨g, He.exm_ok c4⟩, of_decide_eq_true c5⟩
  · obtain ⟨c1, c⟩ := He.ba (List.all_eq_true.mp b2 x hx)
    obtain ⟨c2, c⟩ := He.ba c
    obtain ⟨c3, c⟩ := He.ba c
    obtain ⟨c4, c⟩ := He.ba c
    obtain ⟨c5, c6⟩ := He.ba c
    obtain ⟨d1, d2⟩ := He.ba (List.all_eq_true.mp c6 y hy)
    exact ⟨He.ga K x, He.ga K y, He.glo_ok X G c1, He.glo_ok X G d1, of_decide_eq_true d2⟩
section
variable {g : G} {X : Cx} {a b c e : Expr} {es : List Expr} {pos p1 p2 p3 px : Pos} {L A : List Str} {pe : Str} {PEa : Addr}
theorem ds_raiseS {x m : Str} {j : Nat} (S : ExcSet X.K X.mg L A pe PEa) (hL : x ∈ L) (hc : X.calm = true) (tk : Takes X (fun cls d _ H => g.E cls d H)) (hg : Gl X x) (hM : g.mg = X.mg := by rfl) (hdb : (x == ("__debug__" : Str)) = false := by decide) :
    DS g X (.Raise (some (.Call (.Name x p1) [.Constant (.str m) j p2] [] p3)) none pos) (fRaise x) := by
  obtain ⟨C, h, _⟩ := S.ok x hL
  exact ds_raise hc tk h hg hM hdb
theorem de_isK {a C : Addr} {oe : Obj} {i : Nat} {n x y : Str} (S : ExcSet X.K X.mg L A pe PEa) (hx0 : x ∈ L) (hC : X.mg x = some (.ref C)) (hy : y ∈ A) (hpn : (a, oe) ∈ X.pn) (hz : Zc (.ref C) none oe) (hv : ∃ vs, oe.data = .fields vs) (hp : g.pn = ([i], (fun _ => V.ref a), g.pn.2.2)) (hg : Gl X "isinstance") (hm : X.mg "isinstance" = none)
    (hx : PE X (.Name n p1) (tVar i)) (hgy : Gl X y) (hdy : (y == ("__debug__" : Str)) = false := by decide)
    (he : starEach [.Name n p1, .Name y p2] X.env = (false, eval (.Name n p1) X.env) :: starEach [.Name y p2] X.env := by rfl) (hpl : (backTo pos (starEach [.Name y p2] X.env)).any (·.1) = false := by rfl) :
    DE g X (.Call (.Name "isinstance" p3) [.Name n p1, .Name y p2] [] pos) (fC (.bool (decide (x = y)))) := by
  obtain ⟨C1, h1, h2, _⟩ := S.ok x hx0
  obtain ⟨C2, D, h3, h4, h5⟩ := S.kit x hx0 y hy
  have e1 := h1.g; rw [hC] at e1; cases e1
  rw [hC] at h3; cases h3
  exact de_isP hpn h2 hz hv hp hg hm hx (pe_glob (u := .ref D) (v := .ref D) hgy h4 rfl hdy) (fun u r => r) h5 he hpl
end
theorem memS {x : Str} {A : List Str} (h : A.contains x = true) : x ∈ A := List.contains_iff_mem.mp h
abbrev lamN (x : Str) : Str := (envOfC x ⟨.function, [], false, false, []⟩ 0 0 .none).qual ++ "<lambda>"
def TT (K : PySem.W.Frag) (TF : List He.Defn) : List (Addr × Str) := TF.map fun p => ((He.cT K p).2, lamN p.1)
/-- what the head tells, and the law's promise -/
theorem lawAt_of {l : PySem.W.OpenLaw} {w : World} {K : PySem.W.Frag} {k n : Nat} {x : Str} {mg : Str → Option Value} {fa : Addr} {h : Heap} {FA : List He.Fa} {FN : List He.DefD} {TF : List He.Defn} {EX : PySem.W.Frag → Bool} {fd : FuncData} {m : Fn} (X : K.In h) (S : He.SaysX FA FN [] TF EX w h K)
    (hb : ∀ (s : Shared) (u : Value), BindsTo s fd ⟨[u], []⟩ [(x, u)]) (lt : ∀ ns : List Int, ns.length ≤ n → ∃ os, m [.fr (.list (ns.map PyData.int))] = .ok (.fr (.bool true), os))
    (F : ∀ base : Heap, (∀ p ∈ TF, TabB base mg (He.cT K p).1 (He.cT K p).2) → FnG l.prog w K mg base k fa fd [x] (spD K mg (TT K TF) m)) : LawAtT l w K k n x mg fa h := by
  refine ⟨fd, TF.map (He.cT K), spD K mg (TT K TF) m, fun p hp => ?_, fun p hp => ?_, fun p hp => ?_, hb, fun H a ns hl hT hS => ?_, fun base _ _ tb => F base fun p hp => tb _ (List.mem_map.mpr ⟨p, hp, rfl⟩)⟩
  · obtain ⟨q, hq, rfl⟩ := List.mem_map.mp hp
    exact S.empty q hq
  · obtain ⟨q, hq, rfl⟩ := List.mem_map.mp hp
    exact S.out q hq
  · obtain ⟨q, hq, rfl⟩ := List.mem_map.mp hp
    exact PySem.W.codeHd_of_K X (S.hd q hq)
  · obtain ⟨os, e⟩ := lt ns hl
    refine law_okT e (fun p hp => ?_) (fun p hp => by obtain ⟨q, hq, rfl⟩ := List.mem_map.mp hp; exact lam_nf _) hS
    obtain ⟨q, hq, rfl⟩ := List.mem_map.mp hp
    exact hT _ (List.mem_map.mpr ⟨q, hq, rfl⟩)
end Dy
namespace Dy
open PySem PySem.Spec PyProof.Rows L2
section
variable {X : Cx} {K : PySem.W.Frag}
end
end Dy
namespace Dy
open PySem PySem.Spec PyProof.Rows L2
section
variable {g : G} {X : Cx} {a b c e : Expr} {es : List Expr} {pos p tpos : Pos} {σ : St} {H : Hp} {tg : Expr}
end
end Dy
namespace Dy
open PySem PySem.Spec PyProof.Rows L2
section
variable {g : G} {X : Cx} {a b c e : Expr} {es : List Expr} {pos p1 p2 px : Pos} {σ : St} {H I I' H1 : Hp} {env e' : Env} {F F' : Nat → List Addr} {D : Ends}
theorem Step.more {S S1 S2 : Addr → Prop} (a : Step I H S I' H1 S1) (h : ∀ x, S x → S2 x) : Step I H S2 I' H1 S1 :=
  ⟨a.i1, fun x o q n => a.fr x o q fun z => n (h x z), fun x o q n => a.th x o q fun z => n (h x z), fun x q => (a.s' x q).imp (h x) id, fun x o q => (a.i' x o q).imp id (Or.imp (h x) id)⟩
end
end Dy
namespace Dy
open PySem PySem.Spec PyProof.Rows L2
open PySem.W (alike alike_all_cons toks_eqv eqAt_alike oneLt_alike dataLt EachIs AllAlike Sortable SortsAt keyToks sortLe sortVals sorted_vals sortVals_each dataLe dataType looks_reads dataType_alike dataType_tuple each_katTups kat_lt kat_cons kat_yes kat_no kat_nil kat_kind KeyedOut sorted_data alike_unique sort_unique sortLe_total sameRank)
open Classical in
section
variable {h : Heap} {ds : List PyData}
end
section
variable {prog : Program} {w : World} {A : Around} {s : Shared}
end
section
variable {X : Cx} {K : PySem.W.Frag}
end
end Dy
namespace Dy
open PySem PySem.Spec PyProof.Rows L2
section
variable {g : G} {X : Cx} {a b c e : Expr} {es : List Expr} {pos p1 p2 p3 px py : Pos} {σ : St} {H I I' H1 : Hp} {env e' : Env} {F F' : Nat → List Addr} {D : Ends}
end
section
variable {X : Cx} {K : PySem.W.Frag}
theorem op_notB : OpR X (compareOp .IsNot) (fun x y H Q => ∃ a b, x = .bl a ∧ y = .bl b ∧ Q (.bl (!decide (a = b))) H) := by
  intro pins s σ H x y v u Q I rx ry h
  obtain ⟨m, n, rfl, rfl, q⟩ := h
  cases (show v = Value.bool m from rx)
  cases (show u = Value.bool n from ry)
  by_cases e : m = n
  · subst e
    exact wpAny_isNot_self rfl ⟨.bl false, H, I, rfl, by simpa using q⟩
  · exact wpAny_isNot_other rfl (fun z => e (Value.bool.inj z)) ⟨.bl true, H, I, rfl, by simpa [e] using q⟩
def pIsnB : PyData → PyData → Option O
  | .bool a, .bool b => some (.fr (.bool (!decide (a = b))))
  | _, _ => none
theorem os_notB : OpS K (two fun x y H Q => ∃ a b, x = .bl a ∧ y = .bl b ∧ Q (.bl (!decide (a = b))) H) (on2 pIsnB) := ops2 fun v u d e I H Q o s r1 r2 q k => by
  unfold pIsnB at q
  split at q
  · cases q
    refine ⟨_, _, ?_, ?_, k _ _ _ _ (Grow.val s (.bl _))⟩
    · rcases r1 with h | ⟨_, _, _, _, z, _⟩ | ⟨_, _, _, z, _⟩
      · cases h; rfl
      · cases z
      · cases z
    · rcases r2 with h | ⟨_, _, _, _, z, _⟩ | ⟨_, _, _, z, _⟩
      · cases h; rfl
      · cases z
      · cases z
  · cases q
end
end Dy
namespace Dy
open PySem PySem.Spec PyProof.Rows L2
section
variable {X : Cx}
end
section
variable {g : G} {X : Cx} {a b c e : Expr} {es : List Expr} {pos p1 p2 p3 px py : Pos} {σ : St} {H I I' H1 : Hp} {env e' : Env} {F F' : Nat → List Addr} {D : Ends}
end
end Dy
namespace Dy
open PySem PySem.Spec PyProof.Rows L2
section
variable {g : G} {X : Cx} {a b c e : Expr} {es : List Expr} {pos p1 p2 p3 : Pos} {x : AF}
end
section
variable {g : G} {X : Cx} {pos p1 px : Pos} {σ : St} {H : Hp}
end
end Dy
namespace Dy
open PySem PySem.Spec PyProof.Rows L2
section
variable {X : Cx} {pins : List (Addr × Obj)} {σ : St} {H : Hp} {s : Shared} {a C : Addr} {xs : Str} {i : Nat} {E : Value → Shared → Prop}
end
end Dy
namespace Dy
open PySem PySem.Spec PyProof.Rows L2
section
variable {CX : CXT} {P : Program} {w : World} {K : PySem.W.Frag} {mg : Str → Option Value} {base : Heap} {N : List Str} {qual : Str} {scope : Scope} {f cc C : Addr} {cd cl : Value} {cld : Option Addr} {csl : Array (Option Value)} {A : Around} {outer : List PySem.Env} {s : Shared} {H : Hp} {E : XK} {us : List Value} {vs : List V} {h₀ : Heap} {tk : Nat}
end
end Dy
namespace Dy
open PySem PySem.Spec PyProof.Rows L2
section
variable {X : Cx} {H : Hp} {s : Shared} {a C : Addr} {p q : Int} {q0 q1 q2 q3 q4 q5 q6 q7 q8 q9 q10 r1 r2 r3 r4 t1 t2 t3 t4 : Pos} {j : Nat} {mid : Str}
end
end Dy
namespace Dy
open PySem PySem.Spec PyProof.Rows L2
section
variable {g : G} {X : Cx} {e1 e2 : Expr} {p1 p3 pos : Pos} {mid : Str}
end
end Dy
namespace Dy
open PySem PySem.Spec PyProof.Rows L2
section
variable {g : G} {X : Cx} {a C dx : Addr} {oe : Obj} {pn : List (Addr × Obj)} {i : Nat} {n : Str} {p1 pos : Pos} {p q : Int}
end
end Dy
namespace Dy
open PySem PySem.Spec PyProof.Rows L2
open LamX (CodeO TabB LamS lamEnv lamCx)
section
variable {g : G} {X : Cx} {a b c e : Expr} {es : List Expr} {pos p1 p2 p3 px : Pos} {σ : St} {H I : Hp} {env : Env} {F : Nat → List Addr} {D : Ends} {st : Stmt} {sts : List Stmt}
end
section
variable {g : G} {X : Cx} {a b c e e1 e2 : Expr} {es : List Expr} {pos p1 p2 p3 px : Pos} {A : List Str} {PEa : Addr} {mid : Str}
end
end Dy
namespace Dy
open PySem PySem.Spec PyProof.Rows L2
open LamX (CodeO TabB LamS lamEnv lamCx)
section
variable {g : G} {X : Cx}
end
end Dy
namespace Dy
open PySem PySem.Spec PyProof.Rows L2
section
variable {q0 q1 q2 q3 q4 q5 q6 q7 q8 q9 q10 r1 r2 r3 r4 t1 t2 t3 t4 : Pos} {j : Nat} {mid : Str}
end
end Dy
namespace Dy
open PySem PySem.Spec PyProof.Rows L2
section
variable {g : G} {X : Cx} {e : Expr} {y : Exn} {f : Int → Int → EF} {p q : Int}
end
section
variable {X : Cx}
end
end Dy
namespace Dy
open PySem PySem.Spec PyProof.Rows L2
open LamX (CodeO TabB LamS lamEnv lamCx)
section
variable {g : G} {X : Cx}
end
end Dy
namespace Dy
open PySem PySem.Spec PyProof.Rows L2
section
variable {g : G} {X : Cx} {a C dx : Addr} {oe : Obj} {i : Nat} {n x : Str} {p1 pos : Pos} {p q : Int} {A : List Str} {PEa : Addr} {mid : Str}
end
end Dy
namespace Dy
open PySem PySem.Spec PyProof.Rows L2
section
variable {g : G} {X : Cx} {a b c : Expr} {pos p tpos : Pos} {elts : List Expr} {kk : Nat}
end
end Dy
namespace Dy
open PySem PySem.Spec PyProof.Rows L2
section
variable {g : G} {X : Cx} {e : Expr} {px : Pos}
end
end Dy
namespace Dy
open PySem PySem.Spec PyProof.Rows L2
section
variable {g : G} {X : Cx} {a b c e o : Expr} {es : List Expr} {pos p1 p2 p3 px : Pos} {σ : St} {H I : Hp} {env : Env} {F : Nat → List Addr}
end
end Dy
namespace Dy
open PySem PySem.Spec PyProof.Rows L2
/-- in another order -/
def pm {α : Type} (perm : List Nat) (xs : List α) : List α := perm.filterMap fun i => xs[i]?
/-- by names ks a def binds its parameters so -/
def KB0 (K : PySem.W.Frag) (fd : FuncData) (ps ks : List Str) (perm : List Nat) : Prop := ∀ (s : Shared) (ws : List Value), K.In s.heap → ws.length = ks.length → BindsTo s fd ⟨[], ks.zip ws⟩ (ps.zip (pm perm ws))
def CallK (P : Program) (w : World) (K : PySem.W.Frag) (mg : Str → Option Value) (T : List (Addr × Str)) (k : Nat) (x : Str) (ps ks : List Str) (perm : List Nat) (m : Fn) : Prop :=
  ∃ f fd, mg x = some (.ref f) ∧ PySem.W.keepIn K (.ref f) = true ∧ KB0 K fd ps ks perm ∧ ∀ base, FnG P w K mg base k f fd ps (spD K mg T m)
theorem CallK.mono {P : Program} {w : World} {K : PySem.W.Frag} {mg : Str → Option Value} {T : List (Addr × Str)} {j k : Nat} {x : Str} {ps ks : List Str} {perm : List Nat} {m : Fn} (h : CallK P w K mg T j x ps ks perm m) (l : j ≤ k) : CallK P w K mg T k x ps ks perm m := by
  obtain ⟨f, fd, h1, h2, h3, h4⟩ := h
  exact ⟨f, fd, h1, h2, h3, fun b => (h4 b).mono l⟩
section
variable {g : G} {X : Cx} {σ : St} {H : Hp}
end
section
variable {T : List (Addr × Str)} {g : G} {X : Cx} {k : Nat} {ps ks : List Str} {perm : List Nat} {m : Fn} {x : Str} {p pos : Pos} {kws : List Keyword} {as : List AF}
end
end Dy
namespace Dy
open PySem PySem.Spec PyProof.Rows L2
section
variable {g : G} {X : Cx} {a b c e o : Expr} {es : List Expr} {pos p1 p2 p3 px : Pos} {σ : St} {H I : Hp} {env : Env} {F : Nat → List Addr}
end
end Dy
namespace Dy
open PySem PySem.Spec PyProof.Rows L2
section
variable {prog : Program} {w : World} {A : Around} {E : Value → Shared → Prop} {s : Shared} {z TI TO i1 i2 : Addr} {fp1 fp2 : List Addr} {n1 n2 i : Nat} {P1 P2 : Nat → Value → Prop} {St1 St2 : Nat → Heap → Prop} {a1 a2 f0 : Value} {f : Bool}
end
section
variable {g : G} {X : Cx} {a b c e o : Expr} {es : List Expr} {pos p p1 p2 p3 px tpos : Pos} {σ : St} {H I : Hp} {env : Env} {F : Nat → List Addr}
end
end Dy
namespace Dy
open PySem PySem.Spec PyProof.Rows L2
section
variable {g : G} {X : Cx} {a b c e : Expr} {pos p1 p2 : Pos} {σ : St} {H H3 : Hp} {D : Ends}
end
end Dy
namespace Dy
open PySem PySem.Spec PyProof.Rows L2
section
variable {K : PySem.W.Frag} {I H : Hp} {X : Cx}
end
end Dy
namespace Dy
open PySem PySem.Spec PyProof.Rows L2
section
variable {g : G} {X : Cx} {a b c e : Expr} {pos : Pos}
end
end Dy
namespace Dy
open PySem PySem.Spec PyProof.Rows L2
section
variable {K : PySem.W.Frag} {I H : Hp} {X : Cx}
end
end Dy
namespace Dy
open PySem PySem.Calls PySem.Spec PyProof.Rows L2
open PySem.W (alike alike_all_cons toks_eqv eqAt_alike oneLt_alike dataLt EachIs AllAlike Sortable SortsAt keyToks sortLe sortVals sorted_vals sortVals_each sortVals_length sortVals_data dataLe dataType looks_reads dataType_alike dataType_tuple each_katTups kat_lt kat_cons kat_yes kat_no kat_nil kat_kind KeyedOut sorted_data alike_unique sort_unique sortLe_total sameRank copyHeap copyHeap_at copyHeap_old sortingHeap sorting_copy_old list_sort_vals each_map bound_map)
section
variable {prog : Program} {w : World} {A : Around} {s : Shared}
end
section
variable {X : Cx} {K : PySem.W.Frag}
end
end Dy
namespace Dy
open PySem PySem.Spec PyProof.Rows L2
section
variable {X : Cx}
def tyTup (K : PySem.W.Frag) : V → Hp → Prop := fun x H => ∃ p xs, x = V.ref p ∧ LsT K H p xs
theorem ty_tup : TyOk X "tuple" (tyTup X.K) := by
  intro pins σ H s x v I r ty
  obtain ⟨p, xs, rfl, h⟩ := ty
  cases r
  have key : ∃ o, s.heap.get? p = some o ∧ PlT o := by
    rcases h with ⟨o, pl, h⟩ | ⟨o, its, n, h1, pl, _⟩
    · exact ⟨o, (I.hok p _ h).1, pl⟩
    · exact ⟨o, I.kIn p o h1, pl⟩
  obtain ⟨o, e, pl⟩ := key
  refine ⟨⟨o, e, pl.1⟩, fun b z => ?_⟩
  cases z
  exact ⟨o, e, pl.2⟩
def rIndexT (K : PySem.W.Frag) : V → List V → Hp → VK → Prop := fun x xs H Q => ∃ (a : Addr) (y : V) (d : PyData) (ds : List PyData) (j : Nat) (z : PyData), x = V.ref a ∧ xs = [y] ∧ Dp K H (V.ref a) (.tuple ds) ∧ Dp K H y d ∧
  SeqAt.shaped (.list ds) = true ∧ SeqAt.shaped d = true ∧ ds[j]? = some z ∧ PyData.eqv z d = true ∧ (∀ (m : Nat) (z' : PyData), m < j → ds[m]? = some z' → PyData.eqv z' d = false) ∧ Q (.int (j : Nat)) H
theorem mt_indexT (hu : X.A.units + 65 < cLine) : MtR X "tuple.index" (rIndexT X.K) := by
  intro pins s σ H x xs v us Q I rx rxs h
  obtain ⟨a, y, d, ds, j, z, rfl, rfl, hl, hy, sl, sd, hz, hzj, hno, q⟩ := h
  cases rx
  cases rxs with
  | cons ry rt =>
    rename_i uy ut
    cases rt
    obtain ⟨bs, r1⟩ := Dp.reads I d y uy hy ry
    have hxs : PyData.canLayAll0 ds = true := SeqAt.canLay_of_shaped sl
    have hroom : X.A.units + 1 + min (PyData.depthAll ds) d.depth < cLine := room_in_shaped sd hu
    cases hl with
    | tup hs ha =>
      obtain ⟨its, rv, ⟨⟨cls, dd, data, sls⟩, ho, hc, n, hdt⟩, hlen⟩ := I.tuple hs
      simp only at hc hdt
      subst hc hdt
      obtain ⟨as, h4⟩ := Dp.readsAll I ds _ its ha rv
      have hmap : its.map (SeqAt.readOf s.heap) = ds := SeqAt.readsAll_map ds its as hxs h4
      have hat : ∀ (m : Nat) (hm : m < its.toArray.size), ds[m]? = some (SeqAt.readOf s.heap its.toArray[m]) := fun m hm => by
        rw [← hmap, List.getElem?_map]
        have hm' : m < its.length := by simpa using hm
        rw [List.getElem?_eq_getElem hm']
        simp
      have hj : j < its.toArray.size := by
        have : j < ds.length := (List.getElem?_eq_some_iff.mp hz).1
        rw [← hmap] at this
        simpa using this
      refine call_meets PySem.F.slot_tuple_index ⟨_, ho, rfl⟩ PySem.F.entry_tuple_index (PySem.F.args_tuple_index_2 _ _)
        (TI.tuple_indexAt a its.toArray n dd sls uy (fun u => PyData.eqv (SeqAt.readOf s.heap u) d) j hj ?_ ?_) ⟨ho, SeqAt.items_eqAt (vs := its.toArray) (show ReadsAll s.heap its.toArray.toList ds as from h4) r1 hxs (SeqAt.canLay_of_shaped sd) hroom, ?_⟩
      · have := hat j hj
        rw [hz] at this
        rw [← Option.some.inj this]; exact hzj
      · intro m hm hmj
        exact hno m _ hmj (hat m hm)
      · exact ⟨.int (j : Nat), H, I.tok _, ⟨s.toks, rfl⟩, q⟩
end
def fMtT (f : List PyData → PyData → Option PyData) (fo : EF) (y : AF) : EF := fun env => fo env >>= fun r => match r.1.data with
  | .tuple ds => evA [y] r.2 >>= fun q => match rsvs q.2 q.1 with
    | some [k] => match f ds k with
      | some d => .ok (.fr d, q.2)
      | _ => .no
    | _ => .no
  | _ => .no
section
variable {g : G} {X : Cx} {a b c e o : Expr} {es : List Expr} {pos p1 p2 p3 px : Pos} {σ : St} {H I : Hp} {env : Env} {F : Nat → List Addr} {D : Ends}
theorem de_mtT {r : V → List V → Hp → VK → Prop} {f : List PyData → PyData → Option PyData} {fo : EF} {name : Str} {id : String} {apos cpos : Pos} {y : AF} (slot : Slot "tuple" name id) (hty : typeOf (.builtin id) = pure (.type "method_descriptor")) (hm : MtR X id r)
    (ok : ∀ (K : PySem.W.Frag) (I H : Hp) (v u : V) (ds : List PyData) (k d : PyData) (Q : VK), K = X.K → Same I H → Rp K I v (.tuple ds) → RpS K I H u k → f ds k = some d → (∀ w, Rp K I w d → Q w H) → r v [u] H Q)
    (ho : DE g X o fo) (he : DX g X e y)
    (hbase : attributeBase o name X.env (eval o X.env) = eval o X.env := by rfl)
    (hfew : ((backTo cpos (starEach [e] X.env)).all (fun x => !x.1) && (backToKw cpos (keywordEach [] X.env)).all (fun x => x.1.isSome)
      && decide (([e] : List Expr).length + ([] : List Keyword).length + (if ([] : List Keyword).isEmpty then 0 else 1) < 30)) = true := by rfl)
    (hline : (apos.endLine == cpos.line) = true := by rfl) (hs : starEach [e] X.env = (false, eval e X.env) :: starEach [] X.env := by rfl) (hplain : (backTo cpos (starEach [] X.env)).any (·.1) = false := by rfl) (hK : X.K = g.K := by rfl) :
    DE g X (.Call (.Attribute o name apos) [e] [] cpos) (fMtT f fo y) := PE.imp (pe_mG ty_tup PySem.F.plainAttrs_tuple slot hty hm ho (da_cons he da_nil hs) hbase hfew hline hs hplain) fun σ H Q q => by
  obtain ⟨I, env, F, s, p⟩ := q
  refine tD_seq s p fun r v H1 af q => ?_
  obtain ⟨I', F', rp, s', st⟩ := af.frz
  split at q
  · rename_i ds q0
    rw [q0] at rp
    refine ⟨?_, ?_⟩
    · cases rp with
      | tup h1 h2 =>
        rw [hK]
        exact ⟨_, _, rfl, h1.mono s'.sub⟩
    · refine ⟨I', r.2, F', s', post_mono (post_bind.mp q) (fun r3 q3 vs3 H3 I3 F3 s3 st3 av3 => ?_) fun x zz => err_step st zz⟩
      split at q3
      · rename_i k q5
        have rr3 := rsvs_rep s3 av3 q5
        match vs3, rr3 with
        | [u], .cons r5 .nil =>
          split at q3
          · rename_i d hd
            refine ok g.K I3 H3 v u ds k d Q hK.symm s3.sub (rp.mono st3.i1) r5 hd fun w rv => ?_
            exact q3 w H3 (Aft.trans st (AftD.aft ⟨_, _, rv, s3, st3⟩))
          · exact q3.elim
      · exact q3.elim
  · exact q.elim
theorem de_indexT {fo : EF} {apos cpos : Pos} {y : AF} (hu : X.A.units + 65 < cLine) (ho : DE g X o fo) (he : DX g X e y)
    (hbase : attributeBase o "index" X.env (eval o X.env) = eval o X.env := by rfl)
    (hfew : ((backTo cpos (starEach [e] X.env)).all (fun x => !x.1) && (backToKw cpos (keywordEach [] X.env)).all (fun x => x.1.isSome)
      && decide (([e] : List Expr).length + ([] : List Keyword).length + (if ([] : List Keyword).isEmpty then 0 else 1) < 30)) = true := by rfl)
    (hline : (apos.endLine == cpos.line) = true := by rfl) (hs : starEach [e] X.env = (false, eval e X.env) :: starEach [] X.env := by rfl) (hplain : (backTo cpos (starEach [] X.env)).any (·.1) = false := by rfl) (hK : X.K = g.K := by rfl) :
    DE g X (.Call (.Attribute o "index" apos) [e] [] cpos) (fMtT pIndex fo y) :=
  de_mtT PySem.F.slot_tuple_index PySem.F.type_tuple_index (mt_indexT hu) (fun K I H v u ds k d Q e s r1 r2 q kk => by
    subst e
    unfold pIndex at q
    split at q
    · rename_i hc
      have d1 := r1.dp s (SeqAt.canLay_of_shaped hc.1)
      obtain ⟨a, vs, rfl, _, _⟩ := RpS.tup s (.inl r1)
      cases hf : ds.findIdx? (fun z => PyData.eqv z k) with
      | none => rw [hf] at q; cases q
      | some j =>
        rw [hf] at q; cases q
        obtain ⟨h1, h2, h3⟩ := List.findIdx?_eq_some_iff_getElem.mp hf
        exact ⟨a, u, k, ds, j, ds[j], rfl, rfl, d1, r2.dp s (SeqAt.canLay_of_shaped hc.2), hc.1, hc.2, List.getElem?_eq_getElem h1, h2, fun m z' hm hz => by
          obtain ⟨hm2, e2⟩ := List.getElem?_eq_some_iff.mp hz
          have := h3 m hm
          rw [e2] at this
          simpa using this, kk _ (.int _)⟩
    · cases q) ho he hbase hfew hline hs hplain hK
end
end Dy
namespace Dy
open PySem PySem.Spec PyProof.Rows L2
open LamX (CodeO TabB LamS lamEnv lamCx)
section
variable {g : G} {X : Cx}
end
section
variable {g : G} {X : Cx} {a b c e : Expr} {es : List Expr} {pos p1 p2 p3 px : Pos} {σ : St} {H I : Hp} {env : Env} {F : Nat → List Addr} {D : Ends}
end
end Dy
namespace Dy
open PySem PySem.Spec PyProof.Rows L2
section
variable {K : PySem.W.Frag}
def pBoo : PyData → Option O
  | .int i => some (.fr (.bool (i != 0)))
  | .bool b => some (.fr (.bool b))
  | _ => none
theorem os_boo : OpS K (fun xs H Q => (∃ i, xs = [.int i] ∧ Q (.bl (i != 0)) H) ∨ ∃ k, xs = [.bl k] ∧ Q (.bl k) H) (on1 pBoo) := ops1c fun v d I H Q o s r1 q k => by
  unfold pBoo at q
  split at q
  · cases q
    rw [r1.int]
    exact .inl ⟨_, rfl, k _ _ _ _ (Grow.val s (.bl _))⟩
  · cases q
    rw [r1.bl]
    exact .inr ⟨_, rfl, k _ _ _ _ (Grow.val s (.bl _))⟩
  · cases q
end
end Dy
namespace Q
open PySem Dy
open L2 (atI ixN)
abbrev fr (d : PyData) : Option O := some (.fr d)
abbrev ol (ds : List PyData) : Option O := some (.ol ds)
abbrev dN (n : Nat) : PyData := .int (n : Int)
section
variable (env : Dy.Env) (i j n m : Nat) (f k : EF) (s : SF) (vs : List Nat) (as : List AF)
theorem a_wp : fWp vs s env = s env >>= fun r => .ok (r.1, wipeE r.2 vs) := rfl
theorem a_fz : fFz vs s env = s env >>= fun r => .ok (r.1, frzE r.2 vs) := rfl
theorem a_fz0 : frzE env [] = env := rfl
theorem a_fz1 : frzE env (i :: vs) = match (frzE env vs)[i]? with | some (some o) => (frzE env vs).set i (some (.fr o.data)) | _ => frzE env vs := rfl
theorem a_ext : fExt i f env = match env[i]? with
  | some (some (.ol _)) => f env >>= fun r => match r.1 with
    | .ol ys => match r.2[i]? with
      | some (some (.ol xs)) => if xs.length + ys.length ≤ 1000000 then .ok (.nx, r.2.set i (some (.ol (xs ++ ys)))) else .no
      | _ => .no
    | _ => .no
  | _ => .no := rfl
theorem a_ins : fIns i as env = match env[i]? with
  | some (some (.ol _)) => evA as env >>= fun r => match r.2[i]? with
    | some (some (.ol xs)) => match insA xs (dvs r.1) with
      | some ys => .ok (.nx, r.2.set i (some (.ol ys)))
      | none => .no
    | _ => .no
  | _ => .no := rfl
theorem a_insA (xs : List PyData) (k : Int) (d : PyData) : insA xs (some [.int k, d]) = if xs.length < 1000000 ∧ 0 ≤ k ∧ k < 1000000 then some (xs.take k.toNat ++ [d] ++ xs.drop k.toNat) else none := rfl
theorem a_pop : fPop i env = match env[i]? with
  | some (some (.ol xs)) => match xs[xs.length - 1]? with
    | some d => .ok (.fr d, env.set i (some (.ol xs.dropLast)))
    | none => .no
  | _ => .no := rfl
theorem a_parN (is : List Nat) (fs : List EF) : fParN is fs env = evO fs env >>= fun r => match setO is r.1 r.2 with | some e => .ok (.nx, e) | none => .no := rfl
theorem a_evO0 : evO [] env = .ok ([], env) := rfl
theorem a_evO1 (fs : List EF) : evO (f :: fs) env = f env >>= fun r => evO fs r.2 >>= fun q => .ok (r.1 :: q.1, q.2) := rfl
theorem a_setO0 : setO [] [] env = some env := rfl
theorem a_setO1 (is : List Nat) (o : O) (os : List O) : setO (i :: is) (o :: os) env = if i < env.length then setO is os (env.set i (some o)) else none := rfl
theorem a_ix2 (y z : Dy.Env → Option Int) : fIx2 i y z env = match env[i]?, y env, z env with
  | some (some (.oo rs)), some k, some l => match ixN rs.length k with
    | some j => match rs[j]? with
      | some r => match atI r l with
        | some d => .ok (.fr d, env)
        | none => .no
      | none => .no
    | none => .no
  | _, _, _ => .no := rfl
theorem a_setII (y z : Dy.Env → Option Int) : fSetII i y z f env = f env >>= fun r => match r.2[i]?, y r.2, z r.2 with
  | some (some (.oo rs)), some k, some l => match ixN rs.length k with
    | some j => match rs[j]? with
      | some w => match ixN w.length l with
        | some m => .ok (.nx, r.2.set i (some (.oo (rs.set j (w.set m r.1.data)))))
        | none => .no
      | none => .no
    | none => .no
  | _, _, _ => .no := rfl
theorem a_zN : zN j env = match env[j]? with | some (some (.fr (.int n))) => some n | _ => none := rfl
theorem a_zC (n : Int) : zC n env = some n := rfl
theorem a_lcO (g : IF) (w : Tg) : fLcO g vs w f env = g env >>= fun r => lcO vs w f r.1 (wipeE r.2 vs) [] >>= fun q => .ok (.oo q.1, unw r.2 q.2 vs) := rfl
theorem q_starI (i : Int) (xs : List PyData) : pStar (.int i) (.list xs) = if xs.length < 100000 then some (.fr (.tuple (.int i :: xs))) else none := rfl
theorem q_starIT (i : Int) (xs : List PyData) : pStar (.int i) (.tuple xs) = if xs.length < 100000 then some (.fr (.tuple (.int i :: xs))) else none := rfl
theorem d_oo (rs : List (List PyData)) : (O.oo rs).data = .list (rs.map PyData.list) := rfl
end
structure Rk (n w : Nat) (d : PyData) : Prop where
  lay : d.canLay0 = true
  sho : d.showable = true
  dep : d.depth ≤ n
  wt : rw8 d ≤ w
theorem Rk.mono {n w n' w' : Nat} {d : PyData} (h : Rk n w d) (a : n ≤ n') (b : w ≤ w') : Rk n' w' d := ⟨h.lay, h.sho, Nat.le_trans h.dep a, Nat.le_trans h.wt b⟩
theorem Rk.bool (b : Bool) : Rk 0 5 (.bool b) := ⟨rfl, rfl, Nat.zero_le _, Nat.le_refl _⟩
theorem Rk.int {i : Int} (h : i.natAbs < 10 ^ 100) : Rk 0 1100 (.int i) := by
  have : i.natAbs.log2 < 1050 := Nat.lt_of_lt_of_le (PySem.Flt.log2_lt_of (k := 400) (by decide) (Nat.lt_trans h (by decide +kernel))) (by decide)
  refine ⟨rfl, decide_eq_true (by omega), Nat.zero_le _, ?_⟩
  show i.natAbs.log2 + 2 ≤ 1100; omega
theorem Rk.nat {i : Nat} (h : i < 10 ^ 100) : Rk 0 1100 (.int (i : Int)) := Rk.int (by simpa using h)
theorem Rk.all {n w : Nat} : ∀ {ds : List PyData}, (∀ d ∈ ds, Rk n w d) → PyData.canLayAll0 ds = true ∧ PyData.showableAll ds = true ∧ PyData.depthAll ds ≤ n ∧ rw8s ds ≤ ds.length * (w + 2)
  | [], _ => ⟨rfl, rfl, Nat.zero_le _, Nat.zero_le _⟩
  | d :: ds, h => by
    obtain ⟨a, b, c, e⟩ := Rk.all (ds := ds) fun x hx => h x (by simp [hx])
    have hd := h d (by simp)
    refine ⟨?_, ?_, ?_, ?_⟩
    · show (d.canLay0 && PyData.canLayAll0 ds) = true; rw [hd.lay, a]; rfl
    · show (d.showable && PyData.showableAll ds) = true; rw [hd.sho, b]; rfl
    · show max d.depth (PyData.depthAll ds) ≤ n; have := hd.dep; omega
    · show rw8 d + 2 + rw8s ds ≤ _; rw [List.length_cons, Nat.succ_mul]; have := hd.wt; omega
theorem Rk.tup {n w : Nat} {ds : List PyData} (h : ∀ d ∈ ds, Rk n w d) : Rk (n + 1) (ds.length * (w + 2) + 2) (.tuple ds) := by
  obtain ⟨a, b, c, e⟩ := Rk.all h
  exact ⟨by simpa [PyData.canLay0] using a, by simpa [PyData.showable] using b, by simp [PyData.depth]; omega, Nat.add_le_add_right e 2⟩
theorem Rk.lst {n w : Nat} {ds : List PyData} (h : ∀ d ∈ ds, Rk n w d) : Rk (n + 1) (ds.length * (w + 2) + 2) (.list ds) := by
  obtain ⟨a, b, c, e⟩ := Rk.all h
  exact ⟨by simpa [PyData.canLay0] using a, by simpa [PyData.showable] using b, by simp [PyData.depth]; omega, Nat.add_le_add_right e 2⟩
theorem Rk.shp {n w : Nat} {d : PyData} (h : Rk n w d) (hn : n ≤ 64) : shp d = true := by
  unfold Dy.shp SeqAt.shaped
  rw [h.lay, decide_eq_true (Nat.le_trans h.dep hn)]; rfl
theorem Rk.rOk {n w : Nat} {d : PyData} (h : Rk n w d) (hn : n ≤ 64) (hw : w ≤ 16777216) : rOk d = true := by
  unfold Dy.rOk
  rw [h.lay, h.sho, decide_eq_true ⟨Nat.le_trans h.dep hn, Nat.le_trans h.wt hw⟩]; rfl
theorem Rk.repr {n w : Nat} {d : PyData} (h : Rk n w d) (hn : n ≤ 64) (hw : w ≤ 16777216) : pRepr d = some (.fr (.str d.shown)) := by unfold pRepr; rw [if_pos (h.rOk hn hw)]
theorem pEq_int (i j : Int) : pEq (.int i) (.int j) = some (.fr (.bool (decide (i = j)))) := by
  have h : ∀ k : Int, shp (.int k) = true := fun k => by unfold shp SeqAt.shaped; simp [PyData.canLay0, PyData.depth]
  show (if shp (.int i) = true ∧ shp (.int j) = true then some (O.fr (PyData.bool (PyData.eqv (.int i) (.int j)))) else none) = _
  rw [if_pos ⟨h i, h j⟩]
  show some (O.fr (PyData.bool (PyData.eqv (.int i) (.int j)))) = _
  congr 3
theorem pNe_int (i j : Int) : pNe (.int i) (.int j) = some (.fr (.bool (!decide (i = j)))) := by
  have h : ∀ k : Int, shp (.int k) = true := fun k => by unfold shp SeqAt.shaped; simp [PyData.canLay0, PyData.depth]
  show (if shp (.int i) = true ∧ shp (.int j) = true then some (O.fr (PyData.bool (!PyData.eqv (.int i) (.int j)))) else none) = _
  rw [if_pos ⟨h i, h j⟩]
  show some (O.fr (PyData.bool (!PyData.eqv (.int i) (.int j)))) = _
  congr 3
theorem pNe_str (x y : Str) : pNe (.str x) (.str y) = some (.fr (.bool (!decide (x = y)))) := rfl
theorem pEq_T (xs ys : List PyData) (h : shp (.tuple xs) = true) (h' : shp (.tuple ys) = true) : pEq (.tuple xs) (.tuple ys) = some (.fr (.bool (PyData.eqvAll xs ys))) := by
  show (if _ then _ else _) = _
  rw [if_pos ⟨h, h'⟩]; simp [PyData.eqv]
theorem pNe_L (xs ys : List PyData) (h : shp (.list xs) = true) (h' : shp (.list ys) = true) : pNe (.list xs) (.list ys) = some (.fr (.bool (!PyData.eqvAll xs ys))) := by
  show (if _ then _ else _) = _
  rw [if_pos ⟨h, h'⟩]; simp [PyData.eqv]
theorem eqvAll_nil (xs : List PyData) : PyData.eqvAll xs [] = xs.isEmpty := by cases xs <;> simp [PyData.eqvAll]
theorem shpT0 : shp (.tuple []) = true := (Rk.tup (n := 0) (w := 0) (ds := []) (by simp)).shp (by decide)
theorem shpL0 : shp (.list []) = true := (Rk.lst (n := 0) (w := 0) (ds := []) (by simp)).shp (by decide)
theorem pEq_T0 {xs : List PyData} (h : shp (.tuple xs) = true) : pEq (.tuple xs) (.tuple []) = some (.fr (.bool xs.isEmpty)) := by rw [pEq_T _ _ h shpT0, eqvAll_nil]
theorem pNe_L0 {xs : List PyData} (h : shp (.list xs) = true) : pNe (.list xs) (.list []) = some (.fr (.bool (!xs.isEmpty))) := by rw [pNe_L _ _ h shpL0, eqvAll_nil]
theorem pNe_nil : pNe (.list []) (.list []) = some (.fr (.bool false)) := by rw [pNe_L0 shpL0]; rfl
theorem atI_nat {α : Type} (xs : List α) (k : Nat) : atI xs (k : Int) = xs[k]? := by
  unfold atI ixN
  rw [if_pos (by omega)]
  by_cases h : k < xs.length
  · rw [if_pos (by omega)]; rfl
  · rw [if_neg (by omega), List.getElem?_eq_none (by omega)]; rfl
theorem atI_0 {α : Type} (xs : List α) : atI xs 0 = xs[0]? := atI_nat xs 0
theorem atI_1 {α : Type} (xs : List α) : atI xs 1 = xs[1]? := atI_nat xs 1
theorem atI_2 {α : Type} (xs : List α) : atI xs 2 = xs[2]? := atI_nat xs 2
theorem atI_3 {α : Type} (xs : List α) : atI xs 3 = xs[3]? := atI_nat xs 3
theorem atI_m1 {α : Type} (xs : List α) : atI xs (-1) = xs.getLast? := by
  cases h : xs.getLast? with
  | none =>
    have : xs = [] := by simpa using h
    subst this; rfl
  | some x =>
    obtain ⟨ys, rfl⟩ := List.getLast?_eq_some_iff.mp h
    exact L2.atI_last ys x
theorem pIxL (xs : List PyData) (i : Int) : pIx (.list xs) (.int i) = (atI xs i).map .fr := rfl
theorem pIxT (xs : List PyData) (i : Int) : pIx (.tuple xs) (.int i) = (atI xs i).map .fr := rfl
theorem cutHi {α : Type} (xs : List α) (k : Nat) : cutD xs none (some (k : Int)) = xs.take k := by
  unfold cutD
  rw [HT.sIx_none, HT.sIx_nat, List.drop_zero, Nat.sub_zero]
  by_cases h : k ≤ xs.length
  · rw [Nat.min_eq_left h]
  · rw [Nat.min_eq_right (by omega), List.take_length, List.take_of_length_le (by omega)]
theorem cutLo {α : Type} (xs : List α) (k : Nat) : cutD xs (some (k : Int)) none = xs.drop k := by
  unfold cutD
  rw [HT.sIx_none, HT.sIx_nat]
  by_cases h : k ≤ xs.length
  · rw [Nat.min_eq_left h, List.take_of_length_le (by simp)]
  · rw [Nat.min_eq_right (by omega), List.drop_of_length_le (Nat.le_refl _), List.drop_of_length_le (by omega), List.take_nil]
theorem cutLo1 {α : Type} (xs : List α) : cutD xs (some 1) none = xs.drop 1 := cutLo xs 1
theorem cutHi1 {α : Type} (xs : List α) : cutD xs none (some 1) = xs.take 1 := cutHi xs 1
theorem pAll_B (xs : List Bool) : pAll (.list (xs.map PyData.bool)) = some (.fr (.bool (xs.all id))) := by
  show (boolsOf _).map _ = _
  rw [boolsOf_map]; rfl
theorem pAll_true {α : Type} (xs : List α) : pAll (.list (xs.map fun _ => .bool true)) = some (.fr (.bool true)) := by
  have e : xs.map (fun _ => PyData.bool true) = (xs.map fun _ => true).map PyData.bool := by simp
  rw [e, pAll_B]
  simp
theorem for_l {α σ : Type} {t : Tg} {body : SF} (enc : α → PyData) (S : σ → Dy.Env) (P : List α → σ → Prop) (xs : List α) {s : σ} (h0 : P [] s)
    (step : ∀ pre x post s, xs = pre ++ x :: post → P pre s → ∃ s', P (pre ++ [x]) s' ∧ (asT t (enc x) (S s) >>= body) = .ok (.nx, S s')) :
    ∃ s', P xs s' ∧ fFor t body (xs.map enc) (S s) = .ok (.nx, S s') := by
  suffices h : ∀ (post pre : List α) (s : σ), xs = pre ++ post → P pre s → ∃ s', P xs s' ∧ fFor t body (post.map enc) (S s) = .ok (.nx, S s') from h xs [] s rfl h0
  intro post
  induction post with
  | nil => intro pre s e hp; rw [List.append_nil] at e; subst e; exact ⟨s, hp, rfl⟩
  | cons x post ih =>
    intro pre s e hp
    obtain ⟨s1, p1, e1⟩ := step pre x post s e hp
    obtain ⟨s2, p2, e2⟩ := ih (pre ++ [x]) s1 (by rw [e]; simp) p1
    refine ⟨s2, p2, ?_⟩
    show (asT t (enc x) (S s) >>= fun e => body e >>= fun r => match r.1 with | .nx => fFor t body (post.map enc) r.2 | .ct => fFor t body (post.map enc) r.2 | .bk => .ok (.nx, r.2) | .rt o => .ok (.rt o, r.2)) = _
    cases q : asT t (enc x) (S s) with
    | no => rw [q] at e1; cases e1
    | er x => rw [q] at e1; cases e1
    | ok e =>
      rw [q, bind_ok] at e1
      rw [bind_ok, e1, bind_ok]
      exact e2
theorem for_r {σ : Type} {t : Tg} {body : SF} (S : σ → Dy.Env) (P : Nat → σ → Prop) (n : Nat) {s : σ} (h0 : P 0 s)
    (step : ∀ k s, k < n → P k s → ∃ s', P (k + 1) s' ∧ (asT t (.int (k : Int)) (S s) >>= body) = .ok (.nx, S s')) :
    ∃ s', P n s' ∧ fFor t body (rng 0 n) (S s) = .ok (.nx, S s') := by
  have e : rng 0 n = (List.range n).map fun k : Nat => PyData.int (k : Int) := by unfold rng; simp
  rw [e]
  obtain ⟨s', p, q⟩ := for_l (fun k : Nat => PyData.int (k : Int)) S (fun pre s => pre.length ≤ n ∧ P pre.length s) (List.range n) (s := s) ⟨Nat.zero_le _, h0⟩ (fun pre x post s e hp => by
    have hx : x = pre.length := by
      have h1 : (List.range n)[pre.length]? = some x := by rw [e]; simp
      obtain ⟨h2, h3⟩ := List.getElem?_eq_some_iff.mp h1
      rw [List.getElem_range] at h3; exact h3.symm
    have hn : pre.length < n := by
      have := congrArg List.length e
      simp at this; omega
    subst hx
    obtain ⟨s', p', q'⟩ := step pre.length s hn hp.2
    exact ⟨s', by simp; exact ⟨hn, p'⟩, q'⟩)
  simp only [List.length_range] at p
  exact ⟨s', p.2, q⟩
theorem lc_fl {α : Type} {vs : List Nat} {t : Tg} {test : TF} {elt : EF} {ds : List PyData} {e : Dy.Env} (enc : α → PyData) (g : α → Option PyData) (xs : List α) (hd : ds = xs.map enc)
    (hs : ∀ x ∈ xs, (asT t (enc x) e >>= fun e1 => test e1 >>= fun b => if b.1 = true then elt b.2 >>= fun r => Res.ok (some r.1.data, wipeE r.2 vs) else Res.ok (none, wipeE b.2 vs)) = .ok (g x, e)) (hl : xs.length ≤ 100000) :
    lcL vs t test elt ds e [] = .ok (xs.filterMap g, e) := by
  subst hd
  suffices h : ∀ (ys : List α) (acc : List PyData), (∀ x ∈ ys, x ∈ xs) → acc.length + ys.length ≤ 100000 → lcL vs t test elt (ys.map enc) e acc = .ok (acc ++ ys.filterMap g, e) by
    have := h xs [] (fun _ z => z) (by simpa using hl)
    simpa using this
  intro ys
  induction ys with
  | nil => intro acc _ _; simp [lcL]
  | cons y ys ih =>
    intro acc hm hl
    have hy := hs y (hm y (by simp))
    have ihy := fun acc => ih acc fun x hx => hm x (by simp [hx])
    rw [List.length_cons] at hl
    show (asT t (enc y) e >>= fun e1 => nE (test e1) >>= fun b => if b.1 = true then nE (elt b.2) >>= fun r => if acc.length < 100000 then lcL vs t test elt (ys.map enc) (wipeE r.2 vs) (acc ++ [r.1.data]) else .no else lcL vs t test elt (ys.map enc) (wipeE b.2 vs) acc) = _
    cases q : asT t (enc y) e with
    | no => rw [q] at hy; cases hy
    | er x => rw [q] at hy; cases hy
    | ok e1 =>
      rw [q, bind_ok] at hy
      rw [bind_ok]
      cases q2 : test e1 with
      | no => rw [q2] at hy; cases hy
      | er x => rw [q2] at hy; cases hy
      | ok b =>
        rw [q2, bind_ok] at hy
        show (if b.1 = true then _ else _) = _
        by_cases hb : b.1 = true
        · rw [if_pos hb] at hy ⊢
          cases q3 : elt b.2 with
          | no => rw [q3] at hy; cases hy
          | er x => rw [q3] at hy; cases hy
          | ok r =>
            rw [q3, bind_ok] at hy
            injection hy with hy
            have h1 := congrArg Prod.fst hy
            have h2 := congrArg Prod.snd hy
            show (if acc.length < 100000 then lcL vs t test elt (ys.map enc) (wipeE r.2 vs) (acc ++ [r.1.data]) else .no) = _
            dsimp only at h1 h2
            rw [if_pos (by omega), h2, ihy _ (by simp; omega), List.filterMap_cons, ← h1]
            simp
        · rw [if_neg hb] at hy ⊢
          injection hy with hy
          have h1 := congrArg Prod.fst hy
          have h2 := congrArg Prod.snd hy
          dsimp only at h1 h2
          rw [h2, ihy _ (by omega), List.filterMap_cons, ← h1]
theorem lc_tm {α : Type} {vs : List Nat} {t : Tg} {elt : EF} {ds : List PyData} {e : Dy.Env} (enc : α → PyData) (g : α → PyData) (xs : List α) (hd : ds = xs.map enc)
    (hs : ∀ x ∈ xs, (asT t (enc x) e >>= fun e1 => elt e1 >>= fun r => Res.ok (r.1.data, wipeE r.2 vs)) = .ok (g x, e)) (hl : xs.length ≤ 100000) :
    lcL vs t fYes elt ds e [] = .ok (xs.map g, e) := by
  rw [lc_fl (g := fun x => some (g x)) (enc := enc) (xs := xs) hd (fun x hx => ?_) hl]
  · simp
  · have h := hs x hx
    cases q : asT t (enc x) e with
    | no => rw [q] at h; cases h
    | er x => rw [q] at h; cases h
    | ok e1 =>
      rw [q, bind_ok] at h
      rw [bind_ok]
      show (if true = true then elt e1 >>= fun r => Res.ok (some r.1.data, wipeE r.2 vs) else Res.ok (none, wipeE e1 vs)) = _
      rw [if_pos rfl]
      cases q3 : elt e1 with
      | no => rw [q3] at h; cases h
      | er x => rw [q3] at h; cases h
      | ok r =>
        rw [q3, bind_ok] at h
        rw [bind_ok]
        injection h with h
        have h1 := congrArg Prod.fst h
        have h2 := congrArg Prod.snd h
        dsimp only at h1 h2
        rw [h1, h2]
/-- a comprehension over a range whose elements change a state -/
theorem lc_r {α σ : Type} {vs : List Nat} {t : Tg} {elt : EF} (enc : α → PyData) (S : σ → Dy.Env) (P : Nat → σ → Prop) (R : α → Prop) (n : Nat) {s : σ} (h0 : P 0 s) (hn : n ≤ 100000)
    (step : ∀ k s, k < n → P k s → ∃ x s', P (k + 1) s' ∧ R x ∧ (asT t (.int (k : Int)) (S s) >>= fun e1 => elt e1 >>= fun r => Res.ok (r.1.data, wipeE r.2 vs)) = .ok (enc x, S s')) :
    ∃ (xs : List α) (s' : σ), P n s' ∧ xs.length = n ∧ (∀ x ∈ xs, R x) ∧ lcL vs t fYes elt (rng 0 n) (S s) [] = .ok (xs.map enc, S s') := by
  obtain ⟨e, acc, h, xs, s', p, r, l, ea, ee⟩ := lc_inv (vs := vs) (t := t) (test := fYes) (elt := elt) (fun k e acc => ∃ (xs : List α) (s' : σ), P k s' ∧ (∀ x ∈ xs, R x) ∧ xs.length = k ∧ acc = xs.map enc ∧ e = S s') (rng 0 n) (env := S s) (acc := []) ⟨[], s, h0, by simp, rfl, rfl, rfl⟩ (fun k d e acc hd hP => by
    obtain ⟨xs, s1, p1, r1, l1, rfl, rfl⟩ := hP
    obtain ⟨hk, rfl⟩ := rng_at hd
    rw [Int.zero_add]
    obtain ⟨x, s2, p2, r2, e2⟩ := step k s1 hk p1
    cases q : asT t (.int (k : Int)) (S s1) with
    | no => rw [q] at e2; cases e2
    | er x => rw [q] at e2; cases e2
    | ok e1 =>
      rw [q, bind_ok] at e2
      refine ⟨e1, true, e1, rfl, rfl, fun z => (by cases z), fun _ => ?_⟩
      cases q3 : elt e1 with
      | no => rw [q3] at e2; cases e2
      | er x => rw [q3] at e2; cases e2
      | ok r =>
        rw [q3, bind_ok] at e2
        injection e2 with e2
        have h1 := congrArg Prod.fst e2
        have h2 := congrArg Prod.snd e2
        dsimp only at h1 h2
        refine ⟨r.1, r.2, rfl, by rw [List.length_map, l1]; omega, xs ++ [x], s2, p2, ?_, by simp [l1], by rw [h1]; simp, h2⟩
        intro y hy
        rcases List.mem_append.mp hy with z | z
        · exact r1 y z
        · simp at z; subst z; exact r2)
  rw [rng_len] at l p
  exact ⟨xs, s', p, l, r, by rw [h, ea, ee]⟩
theorem enumD_map {α : Type} (enc : α → PyData) (xs : List α) : ∀ k : Nat, enumD k (xs.map enc) = (List.zip (List.range' k xs.length) xs).map fun p => PyData.tuple [.int (p.1 : Int), enc p.2] := by
  induction xs with
  | nil => intro k; rfl
  | cons x xs ih => intro k; rw [List.length_cons, List.range'_succ, List.zip_cons_cons, List.map_cons, List.map_cons, ← ih (k + 1)]; rfl
/-- the items with their places -/
def ens {α : Type} (xs : List α) : List (Nat × α) := List.zip (List.range' 0 xs.length) xs
theorem ens_mem {α : Type} {xs : List α} {p : Nat × α} (h : p ∈ ens xs) : xs[p.1]? = some p.2 := by
  obtain ⟨k, hk⟩ := List.getElem?_of_mem h
  unfold ens at hk
  rw [List.getElem?_zip_eq_some] at hk
  obtain ⟨h1, h2⟩ := hk
  obtain ⟨h3, h4⟩ := List.getElem?_eq_some_iff.mp h1
  rw [List.getElem_range'] at h4
  have : k = p.1 := by omega
  rw [← this]; exact h2
theorem mem_ens {α : Type} {xs : List α} {k : Nat} {x : α} (h : xs[k]? = some x) : (k, x) ∈ ens xs := by
  have hk : k < xs.length := (List.getElem?_eq_some_iff.mp h).1
  refine List.mem_of_getElem? (i := k) ?_
  unfold ens
  rw [List.getElem?_zip_eq_some]
  refine ⟨?_, h⟩
  rw [List.getElem?_eq_some_iff]
  refine ⟨by simpa using hk, ?_⟩
  rw [List.getElem_range']; omega
theorem ens_len {α : Type} (xs : List α) : (ens xs).length = xs.length := by simp [ens]
theorem enumD_ens {α : Type} (enc : α → PyData) (xs : List α) : enumD 0 (xs.map enc) = (ens xs).map fun p => PyData.tuple [.int (p.1 : Int), enc p.2] := enumD_map enc xs 0
theorem lt_of_get {α : Type} {xs : List α} {k : Nat} {x : α} (h : xs[k]? = some x) : k < xs.length := (List.getElem?_eq_some_iff.mp h).1
theorem get_of_lt {α : Type} {xs : List α} {k : Nat} (h : k < xs.length) : ∃ x, xs[k]? = some x ∧ x ∈ xs := ⟨xs[k], List.getElem?_eq_getElem h, List.getElem_mem h⟩
end Q
namespace Q
open PySem Dy
def b__law_pen : SF := fRet (fOv pLst [.v (fOp (pMax) [.v (fC (.int 0)), .v (fOp (on2 pSub) [.s 0, .v (fOp (on2 pPow) [.v (fC (.int 10)), .v (fC (.int 18))])])]), .v (fOp (on2 pMod) [.s 0, .v (fC (.int 1000000007))]), .v (fC (.int 0))])
def M__law_pen : Fn := fnM 1 1 [] b__law_pen
def b__law_cell_at : SF := fSeq (fIfS (fB (fOp (on2 (cmI (fun i j => decide (i < j)))) [.s 1, .v (fOp (on1 pLen) [.s 0])])) (fRet (fOp (on2 pIx) [.s 0, .s 1])) (fSkip))
  (fRet (fC (.int 0)))
def M__law_cell_at : Fn := fnM 2 2 [] b__law_cell_at
def b__law_draw : SF := fSeq (fIfS (fB (fOp (on2 (cmI (fun i j => decide (j < i)))) [.v (fOp (on2 pIx) [.s 0, .v (fC (.int 0))]), .v (fC (.int 0))])) (fSeq (fSet 3 (fOp (on2 pMod) [.v (fOp (on2 pIx) [.s 0, .v (fC (.int 0))]), .s 1]))
  (fSeq (fSetI 0 (.v (fC (.int 0))) (fOp (on2 pDivW) [.v (fOp (on2 pIx) [.s 0, .v (fC (.int 0))]), .s 1]))
  (fRet (fM 3)))) (fSkip))
  (fSeq (fSetI 0 (.v (fC (.int 2))) (fOp (on2 pAdd) [.v (fOp (on2 pIx) [.s 0, .v (fC (.int 2))]), .v (fC (.int 1))]))
  (fSeq (fSet 2 (fOp (on2 pMod) [.v (fOp (on2 pMulA) [.v (fOp (on2 pAdd) [.v (fOp (on2 pIx) [.s 0, .v (fC (.int 1))]), .v (fOp (on2 pMulA) [.v (fC (.int 17)), .v (fOp (on2 pIx) [.s 0, .v (fC (.int 2))])])]), .v (fOp (on2 pAdd) [.v (fC (.int 69621)), .v (fOp (on2 pMulA) [.v (fC (.int 2)), .v (fOp (on2 pIx) [.s 0, .v (fC (.int 2))])])])]), .v (fC (.int 2147483647))]))
  (fSeq (fSet 2 (fOp (on2 pMod) [.v (fOp (on2 pAdd) [.v (fOp (on2 pAdd) [.v (fOp (on2 pMulA) [.s 2, .s 2]), .v (fOp (on2 pMulA) [.v (fC (.int 40503)), .v (fOp (on2 pIx) [.s 0, .v (fC (.int 2))])])]), .v (fC (.int 5))]), .v (fC (.int 2147483629))]))
  (fRet (fOp (on2 pMod) [.v (fOp (on2 pDivW) [.v (fOp (on2 pMod) [.v (fOp (on2 pMulA) [.s 2, .v (fC (.int 48271))]), .v (fC (.int 2147483647))]), .v (fC (.int 32))]), .s 1])))))
def M__law_draw : Fn := fnM 2 4 [0] b__law_draw
def b__law_pick : SF := fRet (fOp (on2 pIx) [.s 1, .v (fCall M__law_draw [.s 0, .v (fOp (on1 pLen) [.s 1])])])
def M__law_pick : Fn := fnM 2 2 [0] b__law_pick
def E1__law_arities : EF := fCall M__law_pick [.s 0, .v (fOv pLst [.v (fC (.int 0)), .v (fC (.int 1)), .v (fC (.int 1)), .v (fC (.int 2)), .v (fC (.int 2))])]
def b__law_arities : SF := fSeq (fFz [1] (fSet 1 (fOp (on2 pAdd) [.v (fOv pLst [.v (fC (.int 0))]), .v (fLc (fR1 (.v (fCall M__law_draw [.s 0, .v (fC (.int 4))]))) [3] (.nm 3) (fYes) (E1__law_arities))])))
  (fSeq (fSet 2 (fCall M__law_draw [.s 0, .v (fOp (on1 pLen) [.s 1])]))
  (fRet (fOp (on1 pTuple) [.v (fOp (on2 pAdd) [.v (fOp (on2 pSl2l) [.s 1, .s 2]), .v (fOp (on2 pSl2h) [.s 1, .s 2])])])))
def M__law_arities : Fn := fnM 1 4 [0] b__law_arities
abbrev V__law_arities (pen_here : Option O := none) (some_ : Option O := none) (at_ : Option O := none) (turn : Option O := none) : Dy.Env := [pen_here, some_, at_, turn]
def b_is_between : SF := fRet (fAnd (fOp (on1 fun d => some (.fr (.bool (isA .int d)))) [.s 0]) (fAnd (fNotV (fOp (on1 fun d => some (.fr (.bool (isA .bool d)))) [.s 0])) (fChI (fun i j => decide (i ≤ j)) (fun i j => decide (i ≤ j)) (.s 1) (.s 0) (.s 2))))
def M_is_between : Fn := fnM 3 3 [] b_is_between
def E1_is_arities : EF := fCall M_is_between [.v (fV 1), .v (fC (.int 0)), .v (fC (.int 2))]
def b_is_arities : SF := fSeq (fIfS (fOrT (fNot (fB (fOp (on1 fun d => some (.fr (.bool (isA .tuple d)))) [.s 0]))) (fNot (fB (fChI (fun i j => decide (i ≤ j)) (fun i j => decide (i ≤ j)) (.v (fC (.int 1))) (.v (fOp (on1 pLen) [.s 0])) (.v (fC (.int 6))))))) (fRet (fC (.bool false))) (fSkip))
  (fRet (fOp (on1 pAll) [.v (fLc (fSq (.v (fV 0))) [1] (.nm 1) (fYes) (E1_is_arities))]))
def M_is_arities : Fn := fnM 1 2 [] b_is_arities
def E1_is_node : EF := fCall M_is_between [.v (fV 3), .v (fC (.int 0)), .v (fOp (on2 pSub) [.s 2, .v (fC (.int 1))])]
def b_is_node : SF := fSeq (fIfS (fOrT (fNot (fB (fOp (on1 fun d => some (.fr (.bool (isA .tuple d)))) [.s 1]))) (fOrT (fB (fOp (on2 pEq) [.s 1, .v (fOv pTup [])])) (fNot (fB (fCall M_is_between [.v (fOp (on2 pIx) [.s 1, .v (fC (.int 0))]), .v (fC (.int 0)), .v (fOp (on2 pSub) [.v (fOp (on1 pLen) [.s 0]), .v (fC (.int 1))])]))))) (fRet (fC (.bool false))) (fSkip))
  (fSeq (fIfS (fB (fOp (on2 pNe) [.v (fOp (on1 pLen) [.s 1]), .v (fOp (on2 pAdd) [.v (fC (.int 1)), .v (fOp (on2 pIx) [.s 0, .v (fOp (on2 pIx) [.s 1, .v (fC (.int 0))])])])])) (fRet (fC (.bool false))) (fSkip))
  (fRet (fOp (on1 pAll) [.v (fLc (fSq (.v (fOp (on2 pSl2l) [.s 1, .v (fC (.int 1))]))) [3] (.nm 3) (fYes) (E1_is_node))])))
def M_is_node : Fn := fnM 3 4 [] b_is_node
def E1_is_written : EF := fCall M_is_node [.v (fV 0), .v (fV 3), .v (fV 2)]
def b_is_written : SF := fSeq (fIfS (fOrT (fNot (fB (fOp (on1 fun d => some (.fr (.bool (isA .tuple d)))) [.s 1]))) (fB (fOp (on2 pEq) [.s 1, .v (fOv pTup [])]))) (fRet (fC (.bool false))) (fSkip))
  (fRet (fOp (on1 pAll) [.v (fLc (fEn (.v (fV 1))) [2, 3] (.tu [2, 3]) (fYes) (E1_is_written))]))
def M_is_written : Fn := fnM 2 4 [] b_is_written
def E1_is_step : EF := fCall M_is_written [.v (fV 0), .v (fV 5)]
def b_is_step : SF := fSeq (fIfS (fOrT (fNot (fB (fOp (on1 fun d => some (.fr (.bool (isA .tuple d)))) [.s 1]))) (fOrT (fB (fOp (on2 pNe) [.v (fOp (on1 pLen) [.s 1]), .v (fC (.int 3))])) (fNot (fB (fCall M_is_between [.v (fOp (on2 pIx) [.s 1, .v (fC (.int 0))]), .v (fC (.int 0)), .v (fOp (on2 pSub) [.v (fOp (on1 pLen) [.s 0]), .v (fC (.int 1))])]))))) (fRet (fC (.bool false))) (fSkip))
  (fSeq (fAsT (.tu [2, 3, 4]) (fV 1))
  (fSeq (fIfS (fOrT (fNot (fB (fCall M_is_between [.v (fV 3), .v (fC (.int 0)), .v (fOp (on2 pSub) [.v (fOp (on2 pIx) [.s 0, .s 2]), .v (fC (.int 1))])]))) (fNot (fB (fOp (on1 fun d => some (.fr (.bool (isA .tuple d)))) [.s 4])))) (fRet (fC (.bool false))) (fSkip))
  (fRet (fAnd (fOp (on2 pEq) [.v (fOp (on1 pLen) [.s 4]), .v (fOp (on2 pSub) [.v (fOp (on2 pIx) [.s 0, .s 2]), .v (fC (.int 1))])]) (fOp (on1 pAll) [.v (fLc (fSq (.v (fV 4))) [5] (.nm 5) (fYes) (E1_is_step))])))))
def M_is_step : Fn := fnM 2 6 [] b_is_step
abbrev V_is_step (arities : Option O := none) (thing : Option O := none) (operator : Option O := none) (place : Option O := none) (siblings : Option O := none) (tree : Option O := none) : Dy.Env := [arities, thing, operator, place, siblings, tree]
def E1_has_hole : EF := fCall M_is_step [.v (fV 0), .v (fV 2)]
def b_has_hole : SF := fRet (fAnd (fOp (on1 fun d => some (.fr (.bool (isA .tuple d)))) [.s 1]) (fOp (on1 pAll) [.v (fLc (fSq (.v (fV 1))) [2] (.nm 2) (fYes) (E1_has_hole))]))
def M_has_hole : Fn := fnM 2 3 [] b_has_hole
abbrev V_has_hole (arities : Option O := none) (thing : Option O := none) (step : Option O := none) : Dy.Env := [arities, thing, step]
def E1__law_tree : EF := fV 6
def T1__law_tree : TF := fB (fOp (on2 pEq) [.s 9, .v (fC (.int 0))])
def E2__law_tree : EF := fIf (fB (fOp (on2 pEq) [.v (fCall M__law_draw [.s 0, .v (fC (.int 2))]), .v (fC (.int 0))])) (fV 7) (fCall M__law_draw [.s 0, .v (fOp (on1 pLen) [.s 4])])
def L1__law_tree : SF := fSeq (fSet 6 (fCall M__law_draw [.s 0, .v (fOp (on1 pLen) [.s 1])]))
  (fSeq (fSet 7 (fOp (on2 pSub) [.v (fOp (on1 pLen) [.s 4]), .v (fC (.int 1))]))
  (fSeq (fFz [8] (fSet 8 (fLc (fR1 (.v (fOp (on2 pIx) [.s 1, .s 6]))) [10] (.nm 10) (fYes) (E2__law_tree))))
  (fWp [5, 6, 7, 8] (fApp 4 (fOp (on2 pAdd) [.v (fOv pTup [.v (fV 6)]), .v (fOp (on1 pTuple) [.s 8])])))))
def b__law_tree : SF := fSeq (fFz [3] (fSet 3 (fLc (fEn (.v (fV 1))) [6, 9] (.tu [6, 9]) (T1__law_tree) (E1__law_tree))))
  (fSeq (fWp [3] (fSet 4 (fOv pLst [.v (fOv pTup [.v (fCall M__law_pick [.s 0, .v (fV 3)])])])))
  (fSeq (fWp [1, 2, 5, 6, 7, 8] (fForS (fR1 (.v (fCall M__law_draw [.s 0, .v (fV 2)]))) (.nm 5) (L1__law_tree)))
  (fRet (fOp (on1 pTuple) [.s 4]))))
def M__law_tree : Fn := fnM 3 11 [0] b__law_tree
abbrev V__law_tree (pen_here : Option O := none) (arities_here : Option O := none) (most : Option O := none) (leaves : Option O := none) (found : Option O := none) (turn : Option O := none) (operator : Option O := none) (last : Option O := none) (parts : Option O := none) (arity : Option O := none) (place : Option O := none) : Dy.Env := [pen_here, arities_here, most, leaves, found, turn, operator, last, parts, arity, place]
def E1__law_context : EF := fV 6
def T1__law_context : TF := fB (fOp (on2 (cmI (fun i j => decide (j < i)))) [.s 8, .v (fC (.int 0))])
def E2__law_context : EF := fCall M__law_tree [.s 0, .v (fV 1), .v (fC (.int 3))]
def L1__law_context : SF := fSeq (fSet 6 (fCall M__law_pick [.s 0, .v (fV 3)]))
  (fSeq (fSet 7 (fOp (on1 pTuple) [.v (fLc (fR1 (.v (fOp (on2 pSub) [.v (fOp (on2 pIx) [.s 1, .s 6]), .v (fC (.int 1))]))) [9] (.nm 9) (fYes) (E2__law_context))]))
  (fWp [5, 6, 7] (fApp 4 (fOv pTup [.v (fV 6), .v (fCall M__law_draw [.s 0, .v (fOp (on2 pIx) [.s 1, .s 6])]), .v (fV 7)]))))
def b__law_context : SF := fSeq (fFz [3] (fSet 3 (fLc (fEn (.v (fV 1))) [6, 8] (.tu [6, 8]) (T1__law_context) (E1__law_context))))
  (fSeq (fSet 4 (fOv pLst []))
  (fSeq (fWp [1, 2, 3, 5, 6, 7] (fForS (fR1 (.v (fIf (fB (fOp (on2 pNe) [.s 3, .v (fOv pLst [])])) (fCall M__law_draw [.s 0, .v (fOp (on2 pAdd) [.v (fC (.int 1)), .s 2])]) (fC (.int 0))))) (.nm 5) (L1__law_context)))
  (fRet (fOp (on1 pTuple) [.s 4]))))
def M__law_context : Fn := fnM 3 10 [0] b__law_context
abbrev V__law_context (pen_here : Option O := none) (arities_here : Option O := none) (most : Option O := none) (some_ : Option O := none) (found : Option O := none) (turn : Option O := none) (operator : Option O := none) (others : Option O := none) (arity : Option O := none) (place : Option O := none) : Dy.Env := [pen_here, arities_here, most, some_, found, turn, operator, others, arity, place]
end Q
namespace Q
open PySem Dy
open L2 (atI ixN)
/-- arities -/
structure ArOk (as : List Nat) : Prop where
  le2 : ∀ a ∈ as, a ≤ 2
  len : as.length ≤ 6
  pos : 0 < as.length
abbrev encA (as : List Nat) : PyData := .tuple (as.map dN)
theorem rkNs {as : List Nat} (h : ∀ a ∈ as, a < 1000000) : ∀ d ∈ as.map dN, Rk 0 1100 d := fun d hd => by
  obtain ⟨a, ha, rfl⟩ := List.mem_map.mp hd
  exact Rk.nat (Nat.lt_trans (h a ha) (by decide))
theorem between_ok {a lo hi : Int} : M_is_between [.fr (.int a), .fr (.int lo), .fr (.int hi)] = .ok (.fr (.bool (decide (lo ≤ a) && decide (a ≤ hi))), [.fr (.int a), .fr (.int lo), .fr (.int hi)]) := by
  by_cases h : lo ≤ a
  · simp [M_is_between, b_is_between, q_mulAI, q_mulAL, a_wb, q_divW, Function.comp_def, q_starI, q_starIT, a_wp, a_fz, a_fz0, a_fz1, a_ext, a_ins, a_insA, a_pop, a_parN, a_evO0, a_evO1, a_setO0, a_setO1, a_ix2, a_setII, a_zN, a_zC, a_lcO, d_oo, pEq_int, pNe_int, pIxL, pIxT, atI_nat, atI_0, atI_1, atI_2, atI_3, atI_m1, cutLo, cutHi, cutLo1, cutHi1, a_seq, a_ifS, a_B, a_op, a_ov, a_ev0, a_evv, a_evs, a_C, a_V, a_M, a_set, a_setI, a_app, a_ret, a_ex, a_skip, a_no, a_not, a_andT, a_orT, a_and, a_or, a_notV, a_if, a_par, a_call, a_forS, a_sq, a_r1, a_r2, a_en, a_zp, a_asT, a_chI, a_yes, a_lc, a_fn, okA, f_fr, bkA, rsvs, rsv, dvs, on1, on2, d_fr, d_ol, rsO, ndS, sl, putB, asT, setAll, ofO, Dy.ints1, Dy.ints2, nE, wipeE, unw, frO, q_addI, q_addL, q_addT, q_addS, q_sub, q_div, q_mod, q_pow, q_neg, q_cm, pIs, pIsn, q_isN, q_isI, q_isS, q_isT, q_isL, q_isB, q_lenL, q_lenT, pTup, pLst, q_tupL, q_tupT, q_lstL, q_lstT, q_revL, q_slL, q_slT, q_shL, q_shT, q_sqL, q_sqT, q_intI, q_max2, q_min2, q_aII, q_aBI, q_aTI, q_aTT, q_aLL, q_aTL, q_aIT, h]
  · simp [M_is_between, b_is_between, q_mulAI, q_mulAL, a_wb, q_divW, Function.comp_def, q_starI, q_starIT, a_wp, a_fz, a_fz0, a_fz1, a_ext, a_ins, a_insA, a_pop, a_parN, a_evO0, a_evO1, a_setO0, a_setO1, a_ix2, a_setII, a_zN, a_zC, a_lcO, d_oo, pEq_int, pNe_int, pIxL, pIxT, atI_nat, atI_0, atI_1, atI_2, atI_3, atI_m1, cutLo, cutHi, cutLo1, cutHi1, a_seq, a_ifS, a_B, a_op, a_ov, a_ev0, a_evv, a_evs, a_C, a_V, a_M, a_set, a_setI, a_app, a_ret, a_ex, a_skip, a_no, a_not, a_andT, a_orT, a_and, a_or, a_notV, a_if, a_par, a_call, a_forS, a_sq, a_r1, a_r2, a_en, a_zp, a_asT, a_chI, a_yes, a_lc, a_fn, okA, f_fr, bkA, rsvs, rsv, dvs, on1, on2, d_fr, d_ol, rsO, ndS, sl, putB, asT, setAll, ofO, Dy.ints1, Dy.ints2, nE, wipeE, unw, frO, q_addI, q_addL, q_addT, q_addS, q_sub, q_div, q_mod, q_pow, q_neg, q_cm, pIs, pIsn, q_isN, q_isI, q_isS, q_isT, q_isL, q_isB, q_lenL, q_lenT, pTup, pLst, q_tupL, q_tupT, q_lstL, q_lstT, q_revL, q_slL, q_slT, q_shL, q_shT, q_sqL, q_sqT, q_intI, q_max2, q_min2, q_aII, q_aBI, q_aTI, q_aTT, q_aLL, q_aTL, q_aIT, h]
theorem arities_ok {as : List Nat} (h : ArOk as) : M_is_arities [.fr (encA as)] = .ok (.fr (.bool true), [.fr (encA as)]) := by
  have h1 : (1 : Int) ≤ as.length := by have := h.pos; omega
  have h2 : (as.length : Int) ≤ 6 := by have := h.len; omega
  simp [M_is_arities, b_is_arities, q_mulAI, q_mulAL, a_wb, q_divW, Function.comp_def, q_starI, q_starIT, a_wp, a_fz, a_fz0, a_fz1, a_ext, a_ins, a_insA, a_pop, a_parN, a_evO0, a_evO1, a_setO0, a_setO1, a_ix2, a_setII, a_zN, a_zC, a_lcO, d_oo, pEq_int, pNe_int, pIxL, pIxT, atI_nat, atI_0, atI_1, atI_2, atI_3, atI_m1, cutLo, cutHi, cutLo1, cutHi1, a_seq, a_ifS, a_B, a_op, a_ov, a_ev0, a_evv, a_evs, a_C, a_V, a_M, a_set, a_setI, a_app, a_ret, a_ex, a_skip, a_no, a_not, a_andT, a_orT, a_and, a_or, a_notV, a_if, a_par, a_call, a_forS, a_sq, a_r1, a_r2, a_en, a_zp, a_asT, a_chI, a_yes, a_lc, a_fn, okA, f_fr, bkA, rsvs, rsv, dvs, on1, on2, d_fr, d_ol, rsO, ndS, sl, putB, asT, setAll, ofO, Dy.ints1, Dy.ints2, nE, wipeE, unw, frO, q_addI, q_addL, q_addT, q_addS, q_sub, q_div, q_mod, q_pow, q_neg, q_cm, pIs, pIsn, q_isN, q_isI, q_isS, q_isT, q_isL, q_isB, q_lenL, q_lenT, pTup, pLst, q_tupL, q_tupT, q_lstL, q_lstT, q_revL, q_slL, q_slT, q_shL, q_shT, q_sqL, q_sqT, q_intI, q_max2, q_min2, q_aII, q_aBI, q_aTI, q_aTT, q_aLL, q_aTL, q_aIT, h1, h2]
  rw [lc_tm dN (fun _ => .bool true) as rfl (fun a ha => ?_) (by have := h.len; omega)]
  · simp [q_mulAI, q_mulAL, a_wb, q_divW, Function.comp_def, q_starI, q_starIT, a_wp, a_fz, a_fz0, a_fz1, a_ext, a_ins, a_insA, a_pop, a_parN, a_evO0, a_evO1, a_setO0, a_setO1, a_ix2, a_setII, a_zN, a_zC, a_lcO, d_oo, pEq_int, pNe_int, pIxL, pIxT, atI_nat, atI_0, atI_1, atI_2, atI_3, atI_m1, cutLo, cutHi, cutLo1, cutHi1, a_seq, a_ifS, a_B, a_op, a_ov, a_ev0, a_evv, a_evs, a_C, a_V, a_M, a_set, a_setI, a_app, a_ret, a_ex, a_skip, a_no, a_not, a_andT, a_orT, a_and, a_or, a_notV, a_if, a_par, a_call, a_forS, a_sq, a_r1, a_r2, a_en, a_zp, a_asT, a_chI, a_yes, a_lc, a_fn, okA, f_fr, bkA, rsvs, rsv, dvs, on1, on2, d_fr, d_ol, rsO, ndS, sl, putB, asT, setAll, ofO, Dy.ints1, Dy.ints2, nE, wipeE, unw, frO, q_addI, q_addL, q_addT, q_addS, q_sub, q_div, q_mod, q_pow, q_neg, q_cm, pIs, pIsn, q_isN, q_isI, q_isS, q_isT, q_isL, q_isB, q_lenL, q_lenT, pTup, pLst, q_tupL, q_tupT, q_lstL, q_lstT, q_revL, q_slL, q_slT, q_shL, q_shT, q_sqL, q_sqT, q_intI, q_max2, q_min2, q_aII, q_aBI, q_aTI, q_aTT, q_aLL, q_aTL, q_aIT, pAll_true]
  · have := h.le2 a ha
    simp [E1_is_arities, q_mulAI, q_mulAL, a_wb, q_divW, Function.comp_def, q_starI, q_starIT, a_wp, a_fz, a_fz0, a_fz1, a_ext, a_ins, a_insA, a_pop, a_parN, a_evO0, a_evO1, a_setO0, a_setO1, a_ix2, a_setII, a_zN, a_zC, a_lcO, d_oo, pEq_int, pNe_int, pIxL, pIxT, atI_nat, atI_0, atI_1, atI_2, atI_3, atI_m1, cutLo, cutHi, cutLo1, cutHi1, a_seq, a_ifS, a_B, a_op, a_ov, a_ev0, a_evv, a_evs, a_C, a_V, a_M, a_set, a_setI, a_app, a_ret, a_ex, a_skip, a_no, a_not, a_andT, a_orT, a_and, a_or, a_notV, a_if, a_par, a_call, a_forS, a_sq, a_r1, a_r2, a_en, a_zp, a_asT, a_chI, a_yes, a_lc, a_fn, okA, f_fr, bkA, rsvs, rsv, dvs, on1, on2, d_fr, d_ol, rsO, ndS, sl, putB, asT, setAll, ofO, Dy.ints1, Dy.ints2, nE, wipeE, unw, frO, q_addI, q_addL, q_addT, q_addS, q_sub, q_div, q_mod, q_pow, q_neg, q_cm, pIs, pIsn, q_isN, q_isI, q_isS, q_isT, q_isL, q_isB, q_lenL, q_lenT, pTup, pLst, q_tupL, q_tupT, q_lstL, q_lstT, q_revL, q_slL, q_slT, q_shL, q_shT, q_sqL, q_sqT, q_intI, q_max2, q_min2, q_aII, q_aBI, q_aTI, q_aTT, q_aLL, q_aTL, q_aIT, between_ok]; omega
abbrev Nd := Nat × List Nat
abbrev encN (n : Nd) : PyData := .tuple (dN n.1 :: n.2.map dN)
abbrev encT (t : List Nd) : PyData := .tuple (t.map encN)
def NdOk (as : List Nat) (k : Nat) (n : Nd) : Prop := as[n.1]? = some n.2.length ∧ ∀ p ∈ n.2, p < k
def WF (as : List Nat) (t : List Nd) : Prop := ∀ k n, t[k]? = some n → NdOk as k n
structure TrOk (as : List Nat) (t : List Nd) : Prop where
  wf : WF as t
  ne : t ≠ []
  len : t.length ≤ 1000
theorem NdOk.mono {as : List Nat} {k l : Nat} {n : Nd} (h : NdOk as k n) (hl : k ≤ l) : NdOk as l n := ⟨h.1, fun p hp => Nat.lt_of_lt_of_le (h.2 p hp) hl⟩
theorem NdOk.le2 {as : List Nat} {k : Nat} {n : Nd} (ha : ArOk as) (h : NdOk as k n) : n.2.length ≤ 2 := ha.le2 _ (List.mem_of_getElem? h.1)
theorem NdOk.lt6 {as : List Nat} {k : Nat} {n : Nd} (ha : ArOk as) (h : NdOk as k n) : n.1 < as.length := lt_of_get h.1
theorem WF.nil {as : List Nat} : WF as [] := fun k n h => by simp at h
theorem WF.snoc {as : List Nat} {t : List Nd} {n : Nd} (h : WF as t) (hn : NdOk as t.length n) : WF as (t ++ [n]) := by
  intro k m hk
  by_cases h1 : k < t.length
  · rw [List.getElem?_append_left h1] at hk; exact h k m hk
  · have h2 := lt_of_get hk
    have : k = t.length := by simp at h2; omega
    subst this
    simp at hk; subst hk; exact hn
theorem WF.pre {as : List Nat} {t u : List Nd} (h : WF as (t ++ u)) : WF as t := fun k n hk => h k n (by rw [List.getElem?_append_left (lt_of_get hk)]; exact hk)
theorem WF.mem {as : List Nat} {t : List Nd} {n : Nd} (h : WF as t) (hn : n ∈ t) : NdOk as t.length n := by
  obtain ⟨k, hk⟩ := List.getElem?_of_mem hn
  exact (h k n hk).mono (Nat.le_of_lt (lt_of_get hk))
theorem rkN {as : List Nat} {k : Nat} {n : Nd} (ha : ArOk as) (h : NdOk as k n) (hk : k ≤ 100000) : Rk 1 4000 (encN n) := by
  refine (Rk.tup (n := 0) (w := 1100) (fun d hd => ?_)).mono (Nat.le_refl _) ?_
  · rcases List.mem_cons.mp hd with rfl | hd
    · have := h.lt6 ha; have := ha.len; exact Rk.nat (Nat.lt_trans (show n.1 < 1000000 by omega) (by decide))
    · exact rkNs (fun a hp => by have := h.2 a hp; omega) d hd
  · have := h.le2 ha; simp; omega
theorem rkT {as : List Nat} {t : List Nd} (ha : ArOk as) (h : WF as t) (hl : t.length ≤ 1000) : Rk 2 4100000 (encT t) := by
  refine (Rk.tup (n := 1) (w := 4000) (fun d hd => ?_)).mono (Nat.le_refl _) ?_
  · obtain ⟨n, hn, rfl⟩ := List.mem_map.mp hd
    exact rkN ha (h.mem hn) (by omega)
  · simp; omega
theorem node_ok {as : List Nat} {n : Nd} {k : Nat} (ha : ArOk as) (h : NdOk as k n) (hk : k ≤ 100000) : M_is_node [.fr (encA as), .fr (encN n), .fr (dN k)] = .ok (.fr (.bool true), [.fr (encA as), .fr (encN n), .fr (dN k)]) := by
  have s := pEq_T0 ((rkN ha h hk).shp (by decide))
  have h1 := h.lt6 ha
  have c1 : (n.1 : Int) ≤ as.length - 1 := by omega
  have c2 : ((n.2.length : Int) + 1 = 1 + n.2.length) = True := eq_true (by omega)
  simp [M_is_node, b_is_node, q_mulAI, q_mulAL, a_wb, q_divW, Function.comp_def, q_starI, q_starIT, a_wp, a_fz, a_fz0, a_fz1, a_ext, a_ins, a_insA, a_pop, a_parN, a_evO0, a_evO1, a_setO0, a_setO1, a_ix2, a_setII, a_zN, a_zC, a_lcO, d_oo, pEq_int, pNe_int, pIxL, pIxT, atI_nat, atI_0, atI_1, atI_2, atI_3, atI_m1, cutLo, cutHi, cutLo1, cutHi1, a_seq, a_ifS, a_B, a_op, a_ov, a_ev0, a_evv, a_evs, a_C, a_V, a_M, a_set, a_setI, a_app, a_ret, a_ex, a_skip, a_no, a_not, a_andT, a_orT, a_and, a_or, a_notV, a_if, a_par, a_call, a_forS, a_sq, a_r1, a_r2, a_en, a_zp, a_asT, a_chI, a_yes, a_lc, a_fn, okA, f_fr, bkA, rsvs, rsv, dvs, on1, on2, d_fr, d_ol, rsO, ndS, sl, putB, asT, setAll, ofO, Dy.ints1, Dy.ints2, nE, wipeE, unw, frO, q_addI, q_addL, q_addT, q_addS, q_sub, q_div, q_mod, q_pow, q_neg, q_cm, pIs, pIsn, q_isN, q_isI, q_isS, q_isT, q_isL, q_isB, q_lenL, q_lenT, pTup, pLst, q_tupL, q_tupT, q_lstL, q_lstT, q_revL, q_slL, q_slT, q_shL, q_shT, q_sqL, q_sqT, q_intI, q_max2, q_min2, q_aII, q_aBI, q_aTI, q_aTT, q_aLL, q_aTL, q_aIT, s, between_ok, c1, h.1, c2]
  rw [lc_tm dN (fun _ => .bool true) n.2 rfl (fun p hp => ?_) (by have := h.le2 ha; omega)]
  · simp [q_mulAI, q_mulAL, a_wb, q_divW, Function.comp_def, q_starI, q_starIT, a_wp, a_fz, a_fz0, a_fz1, a_ext, a_ins, a_insA, a_pop, a_parN, a_evO0, a_evO1, a_setO0, a_setO1, a_ix2, a_setII, a_zN, a_zC, a_lcO, d_oo, pEq_int, pNe_int, pIxL, pIxT, atI_nat, atI_0, atI_1, atI_2, atI_3, atI_m1, cutLo, cutHi, cutLo1, cutHi1, a_seq, a_ifS, a_B, a_op, a_ov, a_ev0, a_evv, a_evs, a_C, a_V, a_M, a_set, a_setI, a_app, a_ret, a_ex, a_skip, a_no, a_not, a_andT, a_orT, a_and, a_or, a_notV, a_if, a_par, a_call, a_forS, a_sq, a_r1, a_r2, a_en, a_zp, a_asT, a_chI, a_yes, a_lc, a_fn, okA, f_fr, bkA, rsvs, rsv, dvs, on1, on2, d_fr, d_ol, rsO, ndS, sl, putB, asT, setAll, ofO, Dy.ints1, Dy.ints2, nE, wipeE, unw, frO, q_addI, q_addL, q_addT, q_addS, q_sub, q_div, q_mod, q_pow, q_neg, q_cm, pIs, pIsn, q_isN, q_isI, q_isS, q_isT, q_isL, q_isB, q_lenL, q_lenT, pTup, pLst, q_tupL, q_tupT, q_lstL, q_lstT, q_revL, q_slL, q_slT, q_shL, q_shT, q_sqL, q_sqT, q_intI, q_max2, q_min2, q_aII, q_aBI, q_aTI, q_aTT, q_aLL, q_aTL, q_aIT, pAll_true]
  · have := h.2 p hp
    simp [E1_is_node, q_mulAI, q_mulAL, a_wb, q_divW, Function.comp_def, q_starI, q_starIT, a_wp, a_fz, a_fz0, a_fz1, a_ext, a_ins, a_insA, a_pop, a_parN, a_evO0, a_evO1, a_setO0, a_setO1, a_ix2, a_setII, a_zN, a_zC, a_lcO, d_oo, pEq_int, pNe_int, pIxL, pIxT, atI_nat, atI_0, atI_1, atI_2, atI_3, atI_m1, cutLo, cutHi, cutLo1, cutHi1, a_seq, a_ifS, a_B, a_op, a_ov, a_ev0, a_evv, a_evs, a_C, a_V, a_M, a_set, a_setI, a_app, a_ret, a_ex, a_skip, a_no, a_not, a_andT, a_orT, a_and, a_or, a_notV, a_if, a_par, a_call, a_forS, a_sq, a_r1, a_r2, a_en, a_zp, a_asT, a_chI, a_yes, a_lc, a_fn, okA, f_fr, bkA, rsvs, rsv, dvs, on1, on2, d_fr, d_ol, rsO, ndS, sl, putB, asT, setAll, ofO, Dy.ints1, Dy.ints2, nE, wipeE, unw, frO, q_addI, q_addL, q_addT, q_addS, q_sub, q_div, q_mod, q_pow, q_neg, q_cm, pIs, pIsn, q_isN, q_isI, q_isS, q_isT, q_isL, q_isB, q_lenL, q_lenT, pTup, pLst, q_tupL, q_tupT, q_lstL, q_lstT, q_revL, q_slL, q_slT, q_shL, q_shT, q_sqL, q_sqT, q_intI, q_max2, q_min2, q_aII, q_aBI, q_aTI, q_aTT, q_aLL, q_aTL, q_aIT, between_ok]; omega
theorem written_ok {as : List Nat} {t : List Nd} (ha : ArOk as) (h : TrOk as t) : M_is_written [.fr (encA as), .fr (encT t)] = .ok (.fr (.bool true), [.fr (encA as), .fr (encT t)]) := by
  have s := pEq_T0 ((rkT ha h.wf h.len).shp (by decide))
  have h0 := h.ne
  simp [M_is_written, b_is_written, q_mulAI, q_mulAL, a_wb, q_divW, Function.comp_def, q_starI, q_starIT, a_wp, a_fz, a_fz0, a_fz1, a_ext, a_ins, a_insA, a_pop, a_parN, a_evO0, a_evO1, a_setO0, a_setO1, a_ix2, a_setII, a_zN, a_zC, a_lcO, d_oo, pEq_int, pNe_int, pIxL, pIxT, atI_nat, atI_0, atI_1, atI_2, atI_3, atI_m1, cutLo, cutHi, cutLo1, cutHi1, a_seq, a_ifS, a_B, a_op, a_ov, a_ev0, a_evv, a_evs, a_C, a_V, a_M, a_set, a_setI, a_app, a_ret, a_ex, a_skip, a_no, a_not, a_andT, a_orT, a_and, a_or, a_notV, a_if, a_par, a_call, a_forS, a_sq, a_r1, a_r2, a_en, a_zp, a_asT, a_chI, a_yes, a_lc, a_fn, okA, f_fr, bkA, rsvs, rsv, dvs, on1, on2, d_fr, d_ol, rsO, ndS, sl, putB, asT, setAll, ofO, Dy.ints1, Dy.ints2, nE, wipeE, unw, frO, q_addI, q_addL, q_addT, q_addS, q_sub, q_div, q_mod, q_pow, q_neg, q_cm, pIs, pIsn, q_isN, q_isI, q_isS, q_isT, q_isL, q_isB, q_lenL, q_lenT, pTup, pLst, q_tupL, q_tupT, q_lstL, q_lstT, q_revL, q_slL, q_slT, q_shL, q_shT, q_sqL, q_sqT, q_intI, q_max2, q_min2, q_aII, q_aBI, q_aTI, q_aTT, q_aLL, q_aTL, q_aIT, s, h0, enumD_ens]
  rw [lc_tm (fun p : Nat × Nd => .tuple [.int (p.1 : Int), encN p.2]) (fun _ => .bool true) (ens t) rfl (fun p hp => ?_) (by rw [ens_len]; have := h.len; omega)]
  · simp [q_mulAI, q_mulAL, a_wb, q_divW, Function.comp_def, q_starI, q_starIT, a_wp, a_fz, a_fz0, a_fz1, a_ext, a_ins, a_insA, a_pop, a_parN, a_evO0, a_evO1, a_setO0, a_setO1, a_ix2, a_setII, a_zN, a_zC, a_lcO, d_oo, pEq_int, pNe_int, pIxL, pIxT, atI_nat, atI_0, atI_1, atI_2, atI_3, atI_m1, cutLo, cutHi, cutLo1, cutHi1, a_seq, a_ifS, a_B, a_op, a_ov, a_ev0, a_evv, a_evs, a_C, a_V, a_M, a_set, a_setI, a_app, a_ret, a_ex, a_skip, a_no, a_not, a_andT, a_orT, a_and, a_or, a_notV, a_if, a_par, a_call, a_forS, a_sq, a_r1, a_r2, a_en, a_zp, a_asT, a_chI, a_yes, a_lc, a_fn, okA, f_fr, bkA, rsvs, rsv, dvs, on1, on2, d_fr, d_ol, rsO, ndS, sl, putB, asT, setAll, ofO, Dy.ints1, Dy.ints2, nE, wipeE, unw, frO, q_addI, q_addL, q_addT, q_addS, q_sub, q_div, q_mod, q_pow, q_neg, q_cm, pIs, pIsn, q_isN, q_isI, q_isS, q_isT, q_isL, q_isB, q_lenL, q_lenT, pTup, pLst, q_tupL, q_tupT, q_lstL, q_lstT, q_revL, q_slL, q_slT, q_shL, q_shT, q_sqL, q_sqT, q_intI, q_max2, q_min2, q_aII, q_aBI, q_aTI, q_aTT, q_aLL, q_aTL, q_aIT, pAll_true]
  · have hp := ens_mem hp
    have := lt_of_get hp
    have e := node_ok ha (h.wf p.1 p.2 hp) (by have := h.len; omega)
    simp [E1_is_written, q_mulAI, q_mulAL, a_wb, q_divW, Function.comp_def, q_starI, q_starIT, a_wp, a_fz, a_fz0, a_fz1, a_ext, a_ins, a_insA, a_pop, a_parN, a_evO0, a_evO1, a_setO0, a_setO1, a_ix2, a_setII, a_zN, a_zC, a_lcO, d_oo, pEq_int, pNe_int, pIxL, pIxT, atI_nat, atI_0, atI_1, atI_2, atI_3, atI_m1, cutLo, cutHi, cutLo1, cutHi1, a_seq, a_ifS, a_B, a_op, a_ov, a_ev0, a_evv, a_evs, a_C, a_V, a_M, a_set, a_setI, a_app, a_ret, a_ex, a_skip, a_no, a_not, a_andT, a_orT, a_and, a_or, a_notV, a_if, a_par, a_call, a_forS, a_sq, a_r1, a_r2, a_en, a_zp, a_asT, a_chI, a_yes, a_lc, a_fn, okA, f_fr, bkA, rsvs, rsv, dvs, on1, on2, d_fr, d_ol, rsO, ndS, sl, putB, asT, setAll, ofO, Dy.ints1, Dy.ints2, nE, wipeE, unw, frO, q_addI, q_addL, q_addT, q_addS, q_sub, q_div, q_mod, q_pow, q_neg, q_cm, pIs, pIsn, q_isN, q_isI, q_isS, q_isT, q_isL, q_isB, q_lenL, q_lenT, pTup, pLst, q_tupL, q_tupT, q_lstL, q_lstT, q_revL, q_slL, q_slT, q_shL, q_shT, q_sqL, q_sqT, q_intI, q_max2, q_min2, q_aII, q_aBI, q_aTI, q_aTT, q_aLL, q_aTL, q_aIT, e]
end Q
namespace Q
open PySem Dy
open L2 (atI ixN)
section
variable {β : Type} (f : Nat → List β → β) (d : β)
theorem getD_app {a b : List β} {k : Nat} (h : k < a.length) : (a ++ b).getD k d = a.getD k d := by
  simp [List.getD_eq_getElem?_getD, List.getElem?_append_left h]
end
structure Leg where
  op : Nat
  pl : Nat
  sib : List (List Nd)
abbrev encL (s : Leg) : PyData := .tuple [dN s.op, dN s.pl, .tuple (s.sib.map encT)]
abbrev encC (c : List Leg) : PyData := .tuple (c.map encL)
structure LegOk (as : List Nat) (s : Leg) : Prop where
  ar : as[s.op]? = some (s.sib.length + 1)
  pl : s.pl ≤ s.sib.length
  sib : ∀ t ∈ s.sib, TrOk as t ∧ t.length ≤ 100
structure CxOk (as : List Nat) (c : List Leg) : Prop where
  leg : ∀ s ∈ c, LegOk as s
  len : c.length ≤ 6
theorem LegOk.le {as : List Nat} {s : Leg} (ha : ArOk as) (h : LegOk as s) : s.sib.length ≤ 1 := by have := ha.le2 _ (List.mem_of_getElem? h.ar); omega
theorem step_ok {as : List Nat} {s : Leg} (ha : ArOk as) (h : LegOk as s) : M_is_step [.fr (encA as), .fr (encL s)] = .ok (.fr (.bool true), [.fr (encA as), .fr (encL s)]) := by
  have h1 := lt_of_get h.ar
  have c1 : (s.op : Int) ≤ as.length - 1 := by omega
  have c2 := h.pl
  have c3 : (s.sib.length : Int) = (s.sib.length : Int) + 1 - 1 := by omega
  have c4 : (s.pl : Int) ≤ (s.sib.length : Int) + 1 - 1 := by omega
  have c5 : ¬ s.sib.length < s.pl := by omega
  simp [M_is_step, b_is_step, q_mulAI, q_mulAL, a_wb, q_divW, Function.comp_def, q_starI, q_starIT, a_wp, a_fz, a_fz0, a_fz1, a_ext, a_ins, a_insA, a_pop, a_parN, a_evO0, a_evO1, a_setO0, a_setO1, a_ix2, a_setII, a_zN, a_zC, a_lcO, d_oo, pEq_int, pNe_int, pIxL, pIxT, atI_nat, atI_0, atI_1, atI_2, atI_3, atI_m1, cutLo, cutHi, cutLo1, cutHi1, a_seq, a_ifS, a_B, a_op, a_ov, a_ev0, a_evv, a_evs, a_C, a_V, a_M, a_set, a_setI, a_app, a_ret, a_ex, a_skip, a_no, a_not, a_andT, a_orT, a_and, a_or, a_notV, a_if, a_par, a_call, a_forS, a_sq, a_r1, a_r2, a_en, a_zp, a_asT, a_chI, a_yes, a_lc, a_fn, okA, f_fr, bkA, rsvs, rsv, dvs, on1, on2, d_fr, d_ol, rsO, ndS, sl, putB, asT, setAll, ofO, Dy.ints1, Dy.ints2, nE, wipeE, unw, frO, q_addI, q_addL, q_addT, q_addS, q_sub, q_div, q_mod, q_pow, q_neg, q_cm, pIs, pIsn, q_isN, q_isI, q_isS, q_isT, q_isL, q_isB, q_lenL, q_lenT, pTup, pLst, q_tupL, q_tupT, q_lstL, q_lstT, q_revL, q_slL, q_slT, q_shL, q_shT, q_sqL, q_sqT, q_intI, q_max2, q_min2, q_aII, q_aBI, q_aTI, q_aTT, q_aLL, q_aTL, q_aIT, between_ok, c1, h.ar, c4, c5, ← c3]
  rw [lc_tm encT (fun _ => .bool true) s.sib rfl (fun t ht => ?_) (by have := h.le ha; omega)]
  · simp [q_mulAI, q_mulAL, a_wb, q_divW, Function.comp_def, q_starI, q_starIT, a_wp, a_fz, a_fz0, a_fz1, a_ext, a_ins, a_insA, a_pop, a_parN, a_evO0, a_evO1, a_setO0, a_setO1, a_ix2, a_setII, a_zN, a_zC, a_lcO, d_oo, pEq_int, pNe_int, pIxL, pIxT, atI_nat, atI_0, atI_1, atI_2, atI_3, atI_m1, cutLo, cutHi, cutLo1, cutHi1, a_seq, a_ifS, a_B, a_op, a_ov, a_ev0, a_evv, a_evs, a_C, a_V, a_M, a_set, a_setI, a_app, a_ret, a_ex, a_skip, a_no, a_not, a_andT, a_orT, a_and, a_or, a_notV, a_if, a_par, a_call, a_forS, a_sq, a_r1, a_r2, a_en, a_zp, a_asT, a_chI, a_yes, a_lc, a_fn, okA, f_fr, bkA, rsvs, rsv, dvs, on1, on2, d_fr, d_ol, rsO, ndS, sl, putB, asT, setAll, ofO, Dy.ints1, Dy.ints2, nE, wipeE, unw, frO, q_addI, q_addL, q_addT, q_addS, q_sub, q_div, q_mod, q_pow, q_neg, q_cm, pIs, pIsn, q_isN, q_isI, q_isS, q_isT, q_isL, q_isB, q_lenL, q_lenT, pTup, pLst, q_tupL, q_tupT, q_lstL, q_lstT, q_revL, q_slL, q_slT, q_shL, q_shT, q_sqL, q_sqT, q_intI, q_max2, q_min2, q_aII, q_aBI, q_aTI, q_aTT, q_aLL, q_aTL, q_aIT, pAll_true]
  · simp [E1_is_step, q_mulAI, q_mulAL, a_wb, q_divW, Function.comp_def, q_starI, q_starIT, a_wp, a_fz, a_fz0, a_fz1, a_ext, a_ins, a_insA, a_pop, a_parN, a_evO0, a_evO1, a_setO0, a_setO1, a_ix2, a_setII, a_zN, a_zC, a_lcO, d_oo, pEq_int, pNe_int, pIxL, pIxT, atI_nat, atI_0, atI_1, atI_2, atI_3, atI_m1, cutLo, cutHi, cutLo1, cutHi1, a_seq, a_ifS, a_B, a_op, a_ov, a_ev0, a_evv, a_evs, a_C, a_V, a_M, a_set, a_setI, a_app, a_ret, a_ex, a_skip, a_no, a_not, a_andT, a_orT, a_and, a_or, a_notV, a_if, a_par, a_call, a_forS, a_sq, a_r1, a_r2, a_en, a_zp, a_asT, a_chI, a_yes, a_lc, a_fn, okA, f_fr, bkA, rsvs, rsv, dvs, on1, on2, d_fr, d_ol, rsO, ndS, sl, putB, asT, setAll, ofO, Dy.ints1, Dy.ints2, nE, wipeE, unw, frO, q_addI, q_addL, q_addT, q_addS, q_sub, q_div, q_mod, q_pow, q_neg, q_cm, pIs, pIsn, q_isN, q_isI, q_isS, q_isT, q_isL, q_isB, q_lenL, q_lenT, pTup, pLst, q_tupL, q_tupT, q_lstL, q_lstT, q_revL, q_slL, q_slT, q_shL, q_shT, q_sqL, q_sqT, q_intI, q_max2, q_min2, q_aII, q_aBI, q_aTI, q_aTT, q_aLL, q_aTL, q_aIT, written_ok ha (h.sib t ht).1]
theorem hole_ok {as : List Nat} {c : List Leg} (ha : ArOk as) (h : CxOk as c) : M_has_hole [.fr (encA as), .fr (encC c)] = .ok (.fr (.bool true), [.fr (encA as), .fr (encC c)]) := by
  simp [M_has_hole, b_has_hole, q_mulAI, q_mulAL, a_wb, q_divW, Function.comp_def, q_starI, q_starIT, a_wp, a_fz, a_fz0, a_fz1, a_ext, a_ins, a_insA, a_pop, a_parN, a_evO0, a_evO1, a_setO0, a_setO1, a_ix2, a_setII, a_zN, a_zC, a_lcO, d_oo, pEq_int, pNe_int, pIxL, pIxT, atI_nat, atI_0, atI_1, atI_2, atI_3, atI_m1, cutLo, cutHi, cutLo1, cutHi1, a_seq, a_ifS, a_B, a_op, a_ov, a_ev0, a_evv, a_evs, a_C, a_V, a_M, a_set, a_setI, a_app, a_ret, a_ex, a_skip, a_no, a_not, a_andT, a_orT, a_and, a_or, a_notV, a_if, a_par, a_call, a_forS, a_sq, a_r1, a_r2, a_en, a_zp, a_asT, a_chI, a_yes, a_lc, a_fn, okA, f_fr, bkA, rsvs, rsv, dvs, on1, on2, d_fr, d_ol, rsO, ndS, sl, putB, asT, setAll, ofO, Dy.ints1, Dy.ints2, nE, wipeE, unw, frO, q_addI, q_addL, q_addT, q_addS, q_sub, q_div, q_mod, q_pow, q_neg, q_cm, pIs, pIsn, q_isN, q_isI, q_isS, q_isT, q_isL, q_isB, q_lenL, q_lenT, pTup, pLst, q_tupL, q_tupT, q_lstL, q_lstT, q_revL, q_slL, q_slT, q_shL, q_shT, q_sqL, q_sqT, q_intI, q_max2, q_min2, q_aII, q_aBI, q_aTI, q_aTT, q_aLL, q_aTL, q_aIT]
  rw [lc_tm encL (fun _ => .bool true) c rfl (fun s hs => ?_) (by have := h.len; omega)]
  · simp [q_mulAI, q_mulAL, a_wb, q_divW, Function.comp_def, q_starI, q_starIT, a_wp, a_fz, a_fz0, a_fz1, a_ext, a_ins, a_insA, a_pop, a_parN, a_evO0, a_evO1, a_setO0, a_setO1, a_ix2, a_setII, a_zN, a_zC, a_lcO, d_oo, pEq_int, pNe_int, pIxL, pIxT, atI_nat, atI_0, atI_1, atI_2, atI_3, atI_m1, cutLo, cutHi, cutLo1, cutHi1, a_seq, a_ifS, a_B, a_op, a_ov, a_ev0, a_evv, a_evs, a_C, a_V, a_M, a_set, a_setI, a_app, a_ret, a_ex, a_skip, a_no, a_not, a_andT, a_orT, a_and, a_or, a_notV, a_if, a_par, a_call, a_forS, a_sq, a_r1, a_r2, a_en, a_zp, a_asT, a_chI, a_yes, a_lc, a_fn, okA, f_fr, bkA, rsvs, rsv, dvs, on1, on2, d_fr, d_ol, rsO, ndS, sl, putB, asT, setAll, ofO, Dy.ints1, Dy.ints2, nE, wipeE, unw, frO, q_addI, q_addL, q_addT, q_addS, q_sub, q_div, q_mod, q_pow, q_neg, q_cm, pIs, pIsn, q_isN, q_isI, q_isS, q_isT, q_isL, q_isB, q_lenL, q_lenT, pTup, pLst, q_tupL, q_tupT, q_lstL, q_lstT, q_revL, q_slL, q_slT, q_shL, q_shT, q_sqL, q_sqT, q_intI, q_max2, q_min2, q_aII, q_aBI, q_aTI, q_aTT, q_aLL, q_aTL, q_aIT, pAll_true]
  · simp [E1_has_hole, q_mulAI, q_mulAL, a_wb, q_divW, Function.comp_def, q_starI, q_starIT, a_wp, a_fz, a_fz0, a_fz1, a_ext, a_ins, a_insA, a_pop, a_parN, a_evO0, a_evO1, a_setO0, a_setO1, a_ix2, a_setII, a_zN, a_zC, a_lcO, d_oo, pEq_int, pNe_int, pIxL, pIxT, atI_nat, atI_0, atI_1, atI_2, atI_3, atI_m1, cutLo, cutHi, cutLo1, cutHi1, a_seq, a_ifS, a_B, a_op, a_ov, a_ev0, a_evv, a_evs, a_C, a_V, a_M, a_set, a_setI, a_app, a_ret, a_ex, a_skip, a_no, a_not, a_andT, a_orT, a_and, a_or, a_notV, a_if, a_par, a_call, a_forS, a_sq, a_r1, a_r2, a_en, a_zp, a_asT, a_chI, a_yes, a_lc, a_fn, okA, f_fr, bkA, rsvs, rsv, dvs, on1, on2, d_fr, d_ol, rsO, ndS, sl, putB, asT, setAll, ofO, Dy.ints1, Dy.ints2, nE, wipeE, unw, frO, q_addI, q_addL, q_addT, q_addS, q_sub, q_div, q_mod, q_pow, q_neg, q_cm, pIs, pIsn, q_isN, q_isI, q_isS, q_isT, q_isL, q_isB, q_lenL, q_lenT, pTup, pLst, q_tupL, q_tupT, q_lstL, q_lstT, q_revL, q_slL, q_slT, q_shL, q_shT, q_sqL, q_sqT, q_intI, q_max2, q_min2, q_aII, q_aBI, q_aTI, q_aTT, q_aLL, q_aTL, q_aIT, step_ok ha (h.leg s hs)]
end Q
namespace Q
open PySem Dy
end Q
namespace Q
open PySem Dy
open L2 (atI ixN)
section
variable (env : Dy.Env) (i : Nat) (f : EF) (y : AF) (as : List AF) (es : List (PyData × PyData)) (k d : PyData)
abbrev od (es : List (PyData × PyData)) : Option O := some (.od es)
end
section
variable {κ β : Type} [DecidableEq κ]
def lk (ks : List (κ × β)) (k : κ) : Option β := (ks.find? fun e => decide (e.1 = k)).map (·.2)
variable {f : κ → PyData} {g : β → PyData}
end
end Q
namespace Q
open PySem Dy
open L2 (atI ixN)
abbrev Pr := Option Nat
def lessP : Pr → Pr → Pr
  | none, b => b
  | a, none => a
  | some a, some b => some (min a b)
def sumP (xs : List Pr) : Pr := if none ∈ xs then none else some ((xs.map (·.getD 0)).sum)
structure Ins where
  form : Nat
  op : Nat
  args : List Nat
  pr : Nat
structure Con where
  a : Nat
  b : Nat
  pr : Nat
structure Mach where
  ar : List Nat
  fs : Nat
  ins : List Ins
  con : List Con
abbrev Mat := List (List Pr)
def getM (w : Mat) (i j : Nat) : Pr := (w.getD i []).getD j none
def setM (w : Mat) (i j : Nat) (v : Pr) : Mat := w.set i ((w.getD i []).set j v)
def Sq (n : Nat) (w : Mat) : Prop := w.length = n ∧ ∀ r ∈ w, r.length = n
theorem getD_mem {α : Type} {xs : List α} {k : Nat} {d : α} (h : k < xs.length) : xs[k]? = some (xs.getD k d) := by
  rw [List.getD_eq_getElem?_getD, List.getElem?_eq_getElem h]; rfl
theorem Sq.row {n : Nat} {w : Mat} (h : Sq n w) {i : Nat} (hi : i < n) : w[i]? = some (w.getD i []) ∧ (w.getD i []).length = n := by
  have e := getD_mem (xs := w) (d := []) (show i < w.length by rw [h.1]; exact hi)
  exact ⟨e, h.2 _ (List.mem_of_getElem? e)⟩
theorem Sq.at {n : Nat} {w : Mat} (h : Sq n w) {i j : Nat} (hi : i < n) (hj : j < n) : (w.getD i [])[j]? = some (getM w i j) :=
  getD_mem (by rw [(h.row hi).2]; exact hj)
theorem Sq.set {n : Nat} {w : Mat} (h : Sq n w) {i j : Nat} {v : Pr} (hi : i < n) : Sq n (setM w i j v) := by
  refine ⟨by simp [setM, h.1], fun r hr => ?_⟩
  unfold setM at hr
  rcases List.mem_or_eq_of_mem_set hr with z | z
  · exact h.2 r z
  · subst z; rw [List.length_set]; exact (h.row hi).2
theorem Sq.rw {n : Nat} {w : Mat} (h : Sq n w) {i : Nat} (hi : i < n) : ∃ r : List Pr, w[i]? = some r ∧ r.length = n ∧ (∀ j, j < n → r[j]? = some (getM w i j)) ∧ ∀ j v, setM w i j v = w.set i (r.set j v) :=
  ⟨w.getD i [], (h.row hi).1, (h.row hi).2, fun j hj => h.at hi hj, fun j v => rfl⟩
def wy0 (n : Nat) : Mat := (List.range n).map fun _ => List.replicate n none
def wy1 (n : Nat) : Mat := (List.range n).foldl (fun w i => setM w i i (some 0)) (wy0 n)
def wy2 (m : Mach) : Mat := m.con.foldl (fun w c => setM w c.a c.b (lessP (getM w c.a c.b) (some c.pr))) (wy1 m.fs)
def fw3 (k i : Nat) (w : Mat) (j : Nat) : Mat := setM w i j (lessP (getM w i j) (sumP [getM w i k, getM w k j]))
def fw2 (n k : Nat) (w : Mat) (i : Nat) : Mat := (List.range n).foldl (fw3 k i) w
def fw1 (n : Nat) (w : Mat) (k : Nat) : Mat := (List.range n).foldl (fw2 n k) w
def waysT (m : Mach) : Mat := (List.range m.fs).foldl (fw1 m.fs) (wy2 m)
theorem foldl_inv {α σ : Type} {f : σ → α → σ} {Inv : σ → Prop} {xs : List α} {s : σ} (h0 : Inv s) (step : ∀ s x, x ∈ xs → Inv s → Inv (f s x)) : Inv (xs.foldl f s) := by
  induction xs generalizing s with
  | nil => exact h0
  | cons x xs ih => exact ih (step s x (by simp) h0) fun s y hy hs => step s y (by simp [hy]) hs
end Q
namespace Q
open PySem Dy
open L2 (atI ixN)
def gP (r : List Pr) (i : Nat) : Pr := r.getD i none
theorem gP_at {r : List Pr} {i : Nat} (h : i < r.length) : r[i]? = some (gP r i) := getD_mem h
def insP (rows : List (List Pr)) (i : Ins) : Pr := sumP (some i.pr :: (rows.zip i.args).map fun z => gP z.1 z.2)
def cm1 (op : Nat) (rows : List (List Pr)) (f : List Pr) (i : Ins) : List Pr := if i.op = op then f.set i.form (lessP (gP f i.form) (insP rows i)) else f
def compT (m : Mach) (op : Nat) (rows : List (List Pr)) : List Pr := m.ins.foldl (cm1 op rows) (List.replicate m.fs none)
theorem len_cm1 {op : Nat} {rows : List (List Pr)} {f : List Pr} {i : Ins} : (cm1 op rows f i).length = f.length := by unfold cm1; split <;> simp
theorem len_compT (m : Mach) (op : Nat) (rows : List (List Pr)) : (compT m op rows).length = m.fs := foldl_inv (Inv := fun f : List Pr => f.length = m.fs) (by simp) fun s x _ h => by rw [len_cm1]; exact h
def cv2 (p : Pr) (f : List Pr) (q : Nat × Pr) : List Pr := f.set q.1 (lessP (gP f q.1) (sumP [p, q.2]))
def rowW (w : Mat) (i : Nat) : List Pr := w.getD i []
def cv1 (w : Mat) (f : List Pr) (q : Nat × Pr) : List Pr := (ens (rowW w q.1)).foldl (cv2 q.2) f
def convT (w : Mat) (row : List Pr) : List Pr := (ens row).foldl (cv1 w) row
theorem len_cv2 {p : Pr} {f : List Pr} {q : Nat × Pr} : (cv2 p f q).length = f.length := by unfold cv2; simp
theorem len_cv1 {w : Mat} {f : List Pr} {q : Nat × Pr} : (cv1 w f q).length = f.length := foldl_inv (Inv := fun g : List Pr => g.length = f.length) rfl fun s x _ h => by rw [len_cv2]; exact h
theorem len_convT (w : Mat) (row : List Pr) : (convT w row).length = row.length := foldl_inv (Inv := fun g : List Pr => g.length = row.length) rfl fun s x _ h => by rw [len_cv1]; exact h
def rowF (m : Mach) (op : Nat) (rs : List (List Pr)) : List Pr := convT (waysT m) (compT m op rs)
theorem len_rowF (m : Mach) (op : Nat) (rs : List (List Pr)) : (rowF m op rs).length = m.fs := by unfold rowF; rw [len_convT, len_compT]
def minN : List Nat → Nat
  | [] => 0
  | [x] => x
  | x :: y :: r => min x (minN (y :: r))
theorem minN_le : ∀ {ns : List Nat} {y : Nat}, y ∈ ns → minN ns ≤ y
  | [x], y, h => by simp at h; subst h; exact Nat.le_refl _
  | x :: z :: r, y, h => by
    unfold minN
    rcases List.mem_cons.mp h with e | e
    · omega
    · have := minN_le (ns := z :: r) e; omega
theorem minN_mem : ∀ {ns : List Nat}, ns ≠ [] → minN ns ∈ ns
  | [x], _ => by simp [minN]
  | x :: z :: r, _ => by
    have ih := minN_mem (ns := z :: r) (by simp)
    unfold minN
    by_cases h : x ≤ minN (z :: r)
    · rw [Nat.min_eq_left h]; simp
    · rw [Nat.min_eq_right (by omega)]; exact List.mem_cons_of_mem _ ih
def baseP (row : List Pr) : Pr := if row.filterMap id = [] then none else some (minN (row.filterMap id))
def relT (row : List Pr) : List Pr × Pr := (row.map fun p => p.map (· - (baseP row).getD 0), baseP row)
def StOk (fs : Nat) (s : List Pr) : Prop := s.length = fs ∧ (baseP s = none ∨ baseP s = some 0)
theorem len_rel (r : List Pr) : (relT r).1.length = r.length := by simp [relT]
end Q
namespace Q
def Least (A : Nat → Prop) (v : Pr) : Prop := (∀ x, v = some x → A x) ∧ ∀ y, A y → ∃ x, v = some x ∧ x ≤ y
theorem Least.congr {A B : Nat → Prop} {v : Pr} (h : Least A v) (e : ∀ x, A x ↔ B x) : Least B v := ⟨fun x q => (e x).mp (h.1 x q), fun y q => h.2 y ((e y).mpr q)⟩
def leP (a b : Pr) : Prop := ∀ y, b = some y → ∃ x, a = some x ∧ x ≤ y
theorem leP.refl (a : Pr) : leP a a := fun y e => ⟨y, e, Nat.le_refl _⟩
theorem leP.trans {a b c : Pr} (h : leP a b) (k : leP b c) : leP a c := fun z e => by
  obtain ⟨y, e1, l1⟩ := k z e
  obtain ⟨x, e2, l2⟩ := h y e1
  exact ⟨x, e2, by omega⟩
theorem leP.none (a : Pr) : leP a none := fun y e => by cases e
inductive Wk (cs : List Con) : Nat → Nat → Nat → Prop
  | refl (i : Nat) : Wk cs i i 0
  | step {j c : Nat} (k : Con) : k ∈ cs → Wk cs k.b j c → Wk cs k.a j (k.pr + c)
theorem Wk.edge {cs : List Con} {k : Con} (h : k ∈ cs) : Wk cs k.a k.b k.pr := Wk.step k h (.refl _)
theorem Wk.trans {cs : List Con} {i j l c d : Nat} (h : Wk cs i j c) (g : Wk cs j l d) : Wk cs i l (c + d) := by
  induction h with
  | refl i => rw [Nat.zero_add]; exact g
  | step k hk _ ih => rw [Nat.add_assoc]; exact .step k hk (ih g)
inductive WU (cs : List Con) (u : Nat) : Nat → Nat → Nat → Prop
  | refl (i : Nat) : WU cs u i i 0
  | edge (k : Con) : k ∈ cs → WU cs u k.a k.b k.pr
  | cons {j c : Nat} (k : Con) : k ∈ cs → k.b < u → WU cs u k.b j c → WU cs u k.a j (k.pr + c)
theorem WU.split {cs : List Con} {u i j c : Nat} (h : WU cs (u + 1) i j c) : WU cs u i j c ∨ ∃ c1 c2, WU cs u i u c1 ∧ WU cs u u j c2 ∧ c1 + c2 ≤ c := by
  induction h with
  | refl i => exact .inl (.refl i)
  | edge k hk => exact .inl (.edge k hk)
  | @cons j c k hk hu _ ih =>
    by_cases e : k.b < u
    · rcases ih with z | ⟨c1, c2, z1, z2, z3⟩
      · exact .inl (.cons k hk e z)
      · exact .inr ⟨k.pr + c1, c2, .cons k hk e z1, z2, by omega⟩
    · have e : k.b = u := by omega
      have ed : WU cs u k.a u k.pr := by have := WU.edge (u := u) k hk; rw [e] at this; exact this
      rcases ih with z | ⟨c1, c2, z1, z2, z3⟩
      · rw [e] at z; exact .inr ⟨k.pr, c, ed, z, Nat.le_refl _⟩
      · exact .inr ⟨k.pr, c2, ed, z2, by omega⟩
theorem Wk.lt {cs : List Con} {n i j c : Nat} (hn : ∀ k ∈ cs, k.b < n) (h : Wk cs i j c) (hi : i < n) : j < n := by
  induction h with
  | refl i => exact hi
  | step k hk _ ih => exact ih (hn k hk)
section
variable {m : Mach}
def leM (n : Nat) (w w' : Mat) : Prop := ∀ i j, i < n → j < n → leP (getM w i j) (getM w' i j)
theorem leM.refl (n : Nat) (w : Mat) : leM n w w := fun _ _ _ _ => leP.refl _
theorem leM.trans {n : Nat} {a b c : Mat} (h : leM n a b) (k : leM n b c) : leM n a c := fun i j hi hj => (h i j hi hj).trans (k i j hi hj)
def leR (n : Nat) (f g : List Pr) : Prop := ∀ j, j < n → leP (gP f j) (gP g j)
theorem leR.refl (n : Nat) (f : List Pr) : leR n f f := fun _ _ => leP.refl _
theorem leR.trans {n : Nat} {a b c : List Pr} (h : leR n a b) (k : leR n b c) : leR n a c := fun j hj => (h j hj).trans (k j hj)
end
end Q
namespace Q
/-- a way with t steps whose places all lie in U -/
inductive AW (cs : List Con) (U : List Nat) : Nat → Nat → Nat → Nat → Prop
  | refl (i : Nat) : i ∈ U → AW cs U i i 0 0
  | step {j t c : Nat} (k : Con) : k ∈ cs → k.a ∈ U → AW cs U k.b j t c → AW cs U k.a j (t + 1) (k.pr + c)
theorem AW.mono {cs : List Con} {U V : List Nat} {i j t c : Nat} (s : ∀ x ∈ U, x ∈ V) (h : AW cs U i j t c) : AW cs V i j t c := by
  induction h with
  | refl i hi => exact .refl i (s i hi)
  | step k hk ha _ ih => exact .step k hk (s _ ha) ih
theorem AW.last {cs : List Con} {U : List Nat} {i j t c : Nat} (x : Nat) (h : AW cs U i j t c) :
    AW cs (U.filter fun y => decide (y ≠ x)) i j t c ∨ x = j ∨ ∃ k ∈ cs, k.a = x ∧ ∃ t' c', AW cs (U.filter fun y => decide (y ≠ x)) k.b j t' c' ∧ k.pr + c' ≤ c := by
  induction h with
  | refl i hi =>
    by_cases e : i = x
    · exact .inr (.inl e.symm)
    · exact .inl (.refl i (List.mem_filter.mpr ⟨hi, by simpa using e⟩))
  | @step j t c k hk ha _ ih =>
    rcases ih with z | z | ⟨k', h1, h2, t', c', h3, h4⟩
    · by_cases e : k.a = x
      · exact .inr (.inr ⟨k, hk, e, t, c, z, Nat.le_refl _⟩)
      · exact .inl (.step k hk (List.mem_filter.mpr ⟨ha, by simpa using e⟩) z)
    · exact .inr (.inl z)
    · exact .inr (.inr ⟨k', h1, h2, t', c', h3, by omega⟩)
/-- a way with t steps, from its end -/
inductive WS (cs : List Con) : Nat → Nat → Nat → Nat → Prop
  | refl (i : Nat) : WS cs i i 0 0
  | snoc {i t c : Nat} (k : Con) : WS cs i k.a t c → k ∈ cs → WS cs i k.b (t + 1) (c + k.pr)
theorem WS.cons {cs : List Con} {j t c : Nat} {k : Con} (hk : k ∈ cs) {i : Nat} (h : WS cs i j t c) (e : i = k.b) : WS cs k.a j (t + 1) (k.pr + c) := by
  induction h with
  | refl => subst e; have := WS.snoc (t := 0) k (.refl k.a) hk; simpa using this
  | snoc l _ hl ih => rw [← Nat.add_assoc]; exact .snoc l ih hl
section
variable {m : Mach}
theorem gP_out {r : List Pr} {i : Nat} (h : r.length ≤ i) : gP r i = none := by unfold gP; rw [List.getD_eq_getElem?_getD, List.getElem?_eq_none h]; rfl
end
end Q
namespace Q
open PySem Dy
/-- rows whose numbers are less than a bound -/
def Bd (B : Nat) (row : List Pr) : Prop := ∀ x, some x ∈ row → x < B
theorem Bd.mono {B C : Nat} {row : List Pr} (h : Bd B row) (l : B ≤ C) : Bd C row := fun x hx => Nat.lt_of_lt_of_le (h x hx) l
theorem Bd.base {B : Nat} {row : List Pr} (h : Bd B row) {b : Nat} (e : baseP row = some b) : b < B := by
  unfold baseP at e
  split at e
  · cases e
  · rename_i hy
    cases e
    obtain ⟨p, hp, e⟩ := List.mem_filterMap.mp (minN_mem hy)
    have e : p = some (minN (row.filterMap id)) := e
    subst e
    exact h _ hp
theorem Bd.at {B : Nat} {row : List Pr} (h : Bd B row) {i x : Nat} (e : gP row i = some x) : x < B := by
  by_cases hi : i < row.length
  · have := gP_at hi; rw [e] at this; exact h x (List.mem_of_getElem? this)
  · rw [gP_out (by omega)] at e; cases e
end Q
namespace Q
end Q
namespace Q
open PySem Dy
open L2 (atI ixN)
end Q
namespace Q
open PySem Dy
open L2 (atI ixN)
theorem base_rel (row : List Pr) : baseP (relT row).1 = none ∨ baseP (relT row).1 = some 0 := by
  by_cases hy : row.filterMap id = []
  · left
    have hb : baseP row = none := by unfold baseP; rw [if_pos hy]
    have : (relT row).1.filterMap id = [] := by
      unfold relT
      rw [List.filterMap_eq_nil_iff] at hy ⊢
      intro p hp
      obtain ⟨q, hq, rfl⟩ := List.mem_map.mp hp
      have := hy q hq
      have : q = none := this
      subst this; rfl
    unfold baseP; rw [if_pos this]
  · right
    have hb : baseP row = some (minN (row.filterMap id)) := by unfold baseP; rw [if_neg hy]
    have hm := minN_mem hy
    have h0 : 0 ∈ (relT row).1.filterMap id := by
      unfold relT
      rw [hb]
      obtain ⟨p, hp, e⟩ := List.mem_filterMap.mp hm
      have e : p = some (minN (row.filterMap id)) := e
      subst e
      exact List.mem_filterMap.mpr ⟨some 0, List.mem_map.mpr ⟨_, hp, by simp⟩, rfl⟩
    have hne : (relT row).1.filterMap id ≠ [] := fun z => by rw [z] at h0; cases h0
    unfold baseP; rw [if_neg hne]
    have := minN_le h0
    congr 1; omega
end Q
namespace Q
open PySem Dy
end Q
namespace Q
open PySem Dy
end Q
namespace Q
open PySem Dy
end Q
namespace Q
open PySem Dy
def b_need_arities_2 : SF := fIfS (fNot (fB (fCall M_is_arities [.v (fV 0)]))) (fRaise "NoArities") (fSkip)
def M_need_arities_2 : Fn := fnM 1 1 [] b_need_arities_2
end Q
namespace Q
open PySem Dy
end Q
namespace Q
open PySem Dy
open L2 (atI ixN)
theorem wp_ok {a : SF} {e e' : Dy.Env} {vs : List Nat} {f : Fl} (h : a e = .ok (f, e')) : fWp vs a e = .ok (f, wipeE e' vs) := by rw [a_wp, h]; rfl
theorem fn1_rt {N : Nat} {b : SF} {d : PyData} {o : O} {e : Dy.Env} (h : b (some (.fr d) :: List.replicate N none) = .ok (.rt o, e)) : fnM 1 (N + 1) [] b [.fr d] = .ok (o, [.fr d]) := by
  show (b (some (.fr d) :: List.replicate (N + 1 - 1) none) >>= fun r => match bkA [] r.2 0 [.fr d] with | none => .no | some os' => match r.1 with | .rt o => .ok (o, os') | .nx => .ok (.fr .none, os') | _ => .no) = _
  rw [show N + 1 - 1 = N from rfl, h]; rfl
theorem fn2_rt {N : Nat} {b : SF} {d d' : PyData} {o : O} {e : Dy.Env} (h : b (some (.fr d) :: some (.fr d') :: List.replicate N none) = .ok (.rt o, e)) : fnM 2 (N + 2) [] b [.fr d, .fr d'] = .ok (o, [.fr d, .fr d']) := by
  show (b (some (.fr d) :: some (.fr d') :: List.replicate (N + 2 - 2) none) >>= fun r => match bkA [] r.2 0 [.fr d, .fr d'] with | none => .no | some os' => match r.1 with | .rt o => .ok (o, os') | .nx => .ok (.fr .none, os') | _ => .no) = _
  rw [show N + 2 - 2 = N from rfl, h]; rfl
theorem seq_nx {a b : SF} {e e' : Dy.Env} (h : a e = .ok (.nx, e')) : fSeq a b e = b e' := by simp [a_seq, h]
end Q
namespace Q
open PySem Dy
open L2 (atI ixN)
def stp (m : Mach) (op : Nat) (args : List (List Pr)) : List Pr := (relT (rowF m op args)).1
inductive Arises (m : Mach) : List Pr → Prop
  | mk (op : Nat) (args : List (List Pr)) (h : m.ar[op]? = some args.length) (ha : ∀ a ∈ args, Arises m a) : Arises m (stp m op args)
theorem len_stp {m : Mach} {op : Nat} {args : List (List Pr)} : (stp m op args).length = m.fs := by unfold stp; rw [len_rel, len_rowF]
theorem stp_ok {m : Mach} {op : Nat} {args : List (List Pr)} : StOk m.fs (stp m op args) := ⟨len_stp, base_rel _⟩
theorem Arises.ok {m : Mach} {s : List Pr} (h : Arises m s) : StOk m.fs s := by cases h; exact stp_ok
abbrev Ent := List Pr × Nat × List Nat
def sts (es : List Ent) : List (List Pr) := es.map (·.1)
def stA (es : List Ent) (p : Nat) : List Pr := (sts es).getD p []
theorem stA_app {es r : List Ent} {p : Nat} (h : p < es.length) : stA (es ++ r) p = stA es p := by
  unfold stA sts
  rw [List.map_append, getD_app]
  simpa using h
theorem map_stA {es r : List Ent} {ps : List Nat} (h : ∀ p ∈ ps, p < es.length) : ps.map (stA (es ++ r)) = ps.map (stA es) := List.map_congr_left fun p hp => stA_app (h p hp)
structure EOk (m : Mach) (es : List Ent) (k : Nat) (e : Ent) : Prop where
  ar : m.ar[e.2.1]? = some e.2.2.length
  lt : ∀ p ∈ e.2.2, p < k
  st : e.1 = stp m e.2.1 (e.2.2.map (stA es))
structure Odr (m : Mach) (es : List Ent) : Prop where
  ok : ∀ (k : Nat) (e : Ent), es[k]? = some e → EOk m es k e
  nd : (sts es).Nodup
theorem sts_app (es r : List Ent) : sts (es ++ r) = sts es ++ sts r := by simp [sts]
theorem Odr.nil {m : Mach} : Odr m [] := ⟨fun k e h => by simp at h, by simp [sts]⟩
theorem Odr.snoc {m : Mach} {es : List Ent} {op : Nat} {ps : List Nat} (h : Odr m es) (ha : m.ar[op]? = some ps.length) (hp : ∀ p ∈ ps, p < es.length) (hn : stp m op (ps.map (stA es)) ∉ sts es) :
    Odr m (es ++ [(stp m op (ps.map (stA es)), op, ps)]) := by
  refine ⟨fun k e hk => ?_, ?_⟩
  · by_cases c : k < es.length
    · rw [List.getElem?_append_left c] at hk
      have o := h.ok k e hk
      exact ⟨o.ar, o.lt, by rw [map_stA fun p hp => Nat.lt_trans (o.lt p hp) c]; exact o.st⟩
    · have c2 : k = es.length := by
        have := lt_of_get hk
        simp at this; omega
      subst c2
      rw [List.getElem?_append_right (Nat.le_refl _)] at hk
      simp at hk
      subst hk
      exact ⟨ha, hp, by rw [map_stA hp]⟩
  · rw [sts_app]
    refine List.nodup_append.mpr ⟨h.nd, by simp [sts], fun a ha b hb => ?_⟩
    simp [sts] at hb
    subst hb
    exact fun z => hn (z ▸ ha)
/-- closed under steps -/
def Closed (m : Mach) (ss : List (List Pr)) : Prop := ∀ (op : Nat) (args : List (List Pr)), m.ar[op]? = some args.length → (∀ a ∈ args, a ∈ ss) → stp m op args ∈ ss
theorem Closed.all {m : Mach} {ss : List (List Pr)} (h : Closed m ss) {s : List Pr} (ha : Arises m s) : s ∈ ss := by
  induction ha with
  | mk op args hr ha ih => exact h op args hr ih
end Q
namespace Q
open PySem Dy
open L2 (atI ixN)
section
variable {m : Mach}
end
end Q
namespace Q
open PySem Dy
open L2 (atI ixN)
def PenB (n : Nat) (o : O) : Prop := ∃ a b c : Int, o = .ol [.int a, .int b, .int c] ∧ 0 ≤ b ∧ b < 1000000007 ∧ 0 ≤ c ∧ c ≤ n
theorem PenB.mono {n m : Nat} {o : O} (h : PenB n o) (l : n ≤ m) : PenB m o := by
  obtain ⟨a, b, c, e, h1, h2, h3, h4⟩ := h
  exact ⟨a, b, c, e, h1, h2, h3, by omega⟩
theorem mulS (i j : Int) (h : -18446744073709551616 < i ∧ i < 18446744073709551616) : pMul (.int i) (.int j) = some (.fr (.int (i * j))) := by
  have : smI i = true := by unfold smI; exact decide_eq_true ⟨by omega, by omega⟩
  simp [pMul, muOk, this]
theorem mulS' (i j : Int) (h : -18446744073709551616 < j ∧ j < 18446744073709551616) : pMul (.int i) (.int j) = some (.fr (.int (i * j))) := by
  have : smI j = true := by unfold smI; exact decide_eq_true ⟨by omega, by omega⟩
  simp [pMul, muOk, this]
theorem penB_ok (z : Int) : ∃ o, PenB 0 o ∧ M__law_pen [.fr (.int z)] = .ok (o, [.fr (.int z)]) := by
  refine ⟨_, ⟨max 0 (z - 10 ^ 18), z % 1000000007, 0, rfl, by omega, by omega, by omega, by omega⟩, ?_⟩
  simp [M__law_pen, b__law_pen, q_mulAI, q_mulAL, a_wb, q_divW, Function.comp_def, q_starI, q_starIT, a_wp, a_fz, a_fz0, a_fz1, a_ext, a_ins, a_insA, a_pop, a_parN, a_evO0, a_evO1, a_setO0, a_setO1, a_ix2, a_setII, a_zN, a_zC, a_lcO, d_oo, pEq_int, pNe_int, pIxL, pIxT, atI_nat, atI_0, atI_1, atI_2, atI_3, atI_m1, cutLo, cutHi, cutLo1, cutHi1, a_seq, a_ifS, a_B, a_op, a_ov, a_ev0, a_evv, a_evs, a_C, a_V, a_M, a_set, a_setI, a_app, a_ret, a_ex, a_skip, a_no, a_not, a_andT, a_orT, a_and, a_or, a_notV, a_if, a_par, a_call, a_forS, a_sq, a_r1, a_r2, a_en, a_zp, a_asT, a_chI, a_yes, a_lc, a_fn, okA, f_fr, bkA, rsvs, rsv, dvs, on1, on2, d_fr, d_ol, rsO, ndS, sl, putB, asT, setAll, ofO, Dy.ints1, Dy.ints2, nE, wipeE, unw, frO, q_addI, q_addL, q_addT, q_addS, q_sub, q_div, q_mod, q_pow, q_neg, q_cm, pIs, pIsn, q_isN, q_isI, q_isS, q_isT, q_isL, q_isB, q_lenL, q_lenT, pTup, pLst, q_tupL, q_tupT, q_lstL, q_lstT, q_revL, q_slL, q_slT, q_shL, q_shT, q_sqL, q_sqT, q_intI, q_max2, q_min2, q_aII, q_aBI, q_aTI, q_aTT, q_aLL, q_aTL, q_aIT]
theorem cellB_ok {ns : List Int} {k : Nat} : ∃ z : Int, M__law_cell_at [.fr (.list (ns.map PyData.int)), .fr (dN k)] = .ok (.fr (.int z), [.fr (.list (ns.map PyData.int)), .fr (dN k)]) := by
  by_cases hk : k < ns.length
  · exact ⟨ns[k], by simp [M__law_cell_at, b__law_cell_at, q_mulAI, q_mulAL, a_wb, q_divW, Function.comp_def, q_starI, q_starIT, a_wp, a_fz, a_fz0, a_fz1, a_ext, a_ins, a_insA, a_pop, a_parN, a_evO0, a_evO1, a_setO0, a_setO1, a_ix2, a_setII, a_zN, a_zC, a_lcO, d_oo, pEq_int, pNe_int, pIxL, pIxT, atI_nat, atI_0, atI_1, atI_2, atI_3, atI_m1, cutLo, cutHi, cutLo1, cutHi1, a_seq, a_ifS, a_B, a_op, a_ov, a_ev0, a_evv, a_evs, a_C, a_V, a_M, a_set, a_setI, a_app, a_ret, a_ex, a_skip, a_no, a_not, a_andT, a_orT, a_and, a_or, a_notV, a_if, a_par, a_call, a_forS, a_sq, a_r1, a_r2, a_en, a_zp, a_asT, a_chI, a_yes, a_lc, a_fn, okA, f_fr, bkA, rsvs, rsv, dvs, on1, on2, d_fr, d_ol, rsO, ndS, sl, putB, asT, setAll, ofO, Dy.ints1, Dy.ints2, nE, wipeE, unw, frO, q_addI, q_addL, q_addT, q_addS, q_sub, q_div, q_mod, q_pow, q_neg, q_cm, pIs, pIsn, q_isN, q_isI, q_isS, q_isT, q_isL, q_isB, q_lenL, q_lenT, pTup, pLst, q_tupL, q_tupT, q_lstL, q_lstT, q_revL, q_slL, q_slT, q_shL, q_shT, q_sqL, q_sqT, q_intI, q_max2, q_min2, q_aII, q_aBI, q_aTI, q_aTT, q_aLL, q_aTL, q_aIT, hk]⟩
  · exact ⟨0, by simp [M__law_cell_at, b__law_cell_at, q_mulAI, q_mulAL, a_wb, q_divW, Function.comp_def, q_starI, q_starIT, a_wp, a_fz, a_fz0, a_fz1, a_ext, a_ins, a_insA, a_pop, a_parN, a_evO0, a_evO1, a_setO0, a_setO1, a_ix2, a_setII, a_zN, a_zC, a_lcO, d_oo, pEq_int, pNe_int, pIxL, pIxT, atI_nat, atI_0, atI_1, atI_2, atI_3, atI_m1, cutLo, cutHi, cutLo1, cutHi1, a_seq, a_ifS, a_B, a_op, a_ov, a_ev0, a_evv, a_evs, a_C, a_V, a_M, a_set, a_setI, a_app, a_ret, a_ex, a_skip, a_no, a_not, a_andT, a_orT, a_and, a_or, a_notV, a_if, a_par, a_call, a_forS, a_sq, a_r1, a_r2, a_en, a_zp, a_asT, a_chI, a_yes, a_lc, a_fn, okA, f_fr, bkA, rsvs, rsv, dvs, on1, on2, d_fr, d_ol, rsO, ndS, sl, putB, asT, setAll, ofO, Dy.ints1, Dy.ints2, nE, wipeE, unw, frO, q_addI, q_addL, q_addT, q_addS, q_sub, q_div, q_mod, q_pow, q_neg, q_cm, pIs, pIsn, q_isN, q_isI, q_isS, q_isT, q_isL, q_isB, q_lenL, q_lenT, pTup, pLst, q_tupL, q_tupT, q_lstL, q_lstT, q_revL, q_slL, q_slT, q_shL, q_shT, q_sqL, q_sqT, q_intI, q_max2, q_min2, q_aII, q_aBI, q_aTI, q_aTT, q_aLL, q_aTL, q_aIT, hk]⟩
theorem drawB {n : Nat} {o : O} {m : Int} (h : PenB n o) (hn : n < 1000000000) (h1 : 0 < m) (h2 : m < 1000000000000000000000000000000) : ∃ (r : Nat) (o' : O), (r : Int) < m ∧ PenB (n + 1) o' ∧ M__law_draw [o, .fr (.int m)] = .ok (.fr (dN r), [o', .fr (.int m)]) := by
  obtain ⟨a, b, c, rfl, hb, hb', hc, hc'⟩ := h
  by_cases ha : 0 < a
  · have q0 := Int.emod_nonneg a (show m ≠ 0 by omega)
    have q1 := Int.emod_lt_of_pos a h1
    have e0 : ((a % m).toNat : Int) = a % m := by omega
    refine ⟨(a % m).toNat, _, by omega, ⟨a / m, b, c, rfl, hb, hb', hc, by omega⟩, ?_⟩
    show _ = Res.ok (O.fr (.int ((a % m).toNat : Int)), _)
    rw [e0]
    simp [M__law_draw, b__law_draw, q_mulAI, q_mulAL, a_wb, q_divW, Function.comp_def, q_starI, q_starIT, a_wp, a_fz, a_fz0, a_fz1, a_ext, a_ins, a_insA, a_pop, a_parN, a_evO0, a_evO1, a_setO0, a_setO1, a_ix2, a_setII, a_zN, a_zC, a_lcO, d_oo, pEq_int, pNe_int, pIxL, pIxT, atI_nat, atI_0, atI_1, atI_2, atI_3, atI_m1, cutLo, cutHi, cutLo1, cutHi1, a_seq, a_ifS, a_B, a_op, a_ov, a_ev0, a_evv, a_evs, a_C, a_V, a_M, a_set, a_setI, a_app, a_ret, a_ex, a_skip, a_no, a_not, a_andT, a_orT, a_and, a_or, a_notV, a_if, a_par, a_call, a_forS, a_sq, a_r1, a_r2, a_en, a_zp, a_asT, a_chI, a_yes, a_lc, a_fn, okA, f_fr, bkA, rsvs, rsv, dvs, on1, on2, d_fr, d_ol, rsO, ndS, sl, putB, asT, setAll, ofO, Dy.ints1, Dy.ints2, nE, wipeE, unw, frO, q_addI, q_addL, q_addT, q_addS, q_sub, q_div, q_mod, q_pow, q_neg, q_cm, pIs, pIsn, q_isN, q_isI, q_isS, q_isT, q_isL, q_isB, q_lenL, q_lenT, pTup, pLst, q_tupL, q_tupT, q_lstL, q_lstT, q_revL, q_slL, q_slT, q_shL, q_shT, q_sqL, q_sqT, q_intI, q_max2, q_min2, q_aII, q_aBI, q_aTI, q_aTT, q_aLL, q_aTL, q_aIT, ixN, ha, h1, h2]
  · have m1 : pMul (.int 17) (.int (c + 1)) = some (.fr (.int (17 * (c + 1)))) := mulS _ _ (by decide)
    have m2 : pMul (.int 2) (.int (c + 1)) = some (.fr (.int (2 * (c + 1)))) := mulS _ _ (by decide)
    have m3 : ∀ i, pMul (.int i) (.int (69621 + 2 * (c + 1))) = some (.fr (.int (i * (69621 + 2 * (c + 1))))) := fun i => mulS' _ _ (by omega)
    generalize hx : (b + 17 * (c + 1)) * (69621 + 2 * (c + 1)) % 2147483647 = x
    have x0 : 0 ≤ x ∧ x < 2147483647 := by rw [← hx]; exact ⟨Int.emod_nonneg _ (by decide), Int.emod_lt_of_pos _ (by decide)⟩
    have m4 : pMul (.int x) (.int x) = some (.fr (.int (x * x))) := mulS _ _ (by omega)
    have m5 : pMul (.int 40503) (.int (c + 1)) = some (.fr (.int (40503 * (c + 1)))) := mulS _ _ (by decide)
    have m6 : ∀ i, pMul (.int i) (.int 48271) = some (.fr (.int (i * 48271))) := fun i => mulS' _ _ (by decide)
    generalize hy : (x * x + 40503 * (c + 1) + 5) % 2147483629 * 48271 % 2147483647 / 32 = y
    have q0 := Int.emod_nonneg y (show m ≠ 0 by omega)
    have q1 := Int.emod_lt_of_pos y h1
    have e0 : ((y % m).toNat : Int) = y % m := by omega
    refine ⟨(y % m).toNat, _, by omega, ⟨a, b, c + 1, rfl, hb, hb', by omega, by omega⟩, ?_⟩
    show _ = Res.ok (O.fr (.int ((y % m).toNat : Int)), _)
    rw [e0]
    simp [M__law_draw, b__law_draw, q_mulAI, q_mulAL, a_wb, q_divW, Function.comp_def, q_starI, q_starIT, a_wp, a_fz, a_fz0, a_fz1, a_ext, a_ins, a_insA, a_pop, a_parN, a_evO0, a_evO1, a_setO0, a_setO1, a_ix2, a_setII, a_zN, a_zC, a_lcO, d_oo, pEq_int, pNe_int, pIxL, pIxT, atI_nat, atI_0, atI_1, atI_2, atI_3, atI_m1, cutLo, cutHi, cutLo1, cutHi1, a_seq, a_ifS, a_B, a_op, a_ov, a_ev0, a_evv, a_evs, a_C, a_V, a_M, a_set, a_setI, a_app, a_ret, a_ex, a_skip, a_no, a_not, a_andT, a_orT, a_and, a_or, a_notV, a_if, a_par, a_call, a_forS, a_sq, a_r1, a_r2, a_en, a_zp, a_asT, a_chI, a_yes, a_lc, a_fn, okA, f_fr, bkA, rsvs, rsv, dvs, on1, on2, d_fr, d_ol, rsO, ndS, sl, putB, asT, setAll, ofO, Dy.ints1, Dy.ints2, nE, wipeE, unw, frO, q_addI, q_addL, q_addT, q_addS, q_sub, q_div, q_mod, q_pow, q_neg, q_cm, pIs, pIsn, q_isN, q_isI, q_isS, q_isT, q_isL, q_isB, q_lenL, q_lenT, pTup, pLst, q_tupL, q_tupT, q_lstL, q_lstT, q_revL, q_slL, q_slT, q_shL, q_shT, q_sqL, q_sqT, q_intI, q_max2, q_min2, q_aII, q_aBI, q_aTI, q_aTT, q_aLL, q_aTL, q_aIT, ixN, ha, h1, m1, m2, m3, hx, m4, m5, m6, hy]
theorem drawB_upto {n : Nat} {o : O} (h : PenB n o) (hn : n < 1000000000) (k : Nat) (h1 : 0 < k) (h2 : k < 1000000) : ∃ (r : Nat) (o' : O), r < k ∧ PenB (n + 1) o' ∧ M__law_draw [o, .fr (.int (k : Int))] = .ok (.fr (dN r), [o', .fr (.int (k : Int))]) := by
  obtain ⟨r, o', q1, q2, q3⟩ := drawB (m := (k : Int)) h hn (by omega) (by omega)
  exact ⟨r, o', by omega, q2, q3⟩
theorem pickB {n : Nat} {o : O} {xs : List PyData} (h : PenB n o) (hn : n < 1000000000) (hx : xs ≠ []) (hl : xs.length < 1000000) : ∃ (d : PyData) (o' : O), d ∈ xs ∧ PenB (n + 1) o' ∧ M__law_pick [o, .fr (.list xs)] = .ok (.fr d, [o', .fr (.list xs)]) := by
  have h0 : 0 < xs.length := List.length_pos_iff.mpr hx
  obtain ⟨r, o', q1, q2, q3⟩ := drawB_upto h hn xs.length h0 hl
  obtain ⟨d, hd, hm⟩ := get_of_lt q1
  obtain ⟨a, b, c, rfl, _⟩ := h
  refine ⟨d, o', hm, q2, ?_⟩
  obtain ⟨a', b', c', rfl, _⟩ := q2
  simp [M__law_pick, b__law_pick, q_mulAI, q_mulAL, a_wb, q_divW, Function.comp_def, q_starI, q_starIT, a_wp, a_fz, a_fz0, a_fz1, a_ext, a_ins, a_insA, a_pop, a_parN, a_evO0, a_evO1, a_setO0, a_setO1, a_ix2, a_setII, a_zN, a_zC, a_lcO, d_oo, pEq_int, pNe_int, pIxL, pIxT, atI_nat, atI_0, atI_1, atI_2, atI_3, atI_m1, cutLo, cutHi, cutLo1, cutHi1, a_seq, a_ifS, a_B, a_op, a_ov, a_ev0, a_evv, a_evs, a_C, a_V, a_M, a_set, a_setI, a_app, a_ret, a_ex, a_skip, a_no, a_not, a_andT, a_orT, a_and, a_or, a_notV, a_if, a_par, a_call, a_forS, a_sq, a_r1, a_r2, a_en, a_zp, a_asT, a_chI, a_yes, a_lc, a_fn, okA, f_fr, bkA, rsvs, rsv, dvs, on1, on2, d_fr, d_ol, rsO, ndS, sl, putB, asT, setAll, ofO, Dy.ints1, Dy.ints2, nE, wipeE, unw, frO, q_addI, q_addL, q_addT, q_addS, q_sub, q_div, q_mod, q_pow, q_neg, q_cm, pIs, pIsn, q_isN, q_isI, q_isS, q_isT, q_isL, q_isB, q_lenL, q_lenT, pTup, pLst, q_tupL, q_tupT, q_lstL, q_lstT, q_revL, q_slL, q_slT, q_shL, q_shT, q_sqL, q_sqT, q_intI, q_max2, q_min2, q_aII, q_aBI, q_aTI, q_aTT, q_aLL, q_aTL, q_aIT, q3, hd]
theorem aritiesB {n : Nat} {o : O} (h : PenB n o) (hn : n < 900000000) : ∃ (as : List Nat) (o' : O), ArOk as ∧ 0 ∈ as ∧ as.length ≤ 4 ∧ PenB (n + 10) o' ∧ M__law_arities [o] = .ok (.fr (encA as), [o']) := by
  obtain ⟨r, o1, r1, p1, e1⟩ := drawB (m := 4) h (by omega) (by decide) (by decide)
  obtain ⟨xs, o2, p2, l2, q2, e2⟩ := lc_r (vs := [3]) (t := .nm 3) (elt := E1__law_arities) dN (fun o => V__law_arities (pen_here := some o)) (fun k o => PenB (n + 1 + k) o) (fun x => x ≤ 2) r p1 (by omega) (fun k o hk hp => by
    obtain ⟨d, o', hm, hp', e⟩ := pickB (xs := [.int 0, .int 1, .int 1, .int 2, .int 2]) hp (by omega) (by simp) (by decide)
    have hd : ∃ x : Nat, d = dN x ∧ x ≤ 2 := by
      simp at hm
      rcases hm with rfl | rfl | rfl
      · exact ⟨0, rfl, by decide⟩
      · exact ⟨1, rfl, by decide⟩
      · exact ⟨2, rfl, by decide⟩
    obtain ⟨x, rfl, hx⟩ := hd
    exact ⟨x, o', hp', hx, by simp [E1__law_arities, q_mulAI, q_mulAL, a_wb, q_divW, Function.comp_def, q_starI, q_starIT, a_wp, a_fz, a_fz0, a_fz1, a_ext, a_ins, a_insA, a_pop, a_parN, a_evO0, a_evO1, a_setO0, a_setO1, a_ix2, a_setII, a_zN, a_zC, a_lcO, d_oo, pEq_int, pNe_int, pIxL, pIxT, atI_nat, atI_0, atI_1, atI_2, atI_3, atI_m1, cutLo, cutHi, cutLo1, cutHi1, a_seq, a_ifS, a_B, a_op, a_ov, a_ev0, a_evv, a_evs, a_C, a_V, a_M, a_set, a_setI, a_app, a_ret, a_ex, a_skip, a_no, a_not, a_andT, a_orT, a_and, a_or, a_notV, a_if, a_par, a_call, a_forS, a_sq, a_r1, a_r2, a_en, a_zp, a_asT, a_chI, a_yes, a_lc, a_fn, okA, f_fr, bkA, rsvs, rsv, dvs, on1, on2, d_fr, d_ol, rsO, ndS, sl, putB, asT, setAll, ofO, Dy.ints1, Dy.ints2, nE, wipeE, unw, frO, q_addI, q_addL, q_addT, q_addS, q_sub, q_div, q_mod, q_pow, q_neg, q_cm, pIs, pIsn, q_isN, q_isI, q_isS, q_isT, q_isL, q_isB, q_lenL, q_lenT, pTup, pLst, q_tupL, q_tupT, q_lstL, q_lstT, q_revL, q_slL, q_slT, q_shL, q_shT, q_sqL, q_sqT, q_intI, q_max2, q_min2, q_aII, q_aBI, q_aTI, q_aTT, q_aLL, q_aTL, q_aIT, e]⟩)
  obtain ⟨at_, o3, r3, p3, e3⟩ := drawB_upto p2 (by omega) (1 + xs.length) (by omega) (by omega)
  have c1 : (r : Int) ≤ 1000000000 ∧ (-1000000000 : Int) ≤ r := by omega
  have c2 : 1 + xs.length ≤ 1000000 := by omega
  have c3 : ((xs.length : Int) + 1) = ((1 + xs.length : Nat) : Int) := by omega
  have c4 : xs.length + 1 - at_ + min at_ (xs.length + 1) ≤ 1000000 := by omega
  let ys := (0 :: xs).drop at_ ++ (0 :: xs).take at_
  have hy : ∀ y ∈ ys, y ∈ 0 :: xs := fun y hy => by
    rcases List.mem_append.mp hy with z | z
    · exact List.mem_of_mem_drop z
    · exact List.mem_of_mem_take z
  have hl : ys.length = xs.length + 1 := by simp [ys]; omega
  refine ⟨ys, o3, ⟨fun a ha => ?_, by rw [hl]; omega, by rw [hl]; omega⟩, ?_, by rw [hl]; omega, p3.mono (by omega), ?_⟩
  · rcases List.mem_cons.mp (hy a ha) with z | z
    · omega
    · exact q2 a z
  · have : (0 : Nat) ∈ (0 :: xs).take at_ ++ (0 :: xs).drop at_ := by rw [List.take_append_drop]; simp
    rcases List.mem_append.mp this with z | z
    · exact List.mem_append_right _ z
    · exact List.mem_append_left _ z
  · obtain ⟨a1, b1, d1, rfl, _⟩ := h
    obtain ⟨a2, b2, d2, rfl, _⟩ := p1
    obtain ⟨a3, b3, d3, rfl, _⟩ := p2
    obtain ⟨a4, b4, d4, rfl, _⟩ := p3
    simp [M__law_arities, b__law_arities, q_mulAI, q_mulAL, a_wb, q_divW, Function.comp_def, q_starI, q_starIT, a_wp, a_fz, a_fz0, a_fz1, a_ext, a_ins, a_insA, a_pop, a_parN, a_evO0, a_evO1, a_setO0, a_setO1, a_ix2, a_setII, a_zN, a_zC, a_lcO, d_oo, pEq_int, pNe_int, pIxL, pIxT, atI_nat, atI_0, atI_1, atI_2, atI_3, atI_m1, cutLo, cutHi, cutLo1, cutHi1, a_seq, a_ifS, a_B, a_op, a_ov, a_ev0, a_evv, a_evs, a_C, a_V, a_M, a_set, a_setI, a_app, a_ret, a_ex, a_skip, a_no, a_not, a_andT, a_orT, a_and, a_or, a_notV, a_if, a_par, a_call, a_forS, a_sq, a_r1, a_r2, a_en, a_zp, a_asT, a_chI, a_yes, a_lc, a_fn, okA, f_fr, bkA, rsvs, rsv, dvs, on1, on2, d_fr, d_ol, rsO, ndS, sl, putB, asT, setAll, ofO, Dy.ints1, Dy.ints2, nE, wipeE, unw, frO, q_addI, q_addL, q_addT, q_addS, q_sub, q_div, q_mod, q_pow, q_neg, q_cm, pIs, pIsn, q_isN, q_isI, q_isS, q_isT, q_isL, q_isB, q_lenL, q_lenT, pTup, pLst, q_tupL, q_tupT, q_lstL, q_lstT, q_revL, q_slL, q_slT, q_shL, q_shT, q_sqL, q_sqT, q_intI, q_max2, q_min2, q_aII, q_aBI, q_aTI, q_aTT, q_aLL, q_aTL, q_aIT, e1, c1, e2, c2]
    rw [c3, e3]
    simp [q_mulAI, q_mulAL, a_wb, q_divW, Function.comp_def, q_starI, q_starIT, a_wp, a_fz, a_fz0, a_fz1, a_ext, a_ins, a_insA, a_pop, a_parN, a_evO0, a_evO1, a_setO0, a_setO1, a_ix2, a_setII, a_zN, a_zC, a_lcO, d_oo, pEq_int, pNe_int, pIxL, pIxT, atI_nat, atI_0, atI_1, atI_2, atI_3, atI_m1, cutLo, cutHi, cutLo1, cutHi1, a_seq, a_ifS, a_B, a_op, a_ov, a_ev0, a_evv, a_evs, a_C, a_V, a_M, a_set, a_setI, a_app, a_ret, a_ex, a_skip, a_no, a_not, a_andT, a_orT, a_and, a_or, a_notV, a_if, a_par, a_call, a_forS, a_sq, a_r1, a_r2, a_en, a_zp, a_asT, a_chI, a_yes, a_lc, a_fn, okA, f_fr, bkA, rsvs, rsv, dvs, on1, on2, d_fr, d_ol, rsO, ndS, sl, putB, asT, setAll, ofO, Dy.ints1, Dy.ints2, nE, wipeE, unw, frO, q_addI, q_addL, q_addT, q_addS, q_sub, q_div, q_mod, q_pow, q_neg, q_cm, pIs, pIsn, q_isN, q_isI, q_isS, q_isT, q_isL, q_isB, q_lenL, q_lenT, pTup, pLst, q_tupL, q_tupT, q_lstL, q_lstT, q_revL, q_slL, q_slT, q_shL, q_shT, q_sqL, q_sqT, q_intI, q_max2, q_min2, q_aII, q_aBI, q_aTI, q_aTT, q_aLL, q_aTL, q_aIT, c4, ys]
    rfl
def lvs (p : Nat → Bool) (as : List Nat) : List Nat := (ens as).filterMap fun q => if p q.2 = true then some q.1 else none
theorem lvs_enc (p : Nat → Bool) (as : List Nat) : ((ens as).filterMap fun q => if p q.2 = true then some (dN q.1) else none) = (lvs p as).map dN := by
  unfold lvs
  rw [List.map_filterMap]
  congr 1; funext q; split <;> rfl
theorem lvs_mem {p : Nat → Bool} {as : List Nat} {x : Nat} : x ∈ lvs p as ↔ ∃ a, as[x]? = some a ∧ p a = true := by
  unfold lvs
  rw [List.mem_filterMap]
  constructor
  · rintro ⟨⟨i, a⟩, h1, h2⟩
    have := ens_mem h1
    dsimp only at h2
    split at h2
    · rename_i hp; cases h2; exact ⟨a, this, hp⟩
    · cases h2
  · rintro ⟨a, h1, h2⟩
    exact ⟨(x, a), mem_ens h1, by simp [h2]⟩
theorem lvs_len (p : Nat → Bool) (as : List Nat) : (lvs p as).length ≤ as.length := by
  unfold lvs
  exact Nat.le_trans (List.length_filterMap_le _ _) (by rw [ens_len]; exact Nat.le_refl _)
theorem treeB' {n : Nat} {o : O} {as : List Nat} {most : Nat} (h : PenB n o) (hn : n < 900000000) (ha : ArOk as) (h0 : 0 ∈ as) (m0 : 0 < most) (m1 : most ≤ 100) :
    ∃ (t : List Nd) (o' : O), TrOk as t ∧ t.length ≤ most ∧ PenB (n + 2 + 5 * most) o' ∧ M__law_tree [o, .fr (encA as), .fr (dN most)] = .ok (.fr (encT t), [o', .fr (encA as), .fr (dN most)]) := by
  have hl := ha.len
  have e0 : ∀ e : Dy.Env, e = V__law_tree (pen_here := some o) (arities_here := fr (encA as)) (most := fr (dN most)) → lcL [6, 9] (.tu [6, 9]) T1__law_tree E1__law_tree (enumD 0 (as.map dN)) e [] = .ok ((lvs (fun a => decide (a = 0)) as).map dN, e) := fun e he => by
    rw [lc_fl (fun q : Nat × Nat => .tuple [.int (q.1 : Int), dN q.2]) (fun q => if decide (q.2 = 0) = true then some (dN q.1) else none) (ens as) (enumD_ens _ _) (fun q hq => ?_) (by rw [ens_len]; omega), lvs_enc (fun a => decide (a = 0))]
    subst he
    by_cases z : q.2 = 0 <;> simp [T1__law_tree, E1__law_tree, q_mulAI, q_mulAL, a_wb, q_divW, Function.comp_def, q_starI, q_starIT, a_wp, a_fz, a_fz0, a_fz1, a_ext, a_ins, a_insA, a_pop, a_parN, a_evO0, a_evO1, a_setO0, a_setO1, a_ix2, a_setII, a_zN, a_zC, a_lcO, d_oo, pEq_int, pNe_int, pIxL, pIxT, atI_nat, atI_0, atI_1, atI_2, atI_3, atI_m1, cutLo, cutHi, cutLo1, cutHi1, a_seq, a_ifS, a_B, a_op, a_ov, a_ev0, a_evv, a_evs, a_C, a_V, a_M, a_set, a_setI, a_app, a_ret, a_ex, a_skip, a_no, a_not, a_andT, a_orT, a_and, a_or, a_notV, a_if, a_par, a_call, a_forS, a_sq, a_r1, a_r2, a_en, a_zp, a_asT, a_chI, a_yes, a_lc, a_fn, okA, f_fr, bkA, rsvs, rsv, dvs, on1, on2, d_fr, d_ol, rsO, ndS, sl, putB, asT, setAll, ofO, Dy.ints1, Dy.ints2, nE, wipeE, unw, frO, q_addI, q_addL, q_addT, q_addS, q_sub, q_div, q_mod, q_pow, q_neg, q_cm, pIs, pIsn, q_isN, q_isI, q_isS, q_isT, q_isL, q_isB, q_lenL, q_lenT, pTup, pLst, q_tupL, q_tupT, q_lstL, q_lstT, q_revL, q_slL, q_slT, q_shL, q_shT, q_sqL, q_sqT, q_intI, q_max2, q_min2, q_aII, q_aBI, q_aTI, q_aTT, q_aLL, q_aTL, q_aIT, z]
  have hv : ∃ x, x ∈ lvs (fun a => decide (a = 0)) as := by
    obtain ⟨i, hi⟩ := List.getElem?_of_mem h0
    exact ⟨i, lvs_mem.mpr ⟨0, hi, by simp⟩⟩
  obtain ⟨d, o1, hd, p1, e1⟩ := pickB (xs := (lvs (fun a => decide (a = 0)) as).map dN) h (by omega) (fun z => by obtain ⟨x, hx⟩ := hv; rw [List.map_eq_nil_iff.mp z] at hx; cases hx) (by have := lvs_len (fun a => decide (a = 0)) as; simp; omega)
  obtain ⟨leaf, hleaf, rfl⟩ := List.mem_map.mp hd
  obtain ⟨a0, ha0, hz⟩ := lvs_mem.mp hleaf
  have hz : a0 = 0 := by simpa using hz
  subst hz
  obtain ⟨r, o2, r2, p2, e2⟩ := drawB_upto p1 (by omega) most m0 (by omega)
  obtain ⟨s, ⟨p3, w3, l3⟩, e3⟩ := for_r (t := .nm 5) (body := L1__law_tree) (fun s : O × List Nd => V__law_tree (pen_here := some s.1) (arities_here := fr (encA as)) (most := fr (dN most)) (found := ol (s.2.map encN)))
    (fun k s => PenB (n + 2 + 5 * k) s.1 ∧ WF as s.2 ∧ s.2.length = k + 1) r (s := (o2, [(leaf, [])])) ⟨p2, WF.nil.snoc (n := (leaf, [])) ⟨ha0, by simp⟩, rfl⟩ (fun k s hk hs => by
      obtain ⟨o3, t⟩ := s
      obtain ⟨q1, q2, q3⟩ := hs
      dsimp only at q1 q2 q3
      obtain ⟨op, o4, r4, p4, e4⟩ := drawB_upto q1 (by omega) as.length ha.pos (by omega)
      obtain ⟨a, ga, ma⟩ := get_of_lt r4
      have a2 := ha.le2 a ma
      obtain ⟨ps, o5, p5, l5, r5, e5⟩ := lc_r (vs := [10]) (t := .nm 10) (elt := E2__law_tree) dN (fun o => V__law_tree (pen_here := some o) (arities_here := fr (encA as)) (most := fr (dN most)) (found := ol (t.map encN)) (turn := fr (dN k)) (operator := fr (dN op)) (last := fr (dN k)))
        (fun j o => PenB (n + 2 + 5 * k + 1 + 2 * j) o) (fun x => x < t.length) a p4 (by omega) (fun j o hj hp => by
          obtain ⟨c, o6, r6, p6, e6⟩ := drawB (m := 2) hp (by omega) (by decide) (by decide)
          by_cases hc : c = 0
          · subst hc
            exact ⟨k, o6, p6.mono (by omega), by omega, by simp [E2__law_tree, q_mulAI, q_mulAL, a_wb, q_divW, Function.comp_def, q_starI, q_starIT, a_wp, a_fz, a_fz0, a_fz1, a_ext, a_ins, a_insA, a_pop, a_parN, a_evO0, a_evO1, a_setO0, a_setO1, a_ix2, a_setII, a_zN, a_zC, a_lcO, d_oo, pEq_int, pNe_int, pIxL, pIxT, atI_nat, atI_0, atI_1, atI_2, atI_3, atI_m1, cutLo, cutHi, cutLo1, cutHi1, a_seq, a_ifS, a_B, a_op, a_ov, a_ev0, a_evv, a_evs, a_C, a_V, a_M, a_set, a_setI, a_app, a_ret, a_ex, a_skip, a_no, a_not, a_andT, a_orT, a_and, a_or, a_notV, a_if, a_par, a_call, a_forS, a_sq, a_r1, a_r2, a_en, a_zp, a_asT, a_chI, a_yes, a_lc, a_fn, okA, f_fr, bkA, rsvs, rsv, dvs, on1, on2, d_fr, d_ol, rsO, ndS, sl, putB, asT, setAll, ofO, Dy.ints1, Dy.ints2, nE, wipeE, unw, frO, q_addI, q_addL, q_addT, q_addS, q_sub, q_div, q_mod, q_pow, q_neg, q_cm, pIs, pIsn, q_isN, q_isI, q_isS, q_isT, q_isL, q_isB, q_lenL, q_lenT, pTup, pLst, q_tupL, q_tupT, q_lstL, q_lstT, q_revL, q_slL, q_slT, q_shL, q_shT, q_sqL, q_sqT, q_intI, q_max2, q_min2, q_aII, q_aBI, q_aTI, q_aTT, q_aLL, q_aTL, q_aIT, e6]⟩
          · obtain ⟨c2, o7, r7, p7, e7⟩ := drawB_upto p6 (by omega) t.length (by omega) (by omega)
            exact ⟨c2, o7, p7.mono (by omega), r7, by simp [E2__law_tree, q_mulAI, q_mulAL, a_wb, q_divW, Function.comp_def, q_starI, q_starIT, a_wp, a_fz, a_fz0, a_fz1, a_ext, a_ins, a_insA, a_pop, a_parN, a_evO0, a_evO1, a_setO0, a_setO1, a_ix2, a_setII, a_zN, a_zC, a_lcO, d_oo, pEq_int, pNe_int, pIxL, pIxT, atI_nat, atI_0, atI_1, atI_2, atI_3, atI_m1, cutLo, cutHi, cutLo1, cutHi1, a_seq, a_ifS, a_B, a_op, a_ov, a_ev0, a_evv, a_evs, a_C, a_V, a_M, a_set, a_setI, a_app, a_ret, a_ex, a_skip, a_no, a_not, a_andT, a_orT, a_and, a_or, a_notV, a_if, a_par, a_call, a_forS, a_sq, a_r1, a_r2, a_en, a_zp, a_asT, a_chI, a_yes, a_lc, a_fn, okA, f_fr, bkA, rsvs, rsv, dvs, on1, on2, d_fr, d_ol, rsO, ndS, sl, putB, asT, setAll, ofO, Dy.ints1, Dy.ints2, nE, wipeE, unw, frO, q_addI, q_addL, q_addT, q_addS, q_sub, q_div, q_mod, q_pow, q_neg, q_cm, pIs, pIsn, q_isN, q_isI, q_isS, q_isT, q_isL, q_isB, q_lenL, q_lenT, pTup, pLst, q_tupL, q_tupT, q_lstL, q_lstT, q_revL, q_slL, q_slT, q_shL, q_shT, q_sqL, q_sqT, q_intI, q_max2, q_min2, q_aII, q_aBI, q_aTI, q_aTT, q_aLL, q_aTL, q_aIT, e6, hc, e7]⟩)
      refine ⟨(o5, t ++ [(op, ps)]), ⟨p5.mono (by omega), q2.snoc ⟨by rw [ga, l5], r5⟩, by simp [q3]⟩, ?_⟩
      have c1 : ((k : Int) + 1 - 1) = k := by omega
      have c2 : (a : Int) ≤ 1000000000 ∧ (-1000000000 : Int) ≤ a := by omega
      have c3 : 1 + ps.length ≤ 1000000 := by omega
      have c4 : k + 1 < 1000000 := by omega
      simp [L1__law_tree, q_mulAI, q_mulAL, a_wb, q_divW, Function.comp_def, q_starI, q_starIT, a_wp, a_fz, a_fz0, a_fz1, a_ext, a_ins, a_insA, a_pop, a_parN, a_evO0, a_evO1, a_setO0, a_setO1, a_ix2, a_setII, a_zN, a_zC, a_lcO, d_oo, pEq_int, pNe_int, pIxL, pIxT, atI_nat, atI_0, atI_1, atI_2, atI_3, atI_m1, cutLo, cutHi, cutLo1, cutHi1, a_seq, a_ifS, a_B, a_op, a_ov, a_ev0, a_evv, a_evs, a_C, a_V, a_M, a_set, a_setI, a_app, a_ret, a_ex, a_skip, a_no, a_not, a_andT, a_orT, a_and, a_or, a_notV, a_if, a_par, a_call, a_forS, a_sq, a_r1, a_r2, a_en, a_zp, a_asT, a_chI, a_yes, a_lc, a_fn, okA, f_fr, bkA, rsvs, rsv, dvs, on1, on2, d_fr, d_ol, rsO, ndS, sl, putB, asT, setAll, ofO, Dy.ints1, Dy.ints2, nE, wipeE, unw, frO, q_addI, q_addL, q_addT, q_addS, q_sub, q_div, q_mod, q_pow, q_neg, q_cm, pIs, pIsn, q_isN, q_isI, q_isS, q_isT, q_isL, q_isB, q_lenL, q_lenT, pTup, pLst, q_tupL, q_tupT, q_lstL, q_lstT, q_revL, q_slL, q_slT, q_shL, q_shT, q_sqL, q_sqT, q_intI, q_max2, q_min2, q_aII, q_aBI, q_aTI, q_aTT, q_aLL, q_aTL, q_aIT, e4, q3, c1, ga, c2, e5, c3, c4])
  have c2 : (r : Int) ≤ 1000000000 ∧ (-1000000000 : Int) ≤ r := by omega
  refine ⟨s.2, s.1, ⟨w3, fun z => by rw [z] at l3; simp at l3, by omega⟩, by omega, p3.mono (by omega), ?_⟩
  dsimp only [List.map, encN] at e3
  simp [M__law_tree, b__law_tree, q_mulAI, q_mulAL, a_wb, q_divW, Function.comp_def, q_starI, q_starIT, a_wp, a_fz, a_fz0, a_fz1, a_ext, a_ins, a_insA, a_pop, a_parN, a_evO0, a_evO1, a_setO0, a_setO1, a_ix2, a_setII, a_zN, a_zC, a_lcO, d_oo, pEq_int, pNe_int, pIxL, pIxT, atI_nat, atI_0, atI_1, atI_2, atI_3, atI_m1, cutLo, cutHi, cutLo1, cutHi1, a_seq, a_ifS, a_B, a_op, a_ov, a_ev0, a_evv, a_evs, a_C, a_V, a_M, a_set, a_setI, a_app, a_ret, a_ex, a_skip, a_no, a_not, a_andT, a_orT, a_and, a_or, a_notV, a_if, a_par, a_call, a_forS, a_sq, a_r1, a_r2, a_en, a_zp, a_asT, a_chI, a_yes, a_lc, a_fn, okA, f_fr, bkA, rsvs, rsv, dvs, on1, on2, d_fr, d_ol, rsO, ndS, sl, putB, asT, setAll, ofO, Dy.ints1, Dy.ints2, nE, wipeE, unw, frO, q_addI, q_addL, q_addT, q_addS, q_sub, q_div, q_mod, q_pow, q_neg, q_cm, pIs, pIsn, q_isN, q_isI, q_isS, q_isT, q_isL, q_isB, q_lenL, q_lenT, pTup, pLst, q_tupL, q_tupT, q_lstL, q_lstT, q_revL, q_slL, q_slT, q_shL, q_shT, q_sqL, q_sqT, q_intI, q_max2, q_min2, q_aII, q_aBI, q_aTI, q_aTT, q_aLL, q_aTL, q_aIT, e0, e1, e2, c2, e3]
theorem treeB {n : Nat} {o : O} {as : List Nat} {mi : Int} (most : Nat) (h : PenB n o) (hn : n < 900000000) (ha : ArOk as) (h0 : 0 ∈ as) (m0 : 0 < most) (m1 : most ≤ 100) (hm : mi = most) :
    ∃ (t : List Nd) (o' : O), TrOk as t ∧ t.length ≤ most ∧ PenB (n + 2 + 5 * most) o' ∧ M__law_tree [o, .fr (encA as), .fr (.int mi)] = .ok (.fr (encT t), [o', .fr (encA as), .fr (.int mi)]) := by
  subst hm; exact treeB' h hn ha h0 m0 m1
theorem contextB {n : Nat} {o : O} {as : List Nat} {mi : Int} (most : Nat) (h : PenB n o) (hn : n < 800000000) (ha : ArOk as) (h0 : 0 ∈ as) (m1 : most ≤ 4) (hm : mi = most) :
    ∃ (c : List Leg) (o' : O), CxOk as c ∧ c.length ≤ most ∧ (∀ s ∈ c, ∀ t ∈ s.sib, t.length ≤ 3) ∧ PenB (n + 100) o' ∧ M__law_context [o, .fr (encA as), .fr (.int mi)] = .ok (.fr (encC c), [o', .fr (encA as), .fr (.int mi)]) := by
  subst hm
  have hl := ha.len
  let ls := lvs (fun a => decide (0 < a)) as
  have e0 : ∀ e : Dy.Env, e = V__law_context (pen_here := some o) (arities_here := fr (encA as)) (most := fr (dN most)) → lcL [6, 8] (.tu [6, 8]) T1__law_context E1__law_context (enumD 0 (as.map dN)) e [] = .ok (ls.map dN, e) := fun e he => by
    rw [lc_fl (fun q : Nat × Nat => .tuple [.int (q.1 : Int), dN q.2]) (fun q => if decide (0 < q.2) = true then some (dN q.1) else none) (ens as) (enumD_ens _ _) (fun q hq => ?_) (by rw [ens_len]; omega), lvs_enc (fun a => decide (0 < a))]
    subst he
    by_cases z : 0 < q.2 <;> simp [T1__law_context, E1__law_context, q_mulAI, q_mulAL, a_wb, q_divW, Function.comp_def, q_starI, q_starIT, a_wp, a_fz, a_fz0, a_fz1, a_ext, a_ins, a_insA, a_pop, a_parN, a_evO0, a_evO1, a_setO0, a_setO1, a_ix2, a_setII, a_zN, a_zC, a_lcO, d_oo, pEq_int, pNe_int, pIxL, pIxT, atI_nat, atI_0, atI_1, atI_2, atI_3, atI_m1, cutLo, cutHi, cutLo1, cutHi1, a_seq, a_ifS, a_B, a_op, a_ov, a_ev0, a_evv, a_evs, a_C, a_V, a_M, a_set, a_setI, a_app, a_ret, a_ex, a_skip, a_no, a_not, a_andT, a_orT, a_and, a_or, a_notV, a_if, a_par, a_call, a_forS, a_sq, a_r1, a_r2, a_en, a_zp, a_asT, a_chI, a_yes, a_lc, a_fn, okA, f_fr, bkA, rsvs, rsv, dvs, on1, on2, d_fr, d_ol, rsO, ndS, sl, putB, asT, setAll, ofO, Dy.ints1, Dy.ints2, nE, wipeE, unw, frO, q_addI, q_addL, q_addT, q_addS, q_sub, q_div, q_mod, q_pow, q_neg, q_cm, pIs, pIsn, q_isN, q_isI, q_isS, q_isT, q_isL, q_isB, q_lenL, q_lenT, pTup, pLst, q_tupL, q_tupT, q_lstL, q_lstT, q_revL, q_slL, q_slT, q_shL, q_shT, q_sqL, q_sqT, q_intI, q_max2, q_min2, q_aII, q_aBI, q_aTI, q_aTT, q_aLL, q_aTL, q_aIT, z]
  have hls : ls.length ≤ as.length := lvs_len _ _
  have rk : shp (.list (ls.map dN)) = true := (Rk.lst (rkNs fun a ha' => by obtain ⟨x, hx, _⟩ := lvs_mem.mp ha'; have := lt_of_get hx; omega)).shp (by decide)
  have turns : ∃ (r : Nat) (o1 : O), r ≤ most ∧ (ls = [] → r = 0) ∧ PenB (n + 1) o1 ∧ ((ls = [] ∧ r = 0 ∧ o1 = o) ∨ (ls ≠ [] ∧ M__law_draw [o, .fr (.int (1 + most : Int))] = .ok (.fr (dN r), [o1, .fr (.int (1 + most : Int))]))) := by
    by_cases z : ls = []
    · exact ⟨0, o, Nat.zero_le _, fun _ => rfl, h.mono (by omega), .inl ⟨z, rfl, rfl⟩⟩
    · obtain ⟨r, o1, r1, p1, e1⟩ := drawB_upto h (by omega) (1 + most) (by omega) (by omega)
      have c : (1 : Int) + most = ((1 + most : Nat) : Int) := by omega
      exact ⟨r, o1, by omega, fun y => absurd y z, p1, .inr ⟨z, by rw [c]; exact e1⟩⟩
  obtain ⟨r, o1, r1, z1, p1, e1⟩ := turns
  obtain ⟨s, ⟨p3, w3, l3, k3⟩, e3⟩ := for_r (t := .nm 5) (body := L1__law_context) (fun s : O × List Leg => V__law_context (pen_here := some s.1) (arities_here := fr (encA as)) (most := fr (dN most)) (some_ := fr (.list (ls.map dN))) (found := ol (s.2.map encL)))
    (fun k s => PenB (n + 1 + 20 * k) s.1 ∧ (∀ l ∈ s.2, LegOk as l) ∧ s.2.length = k ∧ ∀ l ∈ s.2, ∀ t ∈ l.sib, t.length ≤ 3) r (s := (o1, [])) ⟨p1, by simp, rfl, by simp⟩ (fun k s hk hs => by
      obtain ⟨o2, c⟩ := s
      obtain ⟨q1, q2, q3, q4⟩ := hs
      dsimp only at q1 q2 q3 q4
      obtain ⟨d, o3, hd, p4, e4⟩ := pickB (xs := ls.map dN) q1 (by omega) (fun y => by have := z1 (List.map_eq_nil_iff.mp y); omega) (by rw [List.length_map]; omega)
      obtain ⟨op, hop, rfl⟩ := List.mem_map.mp hd
      obtain ⟨a, ga, pa⟩ := lvs_mem.mp hop
      have pa : 0 < a := by simpa using pa
      have a2 := ha.le2 a (List.mem_of_getElem? ga)
      obtain ⟨us, o4, p5, l5, r5, e5⟩ := lc_r (vs := [9]) (t := .nm 9) (elt := E2__law_context) encT (fun o => V__law_context (pen_here := some o) (arities_here := fr (encA as)) (most := fr (dN most)) (some_ := fr (.list (ls.map dN))) (found := ol (c.map encL)) (turn := fr (dN k)) (operator := fr (dN op)))
        (fun j o => PenB (n + 1 + 20 * k + 1 + 17 * j) o) (fun t => TrOk as t ∧ t.length ≤ 3) (a - 1) p4 (by omega) (fun j o hj hp => by
          obtain ⟨t, o6, r6, l6, p6, e6⟩ := treeB (mi := 3) 3 hp (by omega) ha h0 (by decide) (by decide) rfl
          exact ⟨t, o6, p6.mono (by omega), ⟨r6, l6⟩, by simp [E2__law_context, q_mulAI, q_mulAL, a_wb, q_divW, Function.comp_def, q_starI, q_starIT, a_wp, a_fz, a_fz0, a_fz1, a_ext, a_ins, a_insA, a_pop, a_parN, a_evO0, a_evO1, a_setO0, a_setO1, a_ix2, a_setII, a_zN, a_zC, a_lcO, d_oo, pEq_int, pNe_int, pIxL, pIxT, atI_nat, atI_0, atI_1, atI_2, atI_3, atI_m1, cutLo, cutHi, cutLo1, cutHi1, a_seq, a_ifS, a_B, a_op, a_ov, a_ev0, a_evv, a_evs, a_C, a_V, a_M, a_set, a_setI, a_app, a_ret, a_ex, a_skip, a_no, a_not, a_andT, a_orT, a_and, a_or, a_notV, a_if, a_par, a_call, a_forS, a_sq, a_r1, a_r2, a_en, a_zp, a_asT, a_chI, a_yes, a_lc, a_fn, okA, f_fr, bkA, rsvs, rsv, dvs, on1, on2, d_fr, d_ol, rsO, ndS, sl, putB, asT, setAll, ofO, Dy.ints1, Dy.ints2, nE, wipeE, unw, frO, q_addI, q_addL, q_addT, q_addS, q_sub, q_div, q_mod, q_pow, q_neg, q_cm, pIs, pIsn, q_isN, q_isI, q_isS, q_isT, q_isL, q_isB, q_lenL, q_lenT, pTup, pLst, q_tupL, q_tupT, q_lstL, q_lstT, q_revL, q_slL, q_slT, q_shL, q_shT, q_sqL, q_sqT, q_intI, q_max2, q_min2, q_aII, q_aBI, q_aTI, q_aTT, q_aLL, q_aTL, q_aIT, e6]⟩)
      obtain ⟨pl, o5, r6, p6, e6⟩ := drawB_upto p5 (by omega) a pa (by omega)
      refine ⟨(o5, c ++ [⟨op, pl, us⟩]), ⟨p6.mono (by omega), ?_, by simp [q3], ?_⟩, ?_⟩
      · intro s hs
        rcases List.mem_append.mp hs with y | y
        · exact q2 s y
        · simp at y; subst y
          exact ⟨by rw [ga]; congr 1; dsimp only; omega, by dsimp only; omega, fun t ht => ⟨(r5 t ht).1, by have := (r5 t ht).2; omega⟩⟩
      · intro s hs
        rcases List.mem_append.mp hs with y | y
        · exact q4 s y
        · simp at y; subst y
          exact fun t ht => (r5 t ht).2
      · have c1 : ((a : Int) - 1).toNat = a - 1 := by omega
        have c2 : ((a : Int) - 1 ≤ 1000000000) ∧ (-1000000000 : Int) ≤ (a : Int) - 1 := by omega
        have c4 : k < 1000000 := by omega
        simp [L1__law_context, q_mulAI, q_mulAL, a_wb, q_divW, Function.comp_def, q_starI, q_starIT, a_wp, a_fz, a_fz0, a_fz1, a_ext, a_ins, a_insA, a_pop, a_parN, a_evO0, a_evO1, a_setO0, a_setO1, a_ix2, a_setII, a_zN, a_zC, a_lcO, d_oo, pEq_int, pNe_int, pIxL, pIxT, atI_nat, atI_0, atI_1, atI_2, atI_3, atI_m1, cutLo, cutHi, cutLo1, cutHi1, a_seq, a_ifS, a_B, a_op, a_ov, a_ev0, a_evv, a_evs, a_C, a_V, a_M, a_set, a_setI, a_app, a_ret, a_ex, a_skip, a_no, a_not, a_andT, a_orT, a_and, a_or, a_notV, a_if, a_par, a_call, a_forS, a_sq, a_r1, a_r2, a_en, a_zp, a_asT, a_chI, a_yes, a_lc, a_fn, okA, f_fr, bkA, rsvs, rsv, dvs, on1, on2, d_fr, d_ol, rsO, ndS, sl, putB, asT, setAll, ofO, Dy.ints1, Dy.ints2, nE, wipeE, unw, frO, q_addI, q_addL, q_addT, q_addS, q_sub, q_div, q_mod, q_pow, q_neg, q_cm, pIs, pIsn, q_isN, q_isI, q_isS, q_isT, q_isL, q_isB, q_lenL, q_lenT, pTup, pLst, q_tupL, q_tupT, q_lstL, q_lstT, q_revL, q_slL, q_slT, q_shL, q_shT, q_sqL, q_sqT, q_intI, q_max2, q_min2, q_aII, q_aBI, q_aTI, q_aTT, q_aLL, q_aTL, q_aIT, e4, ga, c1, c2, e5, e6, q3, c4])
  have c2 : (r : Int) ≤ 1000000000 ∧ (-1000000000 : Int) ≤ r := by omega
  refine ⟨s.2, s.1, ⟨w3, by omega⟩, by omega, k3, p3.mono (by omega), ?_⟩
  dsimp only [List.map] at e3
  have e0 := e0 _ rfl
  rcases e1 with ⟨y1, y2, y3⟩ | ⟨y1, y2⟩
  · subst y2; subst y3
    simp only [y1, List.map_nil] at e0 e3
    simp [M__law_context, b__law_context, q_mulAI, q_mulAL, a_wb, q_divW, Function.comp_def, q_starI, q_starIT, a_wp, a_fz, a_fz0, a_fz1, a_ext, a_ins, a_insA, a_pop, a_parN, a_evO0, a_evO1, a_setO0, a_setO1, a_ix2, a_setII, a_zN, a_zC, a_lcO, d_oo, pEq_int, pNe_int, pIxL, pIxT, atI_nat, atI_0, atI_1, atI_2, atI_3, atI_m1, cutLo, cutHi, cutLo1, cutHi1, a_seq, a_ifS, a_B, a_op, a_ov, a_ev0, a_evv, a_evs, a_C, a_V, a_M, a_set, a_setI, a_app, a_ret, a_ex, a_skip, a_no, a_not, a_andT, a_orT, a_and, a_or, a_notV, a_if, a_par, a_call, a_forS, a_sq, a_r1, a_r2, a_en, a_zp, a_asT, a_chI, a_yes, a_lc, a_fn, okA, f_fr, bkA, rsvs, rsv, dvs, on1, on2, d_fr, d_ol, rsO, ndS, sl, putB, asT, setAll, ofO, Dy.ints1, Dy.ints2, nE, wipeE, unw, frO, q_addI, q_addL, q_addT, q_addS, q_sub, q_div, q_mod, q_pow, q_neg, q_cm, pIs, pIsn, q_isN, q_isI, q_isS, q_isT, q_isL, q_isB, q_lenL, q_lenT, pTup, pLst, q_tupL, q_tupT, q_lstL, q_lstT, q_revL, q_slL, q_slT, q_shL, q_shT, q_sqL, q_sqT, q_intI, q_max2, q_min2, q_aII, q_aBI, q_aTI, q_aTT, q_aLL, q_aTL, q_aIT, e0, pNe_nil, e3]
  · simp [M__law_context, b__law_context, q_mulAI, q_mulAL, a_wb, q_divW, Function.comp_def, q_starI, q_starIT, a_wp, a_fz, a_fz0, a_fz1, a_ext, a_ins, a_insA, a_pop, a_parN, a_evO0, a_evO1, a_setO0, a_setO1, a_ix2, a_setII, a_zN, a_zC, a_lcO, d_oo, pEq_int, pNe_int, pIxL, pIxT, atI_nat, atI_0, atI_1, atI_2, atI_3, atI_m1, cutLo, cutHi, cutLo1, cutHi1, a_seq, a_ifS, a_B, a_op, a_ov, a_ev0, a_evv, a_evs, a_C, a_V, a_M, a_set, a_setI, a_app, a_ret, a_ex, a_skip, a_no, a_not, a_andT, a_orT, a_and, a_or, a_notV, a_if, a_par, a_call, a_forS, a_sq, a_r1, a_r2, a_en, a_zp, a_asT, a_chI, a_yes, a_lc, a_fn, okA, f_fr, bkA, rsvs, rsv, dvs, on1, on2, d_fr, d_ol, rsO, ndS, sl, putB, asT, setAll, ofO, Dy.ints1, Dy.ints2, nE, wipeE, unw, frO, q_addI, q_addL, q_addT, q_addS, q_sub, q_div, q_mod, q_pow, q_neg, q_cm, pIs, pIsn, q_isN, q_isI, q_isS, q_isT, q_isL, q_isB, q_lenL, q_lenT, pTup, pLst, q_tupL, q_tupT, q_lstL, q_lstT, q_revL, q_slL, q_slT, q_shL, q_shT, q_sqL, q_sqT, q_intI, q_max2, q_min2, q_aII, q_aBI, q_aTI, q_aTT, q_aLL, q_aTL, q_aIT, e0, pNe_L0 rk, y1, y2, c2, e3]
end Q
namespace Q
open PySem Dy
open L2 (atI ixN)
end Q
namespace Q
open PySem Dy
open L2 (atI ixN)
theorem cx0 (as : List Nat) : CxOk as [] := ⟨by simp, by simp⟩
end Q
namespace Q
open PySem Dy
open L2 (atI ixN)
end Q
namespace Q
open PySem Dy
open L2 (atI ixN)
end Q
namespace Q
open PySem Dy
open L2 (atI ixN)
end Q
namespace Q
open PySem Dy
open L2 (atI ixN)
end Q
namespace Q
open PySem Dy
open L2 (atI ixN)
section
variable {m : Mach} {rows fresh : List (List Pr)}
end
end Q
namespace Q
open PySem Dy
open L2 (atI ixN)
section
variable {m : Mach}
end
end Q
namespace Q
open PySem Dy
end Q
namespace Q
open PySem Dy
end Q
namespace Q
open PySem Dy
end Q
namespace Q
open PySem Dy
end Q
namespace Q
open PySem Dy
end Q
namespace Q
open PySem Dy
end Q
namespace Q
open PySem Dy
end Q
namespace Q
open PySem Dy
end Q
namespace Q
open PySem Dy
open L2 (atI ixN)
section
variable {m : Mach}
end
end Q
namespace Q
open PySem Dy
open L2 (atI ixN)
theorem eqv_dN (a b : Nat) : PyData.eqv (dN a) (dN b) = decide (a = b) := by
  simp only [PyData.eqv]
  by_cases c : a = b
  · simp [c]
  · have : ¬ (a : Int) = b := by omega
    simp [c, this]
section
variable {β : Type}
end
section
variable {as : List Nat} {t : List Nd}
def pl (ps : List (Nat × Nat)) (p : Nat) : Nat := (lk ps p).getD 0
end
end Q
namespace Q
open PySem Dy
open L2 (atI ixN)
mutual
def gd (B : Nat) : PyData → Bool
  | .none => true
  | .bool _ => true
  | .int i => decide (i.natAbs ≤ B)
  | .str x => PyData.strOk x && decide (x.length ≤ 40)
  | .tuple xs => gds B xs
  | .list xs => gds B xs
  | .dict _ => false
def gds (B : Nat) : List PyData → Bool
  | [] => true
  | d :: ds => gd B d && gds B ds
end
mutual
def sz : PyData → Nat
  | .tuple xs => szs xs + 1
  | .list xs => szs xs + 1
  | .none => 1
  | .bool _ => 1
  | .int _ => 1
  | .str _ => 1
  | .dict _ => 1
def szs : List PyData → Nat
  | [] => 0
  | d :: ds => sz d + szs ds
end
theorem sz_pos (d : PyData) : 1 ≤ sz d := by cases d <;> simp [sz]
theorem szs_len : ∀ ds : List PyData, ds.length ≤ szs ds
  | [] => Nat.le_refl _
  | d :: ds => by have := szs_len ds; have := sz_pos d; simp [szs]; omega
mutual
theorem gd_mono {B C : Nat} (h : B ≤ C) : ∀ d : PyData, gd B d = true → gd C d = true
  | .none, _ => rfl
  | .bool _, _ => rfl
  | .int i, e => by simp only [gd, decide_eq_true_eq] at e ⊢; omega
  | .str x, e => e
  | .tuple xs, e => by simp only [gd] at e ⊢; exact gds_mono h xs e
  | .list xs, e => by simp only [gd] at e ⊢; exact gds_mono h xs e
  | .dict _, e => by simp [gd] at e
theorem gds_mono {B C : Nat} (h : B ≤ C) : ∀ ds : List PyData, gds B ds = true → gds C ds = true
  | [], _ => rfl
  | d :: ds, e => by
    simp only [gds, Bool.and_eq_true] at e ⊢
    exact ⟨gd_mono h d e.1, gds_mono h ds e.2⟩
end
/-- any value: numbers up to B, so deep, so great -/
structure Gd (B n m : Nat) (d : PyData) : Prop where
  gd : gd B d = true
  dep : d.depth ≤ n
  sz : sz d ≤ m
theorem Gd.mono {B n m B' n' m' : Nat} {d : PyData} (h : Gd B n m d) (a : B ≤ B') (b : n ≤ n') (c : m ≤ m') : Gd B' n' m' d := ⟨gd_mono a d h.gd, Nat.le_trans h.dep b, Nat.le_trans h.sz c⟩
theorem Gd.len {B n m : Nat} {xs : List PyData} (h : Gd B n m (.tuple xs)) : xs.length < m := by
  have := h.sz
  have := szs_len xs
  simp [Q.sz] at *; omega
def btw (lo hi : Int) : PyData → Bool
  | .int i => decide (lo ≤ i) && decide (i ≤ hi)
  | _ => false
theorem isA_cases (d : PyData) : (∃ i, d = .int i) ∨ (∃ b, d = .bool b) ∨ isA .int d = false := by
  cases d with
  | int i => exact .inl ⟨i, rfl⟩
  | bool b => exact .inr (.inl ⟨b, rfl⟩)
  | _ => exact .inr (.inr rfl)
theorem q_iB (b : Bool) : isA .int (.bool b) = true := rfl
theorem q_bB (b : Bool) : isA .bool (.bool b) = true := rfl
theorem btwD (d : PyData) (lo hi : Int) : M_is_between [.fr d, .fr (.int lo), .fr (.int hi)] = .ok (.fr (.bool (btw lo hi d)), [.fr d, .fr (.int lo), .fr (.int hi)]) := by
  rcases isA_cases d with ⟨i, rfl⟩ | ⟨b, rfl⟩ | h
  · exact between_ok
  · simp [M_is_between, b_is_between, q_mulAI, q_mulAL, a_wb, q_divW, Function.comp_def, q_starI, q_starIT, a_wp, a_fz, a_fz0, a_fz1, a_ext, a_ins, a_insA, a_pop, a_parN, a_evO0, a_evO1, a_setO0, a_setO1, a_ix2, a_setII, a_zN, a_zC, a_lcO, d_oo, pEq_int, pNe_int, pIxL, pIxT, atI_nat, atI_0, atI_1, atI_2, atI_3, atI_m1, cutLo, cutHi, cutLo1, cutHi1, a_seq, a_ifS, a_B, a_op, a_ov, a_ev0, a_evv, a_evs, a_C, a_V, a_M, a_set, a_setI, a_app, a_ret, a_ex, a_skip, a_no, a_not, a_andT, a_orT, a_and, a_or, a_notV, a_if, a_par, a_call, a_forS, a_sq, a_r1, a_r2, a_en, a_zp, a_asT, a_chI, a_yes, a_lc, a_fn, okA, f_fr, bkA, rsvs, rsv, dvs, on1, on2, d_fr, d_ol, rsO, ndS, sl, putB, asT, setAll, ofO, Dy.ints1, Dy.ints2, nE, wipeE, unw, frO, q_addI, q_addL, q_addT, q_addS, q_sub, q_div, q_mod, q_pow, q_neg, q_cm, pIs, pIsn, q_isN, q_isI, q_isS, q_isT, q_isL, q_isB, q_lenL, q_lenT, pTup, pLst, q_tupL, q_tupT, q_lstL, q_lstT, q_revL, q_slL, q_slT, q_shL, q_shT, q_sqL, q_sqT, q_intI, q_max2, q_min2, q_aII, q_aBI, q_aTI, q_aTT, q_aLL, q_aTL, q_aIT, q_iB, q_bB, btw]
  · have hb : btw lo hi d = false := by cases d <;> first | rfl | (exact absurd h (by simp [isA]))
    simp [M_is_between, b_is_between, q_mulAI, q_mulAL, a_wb, q_divW, Function.comp_def, q_starI, q_starIT, a_wp, a_fz, a_fz0, a_fz1, a_ext, a_ins, a_insA, a_pop, a_parN, a_evO0, a_evO1, a_setO0, a_setO1, a_ix2, a_setII, a_zN, a_zC, a_lcO, d_oo, pEq_int, pNe_int, pIxL, pIxT, atI_nat, atI_0, atI_1, atI_2, atI_3, atI_m1, cutLo, cutHi, cutLo1, cutHi1, a_seq, a_ifS, a_B, a_op, a_ov, a_ev0, a_evv, a_evs, a_C, a_V, a_M, a_set, a_setI, a_app, a_ret, a_ex, a_skip, a_no, a_not, a_andT, a_orT, a_and, a_or, a_notV, a_if, a_par, a_call, a_forS, a_sq, a_r1, a_r2, a_en, a_zp, a_asT, a_chI, a_yes, a_lc, a_fn, okA, f_fr, bkA, rsvs, rsv, dvs, on1, on2, d_fr, d_ol, rsO, ndS, sl, putB, asT, setAll, ofO, Dy.ints1, Dy.ints2, nE, wipeE, unw, frO, q_addI, q_addL, q_addT, q_addS, q_sub, q_div, q_mod, q_pow, q_neg, q_cm, pIs, pIsn, q_isN, q_isI, q_isS, q_isT, q_isL, q_isB, q_lenL, q_lenT, pTup, pLst, q_tupL, q_tupT, q_lstL, q_lstT, q_revL, q_slL, q_slT, q_shL, q_shT, q_sqL, q_sqT, q_intI, q_max2, q_min2, q_aII, q_aBI, q_aTI, q_aTT, q_aLL, q_aTL, q_aIT, h, hb]
theorem tup_cases (d : PyData) : (∃ xs, d = .tuple xs) ∨ isA .tuple d = false := by
  cases d with
  | tuple xs => exact .inl ⟨xs, rfl⟩
  | _ => exact .inr rfl
/-- arities -/
def arD : PyData → Bool
  | .tuple xs => decide (1 ≤ xs.length) && decide (xs.length ≤ 6) && xs.all (btw 0 2)
  | _ => false
theorem lc_all {p : PyData → Bool} {elt : EF} {e : Dy.Env} {vs : List Nat} {t : Tg} (xs : List PyData) (hl : xs.length ≤ 100000) (hs : ∀ x ∈ xs, (asT t x e >>= fun e1 => elt e1 >>= fun r => Res.ok (r.1.data, wipeE r.2 vs)) = .ok (.bool (p x), e)) :
    lcL vs t fYes elt xs e [] = .ok ((xs.map p).map PyData.bool, e) := by
  rw [lc_tm (fun d : PyData => d) (fun d => .bool (p d)) xs (by simp) hs hl, List.map_map]; rfl
theorem pAll_map (p : PyData → Bool) (xs : List PyData) : pAll (.list ((xs.map p).map PyData.bool)) = some (.fr (.bool (xs.all p))) := by
  rw [pAll_B, List.all_map]; rfl
theorem aritiesD (d : PyData) : M_is_arities [.fr d] = .ok (.fr (.bool (arD d)), [.fr d]) := by
  rcases tup_cases d with ⟨xs, rfl⟩ | h
  · by_cases h1 : 1 ≤ xs.length
    · by_cases h2 : xs.length ≤ 6
      · have c1 : (1 : Int) ≤ xs.length := by omega
        have c2 : (xs.length : Int) ≤ 6 := by omega
        simp [M_is_arities, b_is_arities, q_mulAI, q_mulAL, a_wb, q_divW, Function.comp_def, q_starI, q_starIT, a_wp, a_fz, a_fz0, a_fz1, a_ext, a_ins, a_insA, a_pop, a_parN, a_evO0, a_evO1, a_setO0, a_setO1, a_ix2, a_setII, a_zN, a_zC, a_lcO, d_oo, pEq_int, pNe_int, pIxL, pIxT, atI_nat, atI_0, atI_1, atI_2, atI_3, atI_m1, cutLo, cutHi, cutLo1, cutHi1, a_seq, a_ifS, a_B, a_op, a_ov, a_ev0, a_evv, a_evs, a_C, a_V, a_M, a_set, a_setI, a_app, a_ret, a_ex, a_skip, a_no, a_not, a_andT, a_orT, a_and, a_or, a_notV, a_if, a_par, a_call, a_forS, a_sq, a_r1, a_r2, a_en, a_zp, a_asT, a_chI, a_yes, a_lc, a_fn, okA, f_fr, bkA, rsvs, rsv, dvs, on1, on2, d_fr, d_ol, rsO, ndS, sl, putB, asT, setAll, ofO, Dy.ints1, Dy.ints2, nE, wipeE, unw, frO, q_addI, q_addL, q_addT, q_addS, q_sub, q_div, q_mod, q_pow, q_neg, q_cm, pIs, pIsn, q_isN, q_isI, q_isS, q_isT, q_isL, q_isB, q_lenL, q_lenT, pTup, pLst, q_tupL, q_tupT, q_lstL, q_lstT, q_revL, q_slL, q_slT, q_shL, q_shT, q_sqL, q_sqT, q_intI, q_max2, q_min2, q_aII, q_aBI, q_aTI, q_aTT, q_aLL, q_aTL, q_aIT, c1, c2]
        rw [lc_all (p := btw 0 2) xs (by omega) (fun x hx => by simp [E1_is_arities, q_mulAI, q_mulAL, a_wb, q_divW, Function.comp_def, q_starI, q_starIT, a_wp, a_fz, a_fz0, a_fz1, a_ext, a_ins, a_insA, a_pop, a_parN, a_evO0, a_evO1, a_setO0, a_setO1, a_ix2, a_setII, a_zN, a_zC, a_lcO, d_oo, pEq_int, pNe_int, pIxL, pIxT, atI_nat, atI_0, atI_1, atI_2, atI_3, atI_m1, cutLo, cutHi, cutLo1, cutHi1, a_seq, a_ifS, a_B, a_op, a_ov, a_ev0, a_evv, a_evs, a_C, a_V, a_M, a_set, a_setI, a_app, a_ret, a_ex, a_skip, a_no, a_not, a_andT, a_orT, a_and, a_or, a_notV, a_if, a_par, a_call, a_forS, a_sq, a_r1, a_r2, a_en, a_zp, a_asT, a_chI, a_yes, a_lc, a_fn, okA, f_fr, bkA, rsvs, rsv, dvs, on1, on2, d_fr, d_ol, rsO, ndS, sl, putB, asT, setAll, ofO, Dy.ints1, Dy.ints2, nE, wipeE, unw, frO, q_addI, q_addL, q_addT, q_addS, q_sub, q_div, q_mod, q_pow, q_neg, q_cm, pIs, pIsn, q_isN, q_isI, q_isS, q_isT, q_isL, q_isB, q_lenL, q_lenT, pTup, pLst, q_tupL, q_tupT, q_lstL, q_lstT, q_revL, q_slL, q_slT, q_shL, q_shT, q_sqL, q_sqT, q_intI, q_max2, q_min2, q_aII, q_aBI, q_aTI, q_aTT, q_aLL, q_aTL, q_aIT, btwD])]
        have pa := pAll_map (btw 0 2) xs
        simp only [List.map_map, Function.comp_def] at pa
        simp [q_mulAI, q_mulAL, a_wb, q_divW, Function.comp_def, q_starI, q_starIT, a_wp, a_fz, a_fz0, a_fz1, a_ext, a_ins, a_insA, a_pop, a_parN, a_evO0, a_evO1, a_setO0, a_setO1, a_ix2, a_setII, a_zN, a_zC, a_lcO, d_oo, pEq_int, pNe_int, pIxL, pIxT, atI_nat, atI_0, atI_1, atI_2, atI_3, atI_m1, cutLo, cutHi, cutLo1, cutHi1, a_seq, a_ifS, a_B, a_op, a_ov, a_ev0, a_evv, a_evs, a_C, a_V, a_M, a_set, a_setI, a_app, a_ret, a_ex, a_skip, a_no, a_not, a_andT, a_orT, a_and, a_or, a_notV, a_if, a_par, a_call, a_forS, a_sq, a_r1, a_r2, a_en, a_zp, a_asT, a_chI, a_yes, a_lc, a_fn, okA, f_fr, bkA, rsvs, rsv, dvs, on1, on2, d_fr, d_ol, rsO, ndS, sl, putB, asT, setAll, ofO, Dy.ints1, Dy.ints2, nE, wipeE, unw, frO, q_addI, q_addL, q_addT, q_addS, q_sub, q_div, q_mod, q_pow, q_neg, q_cm, pIs, pIsn, q_isN, q_isI, q_isS, q_isT, q_isL, q_isB, q_lenL, q_lenT, pTup, pLst, q_tupL, q_tupT, q_lstL, q_lstT, q_revL, q_slL, q_slT, q_shL, q_shT, q_sqL, q_sqT, q_intI, q_max2, q_min2, q_aII, q_aBI, q_aTI, q_aTT, q_aLL, q_aTL, q_aIT, pa, arD, h1, h2]
      · have c1 : (1 : Int) ≤ xs.length := by omega
        have c2 : ¬ (xs.length : Int) ≤ 6 := by omega
        simp [M_is_arities, b_is_arities, q_mulAI, q_mulAL, a_wb, q_divW, Function.comp_def, q_starI, q_starIT, a_wp, a_fz, a_fz0, a_fz1, a_ext, a_ins, a_insA, a_pop, a_parN, a_evO0, a_evO1, a_setO0, a_setO1, a_ix2, a_setII, a_zN, a_zC, a_lcO, d_oo, pEq_int, pNe_int, pIxL, pIxT, atI_nat, atI_0, atI_1, atI_2, atI_3, atI_m1, cutLo, cutHi, cutLo1, cutHi1, a_seq, a_ifS, a_B, a_op, a_ov, a_ev0, a_evv, a_evs, a_C, a_V, a_M, a_set, a_setI, a_app, a_ret, a_ex, a_skip, a_no, a_not, a_andT, a_orT, a_and, a_or, a_notV, a_if, a_par, a_call, a_forS, a_sq, a_r1, a_r2, a_en, a_zp, a_asT, a_chI, a_yes, a_lc, a_fn, okA, f_fr, bkA, rsvs, rsv, dvs, on1, on2, d_fr, d_ol, rsO, ndS, sl, putB, asT, setAll, ofO, Dy.ints1, Dy.ints2, nE, wipeE, unw, frO, q_addI, q_addL, q_addT, q_addS, q_sub, q_div, q_mod, q_pow, q_neg, q_cm, pIs, pIsn, q_isN, q_isI, q_isS, q_isT, q_isL, q_isB, q_lenL, q_lenT, pTup, pLst, q_tupL, q_tupT, q_lstL, q_lstT, q_revL, q_slL, q_slT, q_shL, q_shT, q_sqL, q_sqT, q_intI, q_max2, q_min2, q_aII, q_aBI, q_aTI, q_aTT, q_aLL, q_aTL, q_aIT, c1, c2, arD, h2]
    · have c1 : ¬ (1 : Int) ≤ xs.length := by omega
      simp [M_is_arities, b_is_arities, q_mulAI, q_mulAL, a_wb, q_divW, Function.comp_def, q_starI, q_starIT, a_wp, a_fz, a_fz0, a_fz1, a_ext, a_ins, a_insA, a_pop, a_parN, a_evO0, a_evO1, a_setO0, a_setO1, a_ix2, a_setII, a_zN, a_zC, a_lcO, d_oo, pEq_int, pNe_int, pIxL, pIxT, atI_nat, atI_0, atI_1, atI_2, atI_3, atI_m1, cutLo, cutHi, cutLo1, cutHi1, a_seq, a_ifS, a_B, a_op, a_ov, a_ev0, a_evv, a_evs, a_C, a_V, a_M, a_set, a_setI, a_app, a_ret, a_ex, a_skip, a_no, a_not, a_andT, a_orT, a_and, a_or, a_notV, a_if, a_par, a_call, a_forS, a_sq, a_r1, a_r2, a_en, a_zp, a_asT, a_chI, a_yes, a_lc, a_fn, okA, f_fr, bkA, rsvs, rsv, dvs, on1, on2, d_fr, d_ol, rsO, ndS, sl, putB, asT, setAll, ofO, Dy.ints1, Dy.ints2, nE, wipeE, unw, frO, q_addI, q_addL, q_addT, q_addS, q_sub, q_div, q_mod, q_pow, q_neg, q_cm, pIs, pIsn, q_isN, q_isI, q_isS, q_isT, q_isL, q_isB, q_lenL, q_lenT, pTup, pLst, q_tupL, q_tupT, q_lstL, q_lstT, q_revL, q_slL, q_slT, q_shL, q_shT, q_sqL, q_sqT, q_intI, q_max2, q_min2, q_aII, q_aBI, q_aTI, q_aTT, q_aLL, q_aTL, q_aIT, c1, arD, h1]
  · have hb : arD d = false := by cases d <;> first | rfl | (exact absurd h (by simp [isA]))
    simp [M_is_arities, b_is_arities, q_mulAI, q_mulAL, a_wb, q_divW, Function.comp_def, q_starI, q_starIT, a_wp, a_fz, a_fz0, a_fz1, a_ext, a_ins, a_insA, a_pop, a_parN, a_evO0, a_evO1, a_setO0, a_setO1, a_ix2, a_setII, a_zN, a_zC, a_lcO, d_oo, pEq_int, pNe_int, pIxL, pIxT, atI_nat, atI_0, atI_1, atI_2, atI_3, atI_m1, cutLo, cutHi, cutLo1, cutHi1, a_seq, a_ifS, a_B, a_op, a_ov, a_ev0, a_evv, a_evs, a_C, a_V, a_M, a_set, a_setI, a_app, a_ret, a_ex, a_skip, a_no, a_not, a_andT, a_orT, a_and, a_or, a_notV, a_if, a_par, a_call, a_forS, a_sq, a_r1, a_r2, a_en, a_zp, a_asT, a_chI, a_yes, a_lc, a_fn, okA, f_fr, bkA, rsvs, rsv, dvs, on1, on2, d_fr, d_ol, rsO, ndS, sl, putB, asT, setAll, ofO, Dy.ints1, Dy.ints2, nE, wipeE, unw, frO, q_addI, q_addL, q_addT, q_addS, q_sub, q_div, q_mod, q_pow, q_neg, q_cm, pIs, pIsn, q_isN, q_isI, q_isS, q_isT, q_isL, q_isB, q_lenL, q_lenT, pTup, pLst, q_tupL, q_tupT, q_lstL, q_lstT, q_revL, q_slL, q_slT, q_shL, q_shT, q_sqL, q_sqT, q_intI, q_max2, q_min2, q_aII, q_aBI, q_aTI, q_aTT, q_aLL, q_aTL, q_aIT, h, hb]
theorem btw_int {lo hi : Int} {d : PyData} (h : btw lo hi d = true) : ∃ i, d = .int i ∧ lo ≤ i ∧ i ≤ hi := by
  cases d with
  | int i => simp only [btw, Bool.and_eq_true, decide_eq_true_eq] at h; exact ⟨i, rfl, h.1, h.2⟩
  | _ => simp [btw] at h
theorem as_at {as : List PyData} {k : Int} (ha : as.all (btw 0 2) = true) (h0 : 0 ≤ k) (h1 : k ≤ (as.length : Int) - 1) : ∃ n : Int, as[k.toNat]? = some (.int n) ∧ atI as k = some (.int n) := by
  have hk : k.toNat < as.length := by omega
  obtain ⟨d, hd, hm⟩ := get_of_lt hk
  obtain ⟨n, rfl, _, _⟩ := btw_int (List.all_eq_true.mp ha d hm)
  refine ⟨n, hd, ?_⟩
  have : k = ((k.toNat : Nat) : Int) := by omega
  rw [this, atI_nat]; exact hd
end Q
namespace Q
open PySem Dy
open L2 (atI ixN)
end Q
namespace Q
open PySem Dy
open L2 (atI ixN)
/-- one node -/
def ndD (as : List PyData) (at_ : Int) : PyData → Bool
  | .tuple (x :: ps) => btw 0 ((as.length : Int) - 1) x && ((match x with
    | .int k => (match as[k.toNat]? with
      | some (.int n) => decide ((ps.length : Int) = n)
      | _ => false)
    | _ => false) && ps.all (btw 0 (at_ - 1)))
  | _ => false
/-- what may be compared with () -/
def shD (d : PyData) : Prop := ∀ xs, d = .tuple xs → shp (.tuple xs) = true ∧ xs.length ≤ 100000
theorem cutS1 (x : PyData) (ps : List PyData) : cutD (x :: ps) (some 1) none = ps := cutLo (x :: ps) 1
theorem nodeD {as : List PyData} (ha : as.all (btw 0 2) = true) (d : PyData) (at_ : Int) (hs : shD d) : M_is_node [.fr (.tuple as), .fr d, .fr (.int at_)] = .ok (.fr (.bool (ndD as at_ d)), [.fr (.tuple as), .fr d, .fr (.int at_)]) := by
  rcases tup_cases d with ⟨xs, rfl⟩ | h
  · obtain ⟨h1, h2⟩ := hs xs rfl
    have h0 := pEq_T0 h1
    cases xs with
    | nil => simp [M_is_node, b_is_node, q_mulAI, q_mulAL, a_wb, q_divW, Function.comp_def, q_starI, q_starIT, a_wp, a_fz, a_fz0, a_fz1, a_ext, a_ins, a_insA, a_pop, a_parN, a_evO0, a_evO1, a_setO0, a_setO1, a_ix2, a_setII, a_zN, a_zC, a_lcO, d_oo, pEq_int, pNe_int, pIxL, pIxT, atI_nat, atI_0, atI_1, atI_2, atI_3, atI_m1, cutLo, cutHi, cutLo1, cutHi1, a_seq, a_ifS, a_B, a_op, a_ov, a_ev0, a_evv, a_evs, a_C, a_V, a_M, a_set, a_setI, a_app, a_ret, a_ex, a_skip, a_no, a_not, a_andT, a_orT, a_and, a_or, a_notV, a_if, a_par, a_call, a_forS, a_sq, a_r1, a_r2, a_en, a_zp, a_asT, a_chI, a_yes, a_lc, a_fn, okA, f_fr, bkA, rsvs, rsv, dvs, on1, on2, d_fr, d_ol, rsO, ndS, sl, putB, asT, setAll, ofO, Dy.ints1, Dy.ints2, nE, wipeE, unw, frO, q_addI, q_addL, q_addT, q_addS, q_sub, q_div, q_mod, q_pow, q_neg, q_cm, pIs, pIsn, q_isN, q_isI, q_isS, q_isT, q_isL, q_isB, q_lenL, q_lenT, pTup, pLst, q_tupL, q_tupT, q_lstL, q_lstT, q_revL, q_slL, q_slT, q_shL, q_shT, q_sqL, q_sqT, q_intI, q_max2, q_min2, q_aII, q_aBI, q_aTI, q_aTT, q_aLL, q_aTL, q_aIT, h0, ndD]
    | cons x ps =>
      cases bx : btw 0 ((as.length : Int) - 1) x with
      | false => simp [M_is_node, b_is_node, q_mulAI, q_mulAL, a_wb, q_divW, Function.comp_def, q_starI, q_starIT, a_wp, a_fz, a_fz0, a_fz1, a_ext, a_ins, a_insA, a_pop, a_parN, a_evO0, a_evO1, a_setO0, a_setO1, a_ix2, a_setII, a_zN, a_zC, a_lcO, d_oo, pEq_int, pNe_int, pIxL, pIxT, atI_nat, atI_0, atI_1, atI_2, atI_3, atI_m1, cutLo, cutHi, cutLo1, cutHi1, a_seq, a_ifS, a_B, a_op, a_ov, a_ev0, a_evv, a_evs, a_C, a_V, a_M, a_set, a_setI, a_app, a_ret, a_ex, a_skip, a_no, a_not, a_andT, a_orT, a_and, a_or, a_notV, a_if, a_par, a_call, a_forS, a_sq, a_r1, a_r2, a_en, a_zp, a_asT, a_chI, a_yes, a_lc, a_fn, okA, f_fr, bkA, rsvs, rsv, dvs, on1, on2, d_fr, d_ol, rsO, ndS, sl, putB, asT, setAll, ofO, Dy.ints1, Dy.ints2, nE, wipeE, unw, frO, q_addI, q_addL, q_addT, q_addS, q_sub, q_div, q_mod, q_pow, q_neg, q_cm, pIs, pIsn, q_isN, q_isI, q_isS, q_isT, q_isL, q_isB, q_lenL, q_lenT, pTup, pLst, q_tupL, q_tupT, q_lstL, q_lstT, q_revL, q_slL, q_slT, q_shL, q_shT, q_sqL, q_sqT, q_intI, q_max2, q_min2, q_aII, q_aBI, q_aTI, q_aTT, q_aLL, q_aTL, q_aIT, h0, btwD, bx, ndD]
      | true =>
        obtain ⟨k, rfl, k0, k1⟩ := btw_int bx
        obtain ⟨n, n1, n2⟩ := as_at ha k0 k1
        by_cases hn : (ps.length : Int) = n
        · have cn : n + 1 = 1 + n := by omega
          simp [M_is_node, b_is_node, q_mulAI, q_mulAL, a_wb, q_divW, Function.comp_def, q_starI, q_starIT, a_wp, a_fz, a_fz0, a_fz1, a_ext, a_ins, a_insA, a_pop, a_parN, a_evO0, a_evO1, a_setO0, a_setO1, a_ix2, a_setII, a_zN, a_zC, a_lcO, d_oo, pEq_int, pNe_int, pIxL, pIxT, atI_nat, atI_0, atI_1, atI_2, atI_3, atI_m1, cutLo, cutHi, cutLo1, cutHi1, a_seq, a_ifS, a_B, a_op, a_ov, a_ev0, a_evv, a_evs, a_C, a_V, a_M, a_set, a_setI, a_app, a_ret, a_ex, a_skip, a_no, a_not, a_andT, a_orT, a_and, a_or, a_notV, a_if, a_par, a_call, a_forS, a_sq, a_r1, a_r2, a_en, a_zp, a_asT, a_chI, a_yes, a_lc, a_fn, okA, f_fr, bkA, rsvs, rsv, dvs, on1, on2, d_fr, d_ol, rsO, ndS, sl, putB, asT, setAll, ofO, Dy.ints1, Dy.ints2, nE, wipeE, unw, frO, q_addI, q_addL, q_addT, q_addS, q_sub, q_div, q_mod, q_pow, q_neg, q_cm, pIs, pIsn, q_isN, q_isI, q_isS, q_isT, q_isL, q_isB, q_lenL, q_lenT, pTup, pLst, q_tupL, q_tupT, q_lstL, q_lstT, q_revL, q_slL, q_slT, q_shL, q_shT, q_sqL, q_sqT, q_intI, q_max2, q_min2, q_aII, q_aBI, q_aTI, q_aTT, q_aLL, q_aTL, q_aIT, h0, btwD, bx, n2, hn, cn, cutS1]
          rw [lc_all (p := btw 0 (at_ - 1)) ps (by simp at h2; omega) (fun x hx => by simp [E1_is_node, q_mulAI, q_mulAL, a_wb, q_divW, Function.comp_def, q_starI, q_starIT, a_wp, a_fz, a_fz0, a_fz1, a_ext, a_ins, a_insA, a_pop, a_parN, a_evO0, a_evO1, a_setO0, a_setO1, a_ix2, a_setII, a_zN, a_zC, a_lcO, d_oo, pEq_int, pNe_int, pIxL, pIxT, atI_nat, atI_0, atI_1, atI_2, atI_3, atI_m1, cutLo, cutHi, cutLo1, cutHi1, a_seq, a_ifS, a_B, a_op, a_ov, a_ev0, a_evv, a_evs, a_C, a_V, a_M, a_set, a_setI, a_app, a_ret, a_ex, a_skip, a_no, a_not, a_andT, a_orT, a_and, a_or, a_notV, a_if, a_par, a_call, a_forS, a_sq, a_r1, a_r2, a_en, a_zp, a_asT, a_chI, a_yes, a_lc, a_fn, okA, f_fr, bkA, rsvs, rsv, dvs, on1, on2, d_fr, d_ol, rsO, ndS, sl, putB, asT, setAll, ofO, Dy.ints1, Dy.ints2, nE, wipeE, unw, frO, q_addI, q_addL, q_addT, q_addS, q_sub, q_div, q_mod, q_pow, q_neg, q_cm, pIs, pIsn, q_isN, q_isI, q_isS, q_isT, q_isL, q_isB, q_lenL, q_lenT, pTup, pLst, q_tupL, q_tupT, q_lstL, q_lstT, q_revL, q_slL, q_slT, q_shL, q_shT, q_sqL, q_sqT, q_intI, q_max2, q_min2, q_aII, q_aBI, q_aTI, q_aTT, q_aLL, q_aTL, q_aIT, btwD])]
          have pa := pAll_map (btw 0 (at_ - 1)) ps
          simp only [List.map_map, Function.comp_def] at pa
          simp [q_mulAI, q_mulAL, a_wb, q_divW, Function.comp_def, q_starI, q_starIT, a_wp, a_fz, a_fz0, a_fz1, a_ext, a_ins, a_insA, a_pop, a_parN, a_evO0, a_evO1, a_setO0, a_setO1, a_ix2, a_setII, a_zN, a_zC, a_lcO, d_oo, pEq_int, pNe_int, pIxL, pIxT, atI_nat, atI_0, atI_1, atI_2, atI_3, atI_m1, cutLo, cutHi, cutLo1, cutHi1, a_seq, a_ifS, a_B, a_op, a_ov, a_ev0, a_evv, a_evs, a_C, a_V, a_M, a_set, a_setI, a_app, a_ret, a_ex, a_skip, a_no, a_not, a_andT, a_orT, a_and, a_or, a_notV, a_if, a_par, a_call, a_forS, a_sq, a_r1, a_r2, a_en, a_zp, a_asT, a_chI, a_yes, a_lc, a_fn, okA, f_fr, bkA, rsvs, rsv, dvs, on1, on2, d_fr, d_ol, rsO, ndS, sl, putB, asT, setAll, ofO, Dy.ints1, Dy.ints2, nE, wipeE, unw, frO, q_addI, q_addL, q_addT, q_addS, q_sub, q_div, q_mod, q_pow, q_neg, q_cm, pIs, pIsn, q_isN, q_isI, q_isS, q_isT, q_isL, q_isB, q_lenL, q_lenT, pTup, pLst, q_tupL, q_tupT, q_lstL, q_lstT, q_revL, q_slL, q_slT, q_shL, q_shT, q_sqL, q_sqT, q_intI, q_max2, q_min2, q_aII, q_aBI, q_aTI, q_aTT, q_aLL, q_aTL, q_aIT, pa, ndD, bx, n1, hn]
        · have cn : ¬ ((ps.length : Int) + 1 = 1 + n) := by omega
          simp [M_is_node, b_is_node, q_mulAI, q_mulAL, a_wb, q_divW, Function.comp_def, q_starI, q_starIT, a_wp, a_fz, a_fz0, a_fz1, a_ext, a_ins, a_insA, a_pop, a_parN, a_evO0, a_evO1, a_setO0, a_setO1, a_ix2, a_setII, a_zN, a_zC, a_lcO, d_oo, pEq_int, pNe_int, pIxL, pIxT, atI_nat, atI_0, atI_1, atI_2, atI_3, atI_m1, cutLo, cutHi, cutLo1, cutHi1, a_seq, a_ifS, a_B, a_op, a_ov, a_ev0, a_evv, a_evs, a_C, a_V, a_M, a_set, a_setI, a_app, a_ret, a_ex, a_skip, a_no, a_not, a_andT, a_orT, a_and, a_or, a_notV, a_if, a_par, a_call, a_forS, a_sq, a_r1, a_r2, a_en, a_zp, a_asT, a_chI, a_yes, a_lc, a_fn, okA, f_fr, bkA, rsvs, rsv, dvs, on1, on2, d_fr, d_ol, rsO, ndS, sl, putB, asT, setAll, ofO, Dy.ints1, Dy.ints2, nE, wipeE, unw, frO, q_addI, q_addL, q_addT, q_addS, q_sub, q_div, q_mod, q_pow, q_neg, q_cm, pIs, pIsn, q_isN, q_isI, q_isS, q_isT, q_isL, q_isB, q_lenL, q_lenT, pTup, pLst, q_tupL, q_tupT, q_lstL, q_lstT, q_revL, q_slL, q_slT, q_shL, q_shT, q_sqL, q_sqT, q_intI, q_max2, q_min2, q_aII, q_aBI, q_aTI, q_aTT, q_aLL, q_aTL, q_aIT, h0, btwD, bx, n2, cn, hn, ndD, n1]
  · have ht : ndD as at_ d = false := by cases d <;> first | rfl | (exact absurd h (by simp [isA]))
    simp [M_is_node, b_is_node, q_mulAI, q_mulAL, a_wb, q_divW, Function.comp_def, q_starI, q_starIT, a_wp, a_fz, a_fz0, a_fz1, a_ext, a_ins, a_insA, a_pop, a_parN, a_evO0, a_evO1, a_setO0, a_setO1, a_ix2, a_setII, a_zN, a_zC, a_lcO, d_oo, pEq_int, pNe_int, pIxL, pIxT, atI_nat, atI_0, atI_1, atI_2, atI_3, atI_m1, cutLo, cutHi, cutLo1, cutHi1, a_seq, a_ifS, a_B, a_op, a_ov, a_ev0, a_evv, a_evs, a_C, a_V, a_M, a_set, a_setI, a_app, a_ret, a_ex, a_skip, a_no, a_not, a_andT, a_orT, a_and, a_or, a_notV, a_if, a_par, a_call, a_forS, a_sq, a_r1, a_r2, a_en, a_zp, a_asT, a_chI, a_yes, a_lc, a_fn, okA, f_fr, bkA, rsvs, rsv, dvs, on1, on2, d_fr, d_ol, rsO, ndS, sl, putB, asT, setAll, ofO, Dy.ints1, Dy.ints2, nE, wipeE, unw, frO, q_addI, q_addL, q_addT, q_addS, q_sub, q_div, q_mod, q_pow, q_neg, q_cm, pIs, pIsn, q_isN, q_isI, q_isS, q_isT, q_isL, q_isB, q_lenL, q_lenT, pTup, pLst, q_tupL, q_tupT, q_lstL, q_lstT, q_revL, q_slL, q_slT, q_shL, q_shT, q_sqL, q_sqT, q_intI, q_max2, q_min2, q_aII, q_aBI, q_aTI, q_aTT, q_aLL, q_aTL, q_aIT, h, ht]
/-- one of the pairs (at, node) -/
def ndP (as : List PyData) : PyData → Bool
  | .tuple [.int i, x] => ndD as i x
  | _ => false
def wrD (as : List PyData) : PyData → Bool
  | .tuple xs => !xs.isEmpty && (enumD 0 xs).all (ndP as)
  | _ => false
theorem enumD_mem {xs : List PyData} {p : PyData} : ∀ {k : Nat}, p ∈ enumD k xs → ∃ (i : Nat) (x : PyData), x ∈ xs ∧ p = .tuple [.int (i : Int), x] := by
  intro k hp
  have e := enumD_map (fun d : PyData => d) xs k
  rw [List.map_id'] at e
  rw [e] at hp
  obtain ⟨q, hq, rfl⟩ := List.mem_map.mp hp
  exact ⟨q.1, q.2, (List.of_mem_zip hq).2, rfl⟩
theorem enumD_len (xs : List PyData) (k : Nat) : (enumD k xs).length = xs.length := by
  have e := enumD_map (fun d : PyData => d) xs k
  rw [List.map_id'] at e
  rw [e]; simp
/-- what may be asked whether it is a tree -/
def shW (d : PyData) : Prop := shD d ∧ ∀ xs, d = .tuple xs → ∀ x ∈ xs, shD x
theorem writtenD {as : List PyData} (ha : as.all (btw 0 2) = true) (d : PyData) (hs : shW d) : M_is_written [.fr (.tuple as), .fr d] = .ok (.fr (.bool (wrD as d)), [.fr (.tuple as), .fr d]) := by
  rcases tup_cases d with ⟨xs, rfl⟩ | h
  · obtain ⟨h1, h2⟩ := hs.1 xs rfl
    have h0 := pEq_T0 h1
    cases hx : xs.isEmpty with
    | true => simp [M_is_written, b_is_written, q_mulAI, q_mulAL, a_wb, q_divW, Function.comp_def, q_starI, q_starIT, a_wp, a_fz, a_fz0, a_fz1, a_ext, a_ins, a_insA, a_pop, a_parN, a_evO0, a_evO1, a_setO0, a_setO1, a_ix2, a_setII, a_zN, a_zC, a_lcO, d_oo, pEq_int, pNe_int, pIxL, pIxT, atI_nat, atI_0, atI_1, atI_2, atI_3, atI_m1, cutLo, cutHi, cutLo1, cutHi1, a_seq, a_ifS, a_B, a_op, a_ov, a_ev0, a_evv, a_evs, a_C, a_V, a_M, a_set, a_setI, a_app, a_ret, a_ex, a_skip, a_no, a_not, a_andT, a_orT, a_and, a_or, a_notV, a_if, a_par, a_call, a_forS, a_sq, a_r1, a_r2, a_en, a_zp, a_asT, a_chI, a_yes, a_lc, a_fn, okA, f_fr, bkA, rsvs, rsv, dvs, on1, on2, d_fr, d_ol, rsO, ndS, sl, putB, asT, setAll, ofO, Dy.ints1, Dy.ints2, nE, wipeE, unw, frO, q_addI, q_addL, q_addT, q_addS, q_sub, q_div, q_mod, q_pow, q_neg, q_cm, pIs, pIsn, q_isN, q_isI, q_isS, q_isT, q_isL, q_isB, q_lenL, q_lenT, pTup, pLst, q_tupL, q_tupT, q_lstL, q_lstT, q_revL, q_slL, q_slT, q_shL, q_shT, q_sqL, q_sqT, q_intI, q_max2, q_min2, q_aII, q_aBI, q_aTI, q_aTT, q_aLL, q_aTL, q_aIT, h0, hx, wrD]
    | false =>
      simp [M_is_written, b_is_written, q_mulAI, q_mulAL, a_wb, q_divW, Function.comp_def, q_starI, q_starIT, a_wp, a_fz, a_fz0, a_fz1, a_ext, a_ins, a_insA, a_pop, a_parN, a_evO0, a_evO1, a_setO0, a_setO1, a_ix2, a_setII, a_zN, a_zC, a_lcO, d_oo, pEq_int, pNe_int, pIxL, pIxT, atI_nat, atI_0, atI_1, atI_2, atI_3, atI_m1, cutLo, cutHi, cutLo1, cutHi1, a_seq, a_ifS, a_B, a_op, a_ov, a_ev0, a_evv, a_evs, a_C, a_V, a_M, a_set, a_setI, a_app, a_ret, a_ex, a_skip, a_no, a_not, a_andT, a_orT, a_and, a_or, a_notV, a_if, a_par, a_call, a_forS, a_sq, a_r1, a_r2, a_en, a_zp, a_asT, a_chI, a_yes, a_lc, a_fn, okA, f_fr, bkA, rsvs, rsv, dvs, on1, on2, d_fr, d_ol, rsO, ndS, sl, putB, asT, setAll, ofO, Dy.ints1, Dy.ints2, nE, wipeE, unw, frO, q_addI, q_addL, q_addT, q_addS, q_sub, q_div, q_mod, q_pow, q_neg, q_cm, pIs, pIsn, q_isN, q_isI, q_isS, q_isT, q_isL, q_isB, q_lenL, q_lenT, pTup, pLst, q_tupL, q_tupT, q_lstL, q_lstT, q_revL, q_slL, q_slT, q_shL, q_shT, q_sqL, q_sqT, q_intI, q_max2, q_min2, q_aII, q_aBI, q_aTI, q_aTT, q_aLL, q_aTL, q_aIT, h0, hx]
      rw [lc_all (p := ndP as) (enumD 0 xs) (by rw [enumD_len]; exact h2) (fun p hp => by
        obtain ⟨i, x, hx, rfl⟩ := enumD_mem hp
        have e := nodeD ha x (i : Int) (hs.2 xs rfl x hx)
        simp [E1_is_written, q_mulAI, q_mulAL, a_wb, q_divW, Function.comp_def, q_starI, q_starIT, a_wp, a_fz, a_fz0, a_fz1, a_ext, a_ins, a_insA, a_pop, a_parN, a_evO0, a_evO1, a_setO0, a_setO1, a_ix2, a_setII, a_zN, a_zC, a_lcO, d_oo, pEq_int, pNe_int, pIxL, pIxT, atI_nat, atI_0, atI_1, atI_2, atI_3, atI_m1, cutLo, cutHi, cutLo1, cutHi1, a_seq, a_ifS, a_B, a_op, a_ov, a_ev0, a_evv, a_evs, a_C, a_V, a_M, a_set, a_setI, a_app, a_ret, a_ex, a_skip, a_no, a_not, a_andT, a_orT, a_and, a_or, a_notV, a_if, a_par, a_call, a_forS, a_sq, a_r1, a_r2, a_en, a_zp, a_asT, a_chI, a_yes, a_lc, a_fn, okA, f_fr, bkA, rsvs, rsv, dvs, on1, on2, d_fr, d_ol, rsO, ndS, sl, putB, asT, setAll, ofO, Dy.ints1, Dy.ints2, nE, wipeE, unw, frO, q_addI, q_addL, q_addT, q_addS, q_sub, q_div, q_mod, q_pow, q_neg, q_cm, pIs, pIsn, q_isN, q_isI, q_isS, q_isT, q_isL, q_isB, q_lenL, q_lenT, pTup, pLst, q_tupL, q_tupT, q_lstL, q_lstT, q_revL, q_slL, q_slT, q_shL, q_shT, q_sqL, q_sqT, q_intI, q_max2, q_min2, q_aII, q_aBI, q_aTI, q_aTT, q_aLL, q_aTL, q_aIT, e, ndP])]
      have pa := pAll_map (ndP as) (enumD 0 xs)
      simp only [List.map_map, Function.comp_def] at pa
      simp [q_mulAI, q_mulAL, a_wb, q_divW, Function.comp_def, q_starI, q_starIT, a_wp, a_fz, a_fz0, a_fz1, a_ext, a_ins, a_insA, a_pop, a_parN, a_evO0, a_evO1, a_setO0, a_setO1, a_ix2, a_setII, a_zN, a_zC, a_lcO, d_oo, pEq_int, pNe_int, pIxL, pIxT, atI_nat, atI_0, atI_1, atI_2, atI_3, atI_m1, cutLo, cutHi, cutLo1, cutHi1, a_seq, a_ifS, a_B, a_op, a_ov, a_ev0, a_evv, a_evs, a_C, a_V, a_M, a_set, a_setI, a_app, a_ret, a_ex, a_skip, a_no, a_not, a_andT, a_orT, a_and, a_or, a_notV, a_if, a_par, a_call, a_forS, a_sq, a_r1, a_r2, a_en, a_zp, a_asT, a_chI, a_yes, a_lc, a_fn, okA, f_fr, bkA, rsvs, rsv, dvs, on1, on2, d_fr, d_ol, rsO, ndS, sl, putB, asT, setAll, ofO, Dy.ints1, Dy.ints2, nE, wipeE, unw, frO, q_addI, q_addL, q_addT, q_addS, q_sub, q_div, q_mod, q_pow, q_neg, q_cm, pIs, pIsn, q_isN, q_isI, q_isS, q_isT, q_isL, q_isB, q_lenL, q_lenT, pTup, pLst, q_tupL, q_tupT, q_lstL, q_lstT, q_revL, q_slL, q_slT, q_shL, q_shT, q_sqL, q_sqT, q_intI, q_max2, q_min2, q_aII, q_aBI, q_aTI, q_aTT, q_aLL, q_aTL, q_aIT, pa, wrD, hx]
  · have ht : wrD as d = false := by cases d <;> first | rfl | (exact absurd h (by simp [isA]))
    simp [M_is_written, b_is_written, q_mulAI, q_mulAL, a_wb, q_divW, Function.comp_def, q_starI, q_starIT, a_wp, a_fz, a_fz0, a_fz1, a_ext, a_ins, a_insA, a_pop, a_parN, a_evO0, a_evO1, a_setO0, a_setO1, a_ix2, a_setII, a_zN, a_zC, a_lcO, d_oo, pEq_int, pNe_int, pIxL, pIxT, atI_nat, atI_0, atI_1, atI_2, atI_3, atI_m1, cutLo, cutHi, cutLo1, cutHi1, a_seq, a_ifS, a_B, a_op, a_ov, a_ev0, a_evv, a_evs, a_C, a_V, a_M, a_set, a_setI, a_app, a_ret, a_ex, a_skip, a_no, a_not, a_andT, a_orT, a_and, a_or, a_notV, a_if, a_par, a_call, a_forS, a_sq, a_r1, a_r2, a_en, a_zp, a_asT, a_chI, a_yes, a_lc, a_fn, okA, f_fr, bkA, rsvs, rsv, dvs, on1, on2, d_fr, d_ol, rsO, ndS, sl, putB, asT, setAll, ofO, Dy.ints1, Dy.ints2, nE, wipeE, unw, frO, q_addI, q_addL, q_addT, q_addS, q_sub, q_div, q_mod, q_pow, q_neg, q_cm, pIs, pIsn, q_isN, q_isI, q_isS, q_isT, q_isL, q_isB, q_lenL, q_lenT, pTup, pLst, q_tupL, q_tupT, q_lstL, q_lstT, q_revL, q_slL, q_slT, q_shL, q_shT, q_sqL, q_sqT, q_intI, q_max2, q_min2, q_aII, q_aBI, q_aTI, q_aTT, q_aLL, q_aTL, q_aIT, h, ht]
end Q
namespace Q
open PySem Dy
open L2 (atI ixN)
section
variable {m : Mach}
end
end Q
namespace Q
open PySem Dy
open L2 (atI ixN)
open PyProof.Rows (itemOrd listOrd)
section
variable {m : Mach}
end
end Q
namespace Q
open PySem Dy
open L2 (atI ixN)
end Q
namespace Q
open PySem Dy
open L2 (atI ixN)
end Q
namespace Q
open PySem Dy
open L2 (atI ixN)
end Q
namespace Q
open PySem Dy
open L2 (atI ixN)
section
variable {d : PyData}
end
section
variable {m : Mach}
end
end Q
namespace Q
open PySem Dy
open L2 (atI ixN)
section
variable {m : Mach} {op k : Nat}
end
end Q
namespace Q
open PySem Dy
open L2 (atI ixN)
section
variable {m : Mach} {op k : Nat}
end
end Q
namespace Q
open PySem Dy
open L2 (atI ixN)
end Q
namespace Q
open PySem Dy
open L2 (atI ixN)
end Q
namespace Q
open PySem Dy
open L2 (atI ixN)
end Q
namespace Q
open PySem Dy
open L2 (atI ixN)
end Q
namespace Q
open PySem Dy
end Q
namespace Q
open PySem Dy
open L2 (atI ixN)
end Q
namespace Q
open PySem Dy
end Q
namespace Q
open PySem Dy
end Q
namespace Q
open PySem Dy
end Q
namespace Q
open PySem Dy
end Q
namespace Q
open PySem Dy
end Q
namespace Q
open PySem Dy
end Q
namespace Q
open PySem Dy
end Q
namespace Q
open PySem Dy
end Q
namespace Q
open PySem Dy
end Q
namespace Q
open PySem Dy
end Q
namespace Q
open PySem Dy
end Q
namespace Q
open PySem Dy
end Q
namespace Q
open PySem Dy
open L2 (atI ixN)
variable {m : Mach}
section
variable {A d x y : PyData}
theorem na_no (h : arD d = false) : M_need_arities_2 [.fr d] = .er ⟨"NoArities", []⟩ := by
  have e := aritiesD d
  rw [h] at e
  simp [M_need_arities_2, b_need_arities_2, q_mulAI, q_mulAL, a_wb, q_divW, Function.comp_def, q_starI, q_starIT, a_wp, a_fz, a_fz0, a_fz1, a_ext, a_ins, a_insA, a_pop, a_parN, a_evO0, a_evO1, a_setO0, a_setO1, a_ix2, a_setII, a_zN, a_zC, a_lcO, d_oo, pEq_int, pNe_int, pIxL, pIxT, atI_nat, atI_0, atI_1, atI_2, atI_3, atI_m1, cutLo, cutHi, cutLo1, cutHi1, a_seq, a_ifS, a_B, a_op, a_ov, a_ev0, a_evv, a_evs, a_C, a_V, a_M, a_set, a_setI, a_app, a_ret, a_ex, a_skip, a_no, a_not, a_andT, a_orT, a_and, a_or, a_notV, a_if, a_par, a_call, a_forS, a_sq, a_r1, a_r2, a_en, a_zp, a_asT, a_chI, a_yes, a_lc, a_fn, okA, f_fr, bkA, rsvs, rsv, dvs, on1, on2, d_fr, d_ol, rsO, ndS, sl, putB, asT, setAll, ofO, Dy.ints1, Dy.ints2, nE, wipeE, unw, frO, q_addI, q_addL, q_addT, q_addS, q_sub, q_div, q_mod, q_pow, q_neg, q_cm, pIs, pIsn, q_isN, q_isI, q_isS, q_isT, q_isL, q_isB, q_lenL, q_lenT, pTup, pLst, q_tupL, q_tupT, q_lstL, q_lstT, q_revL, q_slL, q_slT, q_shL, q_shT, q_sqL, q_sqT, q_intI, q_max2, q_min2, q_aII, q_aBI, q_aTI, q_aTT, q_aLL, q_aTL, q_aIT, e, a_raise]
end
theorem hole_nt {A d : PyData} (h : isA .tuple d = false) : M_has_hole [.fr A, .fr d] = .ok (.fr (.bool false), [.fr A, .fr d]) := by
  simp [M_has_hole, b_has_hole, q_mulAI, q_mulAL, a_wb, q_divW, Function.comp_def, q_starI, q_starIT, a_wp, a_fz, a_fz0, a_fz1, a_ext, a_ins, a_insA, a_pop, a_parN, a_evO0, a_evO1, a_setO0, a_setO1, a_ix2, a_setII, a_zN, a_zC, a_lcO, d_oo, pEq_int, pNe_int, pIxL, pIxT, atI_nat, atI_0, atI_1, atI_2, atI_3, atI_m1, cutLo, cutHi, cutLo1, cutHi1, a_seq, a_ifS, a_B, a_op, a_ov, a_ev0, a_evv, a_evs, a_C, a_V, a_M, a_set, a_setI, a_app, a_ret, a_ex, a_skip, a_no, a_not, a_andT, a_orT, a_and, a_or, a_notV, a_if, a_par, a_call, a_forS, a_sq, a_r1, a_r2, a_en, a_zp, a_asT, a_chI, a_yes, a_lc, a_fn, okA, f_fr, bkA, rsvs, rsv, dvs, on1, on2, d_fr, d_ol, rsO, ndS, sl, putB, asT, setAll, ofO, Dy.ints1, Dy.ints2, nE, wipeE, unw, frO, q_addI, q_addL, q_addT, q_addS, q_sub, q_div, q_mod, q_pow, q_neg, q_cm, pIs, pIsn, q_isN, q_isI, q_isS, q_isT, q_isL, q_isB, q_lenL, q_lenT, pTup, pLst, q_tupL, q_tupT, q_lstL, q_lstT, q_revL, q_slL, q_slT, q_shL, q_shT, q_sqL, q_sqT, q_intI, q_max2, q_min2, q_aII, q_aBI, q_aTI, q_aTT, q_aLL, q_aTL, q_aIT, h]
theorem hole_gen {A : PyData} {xs : List PyData} (p : PyData → Bool) (hl : xs.length ≤ 1000) (hp : ∀ x ∈ xs, M_is_step [.fr A, .fr x] = .ok (.fr (.bool (p x)), [.fr A, .fr x])) : M_has_hole [.fr A, .fr (.tuple xs)] = .ok (.fr (.bool (xs.all p)), [.fr A, .fr (.tuple xs)]) := by
  have lc := lc_all (p := p) (elt := E1_has_hole) (e := V_has_hole (arities := fr A) (thing := fr (.tuple xs))) (vs := [2]) (t := .nm 2) xs (by omega) (fun x hx => by
    have := hp x hx
    simp [E1_has_hole, q_mulAI, q_mulAL, a_wb, q_divW, Function.comp_def, q_starI, q_starIT, a_wp, a_fz, a_fz0, a_fz1, a_ext, a_ins, a_insA, a_pop, a_parN, a_evO0, a_evO1, a_setO0, a_setO1, a_ix2, a_setII, a_zN, a_zC, a_lcO, d_oo, pEq_int, pNe_int, pIxL, pIxT, atI_nat, atI_0, atI_1, atI_2, atI_3, atI_m1, cutLo, cutHi, cutLo1, cutHi1, a_seq, a_ifS, a_B, a_op, a_ov, a_ev0, a_evv, a_evs, a_C, a_V, a_M, a_set, a_setI, a_app, a_ret, a_ex, a_skip, a_no, a_not, a_andT, a_orT, a_and, a_or, a_notV, a_if, a_par, a_call, a_forS, a_sq, a_r1, a_r2, a_en, a_zp, a_asT, a_chI, a_yes, a_lc, a_fn, okA, f_fr, bkA, rsvs, rsv, dvs, on1, on2, d_fr, d_ol, rsO, ndS, sl, putB, asT, setAll, ofO, Dy.ints1, Dy.ints2, nE, wipeE, unw, frO, q_addI, q_addL, q_addT, q_addS, q_sub, q_div, q_mod, q_pow, q_neg, q_cm, pIs, pIsn, q_isN, q_isI, q_isS, q_isT, q_isL, q_isB, q_lenL, q_lenT, pTup, pLst, q_tupL, q_tupT, q_lstL, q_lstT, q_revL, q_slL, q_slT, q_shL, q_shT, q_sqL, q_sqT, q_intI, q_max2, q_min2, q_aII, q_aBI, q_aTI, q_aTT, q_aLL, q_aTL, q_aIT, this])
  have pa := pAll_map p xs
  have it : isA .tuple (.tuple xs) = true := rfl
  simp only [List.map_map, Function.comp_def] at lc pa
  simp [M_has_hole, b_has_hole, q_mulAI, q_mulAL, a_wb, q_divW, Function.comp_def, q_starI, q_starIT, a_wp, a_fz, a_fz0, a_fz1, a_ext, a_ins, a_insA, a_pop, a_parN, a_evO0, a_evO1, a_setO0, a_setO1, a_ix2, a_setII, a_zN, a_zC, a_lcO, d_oo, pEq_int, pNe_int, pIxL, pIxT, atI_nat, atI_0, atI_1, atI_2, atI_3, atI_m1, cutLo, cutHi, cutLo1, cutHi1, a_seq, a_ifS, a_B, a_op, a_ov, a_ev0, a_evv, a_evs, a_C, a_V, a_M, a_set, a_setI, a_app, a_ret, a_ex, a_skip, a_no, a_not, a_andT, a_orT, a_and, a_or, a_notV, a_if, a_par, a_call, a_forS, a_sq, a_r1, a_r2, a_en, a_zp, a_asT, a_chI, a_yes, a_lc, a_fn, okA, f_fr, bkA, rsvs, rsv, dvs, on1, on2, d_fr, d_ol, rsO, ndS, sl, putB, asT, setAll, ofO, Dy.ints1, Dy.ints2, nE, wipeE, unw, frO, q_addI, q_addL, q_addT, q_addS, q_sub, q_div, q_mod, q_pow, q_neg, q_cm, pIs, pIsn, q_isN, q_isI, q_isS, q_isT, q_isL, q_isB, q_lenL, q_lenT, pTup, pLst, q_tupL, q_tupT, q_lstL, q_lstT, q_revL, q_slL, q_slT, q_shL, q_shT, q_sqL, q_sqT, q_intI, q_max2, q_min2, q_aII, q_aBI, q_aTI, q_aTT, q_aLL, q_aTL, q_aIT, it]
  rw [lc]
  simp [q_mulAI, q_mulAL, a_wb, q_divW, Function.comp_def, q_starI, q_starIT, a_wp, a_fz, a_fz0, a_fz1, a_ext, a_ins, a_insA, a_pop, a_parN, a_evO0, a_evO1, a_setO0, a_setO1, a_ix2, a_setII, a_zN, a_zC, a_lcO, d_oo, pEq_int, pNe_int, pIxL, pIxT, atI_nat, atI_0, atI_1, atI_2, atI_3, atI_m1, cutLo, cutHi, cutLo1, cutHi1, a_seq, a_ifS, a_B, a_op, a_ov, a_ev0, a_evv, a_evs, a_C, a_V, a_M, a_set, a_setI, a_app, a_ret, a_ex, a_skip, a_no, a_not, a_andT, a_orT, a_and, a_or, a_notV, a_if, a_par, a_call, a_forS, a_sq, a_r1, a_r2, a_en, a_zp, a_asT, a_chI, a_yes, a_lc, a_fn, okA, f_fr, bkA, rsvs, rsv, dvs, on1, on2, d_fr, d_ol, rsO, ndS, sl, putB, asT, setAll, ofO, Dy.ints1, Dy.ints2, nE, wipeE, unw, frO, q_addI, q_addL, q_addT, q_addS, q_sub, q_div, q_mod, q_pow, q_neg, q_cm, pIs, pIsn, q_isN, q_isI, q_isS, q_isT, q_isL, q_isB, q_lenL, q_lenT, pTup, pLst, q_tupL, q_tupT, q_lstL, q_lstT, q_revL, q_slL, q_slT, q_shL, q_shT, q_sqL, q_sqT, q_intI, q_max2, q_min2, q_aII, q_aBI, q_aTI, q_aTT, q_aLL, q_aTL, q_aIT, pa]
theorem shD_rk {n w : Nat} {d : PyData} (r : Rk n w d) (hn : n ≤ 64) (hl : ∀ xs, d = .tuple xs → xs.length ≤ 100000) : shD d := fun xs e => by
  subst e
  exact ⟨r.shp hn, hl xs rfl⟩
theorem rkN4 {x : Nat} (h : x ≤ 1000) : Rk 0 1100 (dN x) := Rk.nat (Nat.lt_of_le_of_lt h (by decide +kernel))
theorem wr_of {as : List Nat} (ha : ArOk as) {d : PyData} (hs : shW d) (hw : wrD (as.map dN) d = false) : M_is_written [.fr (encA as), .fr d] = .ok (.fr (.bool false), [.fr (encA as), .fr d]) := by
  have := writtenD (as := as.map dN) (by
    rw [List.all_map]
    refine List.all_eq_true.mpr fun a h => ?_
    have := ha.le2 a h
    show (decide ((0 : Int) ≤ (a : Int)) && decide ((a : Int) ≤ 2)) = true
    rw [decide_eq_true (by omega), decide_eq_true (by omega)]; rfl) d hs
  rw [hw] at this; exact this
theorem shD_at {d : PyData} (h : isA .tuple d = false) : shD d := fun xs e => by subst e; cases h
theorem nd_no {as : List PyData} {at_ : Int} {d : PyData} (h : isA .tuple d = false) : ndD as at_ d = false := by cases d <;> first | rfl | cases h
theorem all_no {as : List PyData} : ∀ {xs : List PyData} {k : Nat} {x : PyData}, x ∈ xs → (∀ i : Int, ndD as i x = false) → (enumD k xs).all (ndP as) = false
  | y :: xs, k, x, hx, h => by
    show (ndP as (.tuple [.int (k : Int), y]) && (enumD (k + 1) xs).all (ndP as)) = false
    rcases List.mem_cons.mp hx with rfl | hx
    · rw [show ndP as (.tuple [.int (k : Int), x]) = false from h _]; rfl
    · rw [all_no hx h, Bool.and_false]
theorem wr_all {as xs : List PyData} (h : (enumD 0 xs).all (ndP as) = false) : wrD as (.tuple xs) = false := by
  show (!xs.isEmpty && (enumD 0 xs).all (ndP as)) = false
  rw [h, Bool.and_false]
end Q
namespace Q
open PySem Dy
open L2 (atI ixN)
variable {m : Mach}
end Q
namespace Q
open PySem Dy
open L2 (atI ixN)
variable {m : Mach}
section
variable {sc S A C T M d x : PyData} {od st tr cx mc ar : Option O}
end
end Q
namespace Q
open PySem Dy
open L2 (atI ixN)
theorem shInts : ∀ ns : List Nat, SeqAt.shaped (.list (ns.map dN)) = true := fun ns => by
  have : PyData.canLayAll0 (ns.map dN) = true ∧ PyData.depthAll (ns.map dN) = 0 := by
    induction ns with
    | nil => exact ⟨rfl, rfl⟩
    | cons n ns ih => exact ⟨by simp [PyData.canLayAll0, PyData.canLay0, ih.1], by simp [PyData.depthAll, PyData.depth, ih.2]⟩
  unfold SeqAt.shaped
  simp [PyData.canLay0, PyData.depth, this.1, this.2]
theorem find0 : ∀ {as : List Nat}, 0 ∈ as → ∃ j, (as.map dN).findIdx? (fun z => PyData.eqv z (.int 0)) = some j ∧ as[j]? = some 0
  | a :: as, h => by
    have e : PyData.eqv (dN a) (.int 0) = decide (a = 0) := by
      have := eqv_dN a 0
      rw [show (dN 0) = PyData.int 0 from rfl] at this
      rw [this]
    by_cases z : a = 0
    · subst z
      exact ⟨0, by rw [List.map_cons, List.findIdx?_cons, e]; rfl, rfl⟩
    · have h : 0 ∈ as := by
        rcases List.mem_cons.mp h with q | q
        · exact absurd q.symm z
        · exact q
      obtain ⟨j, h1, h2⟩ := find0 h
      refine ⟨j + 1, ?_, by simpa using h2⟩
      rw [List.map_cons, List.findIdx?_cons, e, decide_eq_false z, h1]; rfl
theorem ix0 {as : List Nat} (h : 0 ∈ as) : ∃ j, pIndex (as.map dN) (.int 0) = some (dN j) ∧ as[j]? = some 0 := by
  obtain ⟨j, h1, h2⟩ := find0 h
  refine ⟨j, ?_, h2⟩
  unfold pIndex
  rw [if_pos ⟨shInts as, by decide +kernel⟩, h1]; rfl
theorem a_mtT (f : List PyData → PyData → Option PyData) (fo : EF) (y : AF) (env : Dy.Env) : fMtT f fo y env = (fo env >>= fun r => match r.1.data with
  | .tuple ds => evA [y] r.2 >>= fun q => match rsvs q.2 q.1 with
    | some [k] => match f ds k with
      | some d => .ok (.fr d, q.2)
      | _ => .no
    | _ => .no
  | _ => .no) := rfl
section
variable {m : Mach} {c : List Leg} {t : List Nd} {sc : PyData}
end
end Q
namespace Q
open PySem Dy
def b_is_context : SF := fSeq (fEx (fCall M_need_arities_2 [.v (fV 0)]))
  (fRet (fCall M_has_hole [.v (fV 0), .v (fV 1)]))
def M_is_context : Fn := fnM 2 2 [] b_is_context
def b__law_refused : SF := fSeq (fTry 2 ["NoArities"] (fEx (fCall M_is_context [.v (fV 0), .v (fOv pTup [])])) (fun y => fRet (fC (.bool (decide (y.cls = "NoArities"))))))
  (fRet (fC (.bool false)))
def M__law_refused : Fn := fnM 1 2 [] b__law_refused
def b__law_odd_ones : SF := fSeq (fAsT (.tu [4, 5, 6]) (fV 1))
  (fSeq (fSet 2 (fOv pTup [.v (fOv pTup [.v (fMtT pIndex (fV 0) (.v (fC (.int 0))))])]))
  (fSeq (fFz [3] (fSet 3 (fOv pLst [.v (fC .none), .v (fOp (on1 pList) [.s 1]), .v (fOp (on2 pSl2h) [.s 1, .v (fC (.int 2))]), .v (fOp (on2 pAdd) [.s 1, .v (fOv pTup [.v (fC (.int 0))])]), .v (fOp (on2 pAdd) [.v (fOv pTup [.v (fOp (on1 pLen) [.s 0])]), .v (fOp (on2 pSl2l) [.s 1, .v (fC (.int 1))])]), .v (fOp (on2 pAdd) [.v (fOv pTup [.v (fOp (on1 pNeg) [.v (fC (.int 1))])]), .v (fOp (on2 pSl2l) [.s 1, .v (fC (.int 1))])]), .v (fOp (on2 pAdd) [.v (fOv pTup [.v (fC .none)]), .v (fOp (on2 pSl2l) [.s 1, .v (fC (.int 1))])])])))
  (fSeq (fFz [3] (fSet 3 (fOp (on2 pAdd) [.s 3, .v (fOv pLst [.v (fOv pTup [.v (fV 4), .v (fOp (on2 pIx) [.s 0, .s 4]), .v (fV 6)]), .v (fOv pTup [.v (fV 4), .v (fOp (on1 pNeg) [.v (fC (.int 1))]), .v (fV 6)]), .v (fOv pTup [.v (fV 4), .v (fC .none), .v (fV 6)])])])))
  (fSeq (fFz [3] (fSet 3 (fOp (on2 pAdd) [.s 3, .v (fOv pLst [.v (fOv pTup [.v (fV 4), .v (fV 5), .v (fOp (on1 pList) [.s 6])]), .v (fOv pTup [.v (fV 4), .v (fV 5), .v (fOp (on2 pAdd) [.s 6, .v (fOv pTup [.v (fV 2)])])]), .v (fOv pTup [.v (fV 4), .v (fV 5), .v (fV 2)])])])))
  (fSeq (fFz [3] (fSet 3 (fOp (on2 pAdd) [.s 3, .v (fOv pLst [.v (fOv pTup [.v (fV 4), .v (fV 5), .v (fOv pTup [.v (fV 2), .v (fV 2)])]), .v (fOv pTup [.v (fV 4), .v (fV 5), .v (fC .none)]), .v (fOv pTup [.v (fMtT pIndex (fV 0) (.v (fC (.int 0)))), .v (fC (.int 0)), .v (fOv pTup [])])])])))
  (fSeq (fFz [3] (fSet 3 (fOp (on2 pAdd) [.s 3, .v (fOv pLst [.v (fOv pTup [.v (fV 4), .v (fV 5), .v (fOp (on2 pAdd) [.v (fOp (on2 pMulA) [.v (fOv pTup [.v (fV 2)]), .v (fOp (on1 pLen) [.s 6])]), .v (fOv pTup [.v (fC .none)])])]), .v (fOv pTup [.v (fOp (on1 pStr) [.s 4]), .v (fV 5), .v (fV 6)])])])))
  (fSeq (fIfS (fB (fOp (on2 pEq) [.v (fOp (on1 pLen) [.s 6]), .v (fC (.int 1))])) (fSeq (fSet 7 (fOv pTup [.v (fOp (on1 pLen) [.s 0])]))
  (fSeq (fFz [3] (fSet 3 (fOp (on2 pAdd) [.s 3, .v (fOv pLst [.v (fOv pTup [.v (fV 4), .v (fV 5), .v (fOv pTup [])]), .v (fOv pTup [.v (fV 4), .v (fV 5), .v (fOv pTup [.v (fOv pTup [])])]), .v (fOv pTup [.v (fV 4), .v (fV 5), .v (fOv pTup [.v (fOv pTup [.v (fV 7)])])])])])))
  (fFz [3] (fSet 3 (fOp (on2 pAdd) [.s 3, .v (fOv pLst [.v (fOv pTup [.v (fV 4), .v (fV 5), .v (fOv pTup [.v (fOp (on1 pList) [.s 2])])]), .v (fOv pTup [.v (fV 4), .v (fV 5), .v (fOv pTup [.v (fOv pTup [.v (fOv pTup [.v (fV 4), .v (fC (.int 0)), .v (fC (.int 0))])])])])])]))))) (fSkip))
  (fRet (fOp (on2 pAdd) [.s 3, .v (fOv pLst [.v (fOv pTup [.v (fOp (on1 pBoo) [.s 4]), .v (fV 5), .v (fV 6)]), .v (fOv pTup [.v (fV 4), .v (fOp (on2 pEq) [.s 5, .v (fC (.int 1))]), .v (fV 6)])])])))))))))
def M__law_odd_ones : Fn := fnM 2 8 [] b__law_odd_ones
abbrev V__law_odd_ones (arities_here : Option O := none) (leg : Option O := none) (leaf : Option O := none) (found : Option O := none) (operator : Option O := none) (place : Option O := none) (others : Option O := none) (bad : Option O := none) : Dy.Env := [arities_here, leg, leaf, found, operator, place, others, bad]
def L1_law_45 : SF := fWp [1] (fIfS (fNot (fB (fCall M__law_refused [.v (fV 1)]))) (fRet (fC (.bool false))) (fSkip))
def L2_law_45 : SF := fWp [1] (fIfS (fB (fOp (on2 pIsnB) [.v (fCall M_is_context [.v (fV 5), .v (fOp (on2 pAdd) [.v (fOp (on2 pAdd) [.v (fOp (on2 pSl2h) [.s 6, .s 8]), .v (fOv pTup [.v (fV 1)])]), .v (fOp (on2 pSl2l) [.s 6, .v (fOp (on2 pAdd) [.s 8, .v (fC (.int 1))])])])]), .v (fC (.bool false))])) (fRet (fC (.bool false))) (fSkip))
def L3_law_45 : SF := fWp [1, 8, 9] (fForS (fSq (.v (fCall M__law_odd_ones [.v (fV 5), .v (fV 9)]))) (.nm 1) (L2_law_45))
def L4_law_45 : SF := fSeq (fSet 5 (fIf (fB (fOp (on2 (cmI (fun i j => decide (j < i)))) [.s 4, .v (fC (.int 0))])) (fCall M__law_arities [.s 3]) (fOv pTup [.v (fC (.int 2)), .v (fC (.int 0)), .v (fC (.int 1))])))
  (fSeq (fSet 6 (fCall M__law_context [.s 3, .v (fV 5), .v (fC (.int 4))]))
  (fSeq (fFz [7] (fSet 7 (fOv pLst [.v (fCall M_is_context [.v (fV 5), .v (fV 6)]), .v (fCall M_is_context [.v (fV 5), .v (fOp (on2 pSl2h) [.s 6, .v (fC (.int 1))])]), .v (fCall M_is_context [.v (fV 5), .v (fOv pTup [])])])))
  (fSeq (fFz [7] (fSet 7 (fOp (on2 pAdd) [.s 7, .v (fOv pLst [.v (fCall M_is_context [.v (fV 5), .v (fOp (on1 pList) [.s 6])]), .v (fCall M_is_context [.v (fV 5), .v (fC .none)]), .v (fCall M_is_context [.v (fV 5), .v (fC (.str "()"))])])])))
  (fSeq (fWp [4, 7] (fIfS (fB (fOp (on2 pNe) [.v (fOp (on1 pRepr) [.s 7]), .v (fOp (on1 pRepr) [.v (fOv pLst [.v (fC (.bool true)), .v (fC (.bool true)), .v (fC (.bool true)), .v (fC (.bool false)), .v (fC (.bool false)), .v (fC (.bool false))])])])) (fRet (fC (.bool false))) (fSkip)))
  (fWp [1, 5, 6, 8, 9] (fForS (fEn (.v (fV 6))) (.tu [8, 9]) (L3_law_45)))))))
def L5_law_45 : SF := fSeq (fWp [2] (fSet 3 (fCall M__law_pen [.v (fCall M__law_cell_at [.v (fV 0), .v (fV 2)])])))
  (fWp [1, 3, 4, 5, 6, 7, 8, 9] (fForS (fR1 (.v (fC (.int 4)))) (.nm 4) (L4_law_45)))
def b_law_45 : SF := fSeq (fWp [1] (fForS (fSq (.v (fOv pLst [.v (fC .none), .v (fOv pTup []), .v (fOv pLst [.v (fC (.int 0))]), .v (fOv pTup [.v (fC (.int 0)), .v (fC (.int 3))]), .v (fOv pTup [.v (fOp (on1 pNeg) [.v (fC (.int 1))])]), .v (fOv pTup [.v (fC (.bool true))]), .v (fOv pTup [.v (fC (.int 0)), .v (fC .none)]), .v (fOp (on2 pMulA) [.v (fOv pTup [.v (fC (.int 0))]), .v (fC (.int 7))]), .v (fC (.int 2)), .v (fC (.str "0")), .v (fOv pTup [.v (fOv pTup [.v (fC (.int 0))])])]))) (.nm 1) (L1_law_45)))
  (fSeq (fWp [0, 1, 2, 3, 4, 5, 6, 7, 8, 9] (fForS (fR1 (.v (fOp (pMax) [.v (fC (.int 1)), .v (fOp (pMin) [.v (fOp (on1 pLen) [.s 0]), .v (fC (.int 3))])]))) (.nm 2) (L5_law_45)))
  (fRet (fC (.bool true))))
def M_law_45 : Fn := fnM 1 10 [] b_law_45
abbrev V_law_45 (script : Option O := none) (bad : Option O := none) (k : Option O := none) (pen_here : Option O := none) (turn : Option O := none) (arities_here : Option O := none) (context_here : Option O := none) (told : Option O := none) (at_ : Option O := none) (leg : Option O := none) : Dy.Env := [script, bad, k, pen_here, turn, arities_here, context_here, told, at_, leg]
end Q
namespace Q
open PySem Dy
open L2 (atI ixN)
section
variable {as : List Nat} {op a pl : Nat} {x y z : PyData}
theorem st_nt {A d : PyData} (h : isA .tuple d = false) : M_is_step [.fr A, .fr d] = .ok (.fr (.bool false), [.fr A, .fr d]) := by
  simp [M_is_step, b_is_step, q_mulAI, q_mulAL, a_wb, q_divW, Function.comp_def, q_starI, q_starIT, a_wp, a_fz, a_fz0, a_fz1, a_ext, a_ins, a_insA, a_pop, a_parN, a_evO0, a_evO1, a_setO0, a_setO1, a_ix2, a_setII, a_zN, a_zC, a_lcO, d_oo, pEq_int, pNe_int, pIxL, pIxT, atI_nat, atI_0, atI_1, atI_2, atI_3, atI_m1, cutLo, cutHi, cutLo1, cutHi1, a_seq, a_ifS, a_B, a_op, a_ov, a_ev0, a_evv, a_evs, a_C, a_V, a_M, a_set, a_setI, a_app, a_ret, a_ex, a_skip, a_no, a_not, a_andT, a_orT, a_and, a_or, a_notV, a_if, a_par, a_call, a_forS, a_sq, a_r1, a_r2, a_en, a_zp, a_asT, a_chI, a_yes, a_lc, a_fn, okA, f_fr, bkA, rsvs, rsv, dvs, on1, on2, d_fr, d_ol, rsO, ndS, sl, putB, asT, setAll, ofO, Dy.ints1, Dy.ints2, nE, wipeE, unw, frO, q_addI, q_addL, q_addT, q_addS, q_sub, q_div, q_mod, q_pow, q_neg, q_cm, pIs, pIsn, q_isN, q_isI, q_isS, q_isT, q_isL, q_isB, q_lenL, q_lenT, pTup, pLst, q_tupL, q_tupT, q_lstL, q_lstT, q_revL, q_slL, q_slT, q_shL, q_shT, q_sqL, q_sqT, q_intI, q_max2, q_min2, q_aII, q_aBI, q_aTI, q_aTT, q_aLL, q_aTL, q_aIT, h]
theorem st_lenx {A : PyData} {xs : List PyData} (h : xs.length ≠ 3) : M_is_step [.fr A, .fr (.tuple xs)] = .ok (.fr (.bool false), [.fr A, .fr (.tuple xs)]) := by
  have hi : ¬ ((xs.length : Int) = 3) := by omega
  simp [M_is_step, b_is_step, q_mulAI, q_mulAL, a_wb, q_divW, Function.comp_def, q_starI, q_starIT, a_wp, a_fz, a_fz0, a_fz1, a_ext, a_ins, a_insA, a_pop, a_parN, a_evO0, a_evO1, a_setO0, a_setO1, a_ix2, a_setII, a_zN, a_zC, a_lcO, d_oo, pEq_int, pNe_int, pIxL, pIxT, atI_nat, atI_0, atI_1, atI_2, atI_3, atI_m1, cutLo, cutHi, cutLo1, cutHi1, a_seq, a_ifS, a_B, a_op, a_ov, a_ev0, a_evv, a_evs, a_C, a_V, a_M, a_set, a_setI, a_app, a_ret, a_ex, a_skip, a_no, a_not, a_andT, a_orT, a_and, a_or, a_notV, a_if, a_par, a_call, a_forS, a_sq, a_r1, a_r2, a_en, a_zp, a_asT, a_chI, a_yes, a_lc, a_fn, okA, f_fr, bkA, rsvs, rsv, dvs, on1, on2, d_fr, d_ol, rsO, ndS, sl, putB, asT, setAll, ofO, Dy.ints1, Dy.ints2, nE, wipeE, unw, frO, q_addI, q_addL, q_addT, q_addS, q_sub, q_div, q_mod, q_pow, q_neg, q_cm, pIs, pIsn, q_isN, q_isI, q_isS, q_isT, q_isL, q_isB, q_lenL, q_lenT, pTup, pLst, q_tupL, q_tupT, q_lstL, q_lstT, q_revL, q_slL, q_slT, q_shL, q_shT, q_sqL, q_sqT, q_intI, q_max2, q_min2, q_aII, q_aBI, q_aTI, q_aTT, q_aLL, q_aTL, q_aIT, hi]
theorem st_op (h : btw 0 ((as.length : Int) - 1) x = false) : M_is_step [.fr (encA as), .fr (.tuple [x, y, z])] = .ok (.fr (.bool false), [.fr (encA as), .fr (.tuple [x, y, z])]) := by
  have b := btwD x 0 ((as.length : Int) - 1)
  rw [h] at b
  simp [M_is_step, b_is_step, q_mulAI, q_mulAL, a_wb, q_divW, Function.comp_def, q_starI, q_starIT, a_wp, a_fz, a_fz0, a_fz1, a_ext, a_ins, a_insA, a_pop, a_parN, a_evO0, a_evO1, a_setO0, a_setO1, a_ix2, a_setII, a_zN, a_zC, a_lcO, d_oo, pEq_int, pNe_int, pIxL, pIxT, atI_nat, atI_0, atI_1, atI_2, atI_3, atI_m1, cutLo, cutHi, cutLo1, cutHi1, a_seq, a_ifS, a_B, a_op, a_ov, a_ev0, a_evv, a_evs, a_C, a_V, a_M, a_set, a_setI, a_app, a_ret, a_ex, a_skip, a_no, a_not, a_andT, a_orT, a_and, a_or, a_notV, a_if, a_par, a_call, a_forS, a_sq, a_r1, a_r2, a_en, a_zp, a_asT, a_chI, a_yes, a_lc, a_fn, okA, f_fr, bkA, rsvs, rsv, dvs, on1, on2, d_fr, d_ol, rsO, ndS, sl, putB, asT, setAll, ofO, Dy.ints1, Dy.ints2, nE, wipeE, unw, frO, q_addI, q_addL, q_addT, q_addS, q_sub, q_div, q_mod, q_pow, q_neg, q_cm, pIs, pIsn, q_isN, q_isI, q_isS, q_isT, q_isL, q_isB, q_lenL, q_lenT, pTup, pLst, q_tupL, q_tupT, q_lstL, q_lstT, q_revL, q_slL, q_slT, q_shL, q_shT, q_sqL, q_sqT, q_intI, q_max2, q_min2, q_aII, q_aBI, q_aTI, q_aTT, q_aLL, q_aTL, q_aIT, b]
theorem op_btw (ho : as[op]? = some a) : btw 0 ((as.length : Int) - 1) (dN op) = true := by
  have := lt_of_get ho
  show (decide ((0 : Int) ≤ (op : Int)) && decide ((op : Int) ≤ (as.length : Int) - 1)) = true
  rw [decide_eq_true (by omega), decide_eq_true (by omega)]; rfl
theorem st_pl (ho : as[op]? = some a) (h : btw 0 ((a : Int) - 1) y = false) : M_is_step [.fr (encA as), .fr (.tuple [dN op, y, z])] = .ok (.fr (.bool false), [.fr (encA as), .fr (.tuple [dN op, y, z])]) := by
  have b1 := btwD (dN op) 0 ((as.length : Int) - 1)
  rw [op_btw ho] at b1
  have b := btwD y 0 ((a : Int) - 1)
  rw [h] at b
  simp [M_is_step, b_is_step, q_mulAI, q_mulAL, a_wb, q_divW, Function.comp_def, q_starI, q_starIT, a_wp, a_fz, a_fz0, a_fz1, a_ext, a_ins, a_insA, a_pop, a_parN, a_evO0, a_evO1, a_setO0, a_setO1, a_ix2, a_setII, a_zN, a_zC, a_lcO, d_oo, pEq_int, pNe_int, pIxL, pIxT, atI_nat, atI_0, atI_1, atI_2, atI_3, atI_m1, cutLo, cutHi, cutLo1, cutHi1, a_seq, a_ifS, a_B, a_op, a_ov, a_ev0, a_evv, a_evs, a_C, a_V, a_M, a_set, a_setI, a_app, a_ret, a_ex, a_skip, a_no, a_not, a_andT, a_orT, a_and, a_or, a_notV, a_if, a_par, a_call, a_forS, a_sq, a_r1, a_r2, a_en, a_zp, a_asT, a_chI, a_yes, a_lc, a_fn, okA, f_fr, bkA, rsvs, rsv, dvs, on1, on2, d_fr, d_ol, rsO, ndS, sl, putB, asT, setAll, ofO, Dy.ints1, Dy.ints2, nE, wipeE, unw, frO, q_addI, q_addL, q_addT, q_addS, q_sub, q_div, q_mod, q_pow, q_neg, q_cm, pIs, pIsn, q_isN, q_isI, q_isS, q_isT, q_isL, q_isB, q_lenL, q_lenT, pTup, pLst, q_tupL, q_tupT, q_lstL, q_lstT, q_revL, q_slL, q_slT, q_shL, q_shT, q_sqL, q_sqT, q_intI, q_max2, q_min2, q_aII, q_aBI, q_aTI, q_aTT, q_aLL, q_aTL, q_aIT, b1, b, ho]
theorem st_sib (ho : as[op]? = some a) (h : isA .tuple z = false) : M_is_step [.fr (encA as), .fr (.tuple [dN op, y, z])] = .ok (.fr (.bool false), [.fr (encA as), .fr (.tuple [dN op, y, z])]) := by
  have b1 := btwD (dN op) 0 ((as.length : Int) - 1)
  rw [op_btw ho] at b1
  have b := btwD y 0 ((a : Int) - 1)
  cases c : btw 0 ((a : Int) - 1) y with
  | false =>
    rw [c] at b
    simp [M_is_step, b_is_step, q_mulAI, q_mulAL, a_wb, q_divW, Function.comp_def, q_starI, q_starIT, a_wp, a_fz, a_fz0, a_fz1, a_ext, a_ins, a_insA, a_pop, a_parN, a_evO0, a_evO1, a_setO0, a_setO1, a_ix2, a_setII, a_zN, a_zC, a_lcO, d_oo, pEq_int, pNe_int, pIxL, pIxT, atI_nat, atI_0, atI_1, atI_2, atI_3, atI_m1, cutLo, cutHi, cutLo1, cutHi1, a_seq, a_ifS, a_B, a_op, a_ov, a_ev0, a_evv, a_evs, a_C, a_V, a_M, a_set, a_setI, a_app, a_ret, a_ex, a_skip, a_no, a_not, a_andT, a_orT, a_and, a_or, a_notV, a_if, a_par, a_call, a_forS, a_sq, a_r1, a_r2, a_en, a_zp, a_asT, a_chI, a_yes, a_lc, a_fn, okA, f_fr, bkA, rsvs, rsv, dvs, on1, on2, d_fr, d_ol, rsO, ndS, sl, putB, asT, setAll, ofO, Dy.ints1, Dy.ints2, nE, wipeE, unw, frO, q_addI, q_addL, q_addT, q_addS, q_sub, q_div, q_mod, q_pow, q_neg, q_cm, pIs, pIsn, q_isN, q_isI, q_isS, q_isT, q_isL, q_isB, q_lenL, q_lenT, pTup, pLst, q_tupL, q_tupT, q_lstL, q_lstT, q_revL, q_slL, q_slT, q_shL, q_shT, q_sqL, q_sqT, q_intI, q_max2, q_min2, q_aII, q_aBI, q_aTI, q_aTT, q_aLL, q_aTL, q_aIT, b1, b, ho]
  | true =>
    rw [c] at b
    simp [M_is_step, b_is_step, q_mulAI, q_mulAL, a_wb, q_divW, Function.comp_def, q_starI, q_starIT, a_wp, a_fz, a_fz0, a_fz1, a_ext, a_ins, a_insA, a_pop, a_parN, a_evO0, a_evO1, a_setO0, a_setO1, a_ix2, a_setII, a_zN, a_zC, a_lcO, d_oo, pEq_int, pNe_int, pIxL, pIxT, atI_nat, atI_0, atI_1, atI_2, atI_3, atI_m1, cutLo, cutHi, cutLo1, cutHi1, a_seq, a_ifS, a_B, a_op, a_ov, a_ev0, a_evv, a_evs, a_C, a_V, a_M, a_set, a_setI, a_app, a_ret, a_ex, a_skip, a_no, a_not, a_andT, a_orT, a_and, a_or, a_notV, a_if, a_par, a_call, a_forS, a_sq, a_r1, a_r2, a_en, a_zp, a_asT, a_chI, a_yes, a_lc, a_fn, okA, f_fr, bkA, rsvs, rsv, dvs, on1, on2, d_fr, d_ol, rsO, ndS, sl, putB, asT, setAll, ofO, Dy.ints1, Dy.ints2, nE, wipeE, unw, frO, q_addI, q_addL, q_addT, q_addS, q_sub, q_div, q_mod, q_pow, q_neg, q_cm, pIs, pIsn, q_isN, q_isI, q_isS, q_isT, q_isL, q_isB, q_lenL, q_lenT, pTup, pLst, q_tupL, q_tupT, q_lstL, q_lstT, q_revL, q_slL, q_slT, q_shL, q_shT, q_sqL, q_sqT, q_intI, q_max2, q_min2, q_aII, q_aBI, q_aTI, q_aTT, q_aLL, q_aTL, q_aIT, b1, b, ho, h]
theorem st_n {zs : List PyData} (ho : as[op]? = some (a + 1)) (hp : pl ≤ a) (h : zs.length ≠ a) : M_is_step [.fr (encA as), .fr (.tuple [dN op, dN pl, .tuple zs])] = .ok (.fr (.bool false), [.fr (encA as), .fr (.tuple [dN op, dN pl, .tuple zs])]) := by
  have b1 := btwD (dN op) 0 ((as.length : Int) - 1)
  rw [op_btw ho] at b1
  have b := btwD (dN pl) 0 (((a + 1 : Nat) : Int) - 1)
  have hb : btw 0 (((a + 1 : Nat) : Int) - 1) (dN pl) = true := by
    show (decide ((0 : Int) ≤ (pl : Int)) && decide ((pl : Int) ≤ ((a + 1 : Nat) : Int) - 1)) = true
    rw [decide_eq_true (by omega), decide_eq_true (by omega)]; rfl
  rw [hb] at b
  have it : isA .tuple (.tuple zs) = true := rfl
  have hi : ¬ ((zs.length : Int) = (a : Int)) := by omega
  have e1 : ((a + 1 : Nat) : Int) - 1 = (a : Int) := by omega
  rw [e1] at b
  simp [M_is_step, b_is_step, q_mulAI, q_mulAL, a_wb, q_divW, Function.comp_def, q_starI, q_starIT, a_wp, a_fz, a_fz0, a_fz1, a_ext, a_ins, a_insA, a_pop, a_parN, a_evO0, a_evO1, a_setO0, a_setO1, a_ix2, a_setII, a_zN, a_zC, a_lcO, d_oo, pEq_int, pNe_int, pIxL, pIxT, atI_nat, atI_0, atI_1, atI_2, atI_3, atI_m1, cutLo, cutHi, cutLo1, cutHi1, a_seq, a_ifS, a_B, a_op, a_ov, a_ev0, a_evv, a_evs, a_C, a_V, a_M, a_set, a_setI, a_app, a_ret, a_ex, a_skip, a_no, a_not, a_andT, a_orT, a_and, a_or, a_notV, a_if, a_par, a_call, a_forS, a_sq, a_r1, a_r2, a_en, a_zp, a_asT, a_chI, a_yes, a_lc, a_fn, okA, f_fr, bkA, rsvs, rsv, dvs, on1, on2, d_fr, d_ol, rsO, ndS, sl, putB, asT, setAll, ofO, Dy.ints1, Dy.ints2, nE, wipeE, unw, frO, q_addI, q_addL, q_addT, q_addS, q_sub, q_div, q_mod, q_pow, q_neg, q_cm, pIs, pIsn, q_isN, q_isI, q_isS, q_isT, q_isL, q_isB, q_lenL, q_lenT, pTup, pLst, q_tupL, q_tupT, q_lstL, q_lstT, q_revL, q_slL, q_slT, q_shL, q_shT, q_sqL, q_sqT, q_intI, q_max2, q_min2, q_aII, q_aBI, q_aTI, q_aTT, q_aLL, q_aTL, q_aIT, b1, b, ho, it, hi]
theorem st_w {w : PyData} (ho : as[op]? = some 2) (hp : pl ≤ 1) (h : M_is_written [.fr (encA as), .fr w] = .ok (.fr (.bool false), [.fr (encA as), .fr w])) : M_is_step [.fr (encA as), .fr (.tuple [dN op, dN pl, .tuple [w]])] = .ok (.fr (.bool false), [.fr (encA as), .fr (.tuple [dN op, dN pl, .tuple [w]])]) := by
  have b1 := btwD (dN op) 0 ((as.length : Int) - 1)
  rw [op_btw ho] at b1
  have b := btwD (dN pl) 0 1
  have hb : btw 0 1 (dN pl) = true := by
    show (decide ((0 : Int) ≤ (pl : Int)) && decide ((pl : Int) ≤ 1)) = true
    rw [decide_eq_true (by omega), decide_eq_true (by omega)]; rfl
  rw [hb] at b
  have it : isA .tuple (.tuple [w]) = true := rfl
  have lc : lcL [5] (.nm 5) fYes E1_is_step [w] (V_is_step (arities := fr (encA as)) (thing := fr (.tuple [dN op, dN pl, .tuple [w]])) (operator := fr (dN op)) (place := fr (dN pl)) (siblings := fr (.tuple [w]))) [] = .ok ([.bool false], V_is_step (arities := fr (encA as)) (thing := fr (.tuple [dN op, dN pl, .tuple [w]])) (operator := fr (dN op)) (place := fr (dN pl)) (siblings := fr (.tuple [w]))) := by
    refine lc_all (p := fun _ => false) [w] (by simp) fun x hx => ?_
    simp at hx
    subst hx
    generalize encA as = A at *
    simp [E1_is_step, q_mulAI, q_mulAL, a_wb, q_divW, Function.comp_def, q_starI, q_starIT, a_wp, a_fz, a_fz0, a_fz1, a_ext, a_ins, a_insA, a_pop, a_parN, a_evO0, a_evO1, a_setO0, a_setO1, a_ix2, a_setII, a_zN, a_zC, a_lcO, d_oo, pEq_int, pNe_int, pIxL, pIxT, atI_nat, atI_0, atI_1, atI_2, atI_3, atI_m1, cutLo, cutHi, cutLo1, cutHi1, a_seq, a_ifS, a_B, a_op, a_ov, a_ev0, a_evv, a_evs, a_C, a_V, a_M, a_set, a_setI, a_app, a_ret, a_ex, a_skip, a_no, a_not, a_andT, a_orT, a_and, a_or, a_notV, a_if, a_par, a_call, a_forS, a_sq, a_r1, a_r2, a_en, a_zp, a_asT, a_chI, a_yes, a_lc, a_fn, okA, f_fr, bkA, rsvs, rsv, dvs, on1, on2, d_fr, d_ol, rsO, ndS, sl, putB, asT, setAll, ofO, Dy.ints1, Dy.ints2, nE, wipeE, unw, frO, q_addI, q_addL, q_addT, q_addS, q_sub, q_div, q_mod, q_pow, q_neg, q_cm, pIs, pIsn, q_isN, q_isI, q_isS, q_isT, q_isL, q_isB, q_lenL, q_lenT, pTup, pLst, q_tupL, q_tupT, q_lstL, q_lstT, q_revL, q_slL, q_slT, q_shL, q_shT, q_sqL, q_sqT, q_intI, q_max2, q_min2, q_aII, q_aBI, q_aTI, q_aTT, q_aLL, q_aTL, q_aIT, h]
  have pa : pAll (.list [.bool false]) = some (.fr (.bool false)) := rfl
  simp [M_is_step, b_is_step, q_mulAI, q_mulAL, a_wb, q_divW, Function.comp_def, q_starI, q_starIT, a_wp, a_fz, a_fz0, a_fz1, a_ext, a_ins, a_insA, a_pop, a_parN, a_evO0, a_evO1, a_setO0, a_setO1, a_ix2, a_setII, a_zN, a_zC, a_lcO, d_oo, pEq_int, pNe_int, pIxL, pIxT, atI_nat, atI_0, atI_1, atI_2, atI_3, atI_m1, cutLo, cutHi, cutLo1, cutHi1, a_seq, a_ifS, a_B, a_op, a_ov, a_ev0, a_evv, a_evs, a_C, a_V, a_M, a_set, a_setI, a_app, a_ret, a_ex, a_skip, a_no, a_not, a_andT, a_orT, a_and, a_or, a_notV, a_if, a_par, a_call, a_forS, a_sq, a_r1, a_r2, a_en, a_zp, a_asT, a_chI, a_yes, a_lc, a_fn, okA, f_fr, bkA, rsvs, rsv, dvs, on1, on2, d_fr, d_ol, rsO, ndS, sl, putB, asT, setAll, ofO, Dy.ints1, Dy.ints2, nE, wipeE, unw, frO, q_addI, q_addL, q_addT, q_addS, q_sub, q_div, q_mod, q_pow, q_neg, q_cm, pIs, pIsn, q_isN, q_isI, q_isS, q_isT, q_isL, q_isB, q_lenL, q_lenT, pTup, pLst, q_tupL, q_tupT, q_lstL, q_lstT, q_revL, q_slL, q_slT, q_shL, q_shT, q_sqL, q_sqT, q_intI, q_max2, q_min2, q_aII, q_aBI, q_aTI, q_aTT, q_aLL, q_aTL, q_aIT, b1, b, ho, it, lc, pa]
end
end Q
namespace Q
open PySem Dy
open L2 (atI ixN)
abbrev LF (j : Nat) : PyData := .tuple [.tuple [dN j]]
abbrev o1 (n : Nat) (Od Pd S : PyData) : List PyData := [.none, .list [Od, Pd, S], .tuple [Od, Pd], .tuple [Od, Pd, S, .int 0], .tuple [dN n, Pd, S], .tuple [.int (-1), Pd, S], .tuple [.none, Pd, S]]
abbrev o2 (a Od Pd S : PyData) : List PyData := [.tuple [Od, a, S], .tuple [Od, .int (-1), S], .tuple [Od, .none, S]]
abbrev o3 (j : Nat) (Od Pd : PyData) (X : List PyData) : List PyData := [.tuple [Od, Pd, .list X], .tuple [Od, Pd, .tuple (X ++ [LF j])], .tuple [Od, Pd, LF j]]
abbrev o4 (j : Nat) (Od Pd : PyData) : List PyData := [.tuple [Od, Pd, .tuple [LF j, LF j]], .tuple [Od, Pd, .none], .tuple [dN j, .int 0, .tuple []]]
abbrev o5 (j : Nat) (W : Str) (Od Pd S : PyData) (X : List PyData) : List PyData := [.tuple [Od, Pd, .tuple (List.replicate X.length (LF j) ++ [.none])], .tuple [.str W, Pd, S]]
abbrev o6 (n : Nat) (Od Pd : PyData) : List PyData := [.tuple [Od, Pd, .tuple []], .tuple [Od, Pd, .tuple [.tuple []]], .tuple [Od, Pd, .tuple [.tuple [.tuple [dN n]]]]]
abbrev o7 (j : Nat) (Od Pd : PyData) : List PyData := [.tuple [Od, Pd, .tuple [.list [.tuple [dN j]]]], .tuple [Od, Pd, .tuple [.tuple [.tuple [Od, .int 0, .int 0]]]]]
abbrev o8 (b1 b2 : Bool) (Od Pd S : PyData) : List PyData := [.tuple [.bool b1, Pd, S], .tuple [Od, .bool b2, S]]
def oddL (n j : Nat) (a Od Pd : PyData) (X : List PyData) (W : Str) (b1 b2 : Bool) : List PyData :=
  o1 n Od Pd (.tuple X) ++ o2 a Od Pd (.tuple X) ++ o3 j Od Pd X ++ o4 j Od Pd ++ o5 j W Od Pd (.tuple X) X ++ (if X.length = 1 then o6 n Od Pd ++ o7 j Od Pd else []) ++ o8 b1 b2 Od Pd (.tuple X)
abbrev oV (As : List PyData) (Od Pd : PyData) (X : List PyData) (lf fd o p s bd : Option O) : Dy.Env := V__law_odd_ones (arities_here := fr (.tuple As)) (leg := fr (.tuple [Od, Pd, .tuple X])) (leaf := lf) (found := fd) (operator := o) (place := p) (others := s) (bad := bd)
theorem odd_g {As : List PyData} {j : Nat} {a Od Pd : PyData} {X : List PyData} {W : Str} {b1 b2 : Bool} (hi : pIndex As (.int 0) = some (dN j)) (ha : pIx (.tuple As) Od = some (.fr a)) (hs : pStr Od = some (.fr (.str W))) (hb : pBoo Od = some (.fr (.bool b1))) (he : pEq Pd (.int 1) = some (.fr (.bool b2))) (hX : X.length ≤ 1) :
    M__law_odd_ones [.fr (.tuple As), .fr (.tuple [Od, Pd, .tuple X])] = .ok (.ol (oddL As.length j a Od Pd X W b1 b2), [.fr (.tuple As), .fr (.tuple [Od, Pd, .tuple X])]) := by
  have cu2 : cutD [Od, Pd, PyData.tuple X] none (some 2) = [Od, Pd] := cutHi _ 2
  have cu1 : cutD [Od, Pd, PyData.tuple X] (some 1) none = [Pd, .tuple X] := cutLo _ 1
  have mu : pMulA (.tuple [LF j]) (.int (X.length : Int)) = some (.fr (.tuple (List.replicate X.length (LF j)))) := by
    rw [q_mulAT, if_pos ⟨by simp, by omega, by omega, by simp⟩]
    simp
  have z1 : X.length + 1 ≤ 1000000 := by omega
  have z2 : X.length + 1 ≤ 100000 := by omega
  have s0 : (fAsT (.tu [4, 5, 6]) (fV 1)) (oV As Od Pd X none none none none none none) = .ok (.nx, oV As Od Pd X none none (fr Od) (fr Pd) (fr (.tuple X)) none) := by
    simp [q_mulAI, q_mulAL, a_wb, q_divW, Function.comp_def, q_starI, q_starIT, a_wp, a_fz, a_fz0, a_fz1, a_ext, a_ins, a_insA, a_pop, a_parN, a_evO0, a_evO1, a_setO0, a_setO1, a_ix2, a_setII, a_zN, a_zC, a_lcO, d_oo, pEq_int, pNe_int, pIxL, pIxT, atI_nat, atI_0, atI_1, atI_2, atI_3, atI_m1, cutLo, cutHi, cutLo1, cutHi1, a_seq, a_ifS, a_B, a_op, a_ov, a_ev0, a_evv, a_evs, a_C, a_V, a_M, a_set, a_setI, a_app, a_ret, a_ex, a_skip, a_no, a_not, a_andT, a_orT, a_and, a_or, a_notV, a_if, a_par, a_call, a_forS, a_sq, a_r1, a_r2, a_en, a_zp, a_asT, a_chI, a_yes, a_lc, a_fn, okA, f_fr, bkA, rsvs, rsv, dvs, on1, on2, d_fr, d_ol, rsO, ndS, sl, putB, asT, setAll, ofO, Dy.ints1, Dy.ints2, nE, wipeE, unw, frO, q_addI, q_addL, q_addT, q_addS, q_sub, q_div, q_mod, q_pow, q_neg, q_cm, pIs, pIsn, q_isN, q_isI, q_isS, q_isT, q_isL, q_isB, q_lenL, q_lenT, pTup, pLst, q_tupL, q_tupT, q_lstL, q_lstT, q_revL, q_slL, q_slT, q_shL, q_shT, q_sqL, q_sqT, q_intI, q_max2, q_min2, q_aII, q_aBI, q_aTI, q_aTT, q_aLL, q_aTL, q_aIT]
  have s1 : (fSet 2 (fOv pTup [.v (fOv pTup [.v (fMtT pIndex (fV 0) (.v (fC (.int 0))))])])) (oV As Od Pd X none none (fr Od) (fr Pd) (fr (.tuple X)) none) = .ok (.nx, oV As Od Pd X (fr (LF j)) none (fr Od) (fr Pd) (fr (.tuple X)) none) := by
    simp [q_mulAI, q_mulAL, a_wb, q_divW, Function.comp_def, q_starI, q_starIT, a_wp, a_fz, a_fz0, a_fz1, a_ext, a_ins, a_insA, a_pop, a_parN, a_evO0, a_evO1, a_setO0, a_setO1, a_ix2, a_setII, a_zN, a_zC, a_lcO, d_oo, pEq_int, pNe_int, pIxL, pIxT, atI_nat, atI_0, atI_1, atI_2, atI_3, atI_m1, cutLo, cutHi, cutLo1, cutHi1, a_seq, a_ifS, a_B, a_op, a_ov, a_ev0, a_evv, a_evs, a_C, a_V, a_M, a_set, a_setI, a_app, a_ret, a_ex, a_skip, a_no, a_not, a_andT, a_orT, a_and, a_or, a_notV, a_if, a_par, a_call, a_forS, a_sq, a_r1, a_r2, a_en, a_zp, a_asT, a_chI, a_yes, a_lc, a_fn, okA, f_fr, bkA, rsvs, rsv, dvs, on1, on2, d_fr, d_ol, rsO, ndS, sl, putB, asT, setAll, ofO, Dy.ints1, Dy.ints2, nE, wipeE, unw, frO, q_addI, q_addL, q_addT, q_addS, q_sub, q_div, q_mod, q_pow, q_neg, q_cm, pIs, pIsn, q_isN, q_isI, q_isS, q_isT, q_isL, q_isB, q_lenL, q_lenT, pTup, pLst, q_tupL, q_tupT, q_lstL, q_lstT, q_revL, q_slL, q_slT, q_shL, q_shT, q_sqL, q_sqT, q_intI, q_max2, q_min2, q_aII, q_aBI, q_aTI, q_aTT, q_aLL, q_aTL, q_aIT, a_mtT, hi]
  have s2 : (fFz [3] (fSet 3 (fOv pLst [.v (fC .none), .v (fOp (on1 pList) [.s 1]), .v (fOp (on2 pSl2h) [.s 1, .v (fC (.int 2))]), .v (fOp (on2 pAdd) [.s 1, .v (fOv pTup [.v (fC (.int 0))])]), .v (fOp (on2 pAdd) [.v (fOv pTup [.v (fOp (on1 pLen) [.s 0])]), .v (fOp (on2 pSl2l) [.s 1, .v (fC (.int 1))])]), .v (fOp (on2 pAdd) [.v (fOv pTup [.v (fOp (on1 pNeg) [.v (fC (.int 1))])]), .v (fOp (on2 pSl2l) [.s 1, .v (fC (.int 1))])]), .v (fOp (on2 pAdd) [.v (fOv pTup [.v (fC .none)]), .v (fOp (on2 pSl2l) [.s 1, .v (fC (.int 1))])])]))) (oV As Od Pd X (fr (LF j)) none (fr Od) (fr Pd) (fr (.tuple X)) none) = .ok (.nx, oV As Od Pd X (fr (LF j)) (fr (.list (o1 As.length Od Pd (.tuple X)))) (fr Od) (fr Pd) (fr (.tuple X)) none) := by
    clear s0 s1
    simp [q_mulAI, q_mulAL, a_wb, q_divW, Function.comp_def, q_starI, q_starIT, a_wp, a_fz, a_fz0, a_fz1, a_ext, a_ins, a_insA, a_pop, a_parN, a_evO0, a_evO1, a_setO0, a_setO1, a_ix2, a_setII, a_zN, a_zC, a_lcO, d_oo, pEq_int, pNe_int, pIxL, pIxT, atI_nat, atI_0, atI_1, atI_2, atI_3, atI_m1, cutLo, cutHi, cutLo1, cutHi1, a_seq, a_ifS, a_B, a_op, a_ov, a_ev0, a_evv, a_evs, a_C, a_V, a_M, a_set, a_setI, a_app, a_ret, a_ex, a_skip, a_no, a_not, a_andT, a_orT, a_and, a_or, a_notV, a_if, a_par, a_call, a_forS, a_sq, a_r1, a_r2, a_en, a_zp, a_asT, a_chI, a_yes, a_lc, a_fn, okA, f_fr, bkA, rsvs, rsv, dvs, on1, on2, d_fr, d_ol, rsO, ndS, sl, putB, asT, setAll, ofO, Dy.ints1, Dy.ints2, nE, wipeE, unw, frO, q_addI, q_addL, q_addT, q_addS, q_sub, q_div, q_mod, q_pow, q_neg, q_cm, pIs, pIsn, q_isN, q_isI, q_isS, q_isT, q_isL, q_isB, q_lenL, q_lenT, pTup, pLst, q_tupL, q_tupT, q_lstL, q_lstT, q_revL, q_slL, q_slT, q_shL, q_shT, q_sqL, q_sqT, q_intI, q_max2, q_min2, q_aII, q_aBI, q_aTI, q_aTT, q_aLL, q_aTL, q_aIT, cu2, cu1, pList, seqOf]
  have s3 : (fFz [3] (fSet 3 (fOp (on2 pAdd) [.s 3, .v (fOv pLst [.v (fOv pTup [.v (fV 4), .v (fOp (on2 pIx) [.s 0, .s 4]), .v (fV 6)]), .v (fOv pTup [.v (fV 4), .v (fOp (on1 pNeg) [.v (fC (.int 1))]), .v (fV 6)]), .v (fOv pTup [.v (fV 4), .v (fC .none), .v (fV 6)])])]))) (oV As Od Pd X (fr (LF j)) (fr (.list (o1 As.length Od Pd (.tuple X)))) (fr Od) (fr Pd) (fr (.tuple X)) none) = .ok (.nx, oV As Od Pd X (fr (LF j)) (fr (.list (o1 As.length Od Pd (.tuple X) ++ o2 a Od Pd (.tuple X)))) (fr Od) (fr Pd) (fr (.tuple X)) none) := by
    clear s0 s1
    generalize hL : o1 As.length Od Pd (.tuple X) = L at *
    have hl : L.length ≤ 100 := by rw [← hL]; simp; try omega
    clear hL
    have z9 : L.length + 3 ≤ 1000000 := by omega
    have z8 : L.length + 2 ≤ 1000000 := by omega
    have z7 : L.length + 4 ≤ 1000000 := by omega
    simp [q_mulAI, q_mulAL, a_wb, q_divW, Function.comp_def, q_starI, q_starIT, a_wp, a_fz, a_fz0, a_fz1, a_ext, a_ins, a_insA, a_pop, a_parN, a_evO0, a_evO1, a_setO0, a_setO1, a_ix2, a_setII, a_zN, a_zC, a_lcO, d_oo, pEq_int, pNe_int, pIxL, pIxT, atI_nat, atI_0, atI_1, atI_2, atI_3, atI_m1, cutLo, cutHi, cutLo1, cutHi1, a_seq, a_ifS, a_B, a_op, a_ov, a_ev0, a_evv, a_evs, a_C, a_V, a_M, a_set, a_setI, a_app, a_ret, a_ex, a_skip, a_no, a_not, a_andT, a_orT, a_and, a_or, a_notV, a_if, a_par, a_call, a_forS, a_sq, a_r1, a_r2, a_en, a_zp, a_asT, a_chI, a_yes, a_lc, a_fn, okA, f_fr, bkA, rsvs, rsv, dvs, on1, on2, d_fr, d_ol, rsO, ndS, sl, putB, asT, setAll, ofO, Dy.ints1, Dy.ints2, nE, wipeE, unw, frO, q_addI, q_addL, q_addT, q_addS, q_sub, q_div, q_mod, q_pow, q_neg, q_cm, pIs, pIsn, q_isN, q_isI, q_isS, q_isT, q_isL, q_isB, q_lenL, q_lenT, pTup, pLst, q_tupL, q_tupT, q_lstL, q_lstT, q_revL, q_slL, q_slT, q_shL, q_shT, q_sqL, q_sqT, q_intI, q_max2, q_min2, q_aII, q_aBI, q_aTI, q_aTT, q_aLL, q_aTL, q_aIT, ha, z9, z8, z7]
  have s4 : (fFz [3] (fSet 3 (fOp (on2 pAdd) [.s 3, .v (fOv pLst [.v (fOv pTup [.v (fV 4), .v (fV 5), .v (fOp (on1 pList) [.s 6])]), .v (fOv pTup [.v (fV 4), .v (fV 5), .v (fOp (on2 pAdd) [.s 6, .v (fOv pTup [.v (fV 2)])])]), .v (fOv pTup [.v (fV 4), .v (fV 5), .v (fV 2)])])]))) (oV As Od Pd X (fr (LF j)) (fr (.list (o1 As.length Od Pd (.tuple X) ++ o2 a Od Pd (.tuple X)))) (fr Od) (fr Pd) (fr (.tuple X)) none) = .ok (.nx, oV As Od Pd X (fr (LF j)) (fr (.list (o1 As.length Od Pd (.tuple X) ++ o2 a Od Pd (.tuple X) ++ o3 j Od Pd X))) (fr Od) (fr Pd) (fr (.tuple X)) none) := by
    clear s0 s1
    generalize hL : o1 As.length Od Pd (.tuple X) ++ o2 a Od Pd (.tuple X) = L at *
    have hl : L.length ≤ 100 := by rw [← hL]; simp; try omega
    clear hL
    have z9 : L.length + 3 ≤ 1000000 := by omega
    have z8 : L.length + 2 ≤ 1000000 := by omega
    have z7 : L.length + 4 ≤ 1000000 := by omega
    simp [q_mulAI, q_mulAL, a_wb, q_divW, Function.comp_def, q_starI, q_starIT, a_wp, a_fz, a_fz0, a_fz1, a_ext, a_ins, a_insA, a_pop, a_parN, a_evO0, a_evO1, a_setO0, a_setO1, a_ix2, a_setII, a_zN, a_zC, a_lcO, d_oo, pEq_int, pNe_int, pIxL, pIxT, atI_nat, atI_0, atI_1, atI_2, atI_3, atI_m1, cutLo, cutHi, cutLo1, cutHi1, a_seq, a_ifS, a_B, a_op, a_ov, a_ev0, a_evv, a_evs, a_C, a_V, a_M, a_set, a_setI, a_app, a_ret, a_ex, a_skip, a_no, a_not, a_andT, a_orT, a_and, a_or, a_notV, a_if, a_par, a_call, a_forS, a_sq, a_r1, a_r2, a_en, a_zp, a_asT, a_chI, a_yes, a_lc, a_fn, okA, f_fr, bkA, rsvs, rsv, dvs, on1, on2, d_fr, d_ol, rsO, ndS, sl, putB, asT, setAll, ofO, Dy.ints1, Dy.ints2, nE, wipeE, unw, frO, q_addI, q_addL, q_addT, q_addS, q_sub, q_div, q_mod, q_pow, q_neg, q_cm, pIs, pIsn, q_isN, q_isI, q_isS, q_isT, q_isL, q_isB, q_lenL, q_lenT, pTup, pLst, q_tupL, q_tupT, q_lstL, q_lstT, q_revL, q_slL, q_slT, q_shL, q_shT, q_sqL, q_sqT, q_intI, q_max2, q_min2, q_aII, q_aBI, q_aTI, q_aTT, q_aLL, q_aTL, q_aIT, pList, seqOf, z1, z9, z8, z7]
  have s5 : (fFz [3] (fSet 3 (fOp (on2 pAdd) [.s 3, .v (fOv pLst [.v (fOv pTup [.v (fV 4), .v (fV 5), .v (fOv pTup [.v (fV 2), .v (fV 2)])]), .v (fOv pTup [.v (fV 4), .v (fV 5), .v (fC .none)]), .v (fOv pTup [.v (fMtT pIndex (fV 0) (.v (fC (.int 0)))), .v (fC (.int 0)), .v (fOv pTup [])])])]))) (oV As Od Pd X (fr (LF j)) (fr (.list (o1 As.length Od Pd (.tuple X) ++ o2 a Od Pd (.tuple X) ++ o3 j Od Pd X))) (fr Od) (fr Pd) (fr (.tuple X)) none) = .ok (.nx, oV As Od Pd X (fr (LF j)) (fr (.list (o1 As.length Od Pd (.tuple X) ++ o2 a Od Pd (.tuple X) ++ o3 j Od Pd X ++ o4 j Od Pd))) (fr Od) (fr Pd) (fr (.tuple X)) none) := by
    clear s0 s1
    generalize hL : o1 As.length Od Pd (.tuple X) ++ o2 a Od Pd (.tuple X) ++ o3 j Od Pd X = L at *
    have hl : L.length ≤ 100 := by rw [← hL]; simp; try omega
    clear hL
    have z9 : L.length + 3 ≤ 1000000 := by omega
    have z8 : L.length + 2 ≤ 1000000 := by omega
    have z7 : L.length + 4 ≤ 1000000 := by omega
    simp [q_mulAI, q_mulAL, a_wb, q_divW, Function.comp_def, q_starI, q_starIT, a_wp, a_fz, a_fz0, a_fz1, a_ext, a_ins, a_insA, a_pop, a_parN, a_evO0, a_evO1, a_setO0, a_setO1, a_ix2, a_setII, a_zN, a_zC, a_lcO, d_oo, pEq_int, pNe_int, pIxL, pIxT, atI_nat, atI_0, atI_1, atI_2, atI_3, atI_m1, cutLo, cutHi, cutLo1, cutHi1, a_seq, a_ifS, a_B, a_op, a_ov, a_ev0, a_evv, a_evs, a_C, a_V, a_M, a_set, a_setI, a_app, a_ret, a_ex, a_skip, a_no, a_not, a_andT, a_orT, a_and, a_or, a_notV, a_if, a_par, a_call, a_forS, a_sq, a_r1, a_r2, a_en, a_zp, a_asT, a_chI, a_yes, a_lc, a_fn, okA, f_fr, bkA, rsvs, rsv, dvs, on1, on2, d_fr, d_ol, rsO, ndS, sl, putB, asT, setAll, ofO, Dy.ints1, Dy.ints2, nE, wipeE, unw, frO, q_addI, q_addL, q_addT, q_addS, q_sub, q_div, q_mod, q_pow, q_neg, q_cm, pIs, pIsn, q_isN, q_isI, q_isS, q_isT, q_isL, q_isB, q_lenL, q_lenT, pTup, pLst, q_tupL, q_tupT, q_lstL, q_lstT, q_revL, q_slL, q_slT, q_shL, q_shT, q_sqL, q_sqT, q_intI, q_max2, q_min2, q_aII, q_aBI, q_aTI, q_aTT, q_aLL, q_aTL, q_aIT, a_mtT, hi, z9, z8, z7]
  have s6 : (fFz [3] (fSet 3 (fOp (on2 pAdd) [.s 3, .v (fOv pLst [.v (fOv pTup [.v (fV 4), .v (fV 5), .v (fOp (on2 pAdd) [.v (fOp (on2 pMulA) [.v (fOv pTup [.v (fV 2)]), .v (fOp (on1 pLen) [.s 6])]), .v (fOv pTup [.v (fC .none)])])]), .v (fOv pTup [.v (fOp (on1 pStr) [.s 4]), .v (fV 5), .v (fV 6)])])]))) (oV As Od Pd X (fr (LF j)) (fr (.list (o1 As.length Od Pd (.tuple X) ++ o2 a Od Pd (.tuple X) ++ o3 j Od Pd X ++ o4 j Od Pd))) (fr Od) (fr Pd) (fr (.tuple X)) none) = .ok (.nx, oV As Od Pd X (fr (LF j)) (fr (.list (o1 As.length Od Pd (.tuple X) ++ o2 a Od Pd (.tuple X) ++ o3 j Od Pd X ++ o4 j Od Pd ++ o5 j W Od Pd (.tuple X) X))) (fr Od) (fr Pd) (fr (.tuple X)) none) := by
    clear s0 s1
    generalize hL : o1 As.length Od Pd (.tuple X) ++ o2 a Od Pd (.tuple X) ++ o3 j Od Pd X ++ o4 j Od Pd = L at *
    have hl : L.length ≤ 100 := by rw [← hL]; simp; try omega
    clear hL
    have z9 : L.length + 3 ≤ 1000000 := by omega
    have z8 : L.length + 2 ≤ 1000000 := by omega
    have z7 : L.length + 4 ≤ 1000000 := by omega
    simp [q_mulAI, q_mulAL, a_wb, q_divW, Function.comp_def, q_starI, q_starIT, a_wp, a_fz, a_fz0, a_fz1, a_ext, a_ins, a_insA, a_pop, a_parN, a_evO0, a_evO1, a_setO0, a_setO1, a_ix2, a_setII, a_zN, a_zC, a_lcO, d_oo, pEq_int, pNe_int, pIxL, pIxT, atI_nat, atI_0, atI_1, atI_2, atI_3, atI_m1, cutLo, cutHi, cutLo1, cutHi1, a_seq, a_ifS, a_B, a_op, a_ov, a_ev0, a_evv, a_evs, a_C, a_V, a_M, a_set, a_setI, a_app, a_ret, a_ex, a_skip, a_no, a_not, a_andT, a_orT, a_and, a_or, a_notV, a_if, a_par, a_call, a_forS, a_sq, a_r1, a_r2, a_en, a_zp, a_asT, a_chI, a_yes, a_lc, a_fn, okA, f_fr, bkA, rsvs, rsv, dvs, on1, on2, d_fr, d_ol, rsO, ndS, sl, putB, asT, setAll, ofO, Dy.ints1, Dy.ints2, nE, wipeE, unw, frO, q_addI, q_addL, q_addT, q_addS, q_sub, q_div, q_mod, q_pow, q_neg, q_cm, pIs, pIsn, q_isN, q_isI, q_isS, q_isT, q_isL, q_isB, q_lenL, q_lenT, pTup, pLst, q_tupL, q_tupT, q_lstL, q_lstT, q_revL, q_slL, q_slT, q_shL, q_shT, q_sqL, q_sqT, q_intI, q_max2, q_min2, q_aII, q_aBI, q_aTI, q_aTT, q_aLL, q_aTL, q_aIT, mu, hs, z1, z9, z8, z7]
  have s7 : ∃ bd, (fIfS (fB (fOp (on2 pEq) [.v (fOp (on1 pLen) [.s 6]), .v (fC (.int 1))])) (fSeq (fSet 7 (fOv pTup [.v (fOp (on1 pLen) [.s 0])]))
  (fSeq (fFz [3] (fSet 3 (fOp (on2 pAdd) [.s 3, .v (fOv pLst [.v (fOv pTup [.v (fV 4), .v (fV 5), .v (fOv pTup [])]), .v (fOv pTup [.v (fV 4), .v (fV 5), .v (fOv pTup [.v (fOv pTup [])])]), .v (fOv pTup [.v (fV 4), .v (fV 5), .v (fOv pTup [.v (fOv pTup [.v (fV 7)])])])])])))
  (fFz [3] (fSet 3 (fOp (on2 pAdd) [.s 3, .v (fOv pLst [.v (fOv pTup [.v (fV 4), .v (fV 5), .v (fOv pTup [.v (fOp (on1 pList) [.s 2])])]), .v (fOv pTup [.v (fV 4), .v (fV 5), .v (fOv pTup [.v (fOv pTup [.v (fOv pTup [.v (fV 4), .v (fC (.int 0)), .v (fC (.int 0))])])])])])]))))) (fSkip)) (oV As Od Pd X (fr (LF j)) (fr (.list (o1 As.length Od Pd (.tuple X) ++ o2 a Od Pd (.tuple X) ++ o3 j Od Pd X ++ o4 j Od Pd ++ o5 j W Od Pd (.tuple X) X))) (fr Od) (fr Pd) (fr (.tuple X)) none) = .ok (.nx, oV As Od Pd X (fr (LF j)) (fr (.list (o1 As.length Od Pd (.tuple X) ++ o2 a Od Pd (.tuple X) ++ o3 j Od Pd X ++ o4 j Od Pd ++ o5 j W Od Pd (.tuple X) X ++ (if X.length = 1 then o6 As.length Od Pd ++ o7 j Od Pd else [])))) (fr Od) (fr Pd) (fr (.tuple X)) bd) := by
    clear s0 s1 s2 s3 s4 s5 s6
    generalize hL : o1 As.length Od Pd (.tuple X) ++ o2 a Od Pd (.tuple X) ++ o3 j Od Pd X ++ o4 j Od Pd ++ o5 j W Od Pd (.tuple X) X = L at *
    have hl : L.length ≤ 100 := by rw [← hL]; simp; try omega
    clear hL
    by_cases c : X.length = 1
    · refine ⟨fr (.tuple [dN As.length]), ?_⟩
      have c1 : ((X.length : Int) = 1) := by omega
      have z9 : L.length + 3 ≤ 1000000 := by omega
      have z8 : L.length + (3 + 2) ≤ 1000000 := by omega
      have z7 : L.length + 3 + 2 ≤ 1000000 := by omega
      simp [q_mulAI, q_mulAL, a_wb, q_divW, Function.comp_def, q_starI, q_starIT, a_wp, a_fz, a_fz0, a_fz1, a_ext, a_ins, a_insA, a_pop, a_parN, a_evO0, a_evO1, a_setO0, a_setO1, a_ix2, a_setII, a_zN, a_zC, a_lcO, d_oo, pEq_int, pNe_int, pIxL, pIxT, atI_nat, atI_0, atI_1, atI_2, atI_3, atI_m1, cutLo, cutHi, cutLo1, cutHi1, a_seq, a_ifS, a_B, a_op, a_ov, a_ev0, a_evv, a_evs, a_C, a_V, a_M, a_set, a_setI, a_app, a_ret, a_ex, a_skip, a_no, a_not, a_andT, a_orT, a_and, a_or, a_notV, a_if, a_par, a_call, a_forS, a_sq, a_r1, a_r2, a_en, a_zp, a_asT, a_chI, a_yes, a_lc, a_fn, okA, f_fr, bkA, rsvs, rsv, dvs, on1, on2, d_fr, d_ol, rsO, ndS, sl, putB, asT, setAll, ofO, Dy.ints1, Dy.ints2, nE, wipeE, unw, frO, q_addI, q_addL, q_addT, q_addS, q_sub, q_div, q_mod, q_pow, q_neg, q_cm, pIs, pIsn, q_isN, q_isI, q_isS, q_isT, q_isL, q_isB, q_lenL, q_lenT, pTup, pLst, q_tupL, q_tupT, q_lstL, q_lstT, q_revL, q_slL, q_slT, q_shL, q_shT, q_sqL, q_sqT, q_intI, q_max2, q_min2, q_aII, q_aBI, q_aTI, q_aTT, q_aLL, q_aTL, q_aIT, c, c1, z9, z8, z7, pList, seqOf]
    · refine ⟨none, ?_⟩
      have c1 : ¬ ((X.length : Int) = 1) := by omega
      simp [q_mulAI, q_mulAL, a_wb, q_divW, Function.comp_def, q_starI, q_starIT, a_wp, a_fz, a_fz0, a_fz1, a_ext, a_ins, a_insA, a_pop, a_parN, a_evO0, a_evO1, a_setO0, a_setO1, a_ix2, a_setII, a_zN, a_zC, a_lcO, d_oo, pEq_int, pNe_int, pIxL, pIxT, atI_nat, atI_0, atI_1, atI_2, atI_3, atI_m1, cutLo, cutHi, cutLo1, cutHi1, a_seq, a_ifS, a_B, a_op, a_ov, a_ev0, a_evv, a_evs, a_C, a_V, a_M, a_set, a_setI, a_app, a_ret, a_ex, a_skip, a_no, a_not, a_andT, a_orT, a_and, a_or, a_notV, a_if, a_par, a_call, a_forS, a_sq, a_r1, a_r2, a_en, a_zp, a_asT, a_chI, a_yes, a_lc, a_fn, okA, f_fr, bkA, rsvs, rsv, dvs, on1, on2, d_fr, d_ol, rsO, ndS, sl, putB, asT, setAll, ofO, Dy.ints1, Dy.ints2, nE, wipeE, unw, frO, q_addI, q_addL, q_addT, q_addS, q_sub, q_div, q_mod, q_pow, q_neg, q_cm, pIs, pIsn, q_isN, q_isI, q_isS, q_isT, q_isL, q_isB, q_lenL, q_lenT, pTup, pLst, q_tupL, q_tupT, q_lstL, q_lstT, q_revL, q_slL, q_slT, q_shL, q_shT, q_sqL, q_sqT, q_intI, q_max2, q_min2, q_aII, q_aBI, q_aTI, q_aTT, q_aLL, q_aTL, q_aIT, c, c1]
  obtain ⟨bd, s7⟩ := s7
  have s8 : (fRet (fOp (on2 pAdd) [.s 3, .v (fOv pLst [.v (fOv pTup [.v (fOp (on1 pBoo) [.s 4]), .v (fV 5), .v (fV 6)]), .v (fOv pTup [.v (fV 4), .v (fOp (on2 pEq) [.s 5, .v (fC (.int 1))]), .v (fV 6)])])])) (oV As Od Pd X (fr (LF j)) (fr (.list (o1 As.length Od Pd (.tuple X) ++ o2 a Od Pd (.tuple X) ++ o3 j Od Pd X ++ o4 j Od Pd ++ o5 j W Od Pd (.tuple X) X ++ (if X.length = 1 then o6 As.length Od Pd ++ o7 j Od Pd else [])))) (fr Od) (fr Pd) (fr (.tuple X)) bd) = .ok (.rt (.ol (oddL As.length j a Od Pd X W b1 b2)), oV As Od Pd X (fr (LF j)) (fr (.list (o1 As.length Od Pd (.tuple X) ++ o2 a Od Pd (.tuple X) ++ o3 j Od Pd X ++ o4 j Od Pd ++ o5 j W Od Pd (.tuple X) X ++ (if X.length = 1 then o6 As.length Od Pd ++ o7 j Od Pd else [])))) (fr Od) (fr Pd) (fr (.tuple X)) bd) := by
    clear s0 s1 s2 s3 s4 s5 s6 s7
    unfold oddL
    generalize hL : o1 As.length Od Pd (.tuple X) ++ o2 a Od Pd (.tuple X) ++ o3 j Od Pd X ++ o4 j Od Pd ++ o5 j W Od Pd (.tuple X) X ++ (if X.length = 1 then o6 As.length Od Pd ++ o7 j Od Pd else []) = L at *
    have hl : L.length ≤ 100 := by rw [← hL]; split <;> (simp; try omega)
    clear hL
    have z9 : L.length + 2 ≤ 1000000 := by omega
    simp [q_mulAI, q_mulAL, a_wb, q_divW, Function.comp_def, q_starI, q_starIT, a_wp, a_fz, a_fz0, a_fz1, a_ext, a_ins, a_insA, a_pop, a_parN, a_evO0, a_evO1, a_setO0, a_setO1, a_ix2, a_setII, a_zN, a_zC, a_lcO, d_oo, pEq_int, pNe_int, pIxL, pIxT, atI_nat, atI_0, atI_1, atI_2, atI_3, atI_m1, cutLo, cutHi, cutLo1, cutHi1, a_seq, a_ifS, a_B, a_op, a_ov, a_ev0, a_evv, a_evs, a_C, a_V, a_M, a_set, a_setI, a_app, a_ret, a_ex, a_skip, a_no, a_not, a_andT, a_orT, a_and, a_or, a_notV, a_if, a_par, a_call, a_forS, a_sq, a_r1, a_r2, a_en, a_zp, a_asT, a_chI, a_yes, a_lc, a_fn, okA, f_fr, bkA, rsvs, rsv, dvs, on1, on2, d_fr, d_ol, rsO, ndS, sl, putB, asT, setAll, ofO, Dy.ints1, Dy.ints2, nE, wipeE, unw, frO, q_addI, q_addL, q_addT, q_addS, q_sub, q_div, q_mod, q_pow, q_neg, q_cm, pIs, pIsn, q_isN, q_isI, q_isS, q_isT, q_isL, q_isB, q_lenL, q_lenT, pTup, pLst, q_tupL, q_tupT, q_lstL, q_lstT, q_revL, q_slL, q_slT, q_shL, q_shT, q_sqL, q_sqT, q_intI, q_max2, q_min2, q_aII, q_aBI, q_aTI, q_aTT, q_aLL, q_aTL, q_aIT, hb, he, z9]
  unfold M__law_odd_ones
  refine fn2_rt (N := 6) (e := oV As Od Pd X (fr (LF j)) (fr (.list (o1 As.length Od Pd (.tuple X) ++ o2 a Od Pd (.tuple X) ++ o3 j Od Pd X ++ o4 j Od Pd ++ o5 j W Od Pd (.tuple X) X ++ (if X.length = 1 then o6 As.length Od Pd ++ o7 j Od Pd else [])))) (fr Od) (fr Pd) (fr (.tuple X)) bd) ?_
  unfold b__law_odd_ones
  exact (seq_nx s0).trans ((seq_nx s1).trans ((seq_nx s2).trans ((seq_nx s3).trans ((seq_nx s4).trans ((seq_nx s5).trans ((seq_nx s6).trans ((seq_nx s7).trans s8)))))))
end Q
namespace Q
open PySem Dy
open L2 (atI ixN)
theorem w_empty {as : List Nat} (ha : ArOk as) : M_is_written [.fr (encA as), .fr (.tuple [])] = .ok (.fr (.bool false), [.fr (encA as), .fr (.tuple [])]) :=
  wr_of ha ⟨shD_rk (n := 1) (w := 10) ((Rk.tup (n := 0) (w := 1) (ds := []) (fun d hd => by cases hd)).mono (by decide) (by decide)) (by decide) (fun xs e => by cases e; decide), fun xs e x hx => by cases e; cases hx⟩ rfl
theorem w_nt {as : List Nat} (ha : ArOk as) {d : PyData} (h : isA .tuple d = false) : M_is_written [.fr (encA as), .fr d] = .ok (.fr (.bool false), [.fr (encA as), .fr d]) :=
  wr_of ha ⟨shD_at h, fun xs e => by subst e; cases h⟩ (by cases d <;> first | rfl | cases h)
/-- a tree of one node that is none -/
theorem w_one {as : List Nat} (ha : ArOk as) {ns : List Nat} (hl : ns.length ≤ 10) (hb : ∀ k ∈ ns, k ≤ 1000) (h : ∀ i : Int, ndD (as.map dN) i (.tuple (ns.map dN)) = false) : M_is_written [.fr (encA as), .fr (.tuple [.tuple (ns.map dN)])] = .ok (.fr (.bool false), [.fr (encA as), .fr (.tuple [.tuple (ns.map dN)])]) := by
  have r1 : Rk 1 12000 (.tuple (ns.map dN)) := (Rk.tup (n := 0) (w := 1100) fun d hd => by
    obtain ⟨k, hk, rfl⟩ := List.mem_map.mp hd
    exact rkN4 (hb k hk)).mono (Nat.le_refl _) (by simp; omega)
  refine wr_of ha ⟨shD_rk (Rk.tup (n := 1) (w := 12000) fun d hd => by simp at hd; subst hd; exact r1) (by decide) (fun xs e => by cases e; simp), fun xs e x hx => ?_⟩ ?_
  · cases e; simp at hx; subst hx; exact shD_rk r1 (by decide) (fun xs e => by cases e; simp; omega)
  · exact wr_all (all_no (x := .tuple (ns.map dN)) (by simp) h)
theorem w_ints {as : List Nat} (ha : ArOk as) {ns : List Nat} (h0 : ns ≠ []) (hl : ns.length ≤ 10) (hb : ∀ k ∈ ns, k ≤ 1000) : M_is_written [.fr (encA as), .fr (.tuple (ns.map dN))] = .ok (.fr (.bool false), [.fr (encA as), .fr (.tuple (ns.map dN))]) := by
  refine wr_of ha ⟨shD_rk (Rk.tup (n := 0) (w := 1100) fun d hd => by
    obtain ⟨k, hk, rfl⟩ := List.mem_map.mp hd
    exact rkN4 (hb k hk)) (by decide) (fun xs e => by cases e; simp; omega), fun xs e x hx => ?_⟩ ?_
  · cases e
    obtain ⟨k, _, rfl⟩ := List.mem_map.mp hx
    exact shD_at rfl
  · obtain ⟨k, ks, rfl⟩ := List.exists_cons_of_ne_nil h0
    exact wr_all (all_no (x := dN k) (by simp) (fun i => nd_no rfl))
theorem odd_btw (as : List Nat) : btw 0 ((as.length : Int) - 1) (dN as.length) = false := by
  show (decide ((0 : Int) ≤ (as.length : Int)) && decide ((as.length : Int) ≤ (as.length : Int) - 1)) = false
  rw [decide_eq_false (show ¬ ((as.length : Int) ≤ (as.length : Int) - 1) by omega), Bool.and_false]
/-- the first node has no nodes ahead of it -/
theorem w_one' {as : List Nat} {op : Nat} (ha : ArOk as) (h2 : as[op]? = some 2) : M_is_written [.fr (encA as), .fr (.tuple [.tuple [dN op, .int 0, .int 0]])] = .ok (.fr (.bool false), [.fr (encA as), .fr (.tuple [.tuple [dN op, .int 0, .int 0]])]) := by
  have al := ha.len
  have ol := lt_of_get h2
  have r1 : Rk 1 12000 (.tuple [dN op, .int 0, .int 0]) := (Rk.tup (n := 0) (w := 1100) fun d hd => by
    simp at hd
    rcases hd with rfl | rfl
    · exact rkN4 (by omega)
    · exact rkN4 (x := 0) (by decide)).mono (Nat.le_refl _) (by simp)
  refine wr_of ha ⟨shD_rk (Rk.tup (n := 1) (w := 12000) fun d hd => by simp at hd; subst hd; exact r1) (by decide) (fun xs e => by cases e; simp), fun xs e x hx => ?_⟩ ?_
  · cases e; simp at hx; subst hx; exact shD_rk r1 (by decide) (fun xs e => by cases e; simp)
  · refine wr_all ?_
    show (ndD (as.map dN) ((0 : Nat) : Int) (.tuple [dN op, .int 0, .int 0]) && _) = false
    have : ndD (as.map dN) ((0 : Nat) : Int) (.tuple [dN op, .int 0, .int 0]) = false := by
      show (_ && (_ && (btw 0 (((0 : Nat) : Int) - 1) (.int 0) && _))) = false
      rw [show btw 0 (((0 : Nat) : Int) - 1) (.int 0) = false from rfl, Bool.false_and, Bool.and_false, Bool.and_false]
    rw [this]; rfl
theorem odd_no {as : List Nat} {s : Leg} {j : Nat} {W : Str} {b1 b2 : Bool} (ha : ArOk as) (hs : LegOk as s) (hj : as[j]? = some 0) {d : PyData} (hd : d ∈ oddL as.length j (dN (s.sib.length + 1)) (dN s.op) (dN s.pl) (s.sib.map encT) W b1 b2) :
    M_is_step [.fr (encA as), .fr d] = .ok (.fr (.bool false), [.fr (encA as), .fr d]) := by
  have ar := hs.ar
  have pl := hs.pl
  have l1 := hs.le ha
  have al := ha.len
  have jl := lt_of_get hj
  have ol := lt_of_get ar
  have ob := odd_btw as
  have bneg : ∀ hi : Int, btw 0 hi (.int (-1)) = false := fun hi => rfl
  have xl : (s.sib.map encT).length = s.sib.length := by simp
  -- a leaf where the other parts stand
  have leaf1 : ∀ {zs : List PyData}, zs.length ≠ s.sib.length → M_is_step [.fr (encA as), .fr (.tuple [dN s.op, dN s.pl, .tuple zs])] = .ok (.fr (.bool false), [.fr (encA as), .fr (.tuple [dN s.op, dN s.pl, .tuple zs])]) := fun {zs} h => st_n ar pl h
  have two : s.sib.length = 1 → as[s.op]? = some 2 := fun z => by rw [ar, z]
  unfold oddL at hd
  simp only [List.mem_append] at hd
  rcases hd with (((((hd | hd) | hd) | hd) | hd) | hd) | hd
  · simp only [o1, List.mem_cons, List.not_mem_nil, or_false] at hd
    rcases hd with rfl | rfl | rfl | rfl | rfl | rfl | rfl
    · exact st_nt rfl
    · exact st_nt rfl
    · exact st_lenx (by simp)
    · exact st_lenx (by simp)
    · exact st_op ob
    · exact st_op (bneg _)
    · exact st_op rfl
  · simp only [o2, List.mem_cons, List.not_mem_nil, or_false] at hd
    rcases hd with rfl | rfl | rfl
    · refine st_pl ar ?_
      show (decide ((0 : Int) ≤ ((s.sib.length + 1 : Nat) : Int)) && decide (((s.sib.length + 1 : Nat) : Int) ≤ ((s.sib.length + 1 : Nat) : Int) - 1)) = false
      rw [decide_eq_false (show ¬ (((s.sib.length + 1 : Nat) : Int) ≤ ((s.sib.length + 1 : Nat) : Int) - 1) by omega), Bool.and_false]
    · exact st_pl ar (bneg _)
    · exact st_pl ar rfl
  · simp only [o3, List.mem_cons, List.not_mem_nil, or_false] at hd
    rcases hd with rfl | rfl | rfl
    · exact st_sib ar rfl
    · exact leaf1 (by simp)
    · by_cases z : s.sib.length = 1
      · exact st_w (two z) (by omega) (w_ints ha (ns := [j]) (by simp) (by simp) (fun k hk => by simp at hk; omega))
      · exact leaf1 (by simp; omega)
  · simp only [o4, List.mem_cons, List.not_mem_nil, or_false] at hd
    rcases hd with rfl | rfl | rfl
    · exact leaf1 (by simp; omega)
    · exact st_sib ar rfl
    · exact st_pl hj rfl
  · simp only [o5, List.mem_cons, List.not_mem_nil, or_false] at hd
    rcases hd with rfl | rfl
    · exact leaf1 (by simp)
    · exact st_op rfl
  · split at hd
    · rename_i z
      rw [xl] at z
      rcases List.mem_append.mp hd with hd | hd
      · simp only [o6, List.mem_cons, List.not_mem_nil, or_false] at hd
        rcases hd with rfl | rfl | rfl
        · exact leaf1 (by simp; omega)
        · exact st_w (two z) (by omega) (w_empty ha)
        · refine st_w (two z) (by omega) (w_one ha (ns := [as.length]) (by simp) (fun k hk => by simp at hk; omega) fun i => ?_)
          show (btw 0 (((as.map dN).length : Int) - 1) (dN as.length) && _) = false
          rw [List.length_map, ob]; rfl
      · simp only [o7, List.mem_cons, List.not_mem_nil, or_false] at hd
        rcases hd with rfl | rfl
        · exact st_w (two z) (by omega) (w_nt ha rfl)
        · refine st_w (two z) (by omega) (w_one' ha (two z))
    · cases hd
  · simp only [o8, List.mem_cons, List.not_mem_nil, or_false] at hd
    rcases hd with rfl | rfl
    · exact st_op rfl
    · exact st_pl ar rfl
end Q
namespace Q
open PySem Dy
open L2 (atI ixN)
theorem isc_ok {as : List Nat} {d : PyData} {b : Bool} (ha : ArOk as) (h : M_has_hole [.fr (encA as), .fr d] = .ok (.fr (.bool b), [.fr (encA as), .fr d])) : M_is_context [.fr (encA as), .fr d] = .ok (.fr (.bool b), [.fr (encA as), .fr d]) := by
  have n : M_need_arities_2 [.fr (encA as)] = .ok (.fr .none, [.fr (encA as)]) := by
    simp [M_need_arities_2, b_need_arities_2, q_mulAI, q_mulAL, a_wb, q_divW, Function.comp_def, q_starI, q_starIT, a_wp, a_fz, a_fz0, a_fz1, a_ext, a_ins, a_insA, a_pop, a_parN, a_evO0, a_evO1, a_setO0, a_setO1, a_ix2, a_setII, a_zN, a_zC, a_lcO, d_oo, pEq_int, pNe_int, pIxL, pIxT, atI_nat, atI_0, atI_1, atI_2, atI_3, atI_m1, cutLo, cutHi, cutLo1, cutHi1, a_seq, a_ifS, a_B, a_op, a_ov, a_ev0, a_evv, a_evs, a_C, a_V, a_M, a_set, a_setI, a_app, a_ret, a_ex, a_skip, a_no, a_not, a_andT, a_orT, a_and, a_or, a_notV, a_if, a_par, a_call, a_forS, a_sq, a_r1, a_r2, a_en, a_zp, a_asT, a_chI, a_yes, a_lc, a_fn, okA, f_fr, bkA, rsvs, rsv, dvs, on1, on2, d_fr, d_ol, rsO, ndS, sl, putB, asT, setAll, ofO, Dy.ints1, Dy.ints2, nE, wipeE, unw, frO, q_addI, q_addL, q_addT, q_addS, q_sub, q_div, q_mod, q_pow, q_neg, q_cm, pIs, pIsn, q_isN, q_isI, q_isS, q_isT, q_isL, q_isB, q_lenL, q_lenT, pTup, pLst, q_tupL, q_tupT, q_lstL, q_lstT, q_revL, q_slL, q_slT, q_shL, q_shT, q_sqL, q_sqT, q_intI, q_max2, q_min2, q_aII, q_aBI, q_aTI, q_aTT, q_aLL, q_aTL, q_aIT, arities_ok ha]
  generalize encA as = A at *
  simp [M_is_context, b_is_context, q_mulAI, q_mulAL, a_wb, q_divW, Function.comp_def, q_starI, q_starIT, a_wp, a_fz, a_fz0, a_fz1, a_ext, a_ins, a_insA, a_pop, a_parN, a_evO0, a_evO1, a_setO0, a_setO1, a_ix2, a_setII, a_zN, a_zC, a_lcO, d_oo, pEq_int, pNe_int, pIxL, pIxT, atI_nat, atI_0, atI_1, atI_2, atI_3, atI_m1, cutLo, cutHi, cutLo1, cutHi1, a_seq, a_ifS, a_B, a_op, a_ov, a_ev0, a_evv, a_evs, a_C, a_V, a_M, a_set, a_setI, a_app, a_ret, a_ex, a_skip, a_no, a_not, a_andT, a_orT, a_and, a_or, a_notV, a_if, a_par, a_call, a_forS, a_sq, a_r1, a_r2, a_en, a_zp, a_asT, a_chI, a_yes, a_lc, a_fn, okA, f_fr, bkA, rsvs, rsv, dvs, on1, on2, d_fr, d_ol, rsO, ndS, sl, putB, asT, setAll, ofO, Dy.ints1, Dy.ints2, nE, wipeE, unw, frO, q_addI, q_addL, q_addT, q_addS, q_sub, q_div, q_mod, q_pow, q_neg, q_cm, pIs, pIsn, q_isN, q_isI, q_isS, q_isT, q_isL, q_isB, q_lenL, q_lenT, pTup, pLst, q_tupL, q_tupT, q_lstL, q_lstT, q_revL, q_slL, q_slT, q_shL, q_shT, q_sqL, q_sqT, q_intI, q_max2, q_min2, q_aII, q_aBI, q_aTI, q_aTT, q_aLL, q_aTL, q_aIT, n, h]
theorem refused_ok {d : PyData} (h : arD d = false) : M__law_refused [.fr d] = .ok (.fr (.bool true), [.fr d]) := by
  have n := na_no h
  have e : M_is_context [.fr d, .fr (.tuple [])] = .er ⟨"NoArities", []⟩ := by simp [M_is_context, b_is_context, q_mulAI, q_mulAL, a_wb, q_divW, Function.comp_def, q_starI, q_starIT, a_wp, a_fz, a_fz0, a_fz1, a_ext, a_ins, a_insA, a_pop, a_parN, a_evO0, a_evO1, a_setO0, a_setO1, a_ix2, a_setII, a_zN, a_zC, a_lcO, d_oo, pEq_int, pNe_int, pIxL, pIxT, atI_nat, atI_0, atI_1, atI_2, atI_3, atI_m1, cutLo, cutHi, cutLo1, cutHi1, a_seq, a_ifS, a_B, a_op, a_ov, a_ev0, a_evv, a_evs, a_C, a_V, a_M, a_set, a_setI, a_app, a_ret, a_ex, a_skip, a_no, a_not, a_andT, a_orT, a_and, a_or, a_notV, a_if, a_par, a_call, a_forS, a_sq, a_r1, a_r2, a_en, a_zp, a_asT, a_chI, a_yes, a_lc, a_fn, okA, f_fr, bkA, rsvs, rsv, dvs, on1, on2, d_fr, d_ol, rsO, ndS, sl, putB, asT, setAll, ofO, Dy.ints1, Dy.ints2, nE, wipeE, unw, frO, q_addI, q_addL, q_addT, q_addS, q_sub, q_div, q_mod, q_pow, q_neg, q_cm, pIs, pIsn, q_isN, q_isI, q_isS, q_isT, q_isL, q_isB, q_lenL, q_lenT, pTup, pLst, q_tupL, q_tupT, q_lstL, q_lstT, q_revL, q_slL, q_slT, q_shL, q_shT, q_sqL, q_sqT, q_intI, q_max2, q_min2, q_aII, q_aBI, q_aTI, q_aTT, q_aLL, q_aTL, q_aIT, n]
  simp [M__law_refused, b__law_refused, q_mulAI, q_mulAL, a_wb, q_divW, Function.comp_def, q_starI, q_starIT, a_wp, a_fz, a_fz0, a_fz1, a_ext, a_ins, a_insA, a_pop, a_parN, a_evO0, a_evO1, a_setO0, a_setO1, a_ix2, a_setII, a_zN, a_zC, a_lcO, d_oo, pEq_int, pNe_int, pIxL, pIxT, atI_nat, atI_0, atI_1, atI_2, atI_3, atI_m1, cutLo, cutHi, cutLo1, cutHi1, a_seq, a_ifS, a_B, a_op, a_ov, a_ev0, a_evv, a_evs, a_C, a_V, a_M, a_set, a_setI, a_app, a_ret, a_ex, a_skip, a_no, a_not, a_andT, a_orT, a_and, a_or, a_notV, a_if, a_par, a_call, a_forS, a_sq, a_r1, a_r2, a_en, a_zp, a_asT, a_chI, a_yes, a_lc, a_fn, okA, f_fr, bkA, rsvs, rsv, dvs, on1, on2, d_fr, d_ol, rsO, ndS, sl, putB, asT, setAll, ofO, Dy.ints1, Dy.ints2, nE, wipeE, unw, frO, q_addI, q_addL, q_addT, q_addS, q_sub, q_div, q_mod, q_pow, q_neg, q_cm, pIs, pIsn, q_isN, q_isI, q_isS, q_isT, q_isL, q_isB, q_lenL, q_lenT, pTup, pLst, q_tupL, q_tupT, q_lstL, q_lstT, q_revL, q_slL, q_slT, q_shL, q_shT, q_sqL, q_sqT, q_intI, q_max2, q_min2, q_aII, q_aBI, q_aTI, q_aTT, q_aLL, q_aTL, q_aIT, a_try, e]
theorem hole_bad {A b : PyData} {pre post : List PyData} (hl : (pre ++ b :: post).length ≤ 1000) (h1 : ∀ x ∈ pre ++ post, M_is_step [.fr A, .fr x] = .ok (.fr (.bool true), [.fr A, .fr x])) (h2 : M_is_step [.fr A, .fr b] = .ok (.fr (.bool false), [.fr A, .fr b])) :
    M_has_hole [.fr A, .fr (.tuple (pre ++ b :: post))] = .ok (.fr (.bool false), [.fr A, .fr (.tuple (pre ++ b :: post))]) := by
  classical
  have := hole_gen (A := A) (xs := pre ++ b :: post) (fun x => if x = b then false else true) hl (fun x hx => by
    by_cases c : x = b
    · subst c; rw [if_pos rfl]; exact h2
    · rw [if_neg c]
      refine h1 x ?_
      rcases List.mem_append.mp hx with z | z
      · exact List.mem_append_left _ z
      · rcases List.mem_cons.mp z with z | z
        · exact absurd z c
        · exact List.mem_append_right _ z)
  have e : (pre ++ b :: post).all (fun x => if x = b then false else true) = false := by
    rw [List.all_append, List.all_cons, if_pos rfl, Bool.false_and, Bool.and_false]
  rw [e] at this; exact this
abbrev lv40 (sc : PyData) (bd pn tn ar cx td at_ lg : Option O) : Dy.Env := V_law_45 (script := fr sc) (bad := bd) (pen_here := pn) (turn := tn) (arities_here := ar) (context_here := cx) (told := td) (at_ := at_) (leg := lg)
theorem one40 {as : List Nat} {c pre post : List Leg} {s : Leg} {sc d : PyData} {pn : Option O} (ha : ArOk as) (hc : CxOk as c) (ec : c = pre ++ s :: post) (hd : M_is_step [.fr (encA as), .fr d] = .ok (.fr (.bool false), [.fr (encA as), .fr d])) :
    (asT (.nm 1) d (lv40 sc none pn none (fr (encA as)) (fr (encC c)) none (fr (dN pre.length)) (fr (encL s))) >>= L2_law_45) = .ok (.nx, lv40 sc none pn none (fr (encA as)) (fr (encC c)) none (fr (dN pre.length)) (fr (encL s))) := by
  have ea : asT (.nm 1) d (lv40 sc none pn none (fr (encA as)) (fr (encC c)) none (fr (dN pre.length)) (fr (encL s))) = .ok (lv40 sc (fr d) pn none (fr (encA as)) (fr (encC c)) none (fr (dN pre.length)) (fr (encL s))) := rfl
  have cl := hc.len
  have ecx : c.map encL = pre.map encL ++ encL s :: post.map encL := by rw [ec]; simp
  have pl : pre.length + post.length + 1 = c.length := by rw [ec]; simp; omega
  have cu : cutD (c.map encL) none (some (pre.length : Int)) = pre.map encL := by
    rw [show cutD (c.map encL) none (some (pre.length : Int)) = (c.map encL).take pre.length from cutHi _ _, ecx, List.take_left' (by simp)]
  have cu2 : cutD (c.map encL) (some ((pre.length : Int) + 1)) none = post.map encL := by
    have e : ((pre.length : Int) + 1) = ((pre.length + 1 : Nat) : Int) := by omega
    rw [e, show cutD (c.map encL) (some ((pre.length + 1 : Nat) : Int)) none = (c.map encL).drop (pre.length + 1) from cutLo _ _, ecx]
    rw [show pre.map encL ++ encL s :: post.map encL = (pre.map encL ++ [encL s]) ++ post.map encL by simp]
    exact List.drop_left' (by simp)
  have hb := hole_bad (A := encA as) (b := d) (pre := pre.map encL) (post := post.map encL) (by simp; omega) (fun x hx => by
    have : x ∈ (pre ++ post).map encL := by rw [List.map_append]; exact hx
    obtain ⟨l, hl, rfl⟩ := List.mem_map.mp this
    refine step_ok ha (hc.leg l ?_)
    rw [ec]
    rcases List.mem_append.mp hl with z | z
    · exact List.mem_append_left _ z
    · exact List.mem_append_right _ (List.mem_cons_of_mem _ z)) hd
  have ic := isc_ok ha hb
  have z1 : (pre.map encL).length + 1 ≤ 1000000 := by simp; omega
  have z2 : (pre.map encL).length + 1 + (post.map encL).length ≤ 1000000 := by simp; omega
  have z3 : (pre.map encL).length + (1 + (post.map encL).length) ≤ 1000000 := by simp; omega
  have z4 : (pre.map encL).length + ((post.map encL).length + 1) ≤ 1000000 := by simp; omega
  have pb : pIsnB (.bool false) (.bool false) = some (.fr (.bool false)) := rfl
  have e4 : encC c = .tuple (c.map encL) := rfl
  rw [ea, bind_ok, e4]
  clear hb hd ecx
  generalize c.map encL = C at *
  generalize pre.map encL = X at *
  generalize post.map encL = Y at *
  generalize encL s = S at *
  generalize encA as = A at *
  generalize pre.length = n at *
  simp [L2_law_45, q_mulAI, q_mulAL, a_wb, q_divW, Function.comp_def, q_starI, q_starIT, a_wp, a_fz, a_fz0, a_fz1, a_ext, a_ins, a_insA, a_pop, a_parN, a_evO0, a_evO1, a_setO0, a_setO1, a_ix2, a_setII, a_zN, a_zC, a_lcO, d_oo, pEq_int, pNe_int, pIxL, pIxT, atI_nat, atI_0, atI_1, atI_2, atI_3, atI_m1, cutLo, cutHi, cutLo1, cutHi1, a_seq, a_ifS, a_B, a_op, a_ov, a_ev0, a_evv, a_evs, a_C, a_V, a_M, a_set, a_setI, a_app, a_ret, a_ex, a_skip, a_no, a_not, a_andT, a_orT, a_and, a_or, a_notV, a_if, a_par, a_call, a_forS, a_sq, a_r1, a_r2, a_en, a_zp, a_asT, a_chI, a_yes, a_lc, a_fn, okA, f_fr, bkA, rsvs, rsv, dvs, on1, on2, d_fr, d_ol, rsO, ndS, sl, putB, asT, setAll, ofO, Dy.ints1, Dy.ints2, nE, wipeE, unw, frO, q_addI, q_addL, q_addT, q_addS, q_sub, q_div, q_mod, q_pow, q_neg, q_cm, pIs, pIsn, q_isN, q_isI, q_isS, q_isT, q_isL, q_isB, q_lenL, q_lenT, pTup, pLst, q_tupL, q_tupT, q_lstL, q_lstT, q_revL, q_slL, q_slT, q_shL, q_shT, q_sqL, q_sqT, q_intI, q_max2, q_min2, q_aII, q_aBI, q_aTI, q_aTT, q_aLL, q_aTL, q_aIT, cu, cu2, ic, z1, z2, z3, z4, pb]
theorem leg40 {as : List Nat} {c pre post : List Leg} {s : Leg} {sc : PyData} {pn : Option O} (ha : ArOk as) (a0 : 0 ∈ as) (hc : CxOk as c) (ec : c = pre ++ s :: post) :
    (asT (.tu [8, 9]) (.tuple [.int (pre.length : Int), encL s]) (lv40 sc none pn none (fr (encA as)) (fr (encC c)) none none none) >>= L3_law_45) = .ok (.nx, lv40 sc none pn none (fr (encA as)) (fr (encC c)) none none none) := by
  have ea : asT (.tu [8, 9]) (.tuple [.int (pre.length : Int), encL s]) (lv40 sc none pn none (fr (encA as)) (fr (encC c)) none none none) = .ok (lv40 sc none pn none (fr (encA as)) (fr (encC c)) none (fr (dN pre.length)) (fr (encL s))) := rfl
  have hs := hc.leg s (by rw [ec]; simp)
  obtain ⟨j, hi, hj⟩ := ix0 a0
  have l1 := hs.le ha
  have al := ha.len
  have ol := lt_of_get hs.ar
  have ps : pStr (dN s.op) = some (.fr (.str (toString (s.op : Int)))) := by
    show (if (s.op : Int).natAbs < 2 ^ 1900 then some (O.fr (.str (toString (s.op : Int)))) else none) = _
    rw [if_pos (Nat.lt_of_le_of_lt (show (s.op : Int).natAbs ≤ 10 by omega) (by decide +kernel))]
  have pq : pEq (dN s.pl) (.int 1) = some (.fr (.bool (decide ((s.pl : Int) = 1)))) := pEq_int _ _
  have e := odd_g (As := as.map dN) (j := j) (Od := dN s.op) (Pd := dN s.pl) (X := s.sib.map encT) (a := dN (s.sib.length + 1)) hi (by
    show pIx (.tuple (as.map dN)) (.int (s.op : Int)) = _
    have g : (as.map dN)[s.op]? = some (dN (s.sib.length + 1)) := by rw [List.getElem?_map, hs.ar]; rfl
    simp [q_mulAI, q_mulAL, a_wb, q_divW, Function.comp_def, q_starI, q_starIT, a_wp, a_fz, a_fz0, a_fz1, a_ext, a_ins, a_insA, a_pop, a_parN, a_evO0, a_evO1, a_setO0, a_setO1, a_ix2, a_setII, a_zN, a_zC, a_lcO, d_oo, pEq_int, pNe_int, pIxL, pIxT, atI_nat, atI_0, atI_1, atI_2, atI_3, atI_m1, cutLo, cutHi, cutLo1, cutHi1, a_seq, a_ifS, a_B, a_op, a_ov, a_ev0, a_evv, a_evs, a_C, a_V, a_M, a_set, a_setI, a_app, a_ret, a_ex, a_skip, a_no, a_not, a_andT, a_orT, a_and, a_or, a_notV, a_if, a_par, a_call, a_forS, a_sq, a_r1, a_r2, a_en, a_zp, a_asT, a_chI, a_yes, a_lc, a_fn, okA, f_fr, bkA, rsvs, rsv, dvs, on1, on2, d_fr, d_ol, rsO, ndS, sl, putB, asT, setAll, ofO, Dy.ints1, Dy.ints2, nE, wipeE, unw, frO, q_addI, q_addL, q_addT, q_addS, q_sub, q_div, q_mod, q_pow, q_neg, q_cm, pIs, pIsn, q_isN, q_isI, q_isS, q_isT, q_isL, q_isB, q_lenL, q_lenT, pTup, pLst, q_tupL, q_tupT, q_lstL, q_lstT, q_revL, q_slL, q_slT, q_shL, q_shT, q_sqL, q_sqT, q_intI, q_max2, q_min2, q_aII, q_aBI, q_aTI, q_aTT, q_aLL, q_aTL, q_aIT, g]) ps (show pBoo (dN s.op) = some (.fr (.bool ((s.op : Int) != 0))) from rfl) pq (by simp; omega)
  rw [List.length_map] at e
  have oddN : ∀ d ∈ oddL as.length j (dN (s.sib.length + 1)) (dN s.op) (dN s.pl) (s.sib.map encT) (toString (s.op : Int)) ((s.op : Int) != 0) (decide ((s.pl : Int) = 1)), M_is_step [.fr (encA as), .fr d] = .ok (.fr (.bool false), [.fr (encA as), .fr d]) := fun d hd => odd_no ha hs hj hd
  generalize oddL as.length j (dN (s.sib.length + 1)) (dN s.op) (dN s.pl) (s.sib.map encT) (toString (s.op : Int)) ((s.op : Int) != 0) (decide ((s.pl : Int) = 1)) = OL at *
  obtain ⟨_, _, e2⟩ := for_l (t := .nm 1) (body := L2_law_45) (fun x : PyData => x) (fun _ : Unit => lv40 sc none pn none (fr (encA as)) (fr (encC c)) none (fr (dN pre.length)) (fr (encL s))) (fun _ _ => True) OL (s := ()) trivial (fun pre' x post' _ e' _ => ⟨(), trivial, one40 ha hc ec (oddN x (by rw [e']; simp))⟩)
  rw [List.map_id'] at e2
  have l : fSq (.v (fCall M__law_odd_ones [.v (fV 5), .v (fV 9)])) (lv40 sc none pn none (fr (encA as)) (fr (encC c)) none (fr (dN pre.length)) (fr (encL s))) = .ok (OL, lv40 sc none pn none (fr (encA as)) (fr (encC c)) none (fr (dN pre.length)) (fr (encL s))) := by
    have eA : encA as = .tuple (as.map dN) := rfl
    rw [eA]
    have eL : encL s = .tuple [dN s.op, dN s.pl, .tuple (s.sib.map encT)] := rfl
    rw [← eL] at e
    clear e2
    generalize as.map dN = A at *
    generalize encC c = C at *
    generalize encL s = S at *
    simp [q_mulAI, q_mulAL, a_wb, q_divW, Function.comp_def, q_starI, q_starIT, a_wp, a_fz, a_fz0, a_fz1, a_ext, a_ins, a_insA, a_pop, a_parN, a_evO0, a_evO1, a_setO0, a_setO1, a_ix2, a_setII, a_zN, a_zC, a_lcO, d_oo, pEq_int, pNe_int, pIxL, pIxT, atI_nat, atI_0, atI_1, atI_2, atI_3, atI_m1, cutLo, cutHi, cutLo1, cutHi1, a_seq, a_ifS, a_B, a_op, a_ov, a_ev0, a_evv, a_evs, a_C, a_V, a_M, a_set, a_setI, a_app, a_ret, a_ex, a_skip, a_no, a_not, a_andT, a_orT, a_and, a_or, a_notV, a_if, a_par, a_call, a_forS, a_sq, a_r1, a_r2, a_en, a_zp, a_asT, a_chI, a_yes, a_lc, a_fn, okA, f_fr, bkA, rsvs, rsv, dvs, on1, on2, d_fr, d_ol, rsO, ndS, sl, putB, asT, setAll, ofO, Dy.ints1, Dy.ints2, nE, wipeE, unw, frO, q_addI, q_addL, q_addT, q_addS, q_sub, q_div, q_mod, q_pow, q_neg, q_cm, pIs, pIsn, q_isN, q_isI, q_isS, q_isT, q_isL, q_isB, q_lenL, q_lenT, pTup, pLst, q_tupL, q_tupT, q_lstL, q_lstT, q_revL, q_slL, q_slT, q_shL, q_shT, q_sqL, q_sqT, q_intI, q_max2, q_min2, q_aII, q_aBI, q_aTI, q_aTT, q_aLL, q_aTL, q_aIT, e]
  rw [ea, bind_ok]
  unfold L3_law_45
  refine (wp_ok (e' := lv40 sc none pn none (fr (encA as)) (fr (encC c)) none (fr (dN pre.length)) (fr (encL s))) (f := .nx) ?_).trans rfl
  rw [a_forS, l, bind_ok]
  exact e2
theorem rp6 : pRepr (.list [.bool true, .bool true, .bool true, .bool false, .bool false, .bool false]) = some (.fr (.str (PyData.shown (.list [.bool true, .bool true, .bool true, .bool false, .bool false, .bool false])))) := by kernel_rfl
theorem lap40 {sc : PyData} {o : O} {n j : Nat} (hp : PenB n o) (hn : n < 700000000) : ∃ o', PenB (n + 1000) o' ∧ (asT (.nm 4) (.int (j : Int)) (lv40 sc none (some o) none none none none none none) >>= L4_law_45) = .ok (.nx, lv40 sc none (some o') none none none none none none) := by
  have ea : asT (.nm 4) (.int (j : Int)) (lv40 sc none (some o) none none none none none none) = .ok (lv40 sc none (some o) (fr (dN j)) none none none none none) := rfl
  obtain ⟨as, o1, ha, a0, p1, s0⟩ : ∃ (as : List Nat) (o1 : O), ArOk as ∧ 0 ∈ as ∧ PenB (n + 10) o1 ∧ (fSet 5 (fIf (fB (fOp (on2 (cmI (fun i j => decide (j < i)))) [.s 4, .v (fC (.int 0))])) (fCall M__law_arities [.s 3]) (fOv pTup [.v (fC (.int 2)), .v (fC (.int 0)), .v (fC (.int 1))]))) (lv40 sc none (some o) (fr (dN j)) none none none none none) = .ok (.nx, lv40 sc none (some o1) (fr (dN j)) (fr (encA as)) none none none none) := by
    by_cases c : (0 : Int) < (j : Int)
    · obtain ⟨as, o1, ha, a0, _, p1, e1⟩ := aritiesB hp (by omega)
      refine ⟨as, o1, ha, a0, p1, ?_⟩
      have c' : 0 < j := by omega
      generalize encA as = A at *
      simp [q_mulAI, q_mulAL, a_wb, q_divW, Function.comp_def, q_starI, q_starIT, a_wp, a_fz, a_fz0, a_fz1, a_ext, a_ins, a_insA, a_pop, a_parN, a_evO0, a_evO1, a_setO0, a_setO1, a_ix2, a_setII, a_zN, a_zC, a_lcO, d_oo, pEq_int, pNe_int, pIxL, pIxT, atI_nat, atI_0, atI_1, atI_2, atI_3, atI_m1, cutLo, cutHi, cutLo1, cutHi1, a_seq, a_ifS, a_B, a_op, a_ov, a_ev0, a_evv, a_evs, a_C, a_V, a_M, a_set, a_setI, a_app, a_ret, a_ex, a_skip, a_no, a_not, a_andT, a_orT, a_and, a_or, a_notV, a_if, a_par, a_call, a_forS, a_sq, a_r1, a_r2, a_en, a_zp, a_asT, a_chI, a_yes, a_lc, a_fn, okA, f_fr, bkA, rsvs, rsv, dvs, on1, on2, d_fr, d_ol, rsO, ndS, sl, putB, asT, setAll, ofO, Dy.ints1, Dy.ints2, nE, wipeE, unw, frO, q_addI, q_addL, q_addT, q_addS, q_sub, q_div, q_mod, q_pow, q_neg, q_cm, pIs, pIsn, q_isN, q_isI, q_isS, q_isT, q_isL, q_isB, q_lenL, q_lenT, pTup, pLst, q_tupL, q_tupT, q_lstL, q_lstT, q_revL, q_slL, q_slT, q_shL, q_shT, q_sqL, q_sqT, q_intI, q_max2, q_min2, q_aII, q_aBI, q_aTI, q_aTT, q_aLL, q_aTL, q_aIT, c', e1]
    · have c' : ¬ 0 < j := by omega
      refine ⟨[2, 0, 1], o, ⟨by decide, by decide, by decide⟩, by simp, hp.mono (by omega), ?_⟩
      simp [q_mulAI, q_mulAL, a_wb, q_divW, Function.comp_def, q_starI, q_starIT, a_wp, a_fz, a_fz0, a_fz1, a_ext, a_ins, a_insA, a_pop, a_parN, a_evO0, a_evO1, a_setO0, a_setO1, a_ix2, a_setII, a_zN, a_zC, a_lcO, d_oo, pEq_int, pNe_int, pIxL, pIxT, atI_nat, atI_0, atI_1, atI_2, atI_3, atI_m1, cutLo, cutHi, cutLo1, cutHi1, a_seq, a_ifS, a_B, a_op, a_ov, a_ev0, a_evv, a_evs, a_C, a_V, a_M, a_set, a_setI, a_app, a_ret, a_ex, a_skip, a_no, a_not, a_andT, a_orT, a_and, a_or, a_notV, a_if, a_par, a_call, a_forS, a_sq, a_r1, a_r2, a_en, a_zp, a_asT, a_chI, a_yes, a_lc, a_fn, okA, f_fr, bkA, rsvs, rsv, dvs, on1, on2, d_fr, d_ol, rsO, ndS, sl, putB, asT, setAll, ofO, Dy.ints1, Dy.ints2, nE, wipeE, unw, frO, q_addI, q_addL, q_addT, q_addS, q_sub, q_div, q_mod, q_pow, q_neg, q_cm, pIs, pIsn, q_isN, q_isI, q_isS, q_isT, q_isL, q_isB, q_lenL, q_lenT, pTup, pLst, q_tupL, q_tupT, q_lstL, q_lstT, q_revL, q_slL, q_slT, q_shL, q_shT, q_sqL, q_sqT, q_intI, q_max2, q_min2, q_aII, q_aBI, q_aTI, q_aTT, q_aLL, q_aTL, q_aIT, c']
  obtain ⟨c, o2, hc, _, _, p2, e2⟩ := contextB (mi := 4) 4 p1 (by omega) ha a0 (by decide) rfl
  refine ⟨o2, p2.mono (by omega), ?_⟩
  have cl := hc.len
  have h1 := isc_ok ha (hole_ok ha hc)
  have h2 := isc_ok ha (hole_ok ha (c := c.take 1) ⟨fun s hs => hc.leg s (List.mem_of_mem_take hs), by simp; omega⟩)
  have h3 := isc_ok ha (hole_ok ha (cx0 as))
  have h4 := isc_ok ha (hole_nt (A := encA as) (d := .list (c.map encL)) rfl)
  have h5 := isc_ok ha (hole_nt (A := encA as) (d := .none) rfl)
  have h6 := isc_ok ha (hole_nt (A := encA as) (d := .str "()") rfl)
  have e4 : encC c = .tuple (c.map encL) := rfl
  have e5 : encC (c.take 1) = .tuple ((c.map encL).take 1) := by rw [← List.map_take]
  have e6 : encC [] = .tuple [] := rfl
  have cu : cutD (c.map encL) none (some 1) = (c.map encL).take 1 := cutHi _ 1
  rw [e4] at h1 e2
  rw [e5] at h2
  rw [e6] at h3
  have s1 : (fSet 6 (fCall M__law_context [.s 3, .v (fV 5), .v (fC (.int 4))])) (lv40 sc none (some o1) (fr (dN j)) (fr (encA as)) none none none none) = .ok (.nx, lv40 sc none (some o2) (fr (dN j)) (fr (encA as)) (fr (.tuple (c.map encL))) none none none) := by
    generalize encA as = A at *
    generalize c.map encL = C at *
    simp [q_mulAI, q_mulAL, a_wb, q_divW, Function.comp_def, q_starI, q_starIT, a_wp, a_fz, a_fz0, a_fz1, a_ext, a_ins, a_insA, a_pop, a_parN, a_evO0, a_evO1, a_setO0, a_setO1, a_ix2, a_setII, a_zN, a_zC, a_lcO, d_oo, pEq_int, pNe_int, pIxL, pIxT, atI_nat, atI_0, atI_1, atI_2, atI_3, atI_m1, cutLo, cutHi, cutLo1, cutHi1, a_seq, a_ifS, a_B, a_op, a_ov, a_ev0, a_evv, a_evs, a_C, a_V, a_M, a_set, a_setI, a_app, a_ret, a_ex, a_skip, a_no, a_not, a_andT, a_orT, a_and, a_or, a_notV, a_if, a_par, a_call, a_forS, a_sq, a_r1, a_r2, a_en, a_zp, a_asT, a_chI, a_yes, a_lc, a_fn, okA, f_fr, bkA, rsvs, rsv, dvs, on1, on2, d_fr, d_ol, rsO, ndS, sl, putB, asT, setAll, ofO, Dy.ints1, Dy.ints2, nE, wipeE, unw, frO, q_addI, q_addL, q_addT, q_addS, q_sub, q_div, q_mod, q_pow, q_neg, q_cm, pIs, pIsn, q_isN, q_isI, q_isS, q_isT, q_isL, q_isB, q_lenL, q_lenT, pTup, pLst, q_tupL, q_tupT, q_lstL, q_lstT, q_revL, q_slL, q_slT, q_shL, q_shT, q_sqL, q_sqT, q_intI, q_max2, q_min2, q_aII, q_aBI, q_aTI, q_aTT, q_aLL, q_aTL, q_aIT, e2]
  have s2 : (fFz [7] (fSet 7 (fOv pLst [.v (fCall M_is_context [.v (fV 5), .v (fV 6)]), .v (fCall M_is_context [.v (fV 5), .v (fOp (on2 pSl2h) [.s 6, .v (fC (.int 1))])]), .v (fCall M_is_context [.v (fV 5), .v (fOv pTup [])])]))) (lv40 sc none (some o2) (fr (dN j)) (fr (encA as)) (fr (.tuple (c.map encL))) none none none) = .ok (.nx, lv40 sc none (some o2) (fr (dN j)) (fr (encA as)) (fr (.tuple (c.map encL))) (fr (.list [.bool true, .bool true, .bool true])) none none) := by
    clear s0 s1
    generalize encA as = A at *
    generalize c.map encL = C at *
    simp [q_mulAI, q_mulAL, a_wb, q_divW, Function.comp_def, q_starI, q_starIT, a_wp, a_fz, a_fz0, a_fz1, a_ext, a_ins, a_insA, a_pop, a_parN, a_evO0, a_evO1, a_setO0, a_setO1, a_ix2, a_setII, a_zN, a_zC, a_lcO, d_oo, pEq_int, pNe_int, pIxL, pIxT, atI_nat, atI_0, atI_1, atI_2, atI_3, atI_m1, cutLo, cutHi, cutLo1, cutHi1, a_seq, a_ifS, a_B, a_op, a_ov, a_ev0, a_evv, a_evs, a_C, a_V, a_M, a_set, a_setI, a_app, a_ret, a_ex, a_skip, a_no, a_not, a_andT, a_orT, a_and, a_or, a_notV, a_if, a_par, a_call, a_forS, a_sq, a_r1, a_r2, a_en, a_zp, a_asT, a_chI, a_yes, a_lc, a_fn, okA, f_fr, bkA, rsvs, rsv, dvs, on1, on2, d_fr, d_ol, rsO, ndS, sl, putB, asT, setAll, ofO, Dy.ints1, Dy.ints2, nE, wipeE, unw, frO, q_addI, q_addL, q_addT, q_addS, q_sub, q_div, q_mod, q_pow, q_neg, q_cm, pIs, pIsn, q_isN, q_isI, q_isS, q_isT, q_isL, q_isB, q_lenL, q_lenT, pTup, pLst, q_tupL, q_tupT, q_lstL, q_lstT, q_revL, q_slL, q_slT, q_shL, q_shT, q_sqL, q_sqT, q_intI, q_max2, q_min2, q_aII, q_aBI, q_aTI, q_aTT, q_aLL, q_aTL, q_aIT, h1, h2, h3, cu]
  have s3 : (fFz [7] (fSet 7 (fOp (on2 pAdd) [.s 7, .v (fOv pLst [.v (fCall M_is_context [.v (fV 5), .v (fOp (on1 pList) [.s 6])]), .v (fCall M_is_context [.v (fV 5), .v (fC .none)]), .v (fCall M_is_context [.v (fV 5), .v (fC (.str "()"))])])]))) (lv40 sc none (some o2) (fr (dN j)) (fr (encA as)) (fr (.tuple (c.map encL))) (fr (.list [.bool true, .bool true, .bool true])) none none) = .ok (.nx, lv40 sc none (some o2) (fr (dN j)) (fr (encA as)) (fr (.tuple (c.map encL))) (fr (.list [.bool true, .bool true, .bool true, .bool false, .bool false, .bool false])) none none) := by
    clear s0 s1 s2
    generalize encA as = A at *
    generalize c.map encL = C at *
    simp [q_mulAI, q_mulAL, a_wb, q_divW, Function.comp_def, q_starI, q_starIT, a_wp, a_fz, a_fz0, a_fz1, a_ext, a_ins, a_insA, a_pop, a_parN, a_evO0, a_evO1, a_setO0, a_setO1, a_ix2, a_setII, a_zN, a_zC, a_lcO, d_oo, pEq_int, pNe_int, pIxL, pIxT, atI_nat, atI_0, atI_1, atI_2, atI_3, atI_m1, cutLo, cutHi, cutLo1, cutHi1, a_seq, a_ifS, a_B, a_op, a_ov, a_ev0, a_evv, a_evs, a_C, a_V, a_M, a_set, a_setI, a_app, a_ret, a_ex, a_skip, a_no, a_not, a_andT, a_orT, a_and, a_or, a_notV, a_if, a_par, a_call, a_forS, a_sq, a_r1, a_r2, a_en, a_zp, a_asT, a_chI, a_yes, a_lc, a_fn, okA, f_fr, bkA, rsvs, rsv, dvs, on1, on2, d_fr, d_ol, rsO, ndS, sl, putB, asT, setAll, ofO, Dy.ints1, Dy.ints2, nE, wipeE, unw, frO, q_addI, q_addL, q_addT, q_addS, q_sub, q_div, q_mod, q_pow, q_neg, q_cm, pIs, pIsn, q_isN, q_isI, q_isS, q_isT, q_isL, q_isB, q_lenL, q_lenT, pTup, pLst, q_tupL, q_tupT, q_lstL, q_lstT, q_revL, q_slL, q_slT, q_shL, q_shT, q_sqL, q_sqT, q_intI, q_max2, q_min2, q_aII, q_aBI, q_aTI, q_aTT, q_aLL, q_aTL, q_aIT, h4, h5, h6, pList, seqOf]
  have s4 : (fWp [4, 7] (fIfS (fB (fOp (on2 pNe) [.v (fOp (on1 pRepr) [.s 7]), .v (fOp (on1 pRepr) [.v (fOv pLst [.v (fC (.bool true)), .v (fC (.bool true)), .v (fC (.bool true)), .v (fC (.bool false)), .v (fC (.bool false)), .v (fC (.bool false))])])])) (fRet (fC (.bool false))) (fSkip))) (lv40 sc none (some o2) (fr (dN j)) (fr (encA as)) (fr (.tuple (c.map encL))) (fr (.list [.bool true, .bool true, .bool true, .bool false, .bool false, .bool false])) none none) = .ok (.nx, lv40 sc none (some o2) none (fr (encA as)) (fr (.tuple (c.map encL))) none none none) := by
    clear s0 s1 s2 s3
    have rp := rp6
    generalize encA as = A at *
    generalize c.map encL = C at *
    generalize (PyData.shown (.list [.bool true, .bool true, .bool true, .bool false, .bool false, .bool false])) = W at *
    simp [q_mulAI, q_mulAL, a_wb, q_divW, Function.comp_def, q_starI, q_starIT, a_wp, a_fz, a_fz0, a_fz1, a_ext, a_ins, a_insA, a_pop, a_parN, a_evO0, a_evO1, a_setO0, a_setO1, a_ix2, a_setII, a_zN, a_zC, a_lcO, d_oo, pEq_int, pNe_int, pIxL, pIxT, atI_nat, atI_0, atI_1, atI_2, atI_3, atI_m1, cutLo, cutHi, cutLo1, cutHi1, a_seq, a_ifS, a_B, a_op, a_ov, a_ev0, a_evv, a_evs, a_C, a_V, a_M, a_set, a_setI, a_app, a_ret, a_ex, a_skip, a_no, a_not, a_andT, a_orT, a_and, a_or, a_notV, a_if, a_par, a_call, a_forS, a_sq, a_r1, a_r2, a_en, a_zp, a_asT, a_chI, a_yes, a_lc, a_fn, okA, f_fr, bkA, rsvs, rsv, dvs, on1, on2, d_fr, d_ol, rsO, ndS, sl, putB, asT, setAll, ofO, Dy.ints1, Dy.ints2, nE, wipeE, unw, frO, q_addI, q_addL, q_addT, q_addS, q_sub, q_div, q_mod, q_pow, q_neg, q_cm, pIs, pIsn, q_isN, q_isI, q_isS, q_isT, q_isL, q_isB, q_lenL, q_lenT, pTup, pLst, q_tupL, q_tupT, q_lstL, q_lstT, q_revL, q_slL, q_slT, q_shL, q_shT, q_sqL, q_sqT, q_intI, q_max2, q_min2, q_aII, q_aBI, q_aTI, q_aTT, q_aLL, q_aTL, q_aIT, rp, pNe_str]
  obtain ⟨_, _, e7⟩ := for_l (t := .tu [8, 9]) (body := L3_law_45) (fun q : Nat × Leg => PyData.tuple [.int (q.1 : Int), encL q.2]) (fun _ : Unit => lv40 sc none (some o2) none (fr (encA as)) (fr (encC c)) none none none) (fun _ _ => True) (ens c) (s := ()) trivial (fun pre q post _ e _ => ⟨(), trivial, by
    have hq := ens_mem (show q ∈ ens c by rw [e]; simp)
    obtain ⟨hlt, hget⟩ := List.getElem?_eq_some_iff.mp hq
    have ec : c = c.take q.1 ++ q.2 :: c.drop (q.1 + 1) := (List.take_append_drop q.1 c).symm.trans (by rw [List.drop_eq_getElem_cons hlt, hget])
    have el : (c.take q.1).length = q.1 := by rw [List.length_take]; omega
    have := leg40 (sc := sc) (pn := some o2) ha a0 hc ec
    rw [el] at this
    exact this⟩)
  have s5 : (fWp [1, 5, 6, 8, 9] (fForS (fEn (.v (fV 6))) (.tu [8, 9]) (L3_law_45))) (lv40 sc none (some o2) none (fr (encA as)) (fr (.tuple (c.map encL))) none none none) = .ok (.nx, lv40 sc none (some o2) none none none none none none) := by
    refine (wp_ok (e' := lv40 sc none (some o2) none (fr (encA as)) (fr (encC c)) none none none) (f := .nx) ?_).trans rfl
    have l : fEn (.v (fV 6)) (lv40 sc none (some o2) none (fr (encA as)) (fr (.tuple (c.map encL))) none none none) = .ok ((ens c).map (fun q : Nat × Leg => PyData.tuple [.int (q.1 : Int), encL q.2]), lv40 sc none (some o2) none (fr (encA as)) (fr (encC c)) none none none) := by
      rw [← enumD_ens, e4]
      generalize encA as = A at *
      generalize c.map encL = C at *
      simp [q_mulAI, q_mulAL, a_wb, q_divW, Function.comp_def, q_starI, q_starIT, a_wp, a_fz, a_fz0, a_fz1, a_ext, a_ins, a_insA, a_pop, a_parN, a_evO0, a_evO1, a_setO0, a_setO1, a_ix2, a_setII, a_zN, a_zC, a_lcO, d_oo, pEq_int, pNe_int, pIxL, pIxT, atI_nat, atI_0, atI_1, atI_2, atI_3, atI_m1, cutLo, cutHi, cutLo1, cutHi1, a_seq, a_ifS, a_B, a_op, a_ov, a_ev0, a_evv, a_evs, a_C, a_V, a_M, a_set, a_setI, a_app, a_ret, a_ex, a_skip, a_no, a_not, a_andT, a_orT, a_and, a_or, a_notV, a_if, a_par, a_call, a_forS, a_sq, a_r1, a_r2, a_en, a_zp, a_asT, a_chI, a_yes, a_lc, a_fn, okA, f_fr, bkA, rsvs, rsv, dvs, on1, on2, d_fr, d_ol, rsO, ndS, sl, putB, asT, setAll, ofO, Dy.ints1, Dy.ints2, nE, wipeE, unw, frO, q_addI, q_addL, q_addT, q_addS, q_sub, q_div, q_mod, q_pow, q_neg, q_cm, pIs, pIsn, q_isN, q_isI, q_isS, q_isT, q_isL, q_isB, q_lenL, q_lenT, pTup, pLst, q_tupL, q_tupT, q_lstL, q_lstT, q_revL, q_slL, q_slT, q_shL, q_shT, q_sqL, q_sqT, q_intI, q_max2, q_min2, q_aII, q_aBI, q_aTI, q_aTT, q_aLL, q_aTL, q_aIT]
    rw [a_forS, l, bind_ok]
    exact e7
  rw [ea, bind_ok]
  unfold L4_law_45
  exact (seq_nx s0).trans ((seq_nx s1).trans ((seq_nx s2).trans ((seq_nx s3).trans ((seq_nx s4).trans s5))))
theorem cell40 {ns : List Int} (k : Nat) : (asT (.nm 2) (.int (k : Int)) (V_law_45 (script := fr (.list (ns.map PyData.int)))) >>= L5_law_45) = .ok (.nx, V_law_45 (script := fr (.list (ns.map PyData.int)))) := by
  obtain ⟨z, ez⟩ := cellB_ok (ns := ns) (k := k)
  generalize PyData.list (ns.map PyData.int) = sc at *
  obtain ⟨o, hp, eo⟩ := penB_ok z
  obtain ⟨o', p', e⟩ := for_r (t := .nm 4) (body := L4_law_45) (fun o : O => lv40 sc none (some o) none none none none none none) (fun j o => PenB (1000 * j) o) 4 (s := o) hp (fun j o hj hp => by
    obtain ⟨o', p', e'⟩ := lap40 (sc := sc) (j := j) hp (by omega)
    exact ⟨o', p'.mono (by omega), e'⟩)
  have ea : asT (.nm 2) (.int (k : Int)) (V_law_45 (script := fr sc)) = .ok (V_law_45 (script := fr sc) (k := fr (dN k))) := rfl
  rw [ea, bind_ok]
  have s0 : (fWp [2] (fSet 3 (fCall M__law_pen [.v (fCall M__law_cell_at [.v (fV 0), .v (fV 2)])]))) (V_law_45 (script := fr sc) (k := fr (dN k))) = .ok (.nx, lv40 sc none (some o) none none none none none none) := by
    simp [q_mulAI, q_mulAL, a_wb, q_divW, Function.comp_def, q_starI, q_starIT, a_wp, a_fz, a_fz0, a_fz1, a_ext, a_ins, a_insA, a_pop, a_parN, a_evO0, a_evO1, a_setO0, a_setO1, a_ix2, a_setII, a_zN, a_zC, a_lcO, d_oo, pEq_int, pNe_int, pIxL, pIxT, atI_nat, atI_0, atI_1, atI_2, atI_3, atI_m1, cutLo, cutHi, cutLo1, cutHi1, a_seq, a_ifS, a_B, a_op, a_ov, a_ev0, a_evv, a_evs, a_C, a_V, a_M, a_set, a_setI, a_app, a_ret, a_ex, a_skip, a_no, a_not, a_andT, a_orT, a_and, a_or, a_notV, a_if, a_par, a_call, a_forS, a_sq, a_r1, a_r2, a_en, a_zp, a_asT, a_chI, a_yes, a_lc, a_fn, okA, f_fr, bkA, rsvs, rsv, dvs, on1, on2, d_fr, d_ol, rsO, ndS, sl, putB, asT, setAll, ofO, Dy.ints1, Dy.ints2, nE, wipeE, unw, frO, q_addI, q_addL, q_addT, q_addS, q_sub, q_div, q_mod, q_pow, q_neg, q_cm, pIs, pIsn, q_isN, q_isI, q_isS, q_isT, q_isL, q_isB, q_lenL, q_lenT, pTup, pLst, q_tupL, q_tupT, q_lstL, q_lstT, q_revL, q_slL, q_slT, q_shL, q_shT, q_sqL, q_sqT, q_intI, q_max2, q_min2, q_aII, q_aBI, q_aTI, q_aTT, q_aLL, q_aTL, q_aIT, ez, eo]
  have s1 : (fWp [1, 3, 4, 5, 6, 7, 8, 9] (fForS (fR1 (.v (fC (.int 4)))) (.nm 4) (L4_law_45))) (lv40 sc none (some o) none none none none none none) = .ok (.nx, V_law_45 (script := fr sc)) := by
    refine (wp_ok (e' := lv40 sc none (some o') none none none none none none) (f := .nx) ?_).trans rfl
    generalize L4_law_45 = L at *
    simp [q_mulAI, q_mulAL, a_wb, q_divW, Function.comp_def, q_starI, q_starIT, a_wp, a_fz, a_fz0, a_fz1, a_ext, a_ins, a_insA, a_pop, a_parN, a_evO0, a_evO1, a_setO0, a_setO1, a_ix2, a_setII, a_zN, a_zC, a_lcO, d_oo, pEq_int, pNe_int, pIxL, pIxT, atI_nat, atI_0, atI_1, atI_2, atI_3, atI_m1, cutLo, cutHi, cutLo1, cutHi1, a_seq, a_ifS, a_B, a_op, a_ov, a_ev0, a_evv, a_evs, a_C, a_V, a_M, a_set, a_setI, a_app, a_ret, a_ex, a_skip, a_no, a_not, a_andT, a_orT, a_and, a_or, a_notV, a_if, a_par, a_call, a_forS, a_sq, a_r1, a_r2, a_en, a_zp, a_asT, a_chI, a_yes, a_lc, a_fn, okA, f_fr, bkA, rsvs, rsv, dvs, on1, on2, d_fr, d_ol, rsO, ndS, sl, putB, asT, setAll, ofO, Dy.ints1, Dy.ints2, nE, wipeE, unw, frO, q_addI, q_addL, q_addT, q_addS, q_sub, q_div, q_mod, q_pow, q_neg, q_cm, pIs, pIsn, q_isN, q_isI, q_isS, q_isT, q_isL, q_isB, q_lenL, q_lenT, pTup, pLst, q_tupL, q_tupT, q_lstL, q_lstT, q_revL, q_slL, q_slT, q_shL, q_shT, q_sqL, q_sqT, q_intI, q_max2, q_min2, q_aII, q_aBI, q_aTI, q_aTT, q_aLL, q_aTL, q_aIT, e]
  unfold L5_law_45
  exact (seq_nx s0).trans s1
abbrev bads40 : List PyData := [.none, .tuple [], .list [.int 0], .tuple [.int 0, .int 3], .tuple [.int (-1)], .tuple [.bool true], .tuple [.int 0, .none], .tuple [.int 0, .int 0, .int 0, .int 0, .int 0, .int 0, .int 0], .int 2, .str "0", .tuple [.tuple [.int 0]]]
theorem bads40_no : (bads40.all fun d => !arD d) = true := by decide +kernel
theorem law_true_40 (ns : List Int) (hl : ns.length ≤ 63) : ∃ os, M_law_45 [.fr (.list (ns.map PyData.int))] = .ok (.fr (.bool true), os) := by
  obtain ⟨_, _, e⟩ := for_r (t := .nm 2) (body := L5_law_45) (fun _ : Unit => V_law_45 (script := fr (.list (ns.map PyData.int)))) (fun _ _ => True) (max 1 (min (ns.length : Int) 3)).toNat (s := ()) trivial (fun k s hk _ => ⟨(), trivial, cell40 k⟩)
  have c : max 1 (min (ns.length : Int) 3) ≤ 1000000000 ∧ -1000000000 ≤ max 1 (min (ns.length : Int) 3) := ⟨by omega, by omega⟩
  obtain ⟨_, _, e1⟩ := for_l (t := .nm 1) (body := L1_law_45) (fun x : PyData => x) (fun _ : Unit => V_law_45 (script := fr (.list (ns.map PyData.int)))) (fun _ _ => True) bads40 (s := ()) trivial (fun pre x post _ e _ => ⟨(), trivial, by
    have hx : arD x = false := by simpa using List.all_eq_true.mp bads40_no x (by rw [e]; simp)
    have r := refused_ok hx
    generalize PyData.list (ns.map PyData.int) = sc at *
    simp [L1_law_45, q_mulAI, q_mulAL, a_wb, q_divW, Function.comp_def, q_starI, q_starIT, a_wp, a_fz, a_fz0, a_fz1, a_ext, a_ins, a_insA, a_pop, a_parN, a_evO0, a_evO1, a_setO0, a_setO1, a_ix2, a_setII, a_zN, a_zC, a_lcO, d_oo, pEq_int, pNe_int, pIxL, pIxT, atI_nat, atI_0, atI_1, atI_2, atI_3, atI_m1, cutLo, cutHi, cutLo1, cutHi1, a_seq, a_ifS, a_B, a_op, a_ov, a_ev0, a_evv, a_evs, a_C, a_V, a_M, a_set, a_setI, a_app, a_ret, a_ex, a_skip, a_no, a_not, a_andT, a_orT, a_and, a_or, a_notV, a_if, a_par, a_call, a_forS, a_sq, a_r1, a_r2, a_en, a_zp, a_asT, a_chI, a_yes, a_lc, a_fn, okA, f_fr, bkA, rsvs, rsv, dvs, on1, on2, d_fr, d_ol, rsO, ndS, sl, putB, asT, setAll, ofO, Dy.ints1, Dy.ints2, nE, wipeE, unw, frO, q_addI, q_addL, q_addT, q_addS, q_sub, q_div, q_mod, q_pow, q_neg, q_cm, pIs, pIsn, q_isN, q_isI, q_isS, q_isT, q_isL, q_isB, q_lenL, q_lenT, pTup, pLst, q_tupL, q_tupT, q_lstL, q_lstT, q_revL, q_slL, q_slT, q_shL, q_shT, q_sqL, q_sqT, q_intI, q_max2, q_min2, q_aII, q_aBI, q_aTI, q_aTT, q_aLL, q_aTL, q_aIT, r]⟩)
  rw [List.map_id'] at e1
  refine ⟨[.fr (.list (ns.map PyData.int))], ?_⟩
  have s0 : (fWp [1] (fForS (fSq (.v (fOv pLst [.v (fC .none), .v (fOv pTup []), .v (fOv pLst [.v (fC (.int 0))]), .v (fOv pTup [.v (fC (.int 0)), .v (fC (.int 3))]), .v (fOv pTup [.v (fOp (on1 pNeg) [.v (fC (.int 1))])]), .v (fOv pTup [.v (fC (.bool true))]), .v (fOv pTup [.v (fC (.int 0)), .v (fC .none)]), .v (fOp (on2 pMulA) [.v (fOv pTup [.v (fC (.int 0))]), .v (fC (.int 7))]), .v (fC (.int 2)), .v (fC (.str "0")), .v (fOv pTup [.v (fOv pTup [.v (fC (.int 0))])])]))) (.nm 1) (L1_law_45))) (V_law_45 (script := fr (.list (ns.map PyData.int)))) = .ok (.nx, V_law_45 (script := fr (.list (ns.map PyData.int)))) := by
    refine (wp_ok (e' := V_law_45 (script := fr (.list (ns.map PyData.int)))) (f := .nx) ?_).trans rfl
    have l : fSq (.v (fOv pLst [.v (fC .none), .v (fOv pTup []), .v (fOv pLst [.v (fC (.int 0))]), .v (fOv pTup [.v (fC (.int 0)), .v (fC (.int 3))]), .v (fOv pTup [.v (fOp (on1 pNeg) [.v (fC (.int 1))])]), .v (fOv pTup [.v (fC (.bool true))]), .v (fOv pTup [.v (fC (.int 0)), .v (fC .none)]), .v (fOp (on2 pMulA) [.v (fOv pTup [.v (fC (.int 0))]), .v (fC (.int 7))]), .v (fC (.int 2)), .v (fC (.str "0")), .v (fOv pTup [.v (fOv pTup [.v (fC (.int 0))])])])) (V_law_45 (script := fr (.list (ns.map PyData.int)))) = .ok (bads40, V_law_45 (script := fr (.list (ns.map PyData.int)))) := by
      generalize PyData.list (ns.map PyData.int) = sc at *
      rfl
    rw [a_forS, l, bind_ok]
    exact e1
  have s1 : (fWp [0, 1, 2, 3, 4, 5, 6, 7, 8, 9] (fForS (fR1 (.v (fOp (pMax) [.v (fC (.int 1)), .v (fOp (pMin) [.v (fOp (on1 pLen) [.s 0]), .v (fC (.int 3))])]))) (.nm 2) (L5_law_45))) (V_law_45 (script := fr (.list (ns.map PyData.int)))) = .ok (.nx, [none, none, none, none, none, none, none, none, none, none]) := by
    generalize L5_law_45 = L at *
    simp [q_mulAI, q_mulAL, a_wb, q_divW, Function.comp_def, q_starI, q_starIT, a_wp, a_fz, a_fz0, a_fz1, a_ext, a_ins, a_insA, a_pop, a_parN, a_evO0, a_evO1, a_setO0, a_setO1, a_ix2, a_setII, a_zN, a_zC, a_lcO, d_oo, pEq_int, pNe_int, pIxL, pIxT, atI_nat, atI_0, atI_1, atI_2, atI_3, atI_m1, cutLo, cutHi, cutLo1, cutHi1, a_seq, a_ifS, a_B, a_op, a_ov, a_ev0, a_evv, a_evs, a_C, a_V, a_M, a_set, a_setI, a_app, a_ret, a_ex, a_skip, a_no, a_not, a_andT, a_orT, a_and, a_or, a_notV, a_if, a_par, a_call, a_forS, a_sq, a_r1, a_r2, a_en, a_zp, a_asT, a_chI, a_yes, a_lc, a_fn, okA, f_fr, bkA, rsvs, rsv, dvs, on1, on2, d_fr, d_ol, rsO, ndS, sl, putB, asT, setAll, ofO, Dy.ints1, Dy.ints2, nE, wipeE, unw, frO, q_addI, q_addL, q_addT, q_addS, q_sub, q_div, q_mod, q_pow, q_neg, q_cm, pIs, pIsn, q_isN, q_isI, q_isS, q_isT, q_isL, q_isB, q_lenL, q_lenT, pTup, pLst, q_tupL, q_tupT, q_lstL, q_lstT, q_revL, q_slL, q_slT, q_shL, q_shT, q_sqL, q_sqT, q_intI, q_max2, q_min2, q_aII, q_aBI, q_aTI, q_aTT, q_aLL, q_aTL, q_aIT, c, e]
  unfold M_law_45
  refine fn1_rt (N := 9) (e := [none, none, none, none, none, none, none, none, none, none]) ?_
  unfold b_law_45
  exact (seq_nx s0).trans ((seq_nx s1).trans rfl)
end Q
namespace W40
open PySem PySem.Spec PyProof.Rows L2 Dy Q
section
variable {P : Program} {w : World} {K : PySem.W.Frag} {mg : Str → Option Value} {T : List (Addr × Str)}
theorem sc__law_pen : FnScope ["_law_cell"] ["_law_cell"] (defScope s__law_pen) := ⟨rfl, rfl, rfl, by decide +kernel, rfl, by decide +kernel, by decide +kernel⟩
theorem ok__law_pen {f : Addr} {fd : FuncData} {k : Nat} (F : Fun K "_law_pen" "_law_pen" s__law_pen f fd) (hm : mg "_law_pen" = some (.ref f)) (hb : Binds K fd ["_law_cell"] []) (z_max : mg "max" = none) : CallOk P w K mg T (k + 1) "_law_pen" ["_law_cell"] M__law_pen :=
  callOk_of F hm hb fun base => fnD F sc__law_pen rfl rfl (by decide) fun cdv A outer s H qv E hgd hr => (dss_one (ds_ret (de_lst (da_cons (dx_v (de_callB (cl_max rfl) os_max rfl z_max bt_max (da_cons (dx_v de_int) (da_cons (dx_v (de_op op_sub os_sub (dx_s 0 (pv 0)) (dx_v (de_op op_pow os_pow (dx_v de_int) (dx_v de_int))))) da_nil)))) (da_cons (dx_v (de_op op_mod os_mod (dx_s 0 (pv 0)) (dx_v de_int))) (da_cons (dx_v de_int) da_nil))))))
theorem sc_is_between : FnScope ["thing", "low", "high"] ["thing", "low", "high"] (defScope s_is_between) := ⟨rfl, rfl, rfl, by decide +kernel, rfl, by decide +kernel, by decide +kernel⟩
theorem ok_is_between {f : Addr} {fd : FuncData} {k : Nat} (F : Fun K "is_between" "is_between" s_is_between f fd) (hm : mg "is_between" = some (.ref f)) (hb : Binds K fd ["thing", "low", "high"] []) (z_bool : mg "bool" = none) (z_int : mg "int" = none) (z_isinstance : mg "isinstance" = none) : CallOk P w K mg T (k + 1) "is_between" ["thing", "low", "high"] M_is_between :=
  callOk_of F hm hb fun base => fnD F sc_is_between rfl rfl (by decide) fun cdv A outer s H qv E hgd hr => (dss_one (ds_ret (de_and (de_isi .int rfl z_isinstance bt_isinstance (dx_s 0 (pv 0)) (pty rfl z_int bt_int)) (de_and (de_not (de_isi .bool rfl z_isinstance bt_isinstance (dx_s 0 (pv 0)) (pty rfl z_bool bt_bool))) (de_one (de_chI op_le op_le (fun a b c => pe_chain op_le op_le a b c) (dx_s 1 (pv 1)) (dx_s 0 (pv 0)) (dx_s 2 (pv 2))))))))
theorem sc_is_arities : FnScope ["thing", "arity"] ["thing"] (defScope s_is_arities) := ⟨rfl, rfl, rfl, by decide +kernel, rfl, by decide +kernel, by decide +kernel⟩
theorem ok_is_arities {f : Addr} {fd : FuncData} {k : Nat} (F : Fun K "is_arities" "is_arities" s_is_arities f fd) (hm : mg "is_arities" = some (.ref f)) (hb : Binds K fd ["thing"] []) (c_is_between : CallOk P w K mg T k "is_between" ["thing", "low", "high"] M_is_between) (z_all : mg "all" = none) (z_isinstance : mg "isinstance" = none) (z_len : mg "len" = none) (z_tuple : mg "tuple" = none) {t_MOST_ARITY : Tok} (g_MOST_ARITY : mg "MOST_ARITY" = some (.int 2 t_MOST_ARITY)) {t_MOST_OPERATORS : Tok} (g_MOST_OPERATORS : mg "MOST_OPERATORS" = some (.int 6 t_MOST_OPERATORS)) : CallOk P w K mg T (k + 1) "is_arities" ["thing"] M_is_arities :=
  callOk_of F hm hb fun base => fnD F sc_is_arities rfl rfl (by decide) fun cdv A outer s H qv E hgd hr => (dss_cons (ds_if (dw_t (dw_or (dt_not (dt_val (de_isi .tuple rfl z_isinstance bt_isinstance (dx_s 0 (pv 0)) (pty rfl z_tuple bt_tuple)))) (dw_or1 (dt_not (dt_chI (fun a b c => pt_chain op_le op_le a b c) (dx_v de_int) (dx_v (de_callB call_lenA os_len rfl z_len bt_len (da_cons (dx_s 0 (pv 0)) da_nil))) (dx_v (de_gint rfl g_MOST_OPERATORS))))))) (dss_one (ds_ret de_bl)) dss_nil)
    (dss_one (ds_ret (de_callB (cr_all rfl) os_all rfl z_all bt_all (da_cons (dx_v (de_lc (own := [("arity", 1)]) (npn rfl) (by decide) rfl sc_is_arities.nd (di_seq (dx_v (de_v 0 (pv 0)))) (blkOk_by (N := ["thing", "arity"]) (sc := defScope s_is_arities) (own := [("arity", 1)]) (by decide +kernel)) (fun _ _ _ _ _ => (pg_name (i := 1) sc_is_arities.nd rfl (by first | exact .inl rfl | exact .inr rfl))) (fun _ _ _ _ _ => pts_yes) (fun _ _ _ _ _ => (dcall c_is_between hgd hr rfl passL (da_cons (dx_v (de_v 1 (pv 1))) (da_cons (dx_v de_int) (da_cons (dx_v (de_gint rfl g_MOST_ARITY)) da_nil))))))) da_nil)))))
theorem sc_need_arities : FnScope ["thing"] ["thing"] (defScope s_need_arities) := ⟨rfl, rfl, rfl, by decide +kernel, rfl, by decide +kernel, by decide +kernel⟩
theorem ok_need_arities {f : Addr} {fd : FuncData} {k : Nat} (F : Fun K "need_arities" "need_arities" s_need_arities f fd) (hm : mg "need_arities" = some (.ref f)) (hb : Binds K fd ["thing"] []) (c_is_arities : CallOk P w K mg T k "is_arities" ["thing"] M_is_arities) {PEa : Addr} (XS : ExcSet K mg ["NoArities"] ["NoArities"] "PickError" PEa) : CallOk P w K mg T (k + 1) "need_arities" ["thing"] M_need_arities_2 :=
  callOk_of F hm hb fun base => fnD F sc_need_arities rfl rfl (by decide) fun cdv A outer s H qv E hgd hr => (dss_one (ds_if (dt_not (dt_val (dcall c_is_arities hgd hr rfl (passes_call (takes_of rfl rfl rfl rfl) (fun _ _ _ _ h => h)) (da_cons (dx_v (de_v 0 (pv 0))) da_nil)))) (dss_one (ds_raiseS XS (memS (by decide +kernel)) rfl (takes_of rfl rfl rfl rfl) rfl)) dss_nil))
theorem sc_is_node : FnScope ["arities", "thing", "before", "node"] ["arities", "thing", "before"] (defScope s_is_node) := ⟨rfl, rfl, rfl, by decide +kernel, rfl, by decide +kernel, by decide +kernel⟩
theorem ok_is_node {f : Addr} {fd : FuncData} {k : Nat} (F : Fun K "is_node" "is_node" s_is_node f fd) (hm : mg "is_node" = some (.ref f)) (hb : Binds K fd ["arities", "thing", "before"] []) (c_is_between : CallOk P w K mg T k "is_between" ["thing", "low", "high"] M_is_between) (z_all : mg "all" = none) (z_isinstance : mg "isinstance" = none) (z_len : mg "len" = none) (z_tuple : mg "tuple" = none) : CallOk P w K mg T (k + 1) "is_node" ["arities", "thing", "before"] M_is_node :=
  callOk_of F hm hb fun base => fnD F sc_is_node rfl rfl (by decide) fun cdv A outer s H qv E hgd hr => (dss_cons (ds_if (dw_t (dw_or (dt_not (dt_val (de_isi .tuple rfl z_isinstance bt_isinstance (dx_s 1 (pv 1)) (pty rfl z_tuple bt_tuple)))) (dw_or (dt_cmp (op_eqA (ru64 hr)) os_eq (dx_s 1 (pv 1)) (dx_v (de_tup da_nil)) (nomark _)) (dw_or1 (dt_not (dt_val (dcall c_is_between hgd hr rfl (passes_call (takes_of rfl rfl rfl rfl) (fun _ _ _ _ h => h)) (da_cons (dx_v (de_ix (ixD (ru65 hr)) os_ix (dx_s 1 (pv 1)) (dx_v de_int) (fun _ _ => rfl))) (da_cons (dx_v de_int) (da_cons (dx_v (de_op op_sub os_sub (dx_v (de_callB call_lenA os_len rfl z_len bt_len (da_cons (dx_s 0 (pv 0)) da_nil))) (dx_v de_int))) da_nil)))))))))) (dss_one (ds_ret de_bl)) dss_nil)
    (dss_cons (ds_if (dt_cmp (op_neA (ru64 hr)) os_ne (dx_v (de_callB call_lenA os_len rfl z_len bt_len (da_cons (dx_s 1 (pv 1)) da_nil))) (dx_v (de_op op_addA os_add (dx_v de_int) (dx_v (de_ix (ixD (ru65 hr)) os_ix (dx_s 0 (pv 0)) (dx_v (de_ix (ixD (ru65 hr)) os_ix (dx_s 1 (pv 1)) (dx_v de_int) (fun _ _ => rfl))) (fun _ _ => rfl))))) (nomark _)) (dss_one (ds_ret de_bl)) dss_nil)
    (dss_one (ds_ret (de_callB (cr_all rfl) os_all rfl z_all bt_all (da_cons (dx_v (de_lc (own := [("node", 3)]) (npn rfl) (by decide) rfl sc_is_node.nd (di_seq (dx_v (de_slLo (dx_s 1 (pv 1)) (dx_v de_int)))) (blkOk_by (N := ["arities", "thing", "before", "node"]) (sc := defScope s_is_node) (own := [("node", 3)]) (by decide +kernel)) (fun _ _ _ _ _ => (pg_name (i := 3) sc_is_node.nd rfl (by first | exact .inl rfl | exact .inr rfl))) (fun _ _ _ _ _ => pts_yes) (fun _ _ _ _ _ => (dcall c_is_between hgd hr rfl passL (da_cons (dx_v (de_v 3 (pv 3))) (da_cons (dx_v de_int) (da_cons (dx_v (de_op op_sub os_sub (dx_s 2 (pv 2)) (dx_v de_int))) da_nil))))))) da_nil))))))
theorem sc_is_written : FnScope ["arities", "thing", "at", "node"] ["arities", "thing"] (defScope s_is_written) := ⟨rfl, rfl, rfl, by decide +kernel, rfl, by decide +kernel, by decide +kernel⟩
theorem ok_is_written {f : Addr} {fd : FuncData} {k : Nat} (F : Fun K "is_written" "is_written" s_is_written f fd) (hm : mg "is_written" = some (.ref f)) (hb : Binds K fd ["arities", "thing"] []) (c_is_node : CallOk P w K mg T k "is_node" ["arities", "thing", "before"] M_is_node) (z_all : mg "all" = none) (z_enumerate : mg "enumerate" = none) (z_isinstance : mg "isinstance" = none) (z_tuple : mg "tuple" = none) : CallOk P w K mg T (k + 1) "is_written" ["arities", "thing"] M_is_written :=
  callOk_of F hm hb fun base => fnD F sc_is_written rfl rfl (by decide) fun cdv A outer s H qv E hgd hr => (dss_cons (ds_if (dw_t (dw_or (dt_not (dt_val (de_isi .tuple rfl z_isinstance bt_isinstance (dx_s 1 (pv 1)) (pty rfl z_tuple bt_tuple)))) (dw_or1 (dt_cmp (op_eqA (ru64 hr)) os_eq (dx_s 1 (pv 1)) (dx_v (de_tup da_nil)) (nomark _))))) (dss_one (ds_ret de_bl)) dss_nil)
    (dss_one (ds_ret (de_callB (cr_all rfl) os_all rfl z_all bt_all (da_cons (dx_v (de_lc (own := [("at", 2), ("node", 3)]) (npn rfl) (by decide) rfl sc_is_written.nd (di_en rfl z_enumerate (da_cons (dx_v (de_v 1 (pv 1))) da_nil)) (blkOk_by (N := ["arities", "thing", "at", "node"]) (sc := defScope s_is_written) (own := [("at", 2), ("node", 3)]) (by decide +kernel)) (fun _ _ _ _ _ => (pg_tup rfl (pgs_cons (pg_name (i := 2) sc_is_written.nd rfl (by first | exact .inl rfl | exact .inr rfl)) (pgs_cons (pg_name (i := 3) sc_is_written.nd rfl (by first | exact .inl rfl | exact .inr rfl)) pgs_nil)))) (fun _ _ _ _ _ => pts_yes) (fun _ _ _ _ _ => (dcall c_is_node hgd hr rfl passL (da_cons (dx_v (de_v 0 (pv 0))) (da_cons (dx_v (de_v 3 (pv 3))) (da_cons (dx_v (de_v 2 (pv 2))) da_nil))))))) da_nil)))))
theorem sc_is_step : FnScope ["arities", "thing", "operator", "place", "siblings", "tree"] ["arities", "thing"] (defScope s_is_step) := ⟨rfl, rfl, rfl, by decide +kernel, rfl, by decide +kernel, by decide +kernel⟩
theorem ok_is_step {f : Addr} {fd : FuncData} {k : Nat} (F : Fun K "is_step" "is_step" s_is_step f fd) (hm : mg "is_step" = some (.ref f)) (hb : Binds K fd ["arities", "thing"] []) (c_is_between : CallOk P w K mg T k "is_between" ["thing", "low", "high"] M_is_between) (c_is_written : CallOk P w K mg T k "is_written" ["arities", "thing"] M_is_written) (z_all : mg "all" = none) (z_isinstance : mg "isinstance" = none) (z_len : mg "len" = none) (z_tuple : mg "tuple" = none) : CallOk P w K mg T (k + 1) "is_step" ["arities", "thing"] M_is_step :=
  callOk_of F hm hb fun base => fnD F sc_is_step rfl rfl (by decide) fun cdv A outer s H qv E hgd hr => (dss_cons (ds_if (dw_t (dw_or (dt_not (dt_val (de_isi .tuple rfl z_isinstance bt_isinstance (dx_s 1 (pv 1)) (pty rfl z_tuple bt_tuple)))) (dw_or (dt_cmp (op_neA (ru64 hr)) os_ne (dx_v (de_callB call_lenA os_len rfl z_len bt_len (da_cons (dx_s 1 (pv 1)) da_nil))) (dx_v de_int) (nomark _)) (dw_or1 (dt_not (dt_val (dcall c_is_between hgd hr rfl (passes_call (takes_of rfl rfl rfl rfl) (fun _ _ _ _ h => h)) (da_cons (dx_v (de_ix (ixD (ru65 hr)) os_ix (dx_s 1 (pv 1)) (dx_v de_int) (fun _ _ => rfl))) (da_cons (dx_v de_int) (da_cons (dx_v (de_op op_sub os_sub (dx_v (de_callB call_lenA os_len rfl z_len bt_len (da_cons (dx_s 0 (pv 0)) da_nil))) (dx_v de_int))) da_nil)))))))))) (dss_one (ds_ret de_bl)) dss_nil)
    (dss_cons (ds_asT (npn rfl) (de_v 1 (pv 1)) (pg_tup rfl (pgs_cons (pg_name (i := 2) sc_is_step.nd rfl (by first | exact .inl rfl | exact .inr rfl)) (pgs_cons (pg_name (i := 3) sc_is_step.nd rfl (by first | exact .inl rfl | exact .inr rfl)) (pgs_cons (pg_name (i := 4) sc_is_step.nd rfl (by first | exact .inl rfl | exact .inr rfl)) pgs_nil)))))
    (dss_cons (ds_if (dw_t (dw_or (dt_not (dt_val (dcall c_is_between hgd hr rfl (passes_call (takes_of rfl rfl rfl rfl) (fun _ _ _ _ h => h)) (da_cons (dx_v (de_v 3 (pv 3))) (da_cons (dx_v de_int) (da_cons (dx_v (de_op op_sub os_sub (dx_v (de_ix (ixD (ru65 hr)) os_ix (dx_s 0 (pv 0)) (dx_s 2 (pv 2)) (fun _ _ => rfl))) (dx_v de_int))) da_nil)))))) (dw_or1 (dt_not (dt_val (de_isi .tuple rfl z_isinstance bt_isinstance (dx_s 4 (pv 4)) (pty rfl z_tuple bt_tuple))))))) (dss_one (ds_ret de_bl)) dss_nil)
    (dss_one (ds_ret (de_and (de_cmp (op_eqA (ru64 hr)) os_eq (dx_v (de_callB call_lenA os_len rfl z_len bt_len (da_cons (dx_s 4 (pv 4)) da_nil))) (dx_v (de_op op_sub os_sub (dx_v (de_ix (ixD (ru65 hr)) os_ix (dx_s 0 (pv 0)) (dx_s 2 (pv 2)) (fun _ _ => rfl))) (dx_v de_int))) (nomark _)) (de_one (de_callB (cr_all rfl) os_all rfl z_all bt_all (da_cons (dx_v (de_lc (own := [("tree", 5)]) (npn rfl) (by decide) rfl sc_is_step.nd (di_seq (dx_v (de_v 4 (pv 4)))) (blkOk_by (N := ["arities", "thing", "operator", "place", "siblings", "tree"]) (sc := defScope s_is_step) (own := [("tree", 5)]) (by decide +kernel)) (fun _ _ _ _ _ => (pg_name (i := 5) sc_is_step.nd rfl (by first | exact .inl rfl | exact .inr rfl))) (fun _ _ _ _ _ => pts_yes) (fun _ _ _ _ _ => (dcall c_is_written hgd hr rfl passL (da_cons (dx_v (de_v 0 (pv 0))) (da_cons (dx_v (de_v 5 (pv 5))) da_nil)))))) da_nil)))))))))
theorem sc_has_hole : FnScope ["arities", "thing", "step"] ["arities", "thing"] (defScope s_has_hole) := ⟨rfl, rfl, rfl, by decide +kernel, rfl, by decide +kernel, by decide +kernel⟩
theorem ok_has_hole {f : Addr} {fd : FuncData} {k : Nat} (F : Fun K "has_hole" "has_hole" s_has_hole f fd) (hm : mg "has_hole" = some (.ref f)) (hb : Binds K fd ["arities", "thing"] []) (c_is_step : CallOk P w K mg T k "is_step" ["arities", "thing"] M_is_step) (z_all : mg "all" = none) (z_isinstance : mg "isinstance" = none) (z_tuple : mg "tuple" = none) : CallOk P w K mg T (k + 1) "has_hole" ["arities", "thing"] M_has_hole :=
  callOk_of F hm hb fun base => fnD F sc_has_hole rfl rfl (by decide) fun cdv A outer s H qv E hgd hr => (dss_one (ds_ret (de_and (de_isi .tuple rfl z_isinstance bt_isinstance (dx_s 1 (pv 1)) (pty rfl z_tuple bt_tuple)) (de_one (de_callB (cr_all rfl) os_all rfl z_all bt_all (da_cons (dx_v (de_lc (own := [("step", 2)]) (npn rfl) (by decide) rfl sc_has_hole.nd (di_seq (dx_v (de_v 1 (pv 1)))) (blkOk_by (N := ["arities", "thing", "step"]) (sc := defScope s_has_hole) (own := [("step", 2)]) (by decide +kernel)) (fun _ _ _ _ _ => (pg_name (i := 2) sc_has_hole.nd rfl (by first | exact .inl rfl | exact .inr rfl))) (fun _ _ _ _ _ => pts_yes) (fun _ _ _ _ _ => (dcall c_is_step hgd hr rfl passL (da_cons (dx_v (de_v 0 (pv 0))) (da_cons (dx_v (de_v 2 (pv 2))) da_nil)))))) da_nil))))))
theorem sc_is_context : FnScope ["arities", "thing"] ["arities", "thing"] (defScope s_is_context) := ⟨rfl, rfl, rfl, by decide +kernel, rfl, by decide +kernel, by decide +kernel⟩
theorem ok_is_context {f : Addr} {fd : FuncData} {k : Nat} (F : Fun K "is_context" "is_context" s_is_context f fd) (hm : mg "is_context" = some (.ref f)) (hb : Binds K fd ["arities", "thing"] []) (c_has_hole : CallOk P w K mg T k "has_hole" ["arities", "thing"] M_has_hole) (c_need_arities : CallOk P w K mg T k "need_arities" ["thing"] M_need_arities_2) : CallOk P w K mg T (k + 1) "is_context" ["arities", "thing"] M_is_context :=
  callOk_of F hm hb fun base => fnD F sc_is_context rfl rfl (by decide) fun cdv A outer s H qv E hgd hr => (dss_cons (ds_expr (dcall c_need_arities hgd hr rfl (passes_call (takes_of rfl rfl rfl rfl) (fun _ _ _ _ h => h)) (da_cons (dx_v (de_v 0 (pv 0))) da_nil)))
    (dss_one (ds_ret (dcall c_has_hole hgd hr rfl (passes_call (takes_of rfl rfl rfl rfl) (fun _ _ _ _ h => h)) (da_cons (dx_v (de_v 0 (pv 0))) (da_cons (dx_v (de_v 1 (pv 1))) da_nil))))))
theorem sc__law_refused : FnScope ["_law_thing", "error"] ["_law_thing"] (defScope s__law_refused) := ⟨rfl, rfl, rfl, by decide +kernel, rfl, by decide +kernel, by decide +kernel⟩
theorem ok__law_refused {f : Addr} {fd : FuncData} {k : Nat} (F : Fun K "_law_refused" "_law_refused" s__law_refused f fd) (hm : mg "_law_refused" = some (.ref f)) (hb : Binds K fd ["_law_thing"] []) (c_is_context : CallOk P w K mg T k "is_context" ["arities", "thing"] M_is_context) (z_isinstance : mg "isinstance" = none) {PEa : Addr} (XS : ExcSet K mg ["NoArities"] ["NoArities"] "PickError" PEa) : CallOk P w K mg T (k + 1) "_law_refused" ["_law_thing"] M__law_refused :=
  callOk_of F hm hb fun base => fnD F sc__law_refused rfl rfl (by decide) fun cdv A outer s H qv E hgd hr => (dss_cons (ds_try (i := 1) (n := "error") (x := "PickError") (PE := PEa) (L := ["NoArities"]) (f := fEx (fCall M_is_context [.v (fV 0), .v (fOv pTup [])])) (h := fun y => fRet (fC (.bool (decide (y.cls = "NoArities"))))) rfl rfl sc__law_refused.nd rfl rfl ⟨rfl, by decide, .inl XS.pe⟩ (takes_of rfl rfl rfl rfl) rfl (fun y hy => let ⟨C, _, _, t, _⟩ := XS.ok y hy; ⟨C, t⟩) (fun W pn xe tk po => (dss_one (ds_expr (dcall c_is_context hgd hr rfl (pass_try tk) (da_cons (dx_v (de_v 0 (pv 0))) (da_cons (dx_v (de_tup da_nil)) da_nil)))))) (fun a oe pn y C hc hC hz hv => (dss_one (ds_ret (de_isK XS hc hC (memS (by decide +kernel)) (.head _) hz hv rfl rfl z_isinstance (pv 1) rfl)))))
    (dss_one (ds_ret de_bl)))
theorem sc__law_cell_at : FnScope ["_law_script", "_law_k"] ["_law_script", "_law_k"] (defScope s__law_cell_at) := ⟨rfl, rfl, rfl, by decide +kernel, rfl, by decide +kernel, by decide +kernel⟩
theorem ok__law_cell_at {f : Addr} {fd : FuncData} {k : Nat} (F : Fun K "_law_cell_at" "_law_cell_at" s__law_cell_at f fd) (hm : mg "_law_cell_at" = some (.ref f)) (hb : Binds K fd ["_law_script", "_law_k"] []) (z_len : mg "len" = none) : CallOk P w K mg T (k + 1) "_law_cell_at" ["_law_script", "_law_k"] M__law_cell_at :=
  callOk_of F hm hb fun base => fnD F sc__law_cell_at rfl rfl (by decide) fun cdv A outer s H qv E hgd hr => (dss_cons (ds_if (dt_cmp op_lt os_cmI (dx_s 1 (pv 1)) (dx_v (de_callB call_lenA os_len rfl z_len bt_len (da_cons (dx_s 0 (pv 0)) da_nil))) (nomark _)) (dss_one (ds_ret (de_ix (ixD (ru65 hr)) os_ix (dx_s 0 (pv 0)) (dx_s 1 (pv 1)) (fun _ _ => rfl)))) dss_nil)
    (dss_one (ds_ret de_int)))
theorem sc__law_draw : FnScope ["_law_pen_here", "_law_many", "_law_stir", "_law_digit"] ["_law_pen_here", "_law_many"] (defScope s__law_draw) := ⟨rfl, rfl, rfl, by decide +kernel, rfl, by decide +kernel, by decide +kernel⟩
theorem ok__law_draw {f : Addr} {fd : FuncData} {k : Nat} (F : Fun K "_law_draw" "_law_draw" s__law_draw f fd) (hm : mg "_law_draw" = some (.ref f)) (hb : Binds K fd ["_law_pen_here", "_law_many"] [])  : CallOk P w K mg T (k + 1) "_law_draw" ["_law_pen_here", "_law_many"] M__law_draw :=
  callOk_of F hm hb fun base => fnD F sc__law_draw rfl rfl (by decide) fun cdv A outer s H qv E hgd hr => (dss_cons (ds_if (dt_cmp op_gt os_cmI (dx_v (de_ix (ixD (ru65 hr)) os_ix (dx_s 0 (pv 0)) (dx_v de_int) (fun _ _ => rfl))) (dx_v de_int) (nomark _)) (dss_cons (ds_set (i := 3) sc__law_draw.nd rfl (by first | exact .inl rfl | exact .inr rfl) (np1 rfl) (de_op op_mod os_mod (dx_v (de_ix (ixD (ru65 hr)) os_ix (dx_s 0 (pv 0)) (dx_v de_int) (fun _ _ => rfl))) (dx_s 1 (pv 1))))
    (dss_cons (ds_setI (pv 0) (dx_v de_int) (de_op op_fdivW os_divW (dx_v (de_ix (ixD (ru65 hr)) os_ix (dx_s 0 (pv 0)) (dx_v de_int) (fun _ _ => rfl))) (dx_s 1 (pv 1))))
    (dss_one (ds_ret (de_m 3 (pv 3)))))) dss_nil)
    (dss_cons (ds_setI (pv 0) (dx_v de_int) (de_op op_addA os_add (dx_v (de_ix (ixD (ru65 hr)) os_ix (dx_s 0 (pv 0)) (dx_v de_int) (fun _ _ => rfl))) (dx_v de_int)))
    (dss_cons (ds_set (i := 2) sc__law_draw.nd rfl (by first | exact .inl rfl | exact .inr rfl) (np1 rfl) (de_op op_mod os_mod (dx_v (de_op op_mulB os_mulB (dx_v (de_op op_addA os_add (dx_v (de_ix (ixD (ru65 hr)) os_ix (dx_s 0 (pv 0)) (dx_v de_int) (fun _ _ => rfl))) (dx_v (de_op op_mulB os_mulB (dx_v de_int) (dx_v (de_ix (ixD (ru65 hr)) os_ix (dx_s 0 (pv 0)) (dx_v de_int) (fun _ _ => rfl))))))) (dx_v (de_op op_addA os_add (dx_v de_int) (dx_v (de_op op_mulB os_mulB (dx_v de_int) (dx_v (de_ix (ixD (ru65 hr)) os_ix (dx_s 0 (pv 0)) (dx_v de_int) (fun _ _ => rfl))))))))) (dx_v de_int)))
    (dss_cons (ds_set (i := 2) sc__law_draw.nd rfl (by first | exact .inl rfl | exact .inr rfl) (np1 rfl) (de_op op_mod os_mod (dx_v (de_op op_addA os_add (dx_v (de_op op_addA os_add (dx_v (de_op op_mulB os_mulB (dx_s 2 (pv 2)) (dx_s 2 (pv 2)))) (dx_v (de_op op_mulB os_mulB (dx_v de_int) (dx_v (de_ix (ixD (ru65 hr)) os_ix (dx_s 0 (pv 0)) (dx_v de_int) (fun _ _ => rfl))))))) (dx_v de_int))) (dx_v de_int)))
    (dss_one (ds_ret (de_op op_mod os_mod (dx_v (de_op op_fdivW os_divW (dx_v (de_op op_mod os_mod (dx_v (de_op op_mulB os_mulB (dx_s 2 (pv 2)) (dx_v de_int))) (dx_v de_int))) (dx_v de_int))) (dx_s 1 (pv 1)))))))))
theorem sc__law_pick : FnScope ["_law_pen_here", "_law_some"] ["_law_pen_here", "_law_some"] (defScope s__law_pick) := ⟨rfl, rfl, rfl, by decide +kernel, rfl, by decide +kernel, by decide +kernel⟩
theorem ok__law_pick {f : Addr} {fd : FuncData} {k : Nat} (F : Fun K "_law_pick" "_law_pick" s__law_pick f fd) (hm : mg "_law_pick" = some (.ref f)) (hb : Binds K fd ["_law_pen_here", "_law_some"] []) (c__law_draw : CallOk P w K mg T k "_law_draw" ["_law_pen_here", "_law_many"] M__law_draw) (z_len : mg "len" = none) : CallOk P w K mg T (k + 1) "_law_pick" ["_law_pen_here", "_law_some"] M__law_pick :=
  callOk_of F hm hb fun base => fnD F sc__law_pick rfl rfl (by decide) fun cdv A outer s H qv E hgd hr => (dss_one (ds_ret (de_ix (ixD (ru65 hr)) os_ix (dx_s 1 (pv 1)) (dx_v (dcall c__law_draw hgd hr rfl (passes_call (takes_of rfl rfl rfl rfl) (fun _ _ _ _ h => h)) (da_cons (dx_s 0 (pv 0)) (da_cons (dx_v (de_callB call_lenA os_len rfl z_len bt_len (da_cons (dx_s 1 (pv 1)) da_nil))) da_nil)))) (fun _ _ => rfl))))
theorem sc__law_tree : FnScope ["_law_pen_here", "_law_arities_here", "_law_most", "_law_leaves", "_law_found", "_law_turn", "_law_operator", "_law_last", "_law_parts", "_law_arity", "_law_place"] ["_law_pen_here", "_law_arities_here", "_law_most"] (defScope s__law_tree) := ⟨rfl, rfl, rfl, by decide +kernel, rfl, by decide +kernel, by decide +kernel⟩
theorem ok__law_tree {f : Addr} {fd : FuncData} {k : Nat} (F : Fun K "_law_tree" "_law_tree" s__law_tree f fd) (hm : mg "_law_tree" = some (.ref f)) (hb : Binds K fd ["_law_pen_here", "_law_arities_here", "_law_most"] []) (c__law_draw : CallOk P w K mg T k "_law_draw" ["_law_pen_here", "_law_many"] M__law_draw) (c__law_pick : CallOk P w K mg T k "_law_pick" ["_law_pen_here", "_law_some"] M__law_pick) (z_enumerate : mg "enumerate" = none) (z_len : mg "len" = none) (z_range : mg "range" = none) (z_tuple : mg "tuple" = none) : CallOk P w K mg T (k + 1) "_law_tree" ["_law_pen_here", "_law_arities_here", "_law_most"] M__law_tree :=
  callOk_of F hm hb fun base => fnD F sc__law_tree rfl rfl (by decide) fun cdv A outer s H qv E hgd hr => (dss_cons (ds_fz [3] (ds_setLc (i := 3) (own := [("_law_operator", 6), ("_law_arity", 9)]) (np1 rfl) (npn rfl) (by decide) rfl sc__law_tree.nd rfl rfl (sw_true rfl rfl rfl (by decide +kernel)) (di_en rfl z_enumerate (da_cons (dx_v (de_v 1 (pv 1))) da_nil)) (blkOk_by (N := ["_law_pen_here", "_law_arities_here", "_law_most", "_law_leaves", "_law_found", "_law_turn", "_law_operator", "_law_last", "_law_parts", "_law_arity", "_law_place"]) (sc := defScope s__law_tree) (own := [("_law_operator", 6), ("_law_arity", 9)]) (by decide +kernel)) (fun _ _ _ _ _ => (pg_tup rfl (pgs_cons (pg_name (i := 6) sc__law_tree.nd rfl (by first | exact .inl rfl | exact .inr rfl)) (pgs_cons (pg_name (i := 9) sc__law_tree.nd rfl (by first | exact .inl rfl | exact .inr rfl)) pgs_nil)))) (fun _ _ _ _ _ => (pts_one (dt_cmp (op_eqA (ru64 hr)) os_eq (dx_s 9 (pv 9)) (dx_v de_int) (nomark _)))) (fun _ _ _ _ _ => (de_v 6 (pv 6)))) nx_set)
    (dss_cons (ds_wp [3] (ds_set (i := 4) sc__law_tree.nd rfl (by first | exact .inl rfl | exact .inr rfl) (np1 rfl) (de_lst (da_cons (dx_v (de_tup (da_cons (dx_v (dcall c__law_pick hgd hr rfl (passes_call (takes_of rfl rfl rfl rfl) (fun _ _ _ _ h => h)) (da_cons (dx_s 0 (pv 0)) (da_cons (dx_v (de_v 3 (pv 3))) da_nil)))) da_nil))) da_nil))))
    (dss_cons (ds_wp [1, 2, 5, 6, 7, 8] (ds_for (npn rfl) (passes_of rfl) rfl (di_r1 rfl z_range (da_cons (dx_v (dcall c__law_draw hgd hr rfl (passes_call (takes_of rfl rfl rfl rfl) (fun _ _ _ _ h => h)) (da_cons (dx_s 0 (pv 0)) (da_cons (dx_v (de_v 2 (pv 2))) da_nil)))) da_nil)) (pg_name (i := 5) sc__law_tree.nd rfl (by first | exact .inl rfl | exact .inr rfl)) (dss_cons (ds_set (i := 6) sc__law_tree.nd rfl (by first | exact .inl rfl | exact .inr rfl) (np1 rfl) (dcall c__law_draw hgd hr rfl (passes_call (takes_of rfl rfl rfl rfl) (fun _ _ _ _ h => h)) (da_cons (dx_s 0 (pv 0)) (da_cons (dx_v (de_callB call_lenA os_len rfl z_len bt_len (da_cons (dx_s 1 (pv 1)) da_nil))) da_nil))))
    (dss_cons (ds_set (i := 7) sc__law_tree.nd rfl (by first | exact .inl rfl | exact .inr rfl) (np1 rfl) (de_op op_sub os_sub (dx_v (de_callB call_lenA os_len rfl z_len bt_len (da_cons (dx_s 4 (pv 4)) da_nil))) (dx_v de_int)))
    (dss_cons (ds_fz [8] (ds_setLc (i := 8) (own := [("_law_place", 10)]) (np1 rfl) (npn rfl) (by decide) rfl sc__law_tree.nd rfl rfl (sw_true rfl rfl rfl (by decide +kernel)) (di_r1 rfl z_range (da_cons (dx_v (de_ix (ixD (ru65 hr)) os_ix (dx_s 1 (pv 1)) (dx_s 6 (pv 6)) (fun _ _ => rfl))) da_nil)) (blkOk_by (N := ["_law_pen_here", "_law_arities_here", "_law_most", "_law_leaves", "_law_found", "_law_turn", "_law_operator", "_law_last", "_law_parts", "_law_arity", "_law_place"]) (sc := defScope s__law_tree) (own := [("_law_place", 10)]) (by decide +kernel)) (fun _ _ _ _ _ => (pg_name (i := 10) sc__law_tree.nd rfl (by first | exact .inl rfl | exact .inr rfl))) (fun _ _ _ _ _ => pts_yes) (fun _ _ _ _ _ => (de_if (dt_cmp (op_eqA (ru64 hr)) os_eq (dx_v (dcall c__law_draw hgd hr rfl passL (da_cons (dx_s 0 (pv 0)) (da_cons (dx_v de_int) da_nil)))) (dx_v de_int) (nomark _)) (de_v 7 (pv 7)) (dcall c__law_draw hgd hr rfl passL (da_cons (dx_s 0 (pv 0)) (da_cons (dx_v (de_callB call_lenA os_len rfl z_len bt_len (da_cons (dx_s 4 (pv 4)) da_nil))) da_nil)))))) nx_set)
    (dss_one (ds_wp [5, 6, 7, 8] (ds_app (pv 4) (de_op op_addA os_add (dx_v (de_tup (da_cons (dx_v (de_v 6 (pv 6))) da_nil))) (dx_v (de_callTy call_tupleP os_tuple rfl z_tuple bt_tuple (da_cons (dx_s 8 (pv 8)) da_nil))))))))))))
    (dss_one (ds_ret (de_callTy call_tupleP os_tuple rfl z_tuple bt_tuple (da_cons (dx_s 4 (pv 4)) da_nil)))))))
theorem sc__law_context : FnScope ["_law_pen_here", "_law_arities_here", "_law_most", "_law_some", "_law_found", "_law_turn", "_law_operator", "_law_others", "_law_arity", "_law_place"] ["_law_pen_here", "_law_arities_here", "_law_most"] (defScope s__law_context) := ⟨rfl, rfl, rfl, by decide +kernel, rfl, by decide +kernel, by decide +kernel⟩
theorem ok__law_context {f : Addr} {fd : FuncData} {k : Nat} (F : Fun K "_law_context" "_law_context" s__law_context f fd) (hm : mg "_law_context" = some (.ref f)) (hb : Binds K fd ["_law_pen_here", "_law_arities_here", "_law_most"] []) (c__law_draw : CallOk P w K mg T k "_law_draw" ["_law_pen_here", "_law_many"] M__law_draw) (c__law_pick : CallOk P w K mg T k "_law_pick" ["_law_pen_here", "_law_some"] M__law_pick) (c__law_tree : CallOk P w K mg T k "_law_tree" ["_law_pen_here", "_law_arities_here", "_law_most"] M__law_tree) (z_enumerate : mg "enumerate" = none) (z_range : mg "range" = none) (z_tuple : mg "tuple" = none) : CallOk P w K mg T (k + 1) "_law_context" ["_law_pen_here", "_law_arities_here", "_law_most"] M__law_context :=
  callOk_of F hm hb fun base => fnD F sc__law_context rfl rfl (by decide) fun cdv A outer s H qv E hgd hr => (dss_cons (ds_fz [3] (ds_setLc (i := 3) (own := [("_law_operator", 6), ("_law_arity", 8)]) (np1 rfl) (npn rfl) (by decide) rfl sc__law_context.nd rfl rfl (sw_true rfl rfl rfl (by decide +kernel)) (di_en rfl z_enumerate (da_cons (dx_v (de_v 1 (pv 1))) da_nil)) (blkOk_by (N := ["_law_pen_here", "_law_arities_here", "_law_most", "_law_some", "_law_found", "_law_turn", "_law_operator", "_law_others", "_law_arity", "_law_place"]) (sc := defScope s__law_context) (own := [("_law_operator", 6), ("_law_arity", 8)]) (by decide +kernel)) (fun _ _ _ _ _ => (pg_tup rfl (pgs_cons (pg_name (i := 6) sc__law_context.nd rfl (by first | exact .inl rfl | exact .inr rfl)) (pgs_cons (pg_name (i := 8) sc__law_context.nd rfl (by first | exact .inl rfl | exact .inr rfl)) pgs_nil)))) (fun _ _ _ _ _ => (pts_one (dt_cmp op_gt os_cmI (dx_s 8 (pv 8)) (dx_v de_int) (nomark _)))) (fun _ _ _ _ _ => (de_v 6 (pv 6)))) nx_set)
    (dss_cons (ds_set (i := 4) sc__law_context.nd rfl (by first | exact .inl rfl | exact .inr rfl) (np1 rfl) (de_lst da_nil))
    (dss_cons (ds_wp [1, 2, 3, 5, 6, 7] (ds_for (npn rfl) (passes_of rfl) rfl (di_r1 rfl z_range (da_cons (dx_v (de_if (dt_cmp (op_neA (ru64 hr)) os_ne (dx_s 3 (pv 3)) (dx_v (de_lst da_nil)) (nomark _)) (dcall c__law_draw hgd hr rfl (passes_call (takes_of rfl rfl rfl rfl) (fun _ _ _ _ h => h)) (da_cons (dx_s 0 (pv 0)) (da_cons (dx_v (de_op op_addA os_add (dx_v de_int) (dx_s 2 (pv 2)))) da_nil))) de_int)) da_nil)) (pg_name (i := 5) sc__law_context.nd rfl (by first | exact .inl rfl | exact .inr rfl)) (dss_cons (ds_set (i := 6) sc__law_context.nd rfl (by first | exact .inl rfl | exact .inr rfl) (np1 rfl) (dcall c__law_pick hgd hr rfl (passes_call (takes_of rfl rfl rfl rfl) (fun _ _ _ _ h => h)) (da_cons (dx_s 0 (pv 0)) (da_cons (dx_v (de_v 3 (pv 3))) da_nil))))
    (dss_cons (ds_set (i := 7) sc__law_context.nd rfl (by first | exact .inl rfl | exact .inr rfl) (np1 rfl) (de_callTy call_tupleP os_tuple rfl z_tuple bt_tuple (da_cons (dx_v (de_lc (own := [("_law_place", 9)]) (npn rfl) (by decide) rfl sc__law_context.nd (di_r1 rfl z_range (da_cons (dx_v (de_op op_sub os_sub (dx_v (de_ix (ixD (ru65 hr)) os_ix (dx_s 1 (pv 1)) (dx_s 6 (pv 6)) (fun _ _ => rfl))) (dx_v de_int))) da_nil)) (blkOk_by (N := ["_law_pen_here", "_law_arities_here", "_law_most", "_law_some", "_law_found", "_law_turn", "_law_operator", "_law_others", "_law_arity", "_law_place"]) (sc := defScope s__law_context) (own := [("_law_place", 9)]) (by decide +kernel)) (fun _ _ _ _ _ => (pg_name (i := 9) sc__law_context.nd rfl (by first | exact .inl rfl | exact .inr rfl))) (fun _ _ _ _ _ => pts_yes) (fun _ _ _ _ _ => (dcall c__law_tree hgd hr rfl passL (da_cons (dx_s 0 (pv 0)) (da_cons (dx_v (de_v 1 (pv 1))) (da_cons (dx_v de_int) da_nil))))))) da_nil)))
    (dss_one (ds_wp [5, 6, 7] (ds_app (pv 4) (de_tup (da_cons (dx_v (de_v 6 (pv 6))) (da_cons (dx_v (dcall c__law_draw hgd hr rfl (passes_call (takes_of rfl rfl rfl rfl) (fun _ _ _ _ h => h)) (da_cons (dx_s 0 (pv 0)) (da_cons (dx_v (de_ix (ixD (ru65 hr)) os_ix (dx_s 1 (pv 1)) (dx_s 6 (pv 6)) (fun _ _ => rfl))) da_nil)))) (da_cons (dx_v (de_v 7 (pv 7))) da_nil)))))))))))
    (dss_one (ds_ret (de_callTy call_tupleP os_tuple rfl z_tuple bt_tuple (da_cons (dx_s 4 (pv 4)) da_nil)))))))
theorem sc__law_arities : FnScope ["_law_pen_here", "_law_some", "_law_at", "_law_turn"] ["_law_pen_here"] (defScope s__law_arities) := ⟨rfl, rfl, rfl, by decide +kernel, rfl, by decide +kernel, by decide +kernel⟩
theorem ok__law_arities {f : Addr} {fd : FuncData} {k : Nat} (F : Fun K "_law_arities" "_law_arities" s__law_arities f fd) (hm : mg "_law_arities" = some (.ref f)) (hb : Binds K fd ["_law_pen_here"] []) (c__law_draw : CallOk P w K mg T k "_law_draw" ["_law_pen_here", "_law_many"] M__law_draw) (c__law_pick : CallOk P w K mg T k "_law_pick" ["_law_pen_here", "_law_some"] M__law_pick) (z_len : mg "len" = none) (z_range : mg "range" = none) (z_tuple : mg "tuple" = none) : CallOk P w K mg T (k + 1) "_law_arities" ["_law_pen_here"] M__law_arities :=
  callOk_of F hm hb fun base => fnD F sc__law_arities rfl rfl (by decide) fun cdv A outer s H qv E hgd hr => (dss_cons (ds_fz [1] (ds_set (i := 1) sc__law_arities.nd rfl (by first | exact .inl rfl | exact .inr rfl) (np1 rfl) (de_op op_addA os_add (dx_v (de_lst (da_cons (dx_v de_int) da_nil))) (dx_v (de_lc (own := [("_law_turn", 3)]) (npn rfl) (by decide) rfl sc__law_arities.nd (di_r1 rfl z_range (da_cons (dx_v (dcall c__law_draw hgd hr rfl (passes_call (takes_of rfl rfl rfl rfl) (fun _ _ _ _ h => h)) (da_cons (dx_s 0 (pv 0)) (da_cons (dx_v de_int) da_nil)))) da_nil)) (blkOk_by (N := ["_law_pen_here", "_law_some", "_law_at", "_law_turn"]) (sc := defScope s__law_arities) (own := [("_law_turn", 3)]) (by decide +kernel)) (fun _ _ _ _ _ => (pg_name (i := 3) sc__law_arities.nd rfl (by first | exact .inl rfl | exact .inr rfl))) (fun _ _ _ _ _ => pts_yes) (fun _ _ _ _ _ => (dcall c__law_pick hgd hr rfl passL (da_cons (dx_s 0 (pv 0)) (da_cons (dx_v (de_lst (da_cons (dx_v de_int) (da_cons (dx_v de_int) (da_cons (dx_v de_int) (da_cons (dx_v de_int) (da_cons (dx_v de_int) da_nil))))))) da_nil)))))))) nx_set)
    (dss_cons (ds_set (i := 2) sc__law_arities.nd rfl (by first | exact .inl rfl | exact .inr rfl) (np1 rfl) (dcall c__law_draw hgd hr rfl (passes_call (takes_of rfl rfl rfl rfl) (fun _ _ _ _ h => h)) (da_cons (dx_s 0 (pv 0)) (da_cons (dx_v (de_callB call_lenA os_len rfl z_len bt_len (da_cons (dx_s 1 (pv 1)) da_nil))) da_nil))))
    (dss_one (ds_ret (de_callTy call_tupleP os_tuple rfl z_tuple bt_tuple (da_cons (dx_v (de_op op_addA os_add (dx_v (de_slLo (dx_s 1 (pv 1)) (dx_s 2 (pv 2)))) (dx_v (de_slHi (dx_s 1 (pv 1)) (dx_s 2 (pv 2)))))) da_nil))))))
theorem sc__law_odd_ones : FnScope ["_law_arities_here", "_law_leg", "_law_leaf", "_law_found", "_law_operator", "_law_place", "_law_others", "_law_bad"] ["_law_arities_here", "_law_leg"] (defScope s__law_odd_ones) := ⟨rfl, rfl, rfl, by decide +kernel, rfl, by decide +kernel, by decide +kernel⟩
theorem ok__law_odd_ones {f : Addr} {fd : FuncData} {k : Nat} (F : Fun K "_law_odd_ones" "_law_odd_ones" s__law_odd_ones f fd) (hm : mg "_law_odd_ones" = some (.ref f)) (hb : Binds K fd ["_law_arities_here", "_law_leg"] []) (z_bool : mg "bool" = none) (z_len : mg "len" = none) (z_list : mg "list" = none) (z_str : mg "str" = none) : CallOk P w K mg T (k + 1) "_law_odd_ones" ["_law_arities_here", "_law_leg"] M__law_odd_ones :=
  callOk_of F hm hb fun base => fnD F sc__law_odd_ones rfl rfl (by decide) fun cdv A outer s H qv E hgd hr => (dss_cons (ds_asT (npn rfl) (de_v 1 (pv 1)) (pg_tup rfl (pgs_cons (pg_name (i := 4) sc__law_odd_ones.nd rfl (by first | exact .inl rfl | exact .inr rfl)) (pgs_cons (pg_name (i := 5) sc__law_odd_ones.nd rfl (by first | exact .inl rfl | exact .inr rfl)) (pgs_cons (pg_name (i := 6) sc__law_odd_ones.nd rfl (by first | exact .inl rfl | exact .inr rfl)) pgs_nil)))))
    (dss_cons (ds_set (i := 2) sc__law_odd_ones.nd rfl (by first | exact .inl rfl | exact .inr rfl) (np1 rfl) (de_tup (da_cons (dx_v (de_tup (da_cons (dx_v (de_indexT (ru65 hr) (de_v 0 (pv 0)) (dx_v de_int))) da_nil))) da_nil)))
    (dss_cons (ds_fz [3] (ds_set (i := 3) sc__law_odd_ones.nd rfl (by first | exact .inl rfl | exact .inr rfl) (np1 rfl) (de_lst (da_cons (dx_v de_non) (da_cons (dx_v (de_callTy call_list_of os_list rfl z_list bt_list (da_cons (dx_s 1 (pv 1)) da_nil))) (da_cons (dx_v (de_slHi (dx_s 1 (pv 1)) (dx_v de_int))) (da_cons (dx_v (de_op op_addA os_add (dx_s 1 (pv 1)) (dx_v (de_tup (da_cons (dx_v de_int) da_nil))))) (da_cons (dx_v (de_op op_addA os_add (dx_v (de_tup (da_cons (dx_v (de_callB call_lenA os_len rfl z_len bt_len (da_cons (dx_s 0 (pv 0)) da_nil))) da_nil))) (dx_v (de_slLo (dx_s 1 (pv 1)) (dx_v de_int))))) (da_cons (dx_v (de_op op_addA os_add (dx_v (de_tup (da_cons (dx_v (de_un un_neg os_neg (dx_v de_int))) da_nil))) (dx_v (de_slLo (dx_s 1 (pv 1)) (dx_v de_int))))) (da_cons (dx_v (de_op op_addA os_add (dx_v (de_tup (da_cons (dx_v de_non) da_nil))) (dx_v (de_slLo (dx_s 1 (pv 1)) (dx_v de_int))))) da_nil))))))))) nx_set)
    (dss_cons (ds_fz [3] (ds_set (i := 3) sc__law_odd_ones.nd rfl (by first | exact .inl rfl | exact .inr rfl) (np1 rfl) (de_op op_addA os_add (dx_s 3 (pv 3)) (dx_v (de_lst (da_cons (dx_v (de_tup (da_cons (dx_v (de_v 4 (pv 4))) (da_cons (dx_v (de_ix (ixD (ru65 hr)) os_ix (dx_s 0 (pv 0)) (dx_s 4 (pv 4)) (fun _ _ => rfl))) (da_cons (dx_v (de_v 6 (pv 6))) da_nil))))) (da_cons (dx_v (de_tup (da_cons (dx_v (de_v 4 (pv 4))) (da_cons (dx_v (de_un un_neg os_neg (dx_v de_int))) (da_cons (dx_v (de_v 6 (pv 6))) da_nil))))) (da_cons (dx_v (de_tup (da_cons (dx_v (de_v 4 (pv 4))) (da_cons (dx_v de_non) (da_cons (dx_v (de_v 6 (pv 6))) da_nil))))) da_nil))))))) nx_set)
    (dss_cons (ds_fz [3] (ds_set (i := 3) sc__law_odd_ones.nd rfl (by first | exact .inl rfl | exact .inr rfl) (np1 rfl) (de_op op_addA os_add (dx_s 3 (pv 3)) (dx_v (de_lst (da_cons (dx_v (de_tup (da_cons (dx_v (de_v 4 (pv 4))) (da_cons (dx_v (de_v 5 (pv 5))) (da_cons (dx_v (de_callTy call_list_of os_list rfl z_list bt_list (da_cons (dx_s 6 (pv 6)) da_nil))) da_nil))))) (da_cons (dx_v (de_tup (da_cons (dx_v (de_v 4 (pv 4))) (da_cons (dx_v (de_v 5 (pv 5))) (da_cons (dx_v (de_op op_addA os_add (dx_s 6 (pv 6)) (dx_v (de_tup (da_cons (dx_v (de_v 2 (pv 2))) da_nil))))) da_nil))))) (da_cons (dx_v (de_tup (da_cons (dx_v (de_v 4 (pv 4))) (da_cons (dx_v (de_v 5 (pv 5))) (da_cons (dx_v (de_v 2 (pv 2))) da_nil))))) da_nil))))))) nx_set)
    (dss_cons (ds_fz [3] (ds_set (i := 3) sc__law_odd_ones.nd rfl (by first | exact .inl rfl | exact .inr rfl) (np1 rfl) (de_op op_addA os_add (dx_s 3 (pv 3)) (dx_v (de_lst (da_cons (dx_v (de_tup (da_cons (dx_v (de_v 4 (pv 4))) (da_cons (dx_v (de_v 5 (pv 5))) (da_cons (dx_v (de_tup (da_cons (dx_v (de_v 2 (pv 2))) (da_cons (dx_v (de_v 2 (pv 2))) da_nil)))) da_nil))))) (da_cons (dx_v (de_tup (da_cons (dx_v (de_v 4 (pv 4))) (da_cons (dx_v (de_v 5 (pv 5))) (da_cons (dx_v de_non) da_nil))))) (da_cons (dx_v (de_tup (da_cons (dx_v (de_indexT (ru65 hr) (de_v 0 (pv 0)) (dx_v de_int))) (da_cons (dx_v de_int) (da_cons (dx_v (de_tup da_nil)) da_nil))))) da_nil))))))) nx_set)
    (dss_cons (ds_fz [3] (ds_set (i := 3) sc__law_odd_ones.nd rfl (by first | exact .inl rfl | exact .inr rfl) (np1 rfl) (de_op op_addA os_add (dx_s 3 (pv 3)) (dx_v (de_lst (da_cons (dx_v (de_tup (da_cons (dx_v (de_v 4 (pv 4))) (da_cons (dx_v (de_v 5 (pv 5))) (da_cons (dx_v (de_op op_addA os_add (dx_v (de_op op_mulB os_mulB (dx_v (de_tup (da_cons (dx_v (de_v 2 (pv 2))) da_nil))) (dx_v (de_callB call_lenA os_len rfl z_len bt_len (da_cons (dx_s 6 (pv 6)) da_nil))))) (dx_v (de_tup (da_cons (dx_v de_non) da_nil))))) da_nil))))) (da_cons (dx_v (de_tup (da_cons (dx_v (de_callTy call_str_int os_str rfl z_str bt_str (da_cons (dx_s 4 (pv 4)) da_nil))) (da_cons (dx_v (de_v 5 (pv 5))) (da_cons (dx_v (de_v 6 (pv 6))) da_nil))))) da_nil)))))) nx_set)
    (dss_cons (ds_if (dt_cmp (op_eqA (ru64 hr)) os_eq (dx_v (de_callB call_lenA os_len rfl z_len bt_len (da_cons (dx_s 6 (pv 6)) da_nil))) (dx_v de_int) (nomark _)) (dss_cons (ds_set (i := 7) sc__law_odd_ones.nd rfl (by first | exact .inl rfl | exact .inr rfl) (np1 rfl) (de_tup (da_cons (dx_v (de_callB call_lenA os_len rfl z_len bt_len (da_cons (dx_s 0 (pv 0)) da_nil))) da_nil)))
    (dss_cons (ds_fz [3] (ds_set (i := 3) sc__law_odd_ones.nd rfl (by first | exact .inl rfl | exact .inr rfl) (np1 rfl) (de_op op_addA os_add (dx_s 3 (pv 3)) (dx_v (de_lst (da_cons (dx_v (de_tup (da_cons (dx_v (de_v 4 (pv 4))) (da_cons (dx_v (de_v 5 (pv 5))) (da_cons (dx_v (de_tup da_nil)) da_nil))))) (da_cons (dx_v (de_tup (da_cons (dx_v (de_v 4 (pv 4))) (da_cons (dx_v (de_v 5 (pv 5))) (da_cons (dx_v (de_tup (da_cons (dx_v (de_tup da_nil)) da_nil))) da_nil))))) (da_cons (dx_v (de_tup (da_cons (dx_v (de_v 4 (pv 4))) (da_cons (dx_v (de_v 5 (pv 5))) (da_cons (dx_v (de_tup (da_cons (dx_v (de_tup (da_cons (dx_v (de_v 7 (pv 7))) da_nil))) da_nil))) da_nil))))) da_nil))))))) nx_set)
    (dss_one (ds_fz [3] (ds_set (i := 3) sc__law_odd_ones.nd rfl (by first | exact .inl rfl | exact .inr rfl) (np1 rfl) (de_op op_addA os_add (dx_s 3 (pv 3)) (dx_v (de_lst (da_cons (dx_v (de_tup (da_cons (dx_v (de_v 4 (pv 4))) (da_cons (dx_v (de_v 5 (pv 5))) (da_cons (dx_v (de_tup (da_cons (dx_v (de_callTy call_list_of os_list rfl z_list bt_list (da_cons (dx_s 2 (pv 2)) da_nil))) da_nil))) da_nil))))) (da_cons (dx_v (de_tup (da_cons (dx_v (de_v 4 (pv 4))) (da_cons (dx_v (de_v 5 (pv 5))) (da_cons (dx_v (de_tup (da_cons (dx_v (de_tup (da_cons (dx_v (de_tup (da_cons (dx_v (de_v 4 (pv 4))) (da_cons (dx_v de_int) (da_cons (dx_v de_int) da_nil))))) da_nil))) da_nil))) da_nil))))) da_nil)))))) nx_set)))) dss_nil)
    (dss_one (ds_ret (de_op op_addA os_add (dx_s 3 (pv 3)) (dx_v (de_lst (da_cons (dx_v (de_tup (da_cons (dx_v (de_callTy call_bool1 os_boo rfl z_bool bt_bool (da_cons (dx_s 4 (pv 4)) da_nil))) (da_cons (dx_v (de_v 5 (pv 5))) (da_cons (dx_v (de_v 6 (pv 6))) da_nil))))) (da_cons (dx_v (de_tup (da_cons (dx_v (de_v 4 (pv 4))) (da_cons (dx_v (de_cmp (op_eqA (ru64 hr)) os_eq (dx_s 5 (pv 5)) (dx_v de_int) (nomark _))) (da_cons (dx_v (de_v 6 (pv 6))) da_nil))))) da_nil)))))))))))))))
theorem sc_law : FnScope ["_law_script", "_law_bad", "_law_k", "_law_pen_here", "_law_turn", "_law_arities_here", "_law_context_here", "_law_told", "_law_at", "_law_leg"] ["_law_script"] (defScope s_law) := ⟨rfl, rfl, rfl, by decide +kernel, rfl, by decide +kernel, by decide +kernel⟩
theorem fn_law {f : Addr} {fd : FuncData} {k : Nat} (F : Fun K "law" "law" s_law f fd) {base : Heap} (c__law_arities : CallOk P w K mg T k "_law_arities" ["_law_pen_here"] M__law_arities) (c__law_cell_at : CallOk P w K mg T k "_law_cell_at" ["_law_script", "_law_k"] M__law_cell_at) (c__law_context : CallOk P w K mg T k "_law_context" ["_law_pen_here", "_law_arities_here", "_law_most"] M__law_context) (c__law_odd_ones : CallOk P w K mg T k "_law_odd_ones" ["_law_arities_here", "_law_leg"] M__law_odd_ones) (c__law_pen : CallOk P w K mg T k "_law_pen" ["_law_cell"] M__law_pen) (c__law_refused : CallOk P w K mg T k "_law_refused" ["_law_thing"] M__law_refused) (c_is_context : CallOk P w K mg T k "is_context" ["arities", "thing"] M_is_context) (z_enumerate : mg "enumerate" = none) (z_len : mg "len" = none) (z_list : mg "list" = none) (z_max : mg "max" = none) (z_min : mg "min" = none) (z_range : mg "range" = none) (z_repr : mg "repr" = none) : FnG P w K mg base (k + 1) f fd ["_law_script"] (spD K mg T M_law_45) :=
  fnD F sc_law rfl rfl (by decide) fun cdv A outer s H qv E hgd hr => (dss_cons (ds_wp [1] (ds_for (npn rfl) (passes_of rfl) rfl (di_seq (dx_v (de_lst (da_cons (dx_v de_non) (da_cons (dx_v (de_tup da_nil)) (da_cons (dx_v (de_lst (da_cons (dx_v de_int) da_nil))) (da_cons (dx_v (de_tup (da_cons (dx_v de_int) (da_cons (dx_v de_int) da_nil)))) (da_cons (dx_v (de_tup (da_cons (dx_v (de_un un_neg os_neg (dx_v de_int))) da_nil))) (da_cons (dx_v (de_tup (da_cons (dx_v de_bl) da_nil))) (da_cons (dx_v (de_tup (da_cons (dx_v de_int) (da_cons (dx_v de_non) da_nil)))) (da_cons (dx_v (de_op op_mulB os_mulB (dx_v (de_tup (da_cons (dx_v de_int) da_nil))) (dx_v de_int))) (da_cons (dx_v de_int) (da_cons (dx_v de_str) (da_cons (dx_v (de_tup (da_cons (dx_v (de_tup (da_cons (dx_v de_int) da_nil))) da_nil))) da_nil)))))))))))))) (pg_name (i := 1) sc_law.nd rfl (by first | exact .inl rfl | exact .inr rfl)) (dss_one (ds_wp [1] (ds_if (dt_not (dt_val (dcall c__law_refused hgd hr rfl (passes_call (takes_of rfl rfl rfl rfl) (fun _ _ _ _ h => h)) (da_cons (dx_v (de_v 1 (pv 1))) da_nil)))) (dss_one (ds_ret de_bl)) dss_nil)))))
    (dss_cons (ds_wp [0, 1, 2, 3, 4, 5, 6, 7, 8, 9] (ds_for (npn rfl) (passes_of rfl) rfl (di_r1 rfl z_range (da_cons (dx_v (de_callB (cl_max rfl) os_max rfl z_max bt_max (da_cons (dx_v de_int) (da_cons (dx_v (de_callB (cl_min rfl) os_min rfl z_min bt_min (da_cons (dx_v (de_callB call_lenA os_len rfl z_len bt_len (da_cons (dx_s 0 (pv 0)) da_nil))) (da_cons (dx_v de_int) da_nil)))) da_nil)))) da_nil)) (pg_name (i := 2) sc_law.nd rfl (by first | exact .inl rfl | exact .inr rfl)) (dss_cons (ds_wp [2] (ds_set (i := 3) sc_law.nd rfl (by first | exact .inl rfl | exact .inr rfl) (np1 rfl) (dcall c__law_pen hgd hr rfl (passes_call (takes_of rfl rfl rfl rfl) (fun _ _ _ _ h => h)) (da_cons (dx_v (dcall c__law_cell_at hgd hr rfl (passes_call (takes_of rfl rfl rfl rfl) (fun _ _ _ _ h => h)) (da_cons (dx_v (de_v 0 (pv 0))) (da_cons (dx_v (de_v 2 (pv 2))) da_nil)))) da_nil))))
    (dss_one (ds_wp [1, 3, 4, 5, 6, 7, 8, 9] (ds_for (npn rfl) (passes_of rfl) rfl (di_r1 rfl z_range (da_cons (dx_v de_int) da_nil)) (pg_name (i := 4) sc_law.nd rfl (by first | exact .inl rfl | exact .inr rfl)) (dss_cons (ds_set (i := 5) sc_law.nd rfl (by first | exact .inl rfl | exact .inr rfl) (np1 rfl) (de_if (dt_cmp op_gt os_cmI (dx_s 4 (pv 4)) (dx_v de_int) (nomark _)) (dcall c__law_arities hgd hr rfl (passes_call (takes_of rfl rfl rfl rfl) (fun _ _ _ _ h => h)) (da_cons (dx_s 3 (pv 3)) da_nil)) (de_tup (da_cons (dx_v de_int) (da_cons (dx_v de_int) (da_cons (dx_v de_int) da_nil))))))
    (dss_cons (ds_set (i := 6) sc_law.nd rfl (by first | exact .inl rfl | exact .inr rfl) (np1 rfl) (dcall c__law_context hgd hr rfl (passes_call (takes_of rfl rfl rfl rfl) (fun _ _ _ _ h => h)) (da_cons (dx_s 3 (pv 3)) (da_cons (dx_v (de_v 5 (pv 5))) (da_cons (dx_v de_int) da_nil)))))
    (dss_cons (ds_fz [7] (ds_set (i := 7) sc_law.nd rfl (by first | exact .inl rfl | exact .inr rfl) (np1 rfl) (de_lst (da_cons (dx_v (dcall c_is_context hgd hr rfl (passes_call (takes_of rfl rfl rfl rfl) (fun _ _ _ _ h => h)) (da_cons (dx_v (de_v 5 (pv 5))) (da_cons (dx_v (de_v 6 (pv 6))) da_nil)))) (da_cons (dx_v (dcall c_is_context hgd hr rfl (passes_call (takes_of rfl rfl rfl rfl) (fun _ _ _ _ h => h)) (da_cons (dx_v (de_v 5 (pv 5))) (da_cons (dx_v (de_slHi (dx_s 6 (pv 6)) (dx_v de_int))) da_nil)))) (da_cons (dx_v (dcall c_is_context hgd hr rfl (passes_call (takes_of rfl rfl rfl rfl) (fun _ _ _ _ h => h)) (da_cons (dx_v (de_v 5 (pv 5))) (da_cons (dx_v (de_tup da_nil)) da_nil)))) da_nil))))) nx_set)
    (dss_cons (ds_fz [7] (ds_set (i := 7) sc_law.nd rfl (by first | exact .inl rfl | exact .inr rfl) (np1 rfl) (de_op op_addA os_add (dx_s 7 (pv 7)) (dx_v (de_lst (da_cons (dx_v (dcall c_is_context hgd hr rfl (passes_call (takes_of rfl rfl rfl rfl) (fun _ _ _ _ h => h)) (da_cons (dx_v (de_v 5 (pv 5))) (da_cons (dx_v (de_callTy call_list_of os_list rfl z_list bt_list (da_cons (dx_s 6 (pv 6)) da_nil))) da_nil)))) (da_cons (dx_v (dcall c_is_context hgd hr rfl (passes_call (takes_of rfl rfl rfl rfl) (fun _ _ _ _ h => h)) (da_cons (dx_v (de_v 5 (pv 5))) (da_cons (dx_v de_non) da_nil)))) (da_cons (dx_v (dcall c_is_context hgd hr rfl (passes_call (takes_of rfl rfl rfl rfl) (fun _ _ _ _ h => h)) (da_cons (dx_v (de_v 5 (pv 5))) (da_cons (dx_v de_str) da_nil)))) da_nil))))))) nx_set)
    (dss_cons (ds_wp [4, 7] (ds_if (dt_cmp (op_neA (ru64 hr)) os_ne (dx_v (de_callB (cr_repr hgd hr) os_repr rfl z_repr bt_repr (da_cons (dx_s 7 (pv 7)) da_nil))) (dx_v (de_callB (cr_repr hgd hr) os_repr rfl z_repr bt_repr (da_cons (dx_v (de_lst (da_cons (dx_v de_bl) (da_cons (dx_v de_bl) (da_cons (dx_v de_bl) (da_cons (dx_v de_bl) (da_cons (dx_v de_bl) (da_cons (dx_v de_bl) da_nil)))))))) da_nil))) (nomark _)) (dss_one (ds_ret de_bl)) dss_nil))
    (dss_one (ds_wp [1, 5, 6, 8, 9] (ds_for (npn rfl) (passes_of rfl) rfl (di_en rfl z_enumerate (da_cons (dx_v (de_v 6 (pv 6))) da_nil)) (pg_tup rfl (pgs_cons (pg_name (i := 8) sc_law.nd rfl (by first | exact .inl rfl | exact .inr rfl)) (pgs_cons (pg_name (i := 9) sc_law.nd rfl (by first | exact .inl rfl | exact .inr rfl)) pgs_nil))) (dss_one (ds_wp [1, 8, 9] (ds_for (npn rfl) (passes_of rfl) rfl (di_seq (dx_v (dcall c__law_odd_ones hgd hr rfl (passes_call (takes_of rfl rfl rfl rfl) (fun _ _ _ _ h => h)) (da_cons (dx_v (de_v 5 (pv 5))) (da_cons (dx_v (de_v 9 (pv 9))) da_nil))))) (pg_name (i := 1) sc_law.nd rfl (by first | exact .inl rfl | exact .inr rfl)) (dss_one (ds_wp [1] (ds_if (dt_cmp op_notB os_notB (dx_v (dcall c_is_context hgd hr rfl (passes_call (takes_of rfl rfl rfl rfl) (fun _ _ _ _ h => h)) (da_cons (dx_v (de_v 5 (pv 5))) (da_cons (dx_v (de_op op_addA os_add (dx_v (de_op op_addA os_add (dx_v (de_slHi (dx_s 6 (pv 6)) (dx_s 8 (pv 8)))) (dx_v (de_tup (da_cons (dx_v (de_v 1 (pv 1))) da_nil))))) (dx_v (de_slLo (dx_s 6 (pv 6)) (dx_v (de_op op_addA os_add (dx_s 8 (pv 8)) (dx_v de_int))))))) da_nil)))) (dx_v de_bl) (nomark _)) (dss_one (ds_ret de_bl)) dss_nil))))))))))))))))))))
    (dss_one (ds_ret de_bl))))
end
theorem law_at {w : World} {K : PySem.W.Frag} {h : Heap} {mg : Str → Option Value} {fa : Addr} (X : K.In h) (G : h.Ns mainGlobals mg) (hfa : mg "law" = some (.ref fa)) (S : He.SaysX FA FN [] TF EX w h K) (lt : ∀ ns : List Int, ns.length ≤ 63 → ∃ os, M_law_45 [.fr (.list (ns.map PyData.int))] = .ok (.fr (.bool true), os)) : LawAtT PySem.Challenge.rw_codepick_k40_contexts_known w K 8 63 "_law_script" mg fa h := by
  have D := S.t.d
  obtain ⟨XB, nd⟩ := He.ba S.more
  have XS := setB_ok X G XB
  have m0 := He.glo_ok X G (D.fact 0 (f := .glo "_law_pen") rfl)
  have m1 := He.glo_ok X G (D.fact 1 (f := .glo "is_between") rfl)
  have m2 := He.glo_ok X G (D.fact 2 (f := .glo "is_arities") rfl)
  have m3 := He.glo_ok X G (D.fact 3 (f := .glo "need_arities") rfl)
  have m4 := He.glo_ok X G (D.fact 4 (f := .glo "is_node") rfl)
  have m5 := He.glo_ok X G (D.fact 5 (f := .glo "is_written") rfl)
  have m6 := He.glo_ok X G (D.fact 6 (f := .glo "is_step") rfl)
  have m7 := He.glo_ok X G (D.fact 7 (f := .glo "has_hole") rfl)
  have m8 := He.glo_ok X G (D.fact 8 (f := .glo "is_context") rfl)
  have m9 := He.glo_ok X G (D.fact 9 (f := .glo "_law_refused") rfl)
  have m10 := He.glo_ok X G (D.fact 10 (f := .glo "_law_cell_at") rfl)
  have m11 := He.glo_ok X G (D.fact 11 (f := .glo "_law_draw") rfl)
  have m12 := He.glo_ok X G (D.fact 12 (f := .glo "_law_pick") rfl)
  have m13 := He.glo_ok X G (D.fact 13 (f := .glo "_law_tree") rfl)
  have m14 := He.glo_ok X G (D.fact 14 (f := .glo "_law_context") rfl)
  have m15 := He.glo_ok X G (D.fact 15 (f := .glo "_law_arities") rfl)
  have m16 := He.glo_ok X G (D.fact 16 (f := .glo "_law_odd_ones") rfl)
  have m17 := He.glo_ok X G (D.fact 17 (f := .glo "law") rfl)
  have z_all := He.free_ok X G (D.fact 18 (f := .free "all") rfl)
  have z_bool := He.free_ok X G (D.fact 19 (f := .free "bool") rfl)
  have z_enumerate := He.free_ok X G (D.fact 20 (f := .free "enumerate") rfl)
  have z_int := He.free_ok X G (D.fact 21 (f := .free "int") rfl)
  have z_isinstance := He.free_ok X G (D.fact 22 (f := .free "isinstance") rfl)
  have z_len := He.free_ok X G (D.fact 23 (f := .free "len") rfl)
  have z_list := He.free_ok X G (D.fact 24 (f := .free "list") rfl)
  have z_max := He.free_ok X G (D.fact 25 (f := .free "max") rfl)
  have z_min := He.free_ok X G (D.fact 26 (f := .free "min") rfl)
  have z_range := He.free_ok X G (D.fact 27 (f := .free "range") rfl)
  have z_repr := He.free_ok X G (D.fact 28 (f := .free "repr") rfl)
  have z_str := He.free_ok X G (D.fact 29 (f := .free "str") rfl)
  have z_tuple := He.free_ok X G (D.fact 30 (f := .free "tuple") rfl)
  obtain ⟨_, g_MOST_ARITY⟩ := He.int_ok X G (D.fact 31 (f := .int "MOST_ARITY" 2) rfl)
  obtain ⟨_, g_MOST_OPERATORS⟩ := He.int_ok X G (D.fact 32 (f := .int "MOST_OPERATORS" 6) rfl)
  obtain ⟨fd0, F00⟩ := D.def_ 0 (d := D0) rfl
  have F0 : Fun K "_law_pen" "_law_pen" s__law_pen (He.fAd K ("_law_pen", none)) fd0 := fun_of (st := s__law_pen) F00
  have bn0 := F0.binds (ps := ["_law_cell"]) fun _ _ _ _ _ _ us hl => match us, hl with | [_], _ => rfl
  obtain ⟨fd1, F10⟩ := D.def_ 1 (d := D1) rfl
  have F1 : Fun K "is_between" "is_between" s_is_between (He.fAd K ("is_between", none)) fd1 := fun_of (st := s_is_between) F10
  have bn1 := F1.binds (ps := ["thing", "low", "high"]) fun _ _ _ _ _ _ us hl => match us, hl with | [_, _, _], _ => rfl
  obtain ⟨fd2, F20⟩ := D.def_ 2 (d := D2) rfl
  have F2 : Fun K "is_arities" "is_arities" s_is_arities (He.fAd K ("is_arities", none)) fd2 := fun_of (st := s_is_arities) F20
  have bn2 := F2.binds (ps := ["thing"]) fun _ _ _ _ _ _ us hl => match us, hl with | [_], _ => rfl
  obtain ⟨fd3, F30⟩ := D.def_ 3 (d := D3) rfl
  have F3 : Fun K "need_arities" "need_arities" s_need_arities (He.fAd K ("need_arities", none)) fd3 := fun_of (st := s_need_arities) F30
  have bn3 := F3.binds (ps := ["thing"]) fun _ _ _ _ _ _ us hl => match us, hl with | [_], _ => rfl
  obtain ⟨fd4, F40⟩ := D.def_ 4 (d := D4) rfl
  have F4 : Fun K "is_node" "is_node" s_is_node (He.fAd K ("is_node", none)) fd4 := fun_of (st := s_is_node) F40
  have bn4 := F4.binds (ps := ["arities", "thing", "before"]) fun _ _ _ _ _ _ us hl => match us, hl with | [_, _, _], _ => rfl
  obtain ⟨fd5, F50⟩ := D.def_ 5 (d := D5) rfl
  have F5 : Fun K "is_written" "is_written" s_is_written (He.fAd K ("is_written", none)) fd5 := fun_of (st := s_is_written) F50
  have bn5 := F5.binds (ps := ["arities", "thing"]) fun _ _ _ _ _ _ us hl => match us, hl with | [_, _], _ => rfl
  obtain ⟨fd6, F60⟩ := D.def_ 6 (d := D6) rfl
  have F6 : Fun K "is_step" "is_step" s_is_step (He.fAd K ("is_step", none)) fd6 := fun_of (st := s_is_step) F60
  have bn6 := F6.binds (ps := ["arities", "thing"]) fun _ _ _ _ _ _ us hl => match us, hl with | [_, _], _ => rfl
  obtain ⟨fd7, F70⟩ := D.def_ 7 (d := D7) rfl
  have F7 : Fun K "has_hole" "has_hole" s_has_hole (He.fAd K ("has_hole", none)) fd7 := fun_of (st := s_has_hole) F70
  have bn7 := F7.binds (ps := ["arities", "thing"]) fun _ _ _ _ _ _ us hl => match us, hl with | [_, _], _ => rfl
  obtain ⟨fd8, F80⟩ := D.def_ 8 (d := D8) rfl
  have F8 : Fun K "is_context" "is_context" s_is_context (He.fAd K ("is_context", none)) fd8 := fun_of (st := s_is_context) F80
  have bn8 := F8.binds (ps := ["arities", "thing"]) fun _ _ _ _ _ _ us hl => match us, hl with | [_, _], _ => rfl
  obtain ⟨fd9, F90⟩ := D.def_ 9 (d := D9) rfl
  have F9 : Fun K "_law_refused" "_law_refused" s__law_refused (He.fAd K ("_law_refused", none)) fd9 := fun_of (st := s__law_refused) F90
  have bn9 := F9.binds (ps := ["_law_thing"]) fun _ _ _ _ _ _ us hl => match us, hl with | [_], _ => rfl
  obtain ⟨fd10, F100⟩ := D.def_ 10 (d := D10) rfl
  have F10 : Fun K "_law_cell_at" "_law_cell_at" s__law_cell_at (He.fAd K ("_law_cell_at", none)) fd10 := fun_of (st := s__law_cell_at) F100
  have bn10 := F10.binds (ps := ["_law_script", "_law_k"]) fun _ _ _ _ _ _ us hl => match us, hl with | [_, _], _ => rfl
  obtain ⟨fd11, F110⟩ := D.def_ 11 (d := D11) rfl
  have F11 : Fun K "_law_draw" "_law_draw" s__law_draw (He.fAd K ("_law_draw", none)) fd11 := fun_of (st := s__law_draw) F110
  have bn11 := F11.binds (ps := ["_law_pen_here", "_law_many"]) fun _ _ _ _ _ _ us hl => match us, hl with | [_, _], _ => rfl
  obtain ⟨fd12, F120⟩ := D.def_ 12 (d := D12) rfl
  have F12 : Fun K "_law_pick" "_law_pick" s__law_pick (He.fAd K ("_law_pick", none)) fd12 := fun_of (st := s__law_pick) F120
  have bn12 := F12.binds (ps := ["_law_pen_here", "_law_some"]) fun _ _ _ _ _ _ us hl => match us, hl with | [_, _], _ => rfl
  obtain ⟨fd13, F130⟩ := D.def_ 13 (d := D13) rfl
  have F13 : Fun K "_law_tree" "_law_tree" s__law_tree (He.fAd K ("_law_tree", none)) fd13 := fun_of (st := s__law_tree) F130
  have bn13 := F13.binds (ps := ["_law_pen_here", "_law_arities_here", "_law_most"]) fun _ _ _ _ _ _ us hl => match us, hl with | [_, _, _], _ => rfl
  obtain ⟨fd14, F140⟩ := D.def_ 14 (d := D14) rfl
  have F14 : Fun K "_law_context" "_law_context" s__law_context (He.fAd K ("_law_context", none)) fd14 := fun_of (st := s__law_context) F140
  have bn14 := F14.binds (ps := ["_law_pen_here", "_law_arities_here", "_law_most"]) fun _ _ _ _ _ _ us hl => match us, hl with | [_, _, _], _ => rfl
  obtain ⟨fd15, F150⟩ := D.def_ 15 (d := D15) rfl
  have F15 : Fun K "_law_arities" "_law_arities" s__law_arities (He.fAd K ("_law_arities", none)) fd15 := fun_of (st := s__law_arities) F150
  have bn15 := F15.binds (ps := ["_law_pen_here"]) fun _ _ _ _ _ _ us hl => match us, hl with | [_], _ => rfl
  obtain ⟨fd16, F160⟩ := D.def_ 16 (d := D16) rfl
  have F16 : Fun K "_law_odd_ones" "_law_odd_ones" s__law_odd_ones (He.fAd K ("_law_odd_ones", none)) fd16 := fun_of (st := s__law_odd_ones) F160
  have bn16 := F16.binds (ps := ["_law_arities_here", "_law_leg"]) fun _ _ _ _ _ _ us hl => match us, hl with | [_, _], _ => rfl
  obtain ⟨fd17, F170⟩ := D.def_ 17 (d := D17) rfl
  have F17 : Fun K "law" "law" s_law (He.fAd K ("law", none)) fd17 := fun_of (st := s_law) F170
  have bn17 := F17.binds (ps := ["_law_script"]) fun _ _ _ _ _ _ us hl => match us, hl with | [_], _ => rfl
  have e := hfa.symm.trans m17
  cases e
  have C__law_pen : CallOk PySem.Challenge.rw_codepick_k40_contexts_known.prog w K mg (TT K TF) 1 "_law_pen" ["_law_cell"] M__law_pen := ok__law_pen (k := 0) F0 m0 bn0 z_max
  have C_is_between : CallOk PySem.Challenge.rw_codepick_k40_contexts_known.prog w K mg (TT K TF) 1 "is_between" ["thing", "low", "high"] M_is_between := ok_is_between (k := 0) F1 m1 bn1 z_bool z_int z_isinstance
  have C_is_arities : CallOk PySem.Challenge.rw_codepick_k40_contexts_known.prog w K mg (TT K TF) 2 "is_arities" ["thing"] M_is_arities := ok_is_arities (k := 1) F2 m2 bn2 (C_is_between.mono (by decide)) z_all z_isinstance z_len z_tuple g_MOST_ARITY g_MOST_OPERATORS
  have C_need_arities : CallOk PySem.Challenge.rw_codepick_k40_contexts_known.prog w K mg (TT K TF) 3 "need_arities" ["thing"] M_need_arities_2 := ok_need_arities (k := 2) F3 m3 bn3 (C_is_arities.mono (by decide)) XS
  have C_is_node : CallOk PySem.Challenge.rw_codepick_k40_contexts_known.prog w K mg (TT K TF) 2 "is_node" ["arities", "thing", "before"] M_is_node := ok_is_node (k := 1) F4 m4 bn4 (C_is_between.mono (by decide)) z_all z_isinstance z_len z_tuple
  have C_is_written : CallOk PySem.Challenge.rw_codepick_k40_contexts_known.prog w K mg (TT K TF) 3 "is_written" ["arities", "thing"] M_is_written := ok_is_written (k := 2) F5 m5 bn5 (C_is_node.mono (by decide)) z_all z_enumerate z_isinstance z_tuple
  have C_is_step : CallOk PySem.Challenge.rw_codepick_k40_contexts_known.prog w K mg (TT K TF) 4 "is_step" ["arities", "thing"] M_is_step := ok_is_step (k := 3) F6 m6 bn6 (C_is_between.mono (by decide)) (C_is_written.mono (by decide)) z_all z_isinstance z_len z_tuple
  have C_has_hole : CallOk PySem.Challenge.rw_codepick_k40_contexts_known.prog w K mg (TT K TF) 5 "has_hole" ["arities", "thing"] M_has_hole := ok_has_hole (k := 4) F7 m7 bn7 (C_is_step.mono (by decide)) z_all z_isinstance z_tuple
  have C_is_context : CallOk PySem.Challenge.rw_codepick_k40_contexts_known.prog w K mg (TT K TF) 6 "is_context" ["arities", "thing"] M_is_context := ok_is_context (k := 5) F8 m8 bn8 (C_has_hole.mono (by decide)) (C_need_arities.mono (by decide))
  have C__law_refused : CallOk PySem.Challenge.rw_codepick_k40_contexts_known.prog w K mg (TT K TF) 7 "_law_refused" ["_law_thing"] M__law_refused := ok__law_refused (k := 6) F9 m9 bn9 (C_is_context.mono (by decide)) z_isinstance XS
  have C__law_cell_at : CallOk PySem.Challenge.rw_codepick_k40_contexts_known.prog w K mg (TT K TF) 1 "_law_cell_at" ["_law_script", "_law_k"] M__law_cell_at := ok__law_cell_at (k := 0) F10 m10 bn10 z_len
  have C__law_draw : CallOk PySem.Challenge.rw_codepick_k40_contexts_known.prog w K mg (TT K TF) 1 "_law_draw" ["_law_pen_here", "_law_many"] M__law_draw := ok__law_draw (k := 0) F11 m11 bn11 
  have C__law_pick : CallOk PySem.Challenge.rw_codepick_k40_contexts_known.prog w K mg (TT K TF) 2 "_law_pick" ["_law_pen_here", "_law_some"] M__law_pick := ok__law_pick (k := 1) F12 m12 bn12 (C__law_draw.mono (by decide)) z_len
  have C__law_tree : CallOk PySem.Challenge.rw_codepick_k40_contexts_known.prog w K mg (TT K TF) 3 "_law_tree" ["_law_pen_here", "_law_arities_here", "_law_most"] M__law_tree := ok__law_tree (k := 2) F13 m13 bn13 (C__law_draw.mono (by decide)) (C__law_pick.mono (by decide)) z_enumerate z_len z_range z_tuple
  have C__law_context : CallOk PySem.Challenge.rw_codepick_k40_contexts_known.prog w K mg (TT K TF) 4 "_law_context" ["_law_pen_here", "_law_arities_here", "_law_most"] M__law_context := ok__law_context (k := 3) F14 m14 bn14 (C__law_draw.mono (by decide)) (C__law_pick.mono (by decide)) (C__law_tree.mono (by decide)) z_enumerate z_range z_tuple
  have C__law_arities : CallOk PySem.Challenge.rw_codepick_k40_contexts_known.prog w K mg (TT K TF) 3 "_law_arities" ["_law_pen_here"] M__law_arities := ok__law_arities (k := 2) F15 m15 bn15 (C__law_draw.mono (by decide)) (C__law_pick.mono (by decide)) z_len z_range z_tuple
  have C__law_odd_ones : CallOk PySem.Challenge.rw_codepick_k40_contexts_known.prog w K mg (TT K TF) 1 "_law_odd_ones" ["_law_arities_here", "_law_leg"] M__law_odd_ones := ok__law_odd_ones (k := 0) F16 m16 bn16 z_bool z_len z_list z_str
  have bA := FunD.bindsA (ps := ["_law_script"]) F170 fun _ _ _ _ _ _ us hl => match us, hl with | [_], _ => rfl
  refine lawAt_of (x := "_law_script") X S (fun s v => bA s [v] rfl) lt fun base TB => ?_
  exact fn_law (k := 7) F17 (C__law_arities.mono (by decide)) (C__law_cell_at.mono (by decide)) (C__law_context.mono (by decide)) (C__law_odd_ones.mono (by decide)) (C__law_pen.mono (by decide)) (C__law_refused.mono (by decide)) (C_is_context.mono (by decide)) z_enumerate z_len z_list z_max z_min z_range z_repr
theorem ob_eq (s : PySem.W.SharedT) : ob s = hk.obs s.abs := He.obsX_eq (HandSHeadRun.getT_eq s)
end W40
open PySem PySem.W PySem.Calls PyProof.Rows
set_option maxHeartbeats 0 in
theorem PySem.Challenge.cw_codepick_k40_contexts_known_holds : PySem.Challenge.rw_codepick_k40_contexts_known.Holds := by
  w_on; o_law
  refine HandSHeadRun.head_any (r := OpenLaw.row PySem.Challenge.rw_codepick_k40_contexts_known) (q := view (OpenLaw.row PySem.Challenge.rw_codepick_k40_contexts_known).prog [26]) (H := W40.hk) (ob := W40.ob) (M := 8000) (loose := W40.LO) (d := HandSHeadRun.topDef (OpenLaw.row PySem.Challenge.rw_codepick_k40_contexts_known).prog 26) (kwd := []) W40.ob_eq
    (by kernel_rfl) (fun s => by kernel_rfl) W40.run (by kernel_rfl) (by kernel_rfl) (by kernel_rfl) (by rfl) (by first | assumption | decide +kernel) (by decide +kernel) ⟨rfl, rfl, rfl, rfl, rfl, by decide +kernel⟩ ?hw ?hc
  case hw => w_witness2
  case hc =>
    refine Dy.walkT (l := PySem.Challenge.rw_codepick_k40_contexts_known) (n := 63) (k := 8) (x := "_law_script") rfl (by decide) (by kernel_rfl) ⟨rfl, by decide, by decide⟩ ?F
    intro w mg fa h Y G hmg0
    obtain ⟨K, KX, c⟩ := Y
    have hmg : mg ("law" : PySem.Str) = some (.ref fa) := by
      have e : (HandSHeadRun.topDef (OpenLaw.row PySem.Challenge.rw_codepick_k40_contexts_known).prog 26).name = ("law" : PySem.Str) := by kernel_rfl
      rw [← e]
      exact hmg0
    exact ⟨K, KX, W40.law_at KX G hmg c Q.law_true_40⟩
