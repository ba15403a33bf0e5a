import PyProof.Rows.All
import Wide.All
import OpenK.AllK
import Wide.FinOn
import HandS.ForMost
import HandS.Star
import HandS.IsInst
import HandS.TupAny
import HandS.TupMul
import HandS.Wide
import HandS.Zip
import HandS.Style
import HandS.Flow
import HandS.Deep
import HandS.NoneIn
import HandS.More
import PyProof.ReprRoads
import HandS.ForExc
import HandS.EndBits
import KE.GoesEnum
import HandS.RevRange
import HandS.FStrTup
import HandS.RaiseMore
import PySem.Challenge.RW_codepick_k03_nodes_and_heights
set_option Elab.async false
set_option linter.all false
set_option maxRecDepth 100000
set_option maxHeartbeats 4000000
/-! D0: data by value over the abstract heap. -/
namespace Dy
open PySem PySem.Spec PyProof.Rows L2
abbrev St := L2.St

/-! ### results -/
structure Exn where
  cls : Str
  args : List PyData
inductive Res (α : Type) where
  | ok (a : α)
  | er (x : Exn)
  | no
def Res.bind {α β : Type} : Res α → (α → Res β) → Res β
  | .ok a, f => f a
  | .er x, _ => .er x
  | .no, _ => .no
instance : Monad Res where
  pure := .ok
  bind := Res.bind
def Res.post {α : Type} (P : α → Prop) (E : Exn → Prop) : Res α → Prop
  | .ok a => P a
  | .er x => E x
  | .no => False
@[simp] theorem bind_ok {α β : Type} (a : α) (f : α → Res β) : (Res.ok a >>= f) = f a := rfl
@[simp] theorem bind_er {α β : Type} (x : Exn) (f : α → Res β) : ((Res.er x : Res α) >>= f) = .er x := rfl
@[simp] theorem bind_no {α β : Type} (f : α → Res β) : ((Res.no : Res α) >>= f) = .no := rfl
@[simp] theorem pure_ok {α : Type} (a : α) : (pure a : Res α) = .ok a := rfl
def ofO {α : Type} : Option α → Res α
  | some a => .ok a
  | none => .no

/-! ### what a name holds: data, or a list of its own -/
inductive O where
  | fr (d : PyData)
  | ol (ds : List PyData)
  | oo (rs : List (List PyData))
def O.data : O → PyData
  | .fr d => d
  | .ol ds => .list ds
  | .oo rs => .list (rs.map PyData.list)
abbrev Env := List (Option O)

/-! ### data in a heap -/
def kD : Key → PyData
  | .inl i => .int i
  | .inr x => .str x
/-- a list to be read, its object known in full -/
def LsL (K : PySem.W.Frag) (I : Hp) (a : Addr) (xs : List V) : Prop := Rd I a (.lst xs) ∨ ∃ (its : List Value) (n : Nat), K.lookup a = some { cls := .type "list", data := .seq its.toArray n } ∧ its.length ≤ sizeLine ∧ Vals xs its
theorem LsL.of {K : PySem.W.Frag} {I : Hp} {a : Addr} {xs : List V} (h : I a = some (.lst xs)) : LsL K I a xs := .inl (.inl h)
theorem LsL.sq {K : PySem.W.Frag} {I : Hp} {a : Addr} {xs : List V} (h : LsL K I a xs) : SqL K I a xs := by
  rcases h with h | ⟨its, n, h1, h2, h3⟩
  · exact .inl h
  · exact .inr ⟨_, its.toArray, n, h1, rfl, rfl, rfl, by simpa using h2, by simpa using h3⟩
theorem LsL.obj {X : Cx} {pins : List (Addr × Obj)} {σ : St} {H : Hp} {s : Shared} {a : Addr} {xs : List V} (J : Inv X pins σ H s) (h : LsL X.K H a xs) : xs.length ≤ sizeLine ∧ ∃ (its : List Value) (n : Nat), Vals xs its ∧ xs.length = its.length ∧ s.heap.get? a = some { cls := .type "list", data := .seq its.toArray n } := by
  rcases h with h | ⟨its, n, h1, h2, h3⟩
  · obtain ⟨z, its, n, r, e⟩ := h.ok J.hok
    exact ⟨z, its, n, r, r.length, e⟩
  · exact ⟨by rw [h3.length]; exact h2, its, n, h3, h3.length, J.kIn a _ h1⟩
mutual
inductive Rp (K : PySem.W.Frag) (I : Hp) : V → PyData → Prop
  | non : Rp K I .non .none
  | bl (b : Bool) : Rp K I (.bl b) (.bool b)
  | int (i : Int) : Rp K I (.int i) (.int i)
  | str (x : Str) : Rp K I (.str x) (.str x)
  | lst {a : Addr} {xs : List V} {ds : List PyData} : LsL K I a xs → RpAll K I xs ds → Rp K I (.ref a) (.list ds)
  | tup {a : Addr} {xs : List V} {ds : List PyData} : SqT K I a xs → RpAll K I xs ds → Rp K I (.ref a) (.tuple ds)
  | dic {a : Addr} {kvs : List (Key × V)} {es : List (PyData × PyData)} : I a = some (.dK kvs) → RpKv K I kvs es → Rp K I (.ref a) (.dict es)
inductive RpAll (K : PySem.W.Frag) (I : Hp) : List V → List PyData → Prop
  | nil : RpAll K I [] []
  | cons {v : V} {vs : List V} {d : PyData} {ds : List PyData} : Rp K I v d → RpAll K I vs ds → RpAll K I (v :: vs) (d :: ds)
inductive RpKv (K : PySem.W.Frag) (I : Hp) : List (Key × V) → List (PyData × PyData) → Prop
  | nil : RpKv K I [] []
  | cons {k : Key} {v : V} {kvs : List (Key × V)} {d : PyData} {es : List (PyData × PyData)} : Rp K I v d → RpKv K I kvs es → RpKv K I ((k, v) :: kvs) ((kD k, d) :: es)
end
section
variable {K : PySem.W.Frag} {I I' H H' : Hp}
theorem same_rd {a : Addr} {u : HO} (e : Same I I') (h : Rd I a u) : Rd I' a u := by
  rcases h with h | ⟨o, h⟩
  · exact .inl (e _ _ h)
  · exact .inr ⟨o, e _ _ h⟩
theorem same_l {a : Addr} {xs : List V} (e : Same I I') (h : SqL K I a xs) : SqL K I' a xs := by
  rcases h with h | h
  · exact .inl (same_rd e h)
  · exact .inr h
theorem same_t {a : Addr} {xs : List V} (e : Same I I') (h : SqT K I a xs) : SqT K I' a xs := by
  rcases h with h | h
  · exact .inl (same_rd e h)
  · exact .inr h
theorem LsL.mono {a : Addr} {xs : List V} (e : Same I I') (h : LsL K I a xs) : LsL K I' a xs := by
  rcases h with h | h
  · exact .inl (same_rd e h)
  · exact .inr h
mutual
theorem Rp.mono (e : Same I I') : ∀ {v : V} {d : PyData}, Rp K I v d → Rp K I' v d
  | _, _, .non => .non
  | _, _, .bl b => .bl b
  | _, _, .int i => .int i
  | _, _, .str x => .str x
  | _, _, .lst s a => .lst (LsL.mono e s) (RpAll.mono e a)
  | _, _, .tup s a => .tup (same_t e s) (RpAll.mono e a)
  | _, _, .dic s a => .dic (e _ _ s) (RpKv.mono e a)
theorem RpAll.mono (e : Same I I') : ∀ {vs : List V} {ds : List PyData}, RpAll K I vs ds → RpAll K I' vs ds
  | _, _, .nil => .nil
  | _, _, .cons h t => .cons (Rp.mono e h) (RpAll.mono e t)
theorem RpKv.mono (e : Same I I') : ∀ {vs : List (Key × V)} {ds : List (PyData × PyData)}, RpKv K I vs ds → RpKv K I' vs ds
  | _, _, .nil => .nil
  | _, _, .cons h t => .cons (Rp.mono e h) (RpKv.mono e t)
end
theorem RpAll.length : ∀ {vs : List V} {ds : List PyData}, RpAll K I vs ds → vs.length = ds.length
  | _, _, .nil => rfl
  | _, _, .cons _ t => by simp [t.length]
theorem RpAll.get : ∀ {vs : List V} {ds : List PyData} {i : Nat} {d : PyData}, RpAll K I vs ds → ds[i]? = some d → ∃ v, vs[i]? = some v ∧ Rp K I v d
  | _, _, _, _, .nil, e => by simp at e
  | _, _, 0, _, .cons h _, e => by simp at e; subst e; exact ⟨_, rfl, h⟩
  | _, _, i + 1, d, .cons _ t, e => by
    obtain ⟨v, h1, h2⟩ := RpAll.get (i := i) (d := d) t (by simpa using e)
    exact ⟨v, by simpa using h1, h2⟩
theorem RpAll.app : ∀ {vs ws : List V} {ds es : List PyData}, RpAll K I vs ds → RpAll K I ws es → RpAll K I (vs ++ ws) (ds ++ es)
  | _, _, _, _, .nil, s => s
  | _, _, _, _, .cons h t, s => .cons h (t.app s)
theorem RpAll.takes : ∀ {vs : List V} {ds : List PyData} (n : Nat), RpAll K I vs ds → RpAll K I (vs.take n) (ds.take n)
  | _, _, 0, _ => .nil
  | _, _, _ + 1, .nil => .nil
  | _, _, n + 1, .cons h t => .cons h (t.takes n)
theorem RpAll.drops : ∀ {vs : List V} {ds : List PyData} (n : Nat), RpAll K I vs ds → RpAll K I (vs.drop n) (ds.drop n)
  | _, _, 0, h => h
  | _, _, _ + 1, .nil => .nil
  | _, _, n + 1, .cons _ t => t.drops n
theorem RpAll.rev : ∀ {vs : List V} {ds : List PyData}, RpAll K I vs ds → RpAll K I vs.reverse ds.reverse
  | _, _, .nil => .nil
  | _, _, .cons h t => by
    rw [List.reverse_cons, List.reverse_cons]
    exact t.rev.app (.cons h .nil)
theorem RpAll.sets : ∀ {vs : List V} {ds : List PyData} {v : V} {d : PyData} (i : Nat), RpAll K I vs ds → Rp K I v d → RpAll K I (vs.set i v) (ds.set i d)
  | _, _, _, _, _, .nil, _ => .nil
  | _, _, _, _, 0, .cons _ t, h => .cons h t
  | _, _, _, _, i + 1, .cons h0 t, h => .cons h0 (t.sets i h)

/-! ### an owned thing in a heap -/
/-- the rows of an owned list of owned lists -/
inductive Rows (K : PySem.W.Frag) (I H : Hp) : List Addr → List (List PyData) → Prop
  | nil : Rows K I H [] []
  | cons {a : Addr} {as : List Addr} {us : List V} {r : List PyData} {rs : List (List PyData)} : H a = some (.lst us) → RpAll K I us r → Rows K I H as rs → Rows K I H (a :: as) (r :: rs)
def RepO (K : PySem.W.Frag) (I H : Hp) : O → V → List Addr → Prop
  | .fr d, v, F => F = [] ∧ Rp K I v d
  | .ol ds, v, F => ∃ a vs, v = .ref a ∧ F = [a] ∧ H a = some (.lst vs) ∧ RpAll K I vs ds
  | .oo rs, v, F => ∃ a as, v = .ref a ∧ F = a :: as ∧ (a :: as).Nodup ∧ H a = some (.lst (as.map V.ref)) ∧ Rows K I H as rs
theorem Rows.mono {as : List Addr} {rs : List (List PyData)} (e : Same I I') (h : Rows K I H as rs) (k : ∀ a ∈ as, H' a = H a) : Rows K I' H' as rs := by
  induction h with
  | nil => exact .nil
  | cons h1 h2 _ ih => exact .cons (by rw [k _ (by simp)]; exact h1) (h2.mono e) (ih fun a ha => k a (by simp [ha]))
theorem Rows.dom {as : List Addr} {rs : List (List PyData)} (h : Rows K I H as rs) : ∀ a ∈ as, ∃ o, H a = some o := by
  induction h with
  | nil => intro a ha; cases ha
  | cons h1 _ _ ih =>
    intro a ha
    rcases List.mem_cons.mp ha with rfl | ha
    · exact ⟨_, h1⟩
    · exact ih a ha
theorem Rows.frz {as : List Addr} {rs : List (List PyData)} (e : Same I I') (h : Rows K I H as rs) (k : ∀ a ∈ as, I' a = H a) : RpAll K I' (as.map V.ref) (rs.map PyData.list) := by
  induction h with
  | nil => exact .nil
  | cons h1 h2 _ ih => exact .cons (.lst (LsL.of (by rw [k _ (by simp)]; exact h1)) (h2.mono e)) (ih fun a ha => k a (by simp [ha]))
theorem RepO.mono {o : O} {v : V} {F : List Addr} (h : RepO K I H o v F) (e : Same I I') (k : ∀ a ∈ F, H' a = H a) : RepO K I' H' o v F := by
  cases o with
  | fr d => exact ⟨h.1, h.2.mono e⟩
  | ol ds =>
    obtain ⟨a, vs, rfl, rfl, h1, h2⟩ := h
    exact ⟨a, vs, rfl, rfl, by rw [k a (by simp)]; exact h1, h2.mono e⟩
  | oo rs =>
    obtain ⟨a, as, rfl, rfl, nd, h1, h2⟩ := h
    exact ⟨a, as, rfl, rfl, nd, by rw [k a (by simp)]; exact h1, h2.mono e fun b hb => k b (by simp [hb])⟩
theorem RepO.dom {o : O} {v : V} {F : List Addr} (h : RepO K I H o v F) : ∀ a ∈ F, ∃ u, H a = some u := by
  cases o with
  | fr d => intro a ha; rw [h.1] at ha; cases ha
  | ol ds =>
    obtain ⟨a, vs, rfl, rfl, h1, h2⟩ := h
    intro b hb
    simp at hb; subst hb
    exact ⟨_, h1⟩
  | oo rs =>
    obtain ⟨a, as, rfl, rfl, nd, h1, h2⟩ := h
    intro b hb
    rcases List.mem_cons.mp hb with rfl | hb
    · exact ⟨_, h1⟩
    · exact h2.dom b hb
/-- the heap with F frozen -/
def frz (I H : Hp) (F : List Addr) : Hp := fun a => if a ∈ F then H a else I a
theorem frz_same {F : List Addr} (d : ∀ a ∈ F, I a = none) : Same I (frz I H F) := fun a o e => by
  unfold frz
  rw [if_neg (fun h => by rw [d a h] at e; cases e)]
  exact e
theorem frz_sub {F : List Addr} (s : Same I H) : Same (frz I H F) H := fun a o e => by
  unfold frz at e
  split at e
  · exact e
  · exact s _ _ e
theorem RepO.frz {o : O} {v : V} {F : List Addr} (h : RepO K I H o v F) (d : ∀ a ∈ F, I a = none) : Rp K (frz I H F) v o.data := by
  have e := frz_same (H := H) d
  cases o with
  | fr d => exact h.2.mono e
  | ol ds =>
    obtain ⟨a, vs, rfl, rfl, h1, h2⟩ := h
    exact .lst (LsL.of (by unfold Dy.frz; rw [if_pos (by simp)]; exact h1)) (h2.mono e)
  | oo rs =>
    obtain ⟨a, as, rfl, rfl, nd, h1, h2⟩ := h
    refine .lst (LsL.of (by unfold Dy.frz; rw [if_pos (by simp)]; exact h1)) (h2.frz e fun b hb => ?_)
    unfold Dy.frz; rw [if_pos (by simp [hb])]
end

/-! ### steps of heaps: I what is frozen, H all, S what is owned -/
structure Step (I H : Hp) (S : Addr → Prop) (I' H' : Hp) (S' : Addr → Prop) : Prop where
  i1 : Same I I'
  fr : ∀ a o, H a = some o → ¬ S a → H' a = some o
  s' : ∀ a, S' a → S a ∨ H a = none
  i' : ∀ a o, I' a = some o → I a = some o ∨ S a ∨ H a = none
section
variable {I H I1 H1 I2 H2 : Hp} {S S1 S2 : Addr → Prop}
theorem Step.refl : Step I H S I H S := ⟨Same.refl _, fun _ _ h _ => h, fun _ h => .inl h, fun _ _ h => .inl h⟩
theorem Step.back (a : Step I H S I1 H1 S1) {x : Addr} (h : S1 x ∨ H1 x = none) : S x ∨ H x = none := by
  rcases h with h | h
  · exact a.s' x h
  · cases q : H x with
    | none => exact .inr rfl
    | some o =>
      by_cases hs : S x
      · exact .inl hs
      · rw [a.fr x o q hs] at h; cases h
theorem Step.trans (a : Step I H S I1 H1 S1) (b : Step I1 H1 S1 I2 H2 S2) : Step I H S I2 H2 S2 := by
  refine ⟨a.i1.trans b.i1, fun x o h hs => ?_, fun x h => a.back (b.s' x h), fun x o h => ?_⟩
  · refine b.fr x o (a.fr x o h hs) fun h1 => ?_
    rcases a.s' x h1 with z | z
    · exact hs z
    · rw [h] at z; cases z
  · rcases b.i' x o h with z | z
    · exact a.i' x o z
    · exact .inr (a.back z)
/-- less is owned behind it -/
theorem Step.less (a : Step I H S I1 H1 S1) (h : ∀ x, S2 x → S1 x) : Step I H S I1 H1 S2 := ⟨a.i1, a.fr, fun x q => a.s' x (h x q), a.i'⟩
/-- something owned stands aside -/
theorem Step.aside (a : Step I H S I1 H1 S1) (T : Addr → Prop) (ht : ∀ x, T x → ∃ o, H x = some o) (hd : ∀ x, T x → ¬ S x) : Step I H (fun x => S x ∨ T x) I1 H1 (fun x => S1 x ∨ T x) := by
  refine ⟨a.i1, fun x o h hs => a.fr x o h fun z => hs (.inl z), fun x h => ?_, fun x o h => ?_⟩
  · rcases h with h | h
    · rcases a.s' x h with z | z
      · exact .inl (.inl z)
      · exact .inr z
    · exact .inl (.inr h)
  · rcases a.i' x o h with z | z | z
    · exact .inl z
    · exact .inr (.inl (.inl z))
    · exact .inr (.inr z)
end
/-- what is owned aside stays as it is -/
theorem Step.keeps {I H I1 H1 : Hp} {S S1 : Addr → Prop} (a : Step I H S I1 H1 S1) {F : List Addr} (hd : ∀ x ∈ F, ∃ o, H x = some o) (hn : ∀ x ∈ F, ¬ S x) : ∀ x ∈ F, H1 x = H x := fun x hx => by
  obtain ⟨o, h⟩ := hd x hx
  rw [h, a.fr x o h (hn x hx)]

/-! ### a frame's names -/
/-- the slots that hold what they held at the entry, and that -/
abbrev Pn := List Nat × (Nat → V)
def Ow (F : Nat → List Addr) : Addr → Prop := fun a => ∃ i, a ∈ F i
structure Sim (K : PySem.W.Frag) (π : Pn) (I H : Hp) (σ : St) (env : Env) (F : Nat → List Addr) : Prop where
  len : env.length = σ.length
  rep : ∀ (i : Nat) (o : O), env[i]? = some (some o) → ∃ v, σ[i]? = some (some v) ∧ RepO K I H o v (F i)
  out : ∀ i : Nat, (∀ o, env[i]? ≠ some (some o)) → F i = []
  dis : ∀ (i j : Nat) (a : Addr), a ∈ F i → a ∈ F j → i = j
  djI : ∀ (i : Nat) (a : Addr), a ∈ F i → I a = none
  sub : Same I H
  pin : ∀ i ∈ π.1, σ[i]? = some (some (π.2 i))
section
variable {K : PySem.W.Frag} {π : Pn} {I H I' H' : Hp} {σ : St} {env : Env} {F : Nat → List Addr}
theorem Sim.dom (s : Sim K π I H σ env F) {i : Nat} {a : Addr} (h : a ∈ F i) : ∃ o, H a = some o := by
  by_cases q : ∃ o, env[i]? = some (some o)
  · obtain ⟨o, q⟩ := q
    obtain ⟨v, _, r⟩ := s.rep i o q
    exact r.dom a h
  · rw [s.out i fun o e => q ⟨o, e⟩] at h; cases h
theorem Sim.domO (s : Sim K π I H σ env F) {a : Addr} (h : Ow F a) : ∃ o, H a = some o := let ⟨_, q⟩ := h; s.dom q
/-- a slot is changed -/
def upF (F : Nat → List Addr) (i : Nat) (R : List Addr) : Nat → List Addr := fun j => if j = i then R else F j
theorem upF_same {i : Nat} {R : List Addr} : upF F i R i = R := if_pos rfl
theorem upF_ne {i j : Nat} {R : List Addr} (h : j ≠ i) : upF F i R j = F j := if_neg h
/-- the frame over a greater frozen heap, the other slots' things untouched -/
theorem Sim.put (s : Sim K π I H σ env F) {i : Nat} {x : Option O} {sv : Option V} {R : List Addr} (hi : i < env.length) (e : Same I I') (sub : Same I' H')
    (k : ∀ j, j ≠ i → ∀ a ∈ F j, H' a = H a) (nI : ∀ j, j ≠ i → ∀ a ∈ F j, I' a = none) (nR : ∀ a ∈ R, I' a = none) (dR : ∀ j, j ≠ i → ∀ a ∈ F j, a ∉ R)
    (hx : ∀ o, x = some o → ∃ v, sv = some v ∧ RepO K I' H' o v R) (hn : x = none → R = []) (hp : i ∈ π.1 → sv = some (π.2 i)) : Sim K π I' H' (σ.set i sv) (env.set i x) (upF F i R) := by
  refine ⟨by simp [s.len], fun j o q => ?_, fun j q => ?_, fun j l a h1 h2 => ?_, fun j a h => ?_, sub, fun p hp' => ?_⟩
  · by_cases hj : j = i
    · subst hj
      rw [List.getElem?_set_self hi] at q
      obtain ⟨v, e1, r⟩ := hx o (Option.some.inj q)
      exact ⟨v, by rw [List.getElem?_set_self (by rw [← s.len]; exact hi), e1], by rw [upF_same]; exact r⟩
    · rw [List.getElem?_set_ne (Ne.symm hj)] at q
      obtain ⟨v, e1, r⟩ := s.rep j o q
      exact ⟨v, by rw [List.getElem?_set_ne (Ne.symm hj)]; exact e1, by rw [upF_ne hj]; exact r.mono e (k j hj)⟩
  · by_cases hj : j = i
    · subst hj
      rw [upF_same]
      cases x with
      | none => exact hn rfl
      | some o => exact absurd (List.getElem?_set_self hi) (q o)
    · rw [upF_ne hj]
      exact s.out j fun o z => q o (by rw [List.getElem?_set_ne (Ne.symm hj)]; exact z)
  · by_cases hj : j = i
    · by_cases hl : l = i
      · rw [hj, hl]
      · subst hj
        rw [upF_same] at h1
        rw [upF_ne hl] at h2
        exact absurd h1 (dR l hl a h2)
    · by_cases hl : l = i
      · subst hl
        rw [upF_same] at h2
        rw [upF_ne hj] at h1
        exact absurd h2 (dR j hj a h1)
      · rw [upF_ne hj] at h1
        rw [upF_ne hl] at h2
        exact s.dis j l a h1 h2
  · by_cases hj : j = i
    · subst hj; rw [upF_same] at h; exact nR a h
    · rw [upF_ne hj] at h; exact nI j hj a h
  · by_cases hj : p = i
    · subst hj
      rw [List.getElem?_set_self (by rw [← s.len]; exact hi), hp hp']
    · rw [List.getElem?_set_ne (Ne.symm hj)]; exact s.pin p hp'
/-- the frame as it is, over another heap -/
theorem Sim.heap (s : Sim K π I H σ env F) (e : Same I I') (sub : Same I' H') (k : ∀ a, Ow F a → H' a = H a) (nI : ∀ a, Ow F a → I' a = none) : Sim K π I' H' σ env F :=
  ⟨s.len, fun i o q => let ⟨v, e1, r⟩ := s.rep i o q; ⟨v, e1, r.mono e fun a ha => k a ⟨i, ha⟩⟩, s.out, s.dis, fun i a h => nI a ⟨i, h⟩, sub, s.pin⟩
theorem set_same {α : Type} : ∀ {l : List α} {i : Nat} {x : α}, l[i]? = some x → l.set i x = l
  | [], _, _, h => by simp at h
  | a :: l, 0, x, h => by simp at h; subst h; rfl
  | a :: l, i + 1, x, h => by
    rw [List.set_cons_succ, set_same (by simpa using h)]
end

/-! ### behind an expression -/
/-- its value is o at v; R: what o owns -/
def Aft (K : PySem.W.Frag) (π : Pn) (I H : Hp) (F : Nat → List Addr) (σ : St) (env' : Env) (o : O) (v : V) (H' : Hp) : Prop :=
  ∃ I' F' R, RepO K I' H' o v R ∧ Sim K π I' H' σ env' F' ∧ (∀ a ∈ R, I' a = none) ∧ (∀ a, Ow F' a → a ∉ R) ∧ Step I H (Ow F) I' H' (fun a => Ow F' a ∨ a ∈ R)
/-- its value is the data d at v -/
def AftD (K : PySem.W.Frag) (π : Pn) (I H : Hp) (F : Nat → List Addr) (σ : St) (env' : Env) (d : PyData) (v : V) (H' : Hp) : Prop :=
  ∃ I' F', Rp K I' v d ∧ Sim K π I' H' σ env' F' ∧ Step I H (Ow F) I' H' (Ow F')
/-- behind a statement -/
def AftS (K : PySem.W.Frag) (π : Pn) (I H : Hp) (F : Nat → List Addr) (σ' : St) (env' : Env) (H' : Hp) : Prop :=
  ∃ I' F', Sim K π I' H' σ' env' F' ∧ Step I H (Ow F) I' H' (Ow F')
/-- an exception has come -/
def Err (I H : Hp) (S : Addr → Prop) (H' : Hp) : Prop := ∃ I', Same I I' ∧ Same I' H' ∧ ∀ a o, H a = some o → ¬ S a → H' a = some o
section
variable {K : PySem.W.Frag} {π : Pn} {I H I1 H1 H2 : Hp} {σ σ' : St} {env : Env} {F F1 : Nat → List Addr} {o : O} {d : PyData} {v : V}
theorem Aft.frz (h : Aft K π I H F σ env o v H1) : AftD K π I H F σ env o.data v H1 := by
  obtain ⟨I', F', R, r, s, nR, dR, st⟩ := h
  have e : Same I' (Dy.frz I' H1 R) := frz_same nR
  refine ⟨Dy.frz I' H1 R, F', r.frz nR, s.heap e (frz_sub s.sub) (fun _ _ => rfl) (fun a ha => ?_), ⟨st.i1.trans e, st.fr, fun a ha => st.s' a (.inl ha), fun a u q => ?_⟩⟩
  · unfold Dy.frz; rw [if_neg (dR a ha)]; obtain ⟨i, hi⟩ := ha; exact s.djI i a hi
  · unfold Dy.frz at q
    split at q
    · exact .inr (st.s' a (.inr (by assumption)))
    · exact st.i' a u q
theorem AftD.toS (h : AftD K π I H F σ env d v H1) : AftS K π I H F σ env H1 := let ⟨I', F', _, s, st⟩ := h; ⟨I', F', s, st⟩
theorem AftD.aft (h : AftD K π I H F σ env d v H1) : Aft K π I H F σ env (.fr d) v H1 := by
  obtain ⟨I', F', r, s, st⟩ := h
  exact ⟨I', F', [], ⟨rfl, r⟩, s, fun a ha => (nomatch ha), fun a _ ha => (nomatch ha), st.less fun a ha => Or.elim ha id fun z => (nomatch z)⟩
theorem AftS.trans (st : Step I H (Ow F) I1 H1 (Ow F1)) (h : AftS K π I1 H1 F1 σ env H2) : AftS K π I H F σ env H2 := let ⟨I', F', s, t⟩ := h; ⟨I', F', s, st.trans t⟩
theorem AftD.trans (st : Step I H (Ow F) I1 H1 (Ow F1)) (h : AftD K π I1 H1 F1 σ env d v H2) : AftD K π I H F σ env d v H2 := let ⟨I', F', r, s, t⟩ := h; ⟨I', F', r, s, st.trans t⟩
theorem Aft.trans (st : Step I H (Ow F) I1 H1 (Ow F1)) (h : Aft K π I1 H1 F1 σ env o v H2) : Aft K π I H F σ env o v H2 := let ⟨I', F', R, r, s, a, b, t⟩ := h; ⟨I', F', R, r, s, a, b, st.trans t⟩
theorem Err.trans {S S1 : Addr → Prop} (st : Step I H S I1 H1 S1) (h : Err I1 H1 S1 H2) : Err I H S H2 := by
  obtain ⟨I', e, s, k⟩ := h
  refine ⟨I', st.i1.trans e, s, fun a u q n => k a u (st.fr a u q n) fun z => ?_⟩
  rcases st.s' a z with y | y
  · exact n y
  · rw [q] at y; cases y
theorem Err.of {S S1 : Addr → Prop} (st : Step I H S I1 H1 S1) (s : Same I1 H1) : Err I H S H1 := ⟨I1, st.i1, s, st.fr⟩
end
end Dy

/-! D1: the judgements: an expression, a test, a statement by its mirror. -/
namespace Dy
open PySem PySem.Spec PyProof.Rows L2

/-- an exception of the program as HandS tells it: its class's address, its own dict -/
def XR (mg : Str → Option Value) (x : Exn) (c : Value) (d : Option Addr) (_H : Hp) : Prop := ∃ a, mg x.cls = some (.ref a) ∧ c = .ref a ∧ (x.args = [] → d = none)
/-- what is carried: the written part, the module's names, the pinned slots, the wish about exceptions -/
structure G where
  K : PySem.W.Frag
  mg : Str → Option Value
  pn : Pn
  E : XK
def G.err (g : G) (I H : Hp) (F : Nat → List Addr) (x : Exn) : Prop := ∀ H' c d, Err I H (Ow F) H' → XR g.mg x c d H' → g.E c d H'

abbrev EF := Env → Res (O × Env)
abbrev TF := Env → Res (Bool × Env)
inductive Fl where
  | nx | bk | ct
  | rt (o : O)
abbrev SF := Env → Res (Fl × Env)

def tD (g : G) (f : EF) : TE := fun σ H Q => ∃ I env F, Sim g.K g.pn I H σ env F ∧ (f env).post (fun r => ∀ v H', Aft g.K g.pn I H F σ r.2 r.1 v H' → Q v H') (g.err I H F)
def tT (g : G) (f : TF) : TT := fun σ H Q => ∃ I env F, Sim g.K g.pn I H σ env F ∧ (f env).post (fun r => ∀ H', AftS g.K g.pn I H F σ r.2 H' → Q r.1 H') (g.err I H F)
def FlP (g : G) (D : Ends) (I H : Hp) (F : Nat → List Addr) : Fl × Env → Prop
  | (.nx, e) => ∀ σ' H', AftS g.K g.pn I H F σ' e H' → D.nx σ' H'
  | (.bk, e) => ∀ σ' H', AftS g.K g.pn I H F σ' e H' → D.bk σ' H'
  | (.ct, e) => ∀ σ' H', AftS g.K g.pn I H F σ' e H' → D.ct σ' H'
  | (.rt o, e) => ∀ v σ' H', Aft g.K g.pn I H F σ' e o v H' → D.rt v H'
def tS (g : G) (f : SF) : TS := fun D σ H => ∃ I env F, Sim g.K g.pn I H σ env F ∧ (f env).post (FlP g D I H F) (g.err I H F)

/-! ### arguments: by value, or a name that is read (or lent) when all are there -/
inductive AF where
  | v (f : EF)
  | s (i : Nat)
inductive AV where
  | d (x : PyData)
  | s (i : Nat)
def evA : List AF → Env → Res (List AV × Env)
  | [], e => .ok ([], e)
  | .v f :: as, e => f e >>= fun r => evA as r.2 >>= fun q => .ok (.d r.1.data :: q.1, q.2)
  | .s i :: as, e => match e[i]? with
    | some (some _) => evA as e >>= fun q => .ok (.s i :: q.1, q.2)
    | _ => .no
inductive RepAV (K : PySem.W.Frag) (I : Hp) (σ : St) : List AV → List V → Prop
  | nil : RepAV K I σ [] []
  | d {x : PyData} {v : V} {as : List AV} {vs : List V} : Rp K I v x → RepAV K I σ as vs → RepAV K I σ (.d x :: as) (v :: vs)
  | s {i : Nat} {v : V} {as : List AV} {vs : List V} : σ[i]? = some (some v) → RepAV K I σ as vs → RepAV K I σ (.s i :: as) (v :: vs)
def tArg (g : G) : AF → TE
  | .v f => tD g f
  | .s i => tVar i
def tA (g : G) (as : List AF) : TA := fun σ H Q => ∃ I env F, Sim g.K g.pn I H σ env F ∧
  (evA as env).post (fun r => ∀ vs H' I' F', Sim g.K g.pn I' H' σ r.2 F' → Step I H (Ow F) I' H' (Ow F') → RepAV g.K I' σ r.1 vs → Q vs H') (g.err I H F)
section
variable {g : G} {σ : St} {H : Hp}
theorem err_step {I I1 H1 : Hp} {F F1 : Nat → List Addr} {x : Exn} (st : Step I H (Ow F) I1 H1 (Ow F1)) (h : g.err I H F x) : g.err I1 H1 F1 x := fun H' c d e r => h H' c d (Err.trans st e) r
theorem tA_nil {Q : List V → Hp → Prop} (h : tA g [] σ H Q) : Q [] H := by
  obtain ⟨I, env, F, s, p⟩ := h
  exact p [] H I F s Step.refl .nil
theorem tA_cons {a : AF} {as : List AF} {Q : List V → Hp → Prop} (h : tA g (a :: as) σ H Q) : tArg g a σ H fun x H1 => tA g as σ H1 fun xs H2 => Q (x :: xs) H2 := by
  obtain ⟨I, env, F, s, p⟩ := h
  cases a with
  | v f =>
    refine ⟨I, env, F, s, ?_⟩
    unfold evA at p
    cases q : f env with
    | no => rw [q] at p; exact p
    | er x => rw [q] at p; exact p
    | ok r =>
      rw [q] at p
      intro v H1 af
      obtain ⟨I1, F1, rp, s1, st1⟩ := af.frz
      refine ⟨I1, r.2, F1, s1, ?_⟩
      rw [bind_ok] at p
      cases q2 : evA as r.2 with
      | no => rw [q2] at p; exact p
      | er x => rw [q2] at p; exact err_step st1 p
      | ok r2 =>
        rw [q2] at p
        intro vs H2 I2 F2 s2 st2 av
        exact p (v :: vs) H2 I2 F2 s2 (st1.trans st2) (.d (rp.mono st2.i1) av)
  | s i =>
    unfold evA at p
    cases q0 : env[i]? with
    | none => rw [q0] at p; exact p.elim
    | some y =>
      cases y with
      | none => rw [q0] at p; exact p.elim
      | some o =>
        rw [q0] at p
        obtain ⟨v, hv, _⟩ := s.rep i o q0
        refine ⟨v, hv, I, env, F, s, ?_⟩
        cases q2 : evA as env with
        | no => simp only [q2] at p; exact p
        | er x => simp only [q2] at p; exact p
        | ok r2 =>
          simp only [q2] at p
          intro vs H2 I2 F2 s2 st2 av
          exact p (v :: vs) H2 I2 F2 s2 st2 (.s hv av)
end

/-! ### weaker readings -/
theorem PE.imp {X : Cx} {e : Expr} {t u : TE} (h : PE X e t) (i : ∀ σ H Q, u σ H Q → t σ H Q) : PE X e u := ⟨fun pins s σ H Q I q => h.run pins s σ H Q I (i σ H Q q)⟩
theorem PT.imp {X : Cx} {e : Expr} {t u : TT} (h : PT X e t) (i : ∀ σ H Q, u σ H Q → t σ H Q) : PT X e u := ⟨fun pins s σ H Q I q => h.run pins s σ H Q I (i σ H Q q)⟩
theorem PW.imp {X : Cx} {e : Expr} {t u : TT} (h : PW X e t) (i : ∀ σ H Q, u σ H Q → t σ H Q) : PW X e u := ⟨fun wh pins s σ H Q I q => h.run wh pins s σ H Q I (i σ H Q q)⟩
theorem PA.imp {X : Cx} {e : List Expr} {t u : TA} (h : PA X e t) (i : ∀ σ H Q, u σ H Q → t σ H Q) : PA X e u := ⟨fun ps pins s σ H Q I q => h.run ps pins s σ H Q I (i σ H Q q)⟩
theorem PS.imp {X : Cx} {e : Stmt} {t u : TS} (h : PS X e t) (i : ∀ D σ H, u D σ H → t D σ H) : PS X e u := ⟨fun pins s σ H D I q => h.run pins s σ H D I (i D σ H q)⟩
theorem PSs.imp {X : Cx} {e : List Stmt} {t u : TS} (h : PSs X e t) (i : ∀ D σ H, u D σ H → t D σ H) : PSs X e u := ⟨fun pins s σ H D I q => h.run pins s σ H D I (i D σ H q)⟩
theorem PI.imp {X : Cx} {tg e : Expr} {t u : TI} (h : PI X tg e t) (i : ∀ σ H Q, u σ H Q → t σ H Q) : PI X tg e u := ⟨fun pins s σ H Q I q => h.run pins s σ H Q I (i σ H Q q)⟩
theorem PG.imp {X : Cx} {e : Expr} {t u : TG} (h : PG X e t) (i : ∀ v σ H Q, u v σ H Q → t v σ H Q) : PG X e u := ⟨fun pins s σ H v w Q I r q => h.run pins s σ H v w Q I r (i v σ H Q q)⟩

/-! ### the judgements -/
def DE (g : G) (X : Cx) (e : Expr) (f : EF) : Prop := PE X e (tD g f)
def DX (g : G) (X : Cx) (e : Expr) (a : AF) : Prop := PE X e (tArg g a)
def DA (g : G) (X : Cx) (es : List Expr) (as : List AF) : Prop := PA X es (tA g as)
def DT (g : G) (X : Cx) (e : Expr) (f : TF) : Prop := PT X e (tT g f)
def DW (g : G) (X : Cx) (e : Expr) (f : TF) : Prop := PW X e (tT g f)
def DS (g : G) (X : Cx) (st : Stmt) (f : SF) : Prop := PS X st (tS g f)
def DSs (g : G) (X : Cx) (st : List Stmt) (f : SF) : Prop := PSs X st (tS g f)

section
variable {g : G} {X : Cx} {e : Expr} {es : List Expr}
theorem dx_v {f : EF} (h : DE g X e f) : DX g X e (.v f) := h
theorem dx_s {x : Str} {pos : Pos} (i : Nat) (h : PE X (.Name x pos) (tVar i)) : DX g X (.Name x pos) (.s i) := h
theorem da_nil : DA g X [] [] := PA.imp pa_nil fun σ H Q h => tA_nil h
theorem da_cons {a : AF} {as : List AF} (h : DX g X e a) (hr : DA g X es as) (hs : starEach (e :: es) X.env = (false, eval e X.env) :: starEach es X.env := by rfl) : DA g X (e :: es) (a :: as) :=
  PA.imp (pa_cons h hr hs) fun σ H Q h => tA_cons h

/-! ### names and constants -/
def fC (d : PyData) : EF := fun env => .ok (.fr d, env)
theorem aftC {I H : Hp} {F : Nat → List Addr} {σ : St} {env : Env} {d : PyData} {v : V} (s : Sim g.K g.pn I H σ env F) (r : Rp g.K I v d) : Aft g.K g.pn I H F σ env (.fr d) v H :=
  AftD.aft ⟨I, F, r, s, Step.refl⟩
theorem de_c {v : V} {d : PyData} (h : PE X e (tC v)) (r : ∀ I, Rp g.K I v d) : DE g X e (fC d) := PE.imp h fun σ H Q q => by
  obtain ⟨I, env, F, s, p⟩ := q
  exact p v H (aftC s (r I))
theorem de_int {i j pos} : DE g X (.Constant (.int i) j pos) (fC (.int i)) := de_c pe_int fun _ => .int i
theorem de_bl {b j pos} : DE g X (.Constant (.bool b) j pos) (fC (.bool b)) := de_c pe_bl fun _ => .bl b
theorem de_non {j pos} : DE g X (.Constant .none j pos) (fC .none) := de_c pe_non fun _ => .non
theorem de_str {x j pos} : DE g X (.Constant (.str x) j pos) (fC (.str x)) := de_c pe_str fun _ => .str x
/-- a module's int -/
theorem de_gint {x : Str} {i : Int} {t : Tok} {pos : Pos} (hg : Gl X x) (hm : X.mg x = some (.int i t)) (hd : (x == ("__debug__" : Str)) = false := by decide) : DE g X (.Name x pos) (fC (.int i)) :=
  de_c (v := .int i) (pe_glob hg hm ⟨t, rfl⟩ hd) fun _ => .int i
theorem de_gstr {x : Str} {i : Str} {t : Tok} {pos : Pos} (hg : Gl X x) (hm : X.mg x = some (.str i t)) (hd : (x == ("__debug__" : Str)) = false := by decide) : DE g X (.Name x pos) (fC (.str i)) :=
  de_c (v := .str i) (pe_glob hg hm ⟨t, rfl⟩ hd) fun _ => .str i
/-- a name, its value frozen -/
def fV (i : Nat) : EF := fun env => match env[i]? with
  | some (some (.fr d)) => .ok (.fr d, env)
  | some (some o) => .ok (.fr o.data, env.set i (some (.fr o.data)))
  | _ => .no
theorem sim_frz {I H : Hp} {F : Nat → List Addr} {σ : St} {env : Env} {i : Nat} {o : O} (s : Sim g.K g.pn I H σ env F) (q : env[i]? = some (some o)) :
    ∃ v I', σ[i]? = some (some v) ∧ Rp g.K I' v o.data ∧ Sim g.K g.pn I' H σ (env.set i (some (.fr o.data))) (upF F i []) ∧ Step I H (Ow F) I' H (Ow (upF F i [])) := by
  obtain ⟨v, e1, r⟩ := s.rep i o q
  have nI : ∀ a ∈ F i, I a = none := fun a ha => s.djI i a ha
  have hi : i < env.length := by
    cases Nat.lt_or_ge i env.length with
    | inl h => exact h
    | inr h => rw [List.getElem?_eq_none h] at q; cases q
  have sm := frz_same (H := H) nI
  have rp := r.frz nI
  refine ⟨v, Dy.frz I H (F i), e1, rp, ?_, ?_⟩
  · have := s.put (i := i) (x := some (.fr o.data)) (sv := some v) (R := []) hi sm (frz_sub s.sub) (fun _ _ _ _ => rfl) (fun j hj a ha => ?_) (fun a ha => nomatch ha) (fun _ _ _ _ h => nomatch h) (fun o' e => ?_) (fun e => by cases e) (fun hp => ?_)
    · rw [set_same e1] at this; exact this
    · unfold Dy.frz; rw [if_neg (fun h => hj (s.dis j i a ha h))]; exact s.djI j a ha
    · cases e; exact ⟨v, rfl, rfl, rp⟩
    · have := s.pin i hp; rw [e1] at this; exact Option.some.inj this
  · refine ⟨sm, fun _ _ h _ => h, fun a ⟨j, ha⟩ => ?_, fun a u h => ?_⟩
    · by_cases hj : j = i
      · subst hj; rw [upF_same] at ha; cases ha
      · rw [upF_ne hj] at ha; exact .inl ⟨j, ha⟩
    · unfold Dy.frz at h
      split at h
      · exact .inr (.inl ⟨i, by assumption⟩)
      · exact .inl h
theorem de_v {x : Str} {pos : Pos} (i : Nat) (h : PE X (.Name x pos) (tVar i)) : DE g X (.Name x pos) (fV i) := PE.imp h fun σ H Q q => by
  obtain ⟨I, env, F, s, p⟩ := q
  unfold fV at p
  cases q : env[i]? with
  | none => rw [q] at p; exact p.elim
  | some y =>
    cases y with
    | none => rw [q] at p; exact p.elim
    | some o =>
      have key : (match o with | .fr d => Res.ok (O.fr d, env) | o => .ok (O.fr o.data, env.set i (some (.fr o.data)))) = .ok (O.fr o.data, env.set i (some (.fr o.data))) := by
        cases o with
        | fr d => show Res.ok (O.fr d, env) = Res.ok (O.fr d, env.set i (some (O.fr d))); rw [set_same q]
        | ol _ => rfl
        | oo _ => rfl
      rw [q] at p
      have p : (Res.ok (O.fr o.data, env.set i (some (.fr o.data)))).post (fun r => ∀ v H', Aft g.K g.pn I H F σ r.2 r.1 v H' → Q v H') (g.err I H F) := by
        rw [← key]; cases o <;> exact p
      obtain ⟨v, I', e1, rp, s', st⟩ := sim_frz s q
      exact ⟨v, e1, p v H (AftD.aft ⟨I', _, rp, s', st⟩)⟩
/-- a name whose thing goes out of the def -/
def fM (i : Nat) : EF := fun env => match env[i]? with
  | some (some o) => .ok (o, env.set i none)
  | _ => .no
theorem de_m {x : Str} {pos : Pos} (i : Nat) (h : PE X (.Name x pos) (tVar i)) : DE g X (.Name x pos) (fM i) := PE.imp h fun σ H Q q => by
  obtain ⟨I, env, F, s, p⟩ := q
  unfold fM at p
  cases q : env[i]? with
  | none => rw [q] at p; exact p.elim
  | some y =>
    cases y with
    | none => rw [q] at p; exact p.elim
    | some o =>
      rw [q] at p
      obtain ⟨v, e1, r⟩ := s.rep i o q
      have hi : i < env.length := by
        cases Nat.lt_or_ge i env.length with
        | inl h => exact h
        | inr h => rw [List.getElem?_eq_none h] at q; cases q
      refine ⟨v, e1, p v H ⟨I, upF F i [], F i, r, ?_, fun a ha => s.djI i a ha, fun a ⟨j, hj⟩ ha => ?_, ?_⟩⟩
      · have := s.put (i := i) (x := none) (sv := some v) (R := []) hi (Same.refl _) s.sub (fun _ _ _ _ => rfl) (fun j _ a ha => s.djI j a ha) (fun a ha => nomatch ha) (fun _ _ _ _ h => nomatch h) (fun o' e => by cases e) (fun _ => rfl) (fun hp => ?_)
        · rw [set_same e1] at this; exact this
        · have := s.pin i hp; rw [e1] at this; exact Option.some.inj this
      · by_cases h : j = i
        · subst h; rw [upF_same] at hj; cases hj
        · rw [upF_ne h] at hj; exact h (s.dis j i a hj ha)
      · refine ⟨Same.refl _, fun _ _ h _ => h, fun a ha => .inl ?_, fun _ _ h => .inl h⟩
        rcases ha with ⟨j, hj⟩ | ha
        · by_cases h : j = i
          · subst h; rw [upF_same] at hj; cases hj
          · rw [upF_ne h] at hj; exact ⟨j, hj⟩
        · exact ⟨i, ha⟩
end

/-! ### operations on data -/
/-- an argument that is read: data, or an owned list of data -/
def RpS (K : PySem.W.Frag) (I H : Hp) (v : V) (d : PyData) : Prop := Rp K I v d ∨ ∃ a vs ds, v = .ref a ∧ d = .list ds ∧ H a = some (.lst vs) ∧ RpAll K I vs ds
inductive RpSs (K : PySem.W.Frag) (I H : Hp) : List V → List PyData → Prop
  | nil : RpSs K I H [] []
  | cons {v : V} {d : PyData} {vs : List V} {ds : List PyData} : RpS K I H v d → RpSs K I H vs ds → RpSs K I H (v :: vs) (d :: ds)
def rsv (env : Env) : AV → Option PyData
  | .d x => some x
  | .s i => match env[i]? with
    | some (some (.fr d)) => some d
    | some (some (.ol ds)) => some (.list ds)
    | _ => none
def rsvs (env : Env) : List AV → Option (List PyData)
  | [] => some []
  | a :: as => match rsv env a, rsvs env as with
    | some d, some ds => some (d :: ds)
    | _, _ => none
theorem rsvs_rep {K : PySem.W.Frag} {π : Pn} {I H : Hp} {σ : St} {env : Env} {F : Nat → List Addr} (s : Sim K π I H σ env F) : ∀ {as : List AV} {vs : List V} {ds : List PyData}, RepAV K I σ as vs → rsvs env as = some ds → RpSs K I H vs ds
  | _, _, ds, .nil, h => by cases h; exact .nil
  | _, _, ds, .d (as := as) r t, h => by
    unfold rsvs at h
    cases q : rsvs env as with
    | none => rw [q] at h; cases h
    | some es => rw [q] at h; cases h; exact .cons (.inl r) (rsvs_rep s t q)
  | _, _, ds, .s (i := i) (as := as) r t, h => by
    unfold rsvs at h
    cases q : rsvs env as with
    | none => rw [q] at h; cases q9 : rsv env (.s i) <;> (rw [q9] at h; cases h)
    | some es =>
      rw [q] at h
      cases q2 : rsv env (.s i) with
      | none => rw [q2] at h; cases h
      | some d =>
        rw [q2] at h; cases h
        refine .cons ?_ (rsvs_rep s t q)
        simp only [rsv] at q2
        cases q3 : env[i]? with
        | none => rw [q3] at q2; cases q2
        | some y =>
          cases y with
          | none => rw [q3] at q2; cases q2
          | some o =>
            obtain ⟨w, e1, rp⟩ := s.rep i o q3
            rw [r] at e1; cases e1
            rw [q3] at q2
            cases o with
            | fr x => cases q2; exact .inl rp.2
            | ol xs =>
              cases q2
              obtain ⟨a, us, rfl, _, h1, h2⟩ := rp
              exact .inr ⟨a, us, xs, rfl, rfl, h1, h2⟩
            | oo _ => cases q2
/-- what a new value adds -/
structure Grow (K : PySem.W.Frag) (I H I' H' : Hp) (o : O) (v : V) (R : List Addr) : Prop where
  rep : RepO K I' H' o v R
  i1 : Same I I'
  h1 : Same H H'
  sub : Same I' H'
  fresh : ∀ a ∈ R, H a = none
  nI : ∀ a ∈ R, I' a = none
  i' : ∀ a o, I' a = some o → I a = some o ∨ H a = none
theorem Grow.val {K : PySem.W.Frag} {I H : Hp} {d : PyData} {v : V} (s : Same I H) (r : Rp K I v d) : Grow K I H I H (.fr d) v [] :=
  ⟨⟨rfl, r⟩, Same.refl _, Same.refl _, s, fun _ h => (nomatch h), fun _ h => (nomatch h), fun _ _ h => .inl h⟩
theorem same_new {H : Hp} {p : Addr} {o : HO} (h : H p = none) : Same H (upd H p o) := fun b x e => by
  rw [upd_ne (ne_of_none e h)]; exact e
theorem none_of_same {I H : Hp} (s : Same I H) {a : Addr} (h : H a = none) : I a = none := by
  cases q : I a with
  | none => rfl
  | some o => rw [s a o q] at h; cases h
/-- a new list of its own -/
theorem Grow.lst {K : PySem.W.Frag} {I H : Hp} {ds : List PyData} {vs : List V} {p : Addr} (s : Same I H) (n : H p = none) (r : RpAll K I vs ds) : Grow K I H I (upd H p (.lst vs)) (.ol ds) (.ref p) [p] :=
  ⟨⟨p, vs, rfl, rfl, upd_same, r⟩, Same.refl _, same_new n, s.trans (same_new n), fun a h => by simp at h; subst h; exact n, fun a h => by simp at h; subst h; exact none_of_same s n, fun _ _ h => .inl h⟩
/-- a new tuple -/
theorem Grow.tup {K : PySem.W.Frag} {I H : Hp} {ds : List PyData} {vs : List V} {p : Addr} (s : Same I H) (n : H p = none) (r : RpAll K I vs ds) : Grow K I H (upd I p (.tup vs)) (upd H p (.tup vs)) (.fr (.tuple ds)) (.ref p) [] := by
  have nI := none_of_same s n
  have e : Same I (upd I p (.tup vs)) := same_new nI
  refine ⟨⟨rfl, .tup (SqT.of upd_same) (r.mono e)⟩, e, same_new n, fun b x q => ?_, fun _ h => (nomatch h), fun _ h => (nomatch h), fun a o q => ?_⟩
  · by_cases h : b = p
    · subst h; rw [upd_same] at q ⊢; exact q
    · rw [upd_ne h] at q ⊢; exact s b x q
  · by_cases h : a = p
    · subst h; exact .inr n
    · rw [upd_ne h] at q; exact .inl q
theorem Grow.aft {K : PySem.W.Frag} {π : Pn} {I H I' H' : Hp} {o : O} {v : V} {R : List Addr} {σ : St} {env : Env} {F : Nat → List Addr} (g : Grow K I H I' H' o v R) (s : Sim K π I H σ env F) : Aft K π I H F σ env o v H' := by
  have nF : ∀ a, Ow F a → I' a = none := fun a ⟨i, ha⟩ => by
    cases q : I' a with
    | none => rfl
    | some u =>
      rcases g.i' a u q with z | z
      · rw [s.djI i a ha] at z; cases z
      · obtain ⟨w, hw⟩ := s.dom ha; rw [z] at hw; cases hw
  refine ⟨I', F, R, g.rep, s.heap g.i1 g.sub (fun a ha => ?_) nF, g.nI, fun a ha hr => ?_, ⟨g.i1, fun a u h _ => g.h1 a u h, fun a h => ?_, fun a u h => ?_⟩⟩
  · obtain ⟨w, hw⟩ := s.domO ha; rw [hw, g.h1 a w hw]
  · obtain ⟨w, hw⟩ := s.domO ha; rw [g.fresh a hr] at hw; cases hw
  · rcases h with h | h
    · exact .inl h
    · exact .inr (g.fresh a h)
  · rcases g.i' a u h with z | z
    · exact .inl z
    · exact .inr (.inr z)
/-- the operation r of HandS does on data what f tells -/
def OpS (K : PySem.W.Frag) (r : List V → Hp → VK → Prop) (f : List PyData → Option O) : Prop :=
  ∀ (vs : List V) (ds : List PyData) (I H : Hp) (Q : VK) (o : O), Same I H → RpSs K I H vs ds → f ds = some o → (∀ v H' I' R, Grow K I H I' H' o v R → Q v H') → r vs H Q
def fOp (f : List PyData → Option O) (as : List AF) : EF := fun env => evA as env >>= fun r => match rsvs r.2 r.1 with
  | none => .no
  | some ds => match f ds with
    | none => .no
    | some o => .ok (o, r.2)
end Dy

/-! D2: forms of expressions, tests, statements. -/
namespace Dy
open PySem PySem.Spec PyProof.Rows L2

section
variable {g : G} {X : Cx} {a b c e : Expr} {es : List Expr} {pos : Pos}

theorem op_key {r : List V → Hp → VK → Prop} {f : List PyData → Option O} {as : List AF} {σ : St} {H : Hp} {Q : VK} (ops : OpS g.K r f) (h : tD g (fOp f as) σ H Q) : tA g as σ H fun vs H' => r vs H' Q := by
  obtain ⟨I, env, F, s, p⟩ := h
  refine ⟨I, env, F, s, ?_⟩
  unfold fOp at p
  cases q : evA as env with
  | no => rw [q] at p; exact p
  | er x => rw [q] at p; exact p
  | ok y =>
    rw [q, bind_ok] at p
    cases q2 : rsvs y.2 y.1 with
    | none => rw [q2] at p; exact p.elim
    | some ds =>
      cases q3 : f ds with
      | none => simp only [q2, q3] at p; exact p.elim
      | some o =>
        simp only [q2, q3] at p
        intro vs H' I' F' s' st av
        exact ops vs ds I' H' Q o s'.sub (rsvs_rep s' av q2) q3 fun v H'' I'' R gr => p v H'' (Aft.trans st (gr.aft s'))
def one (r : V → Hp → VK → Prop) : List V → Hp → VK → Prop
  | [x], H, Q => r x H Q
  | _, _, _ => False
def two (r : R2) : List V → Hp → VK → Prop
  | [x, y], H, Q => r x y H Q
  | _, _, _ => False

theorem tA2 {x y : AF} {σ : St} {H : Hp} {R : List V → Hp → Prop} (h : tA g [x, y] σ H R) : tArg g x σ H fun v H1 => tArg g y σ H1 fun u H2 => R [v, u] H2 := by
  have := tA_cons h
  cases x with
  | v f =>
    obtain ⟨I, env, F, s, p⟩ := this
    refine ⟨I, env, F, s, ?_⟩
    cases q : f env with
    | no => rw [q] at p; exact p
    | er x => rw [q] at p; exact p
    | ok r =>
      rw [q] at p
      intro v H1 af
      have p2 := tA_cons (p v H1 af)
      cases y with
      | v f2 =>
        obtain ⟨I2, env2, F2, s2, p3⟩ := p2
        refine ⟨I2, env2, F2, s2, ?_⟩
        cases q2 : f2 env2 with
        | no => rw [q2] at p3; exact p3
        | er x => rw [q2] at p3; exact p3
        | ok r2 => rw [q2] at p3; intro v2 H2 af2; exact tA_nil (p3 v2 H2 af2)
      | s j =>
        obtain ⟨u, hu, p3⟩ := p2
        exact ⟨u, hu, tA_nil p3⟩
  | s i =>
    obtain ⟨v, hv, p⟩ := this
    refine ⟨v, hv, ?_⟩
    have p2 := tA_cons p
    cases y with
    | v f2 =>
      obtain ⟨I2, env2, F2, s2, p3⟩ := p2
      refine ⟨I2, env2, F2, s2, ?_⟩
      cases q2 : f2 env2 with
      | no => rw [q2] at p3; exact p3
      | er x => rw [q2] at p3; exact p3
      | ok r2 => rw [q2] at p3; intro v2 H2 af2; exact tA_nil (p3 v2 H2 af2)
    | s j =>
      obtain ⟨u, hu, p3⟩ := p2
      exact ⟨u, hu, tA_nil p3⟩
theorem tArg_mono {x : AF} {σ : St} {H : Hp} {Q Q' : VK} (h : tArg g x σ H Q) (i : ∀ v H', Q v H' → Q' v H') : tArg g x σ H Q' := by
  cases x with
  | v f =>
    obtain ⟨I, env, F, s, p⟩ := h
    refine ⟨I, env, F, s, ?_⟩
    cases q : f env with
    | no => rw [q] at p; exact p
    | er x => rw [q] at p; exact p
    | ok r => rw [q] at p; exact fun v H' af => i _ _ (p v H' af)
  | s j =>
    obtain ⟨v, hv, q⟩ := h
    exact ⟨v, hv, i _ _ q⟩
theorem tA1 {x : AF} {σ : St} {H : Hp} {R : List V → Hp → Prop} (h : tA g [x] σ H R) : tArg g x σ H fun v H1 => R [v] H1 := tArg_mono (tA_cons h) fun _ _ q => tA_nil q
theorem tA3 {x y z : AF} {σ : St} {H : Hp} {R : List V → Hp → Prop} (h : tA g [x, y, z] σ H R) : tArg g x σ H fun v H1 => tArg g y σ H1 fun u H2 => tArg g z σ H2 fun w H3 => R [v, u, w] H3 :=
  tArg_mono (tA_cons h) fun _ _ q => tArg_mono (tA_cons q) fun _ _ q => tA1 q

/-- a built-in function, a built-in type called -/
theorem de_callB {id : String} {x : Str} {p : Pos} {r : List V → Hp → VK → Prop} {f : List PyData → Option O} {as : List AF} (hc : CallR X (.builtin id) r) (ops : OpS g.K r f) (hg : Gl X x) (hm : X.mg x = none) (hv : bootBuiltins x = some (.builtin id)) (ha : DA g X (e :: es) as)
    (hn : x ≠ "__name__" := by decide) (hdb : (x == ("__debug__" : Str)) = false := by decide) (he : starEach (e :: es) X.env = (false, eval e X.env) :: starEach es X.env := by rfl) (hpl : (backTo pos (starEach es X.env)).any (·.1) = false := by rfl) :
    DE g X (.Call (.Name x p) (e :: es) [] pos) (fOp f as) := PE.imp (pe_callB hc hg hm hv ha hn hdb he hpl) fun σ H Q h => op_key ops h
theorem de_callTy {T : String} {x : Str} {p : Pos} {r : List V → Hp → VK → Prop} {f : List PyData → Option O} {as : List AF} (hc : CallR X (.type T) r) (ops : OpS g.K r f) (hg : Gl X x) (hm : X.mg x = none) (hv : bootBuiltins x = some (.type T)) (ha : DA g X (e :: es) as)
    (hn : x ≠ "__name__" := by decide) (hdb : (x == ("__debug__" : Str)) = false := by decide) (he : starEach (e :: es) X.env = (false, eval e X.env) :: starEach es X.env := by rfl) (hpl : (backTo pos (starEach es X.env)).any (·.1) = false := by rfl) :
    DE g X (.Call (.Name x p) (e :: es) [] pos) (fOp f as) := PE.imp (pe_callTy hc hg hm hv ha hn hdb he hpl) fun σ H Q h => op_key ops h
/-- a op b; a cmp b; a[b]; op a -/
theorem de_op {op : Operator} {r : R2} {f : List PyData → Option O} {x y : AF} (ho : OpR X (binaryOp op) r) (ops : OpS g.K (two r) f) (ha : DX g X a x) (hb : DX g X b y) : DE g X (.BinOp a op b pos) (fOp f [x, y]) :=
  PE.imp (pe_op ho ha hb) fun σ H Q h => tA2 (op_key ops h)
theorem de_cmp {op : CmpOp} {r : R2} {f : List PyData → Option O} {x y : AF} (ho : OpR X (compareOp op) r) (ops : OpS g.K (two r) f) (ha : DX g X a x) (hb : DX g X b y) (hm : behindInMarks op b = false) : DE g X (.Compare a [op] [b] pos) (fOp f [x, y]) :=
  PE.imp (pe_cmpR ho ha hb hm) fun σ H Q h => tA2 (op_key ops h)
theorem de_ix {r : R2} {f : List PyData → Option O} {x y : AF} (ho : IxR X r) (ops : OpS g.K (two r) f) (ha : DX g X a x) (hb : DX g X b y) (hs : PlainIx b) : DE g X (.Subscript a b pos) (fOp f [x, y]) :=
  PE.imp (pe_ix ho ha hb hs) fun σ H Q h => tA2 (op_key ops h)
theorem de_un {op : UnaryOp} {r : V → Hp → VK → Prop} {f : List PyData → Option O} {x : AF} (ho : UnR X (unaryOp op) r) (ops : OpS g.K (one r) f) (ha : DX g X a x) : DE g X (.UnaryOp op a pos) (fOp f [x]) :=
  PE.imp (pe_un ho ha) fun σ H Q h => tA1 (op_key ops h)
/-- arguments that are all data -/
def dvs : List AV → Option (List PyData)
  | [] => some []
  | .d x :: as => (dvs as).map (x :: ·)
  | .s _ :: _ => none
theorem dvs_rep {K : PySem.W.Frag} {I : Hp} {σ : St} : ∀ {as : List AV} {vs : List V} {ds : List PyData}, RepAV K I σ as vs → dvs as = some ds → RpAll K I vs ds
  | _, _, _, .nil, h => by cases h; exact .nil
  | _, _, _, .d (as := as) r t, h => by
    unfold dvs at h
    cases q : dvs as with
    | none => rw [q] at h; cases h
    | some es => rw [q] at h; cases h; exact .cons r (dvs_rep t q)
  | _, _, _, .s _ _, h => by cases h
def OpV (K : PySem.W.Frag) (r : List V → Hp → VK → Prop) (f : List PyData → Option O) : Prop :=
  ∀ (vs : List V) (ds : List PyData) (I H : Hp) (Q : VK) (o : O), Same I H → RpAll K I vs ds → f ds = some o → (∀ v H' I' R, Grow K I H I' H' o v R → Q v H') → r vs H Q
def fOv (f : List PyData → Option O) (as : List AF) : EF := fun env => evA as env >>= fun r => match dvs r.1 with
  | none => .no
  | some ds => match f ds with
    | none => .no
    | some o => .ok (o, r.2)
theorem ov_key {r : List V → Hp → VK → Prop} {f : List PyData → Option O} {as : List AF} {σ : St} {H : Hp} {Q : VK} (ops : OpV g.K r f) (h : tD g (fOv f as) σ H Q) : tA g as σ H fun vs H' => r vs H' Q := by
  obtain ⟨I, env, F, s, p⟩ := h
  refine ⟨I, env, F, s, ?_⟩
  unfold fOv at p
  cases q : evA as env with
  | no => rw [q] at p; exact p
  | er x => rw [q] at p; exact p
  | ok y =>
    rw [q, bind_ok] at p
    cases q2 : dvs y.1 with
    | none => rw [q2] at p; exact p.elim
    | some ds =>
      cases q3 : f ds with
      | none => simp only [q2, q3] at p; exact p.elim
      | some o =>
        simp only [q2, q3] at p
        intro vs H' I' F' s' st av
        exact ops vs ds I' H' Q o s'.sub (dvs_rep av q2) q3 fun v H'' I'' R gr => p v H'' (Aft.trans st (gr.aft s'))
/-- displays -/
def pTup (ds : List PyData) : Option O := if ds.length ≤ 100000 then some (.fr (.tuple ds)) else none
def pLst (ds : List PyData) : Option O := if ds.length ≤ 100000 then some (.ol ds) else none
theorem ov_tup {K : PySem.W.Frag} : OpV K (fun xs H1 Q => xs.length ≤ sizeLine ∧ ∀ p, H1 p = none → Q (.ref p) (upd H1 p (.tup xs))) pTup := fun vs ds I H Q o s r e k => by
  unfold pTup at e
  by_cases hz : ds.length ≤ 100000
  · rw [if_pos hz] at e; cases e
    exact ⟨by rw [r.length]; exact Nat.le_trans hz (by decide), fun p np => k _ _ _ _ (Grow.tup s np r)⟩
  · rw [if_neg hz] at e; cases e
theorem ov_lst {K : PySem.W.Frag} : OpV K (fun xs H1 Q => xs.length ≤ sizeLine ∧ ∀ p, H1 p = none → Q (.ref p) (upd H1 p (.lst xs))) pLst := fun vs ds I H Q o s r e k => by
  unfold pLst at e
  by_cases hz : ds.length ≤ 100000
  · rw [if_pos hz] at e; cases e
    exact ⟨by rw [r.length]; exact Nat.le_trans hz (by decide), fun p np => k _ _ _ _ (Grow.lst s np r)⟩
  · rw [if_neg hz] at e; cases e
theorem de_tup {x1} {as : List AF} (h : DA g X es as) : DE g X (.Tuple es x1 pos) (fOv pTup as) := PE.imp (pe_tup h) fun σ H Q q => ov_key ov_tup q
theorem de_lst {as : List AF} (h : DA g X es as) : DE g X (.List es pos) (fOv pLst as) := PE.imp (pe_lst h) fun σ H Q q => ov_key ov_lst q
/-- (a, *b) -/
def seqOf : PyData → Option (List PyData)
  | .list xs => some xs
  | .tuple xs => some xs
  | _ => none
def on1 (f : PyData → Option O) : List PyData → Option O
  | [a] => f a
  | _ => none
def on2 (f : PyData → PyData → Option O) : List PyData → Option O
  | [a, b] => f a b
  | _ => none
theorem ops1 {K : PySem.W.Frag} {r : V → Hp → VK → Prop} {f : PyData → Option O} (h : ∀ (v : V) (d : PyData) (I H : Hp) (Q : VK) (o : O), Same I H → RpS K I H v d → f d = some o → (∀ v H' I' R, Grow K I H I' H' o v R → Q v H') → r v H Q) : OpS K (one r) (on1 f) := by
  intro vs ds I H Q o s q e k
  match vs, ds, q with
  | _, _, .nil => simp [on1] at e
  | _, _, .cons q1 .nil => exact h _ _ I H Q o s q1 e k
  | _, _, .cons _ (.cons _ _) => simp [on1] at e
theorem ops2 {K : PySem.W.Frag} {r : R2} {f : PyData → PyData → Option O} (h : ∀ (v u : V) (d e : PyData) (I H : Hp) (Q : VK) (o : O), Same I H → RpS K I H v d → RpS K I H u e → f d e = some o → (∀ v H' I' R, Grow K I H I' H' o v R → Q v H') → r v u H Q) : OpS K (two r) (on2 f) := by
  intro vs ds I H Q o s q e k
  match vs, ds, q with
  | _, _, .nil => simp [on2] at e
  | _, _, .cons _ .nil => simp [on2] at e
  | _, _, .cons q1 (.cons q2 .nil) => exact h _ _ _ _ I H Q o s q1 q2 e k
  | _, _, .cons _ (.cons _ (.cons _ _)) => simp [on2] at e
def isL : PyData → Bool
  | .list _ => true
  | _ => false
def pStar (d x : PyData) : Option O := if isL d then none else match seqOf x with
  | some xs => if xs.length < 100000 then some (.fr (.tuple (d :: xs))) else none
  | none => none
theorem rps_rp {K : PySem.W.Frag} {I H : Hp} {v : V} {d : PyData} (h : RpS K I H v d) (n : isL d = false) : Rp K I v d := by
  rcases h with h | ⟨a, vs, ds, rfl, rfl, h1, h2⟩
  · exact h
  · cases n
theorem rps_seq {K : PySem.W.Frag} {I H : Hp} {v : V} {d : PyData} {xs : List PyData} (s : Same I H) (h : RpS K I H v d) (e : seqOf d = some xs) : ∃ p vs, v = .ref p ∧ (SqT K H p vs ∨ SqL K H p vs) ∧ RpAll K I vs xs := by
  rcases h with h | ⟨a, vs, ds, rfl, rfl, h1, h2⟩
  · cases h with
    | lst h1 h2 => cases e; exact ⟨_, _, rfl, .inr (h1.mono s).sq, h2⟩
    | tup h1 h2 => cases e; exact ⟨_, _, rfl, .inl (same_t s h1), h2⟩
    | non => cases e
    | bl => cases e
    | int => cases e
    | str => cases e
    | dic => cases e
  · cases e; exact ⟨_, _, rfl, .inr (SqL.of h1), h2⟩
theorem de_tupS {x1 p1} {x y : AF} (ha : DX g X a x) (hb : DX g X b y) (h1 : starEach [a, .Starred b p1] X.env = (false, eval a X.env) :: starEach [.Starred b p1] X.env := by rfl) (h2 : PA X [.Starred b p1] (StX.tStar X.K (tArg g y) tNil)) (hK : X.K = g.K := by rfl) :
    DE g X (.Tuple [a, .Starred b p1] x1 pos) (fOp (on2 pStar) [x, y]) := PE.imp (pe_tup (pa_cons ha h2 h1)) fun σ H Q h => by
  refine tArg_mono (tA2 (op_key (r := two fun v u H1 Q => ∃ p xs, u = V.ref p ∧ (SqT X.K H1 p xs ∨ SqL X.K H1 p xs) ∧ (v :: (xs ++ [])).length ≤ sizeLine ∧ ∀ p, H1 p = none → Q (.ref p) (upd H1 p (.tup (v :: (xs ++ []))))) ?_ h)) fun v H1 q => tArg_mono q fun u H2 q => ?_
  · refine ops2 fun v u d x I H Q o s r1 r2 e k => ?_
    unfold pStar at e
    by_cases hd : isL d = true
    · rw [if_pos hd] at e; cases e
    · rw [if_neg hd] at e
      cases q : seqOf x with
      | none => simp only [q] at e; cases e
      | some xs =>
        simp only [q] at e
        by_cases hz : xs.length < 100000
        · rw [if_pos hz] at e; cases e
          obtain ⟨p, us, rfl, hs, ra⟩ := rps_seq s r2 q
          refine ⟨p, us, rfl, by rw [hK]; exact hs, ?_, fun p np => ?_⟩
          · rw [List.append_nil, List.length_cons, ra.length]; exact Nat.le_trans hz (by decide)
          · rw [List.append_nil]
            exact k _ _ _ _ (Grow.tup s np (.cons (rps_rp r1 (by simpa using hd)) ra))
        · rw [if_neg hz] at e; cases e
  · obtain ⟨p, xs, e, hs, q1, q2⟩ := q
    exact ⟨p, xs, e, hs, q1, q2⟩
end
end Dy

/-! D3: tests, statements, loops. -/
namespace Dy
open PySem PySem.Spec PyProof.Rows L2

theorem post_bind {α β : Type} {r : Res α} {k : α → Res β} {P : β → Prop} {E : Exn → Prop} : (r >>= k).post P E ↔ r.post (fun a => (k a).post P E) E := by
  cases r <;> exact Iff.rfl
theorem post_mono {α : Type} {r : Res α} {P P' : α → Prop} {E E' : Exn → Prop} (h : r.post P E) (hp : ∀ a, P a → P' a) (he : ∀ x, E x → E' x) : r.post P' E' := by
  cases r with
  | ok a => exact hp a h
  | er x => exact he x h
  | no => exact h
section
variable {g : G} {X : Cx} {a b c e : Expr} {es : List Expr} {pos : Pos} {σ : St} {H I : Hp} {env : Env} {F : Nat → List Addr}

theorem tD_seq {f : EF} {β : Type} {k : O × Env → Res β} {P : β → Prop} {Q : VK} (s : Sim g.K g.pn I H σ env F) (p : (f env >>= k).post P (g.err I H F))
    (h : ∀ r v H1, Aft g.K g.pn I H F σ r.2 r.1 v H1 → (k r).post P (g.err I H F) → Q v H1) : tD g f σ H Q :=
  ⟨I, env, F, s, post_mono (post_bind.mp p) (fun r q v H1 af => h r v H1 af q) fun _ z => z⟩
theorem tT_seq {f : TF} {β : Type} {k : Bool × Env → Res β} {P : β → Prop} {Q : Bool → Hp → Prop} (s : Sim g.K g.pn I H σ env F) (p : (f env >>= k).post P (g.err I H F))
    (h : ∀ r H1, AftS g.K g.pn I H F σ r.2 H1 → (k r).post P (g.err I H F) → Q r.1 H1) : tT g f σ H Q :=
  ⟨I, env, F, s, post_mono (post_bind.mp p) (fun r q H1 af => h r H1 af q) fun _ z => z⟩

/-! ### tests -/
def fB (f : EF) : TF := fun env => f env >>= fun r => match r.1 with
  | .fr (.bool b) => .ok (b, r.2)
  | _ => .no
theorem tB_key {f : EF} {Q : Bool → Hp → Prop} (h : tT g (fB f) σ H Q) : tD g f σ H fun x H1 => ∃ k, x = .bl k ∧ Q k H1 := by
  obtain ⟨I, env, F, s, p⟩ := h
  refine tD_seq s p fun r v H1 af q => ?_
  obtain ⟨o, e⟩ := r
  cases o with
  | ol _ => exact q.elim
  | oo _ => exact q.elim
  | fr d =>
    cases d with
    | bool b =>
      obtain ⟨I', F', rp, s', st⟩ := af.frz
      cases rp
      exact ⟨b, rfl, q H1 ⟨I', F', s', st⟩⟩
    | _ => exact q.elim
theorem dt_val {f : EF} (h : DE g X e f) (he : ∀ whole, isTrue e X.env whole = (do let v ← whole; standAt e.pos; holding [v] (truthy v)) := by intro _; rfl) : DT g X e (fB f) :=
  PT.imp (pt_val h he) fun σ H Q q => tB_key q
theorem dt_cmp {op : CmpOp} {r : R2} {f : List PyData → Option O} {x y : AF} (ho : OpR X (compareOp op) r) (ops : OpS g.K (two r) f) (ha : DX g X a x) (hb : DX g X b y) (hm : behindInMarks op b = false) : DT g X (.Compare a [op] [b] pos) (fB (fOp f [x, y])) :=
  PT.imp (pt_cmpR ho ha hb hm) fun σ H Q h => tA2 (op_key ops (tB_key h))
def fNot (t : TF) : TF := fun env => t env >>= fun r => .ok (!r.1, r.2)
theorem dt_not {t : TF} (h : DT g X a t) : DT g X (.UnaryOp .Not a pos) (fNot t) := PT.imp (pt_not h) fun σ H Q q => by
  obtain ⟨I, env, F, s, p⟩ := q
  exact tT_seq s p fun r H1 af q => q H1 af
def fAndT (t u : TF) : TF := fun env => t env >>= fun r => if r.1 = true then u r.2 else .ok (false, r.2)
def fOrT (t u : TF) : TF := fun env => t env >>= fun r => if r.1 = true then .ok (true, r.2) else u r.2
theorem AftS.go {P : Prop} {H1 : Hp} {env' : Env} (af : AftS g.K g.pn I H F σ env' H1) (h : ∀ I1 F1, Sim g.K g.pn I1 H1 σ env' F1 → Step I H (Ow F) I1 H1 (Ow F1) → P) : P := let ⟨I1, F1, s, st⟩ := af; h I1 F1 s st
theorem dw_and1 {t : TF} (h : DT g X a t) : DW g X (.BoolOp .And [a] pos) t := pw_and1 h
theorem dw_or1 {t : TF} (h : DT g X a t) : DW g X (.BoolOp .Or [a] pos) t := pw_or1 h
theorem tT_again {u : TF} {Q : Bool → Hp → Prop} {H1 : Hp} {env' : Env} (af : AftS g.K g.pn I H F σ env' H1) (p : (u env').post (fun r => ∀ H', AftS g.K g.pn I H F σ r.2 H' → Q r.1 H') (g.err I H F)) : tT g u σ H1 Q :=
  af.go fun I1 F1 s1 st => ⟨I1, env', F1, s1, post_mono p (fun r q H' af' => q H' (AftS.trans st af')) fun x z => err_step st z⟩
theorem tD_again {f : EF} {Q : VK} {H1 : Hp} {env' : Env} (af : AftS g.K g.pn I H F σ env' H1) (p : (f env').post (fun r => ∀ v H', Aft g.K g.pn I H F σ r.2 r.1 v H' → Q v H') (g.err I H F)) : tD g f σ H1 Q :=
  af.go fun I1 F1 s1 st => ⟨I1, env', F1, s1, post_mono p (fun r q v H' af' => q v H' (Aft.trans st af')) fun x z => err_step st z⟩
theorem dw_and {t u : TF} (ha : DT g X a t) (hb : DW g X (.BoolOp .And (b :: es) pos) u) : DW g X (.BoolOp .And (a :: b :: es) pos) (fAndT t u) := PW.imp (pw_and ha hb) fun σ H Q h => by
  obtain ⟨I, env, F, s, p⟩ := h
  refine tT_seq s p fun r H1 af q => ?_
  by_cases hr : r.1 = true
  · rw [if_pos hr] at q ⊢; exact tT_again af q
  · rw [if_neg hr] at q ⊢; exact q H1 af
theorem dw_or {t u : TF} (ha : DT g X a t) (hb : DW g X (.BoolOp .Or (b :: es) pos) u) : DW g X (.BoolOp .Or (a :: b :: es) pos) (fOrT t u) := PW.imp (pw_or ha hb) fun σ H Q h => by
  obtain ⟨I, env, F, s, p⟩ := h
  refine tT_seq s p fun r H1 af q => ?_
  by_cases hr : r.1 = true
  · rw [if_pos hr] at q ⊢; exact q H1 af
  · rw [if_neg hr] at q ⊢; exact tT_again af q
theorem dw_t {t : TF} (h : DW g X e t) : DT g X e t := PW.pt h

/-! ### and, or, not, if as values -/
def fAnd (f k : EF) : EF := fun env => fB f env >>= fun r => if r.1 = true then k r.2 else .ok (.fr (.bool false), r.2)
def fOr (f k : EF) : EF := fun env => fB f env >>= fun r => if r.1 = true then .ok (.fr (.bool true), r.2) else k r.2
theorem de_one {op} {f : EF} (h : DE g X a f) : DE g X (.BoolOp op [a] pos) f := pe_one h
theorem tB_seq {f : EF} {β : Type} {k : Bool × Env → Res β} {P : β → Prop} {Q : VK} (s : Sim g.K g.pn I H σ env F) (p : (fB f env >>= k).post P (g.err I H F))
    (h : ∀ r H1, AftS g.K g.pn I H F σ r.2 H1 → (k r).post P (g.err I H F) → Q (.bl r.1) H1) : tD g f σ H Q := by
  refine tD_seq (k := fun r => (match r.1 with | .fr (.bool b) => Res.ok (b, r.2) | _ => .no) >>= k) s (by
    unfold fB at p
    rw [post_bind] at p ⊢
    rw [post_bind] at p
    exact post_mono p (fun r q => post_bind.mpr q) fun _ z => z) fun r v H1 af q => ?_
  obtain ⟨o, e⟩ := r
  cases o with
  | ol _ => exact q.elim
  | oo _ => exact q.elim
  | fr d =>
    cases d with
    | bool b =>
      obtain ⟨I', F', rp, s', st⟩ := af.frz
      cases rp
      exact h (b, e) H1 ⟨I', F', s', st⟩ q
    | _ => exact q.elim
theorem rbl {K : PySem.W.Frag} {I : Hp} {b : Bool} : Rp K I (.bl b) (.bool b) := .bl b
theorem AftS.val {H1 : Hp} {env' : Env} {d : PyData} {v : V} (af : AftS g.K g.pn I H F σ env' H1) (r : ∀ I, Rp g.K I v d) : Aft g.K g.pn I H F σ env' (.fr d) v H1 :=
  af.go fun I1 F1 s1 st => AftD.aft ⟨I1, F1, r I1, s1, st⟩
theorem de_and {f k : EF} (ha : DE g X a f) (hb : DE g X (.BoolOp .And (b :: es) pos) k) : DE g X (.BoolOp .And (a :: b :: es) pos) (fAnd f k) := PE.imp (pe_and ha hb) fun σ H Q h => by
  obtain ⟨I, env, F, s, p⟩ := h
  refine tB_seq s p fun r H1 af q => ⟨r.1, rfl, ?_⟩
  by_cases hr : r.1 = true
  · rw [if_pos hr] at q ⊢; exact tD_again af q
  · rw [if_neg hr] at q ⊢; exact q _ H1 (af.val fun _ => rbl)
theorem de_or {f k : EF} (ha : DE g X a f) (hb : DE g X (.BoolOp .Or (b :: es) pos) k) : DE g X (.BoolOp .Or (a :: b :: es) pos) (fOr f k) := PE.imp (pe_or ha hb) fun σ H Q h => by
  obtain ⟨I, env, F, s, p⟩ := h
  refine tB_seq s p fun r H1 af q => ⟨r.1, rfl, ?_⟩
  by_cases hr : r.1 = true
  · rw [if_pos hr] at q ⊢; exact q _ H1 (af.val fun _ => rbl)
  · rw [if_neg hr] at q ⊢; exact tD_again af q
def fNotV (f : EF) : EF := fun env => fB f env >>= fun r => .ok (.fr (.bool (!r.1)), r.2)
theorem de_not {f : EF} (ha : DE g X a f) : DE g X (.UnaryOp .Not a pos) (fNotV f) := PE.imp (pe_not ha) fun σ H Q h => by
  obtain ⟨I, env, F, s, p⟩ := h
  exact tB_seq s p fun r H1 af q => ⟨r.1, rfl, q _ H1 (af.val fun _ => rbl)⟩
def fIf (t : TF) (f k : EF) : EF := fun env => t env >>= fun r => if r.1 = true then f r.2 else k r.2
theorem de_if {t : TF} {f k : EF} (hc : DT g X c t) (ha : DE g X a f) (hb : DE g X b k) : DE g X (.IfExp c a b pos) (fIf t f k) := PE.imp (pe_ifExp hc ha hb) fun σ H Q h => by
  obtain ⟨I, env, F, s, p⟩ := h
  refine tT_seq s p fun r H1 af q => ?_
  by_cases hr : r.1 = true
  · rw [if_pos hr] at q ⊢; exact tD_again af q
  · rw [if_neg hr] at q ⊢; exact tD_again af q
/-- a < b < c of ints -/
def ints2 : Option (List PyData) → Option (Int × Int)
  | some [.int i, .int j] => some (i, j)
  | _ => none
def ints1 : Option (List PyData) → Option Int
  | some [.int i] => some i
  | _ => none
theorem ints2_inv {x : Option (List PyData)} {i j : Int} (h : ints2 x = some (i, j)) : x = some [.int i, .int j] := by
  unfold ints2 at h
  split at h
  · cases h; rfl
  · cases h
theorem ints1_inv {x : Option (List PyData)} {i : Int} (h : ints1 x = some i) : x = some [.int i] := by
  unfold ints1 at h
  split at h
  · cases h; rfl
  · cases h
def fChI (c1 c2 : Int → Int → Bool) (x y z : AF) : EF := fun env => evA [x, y] env >>= fun r => match ints2 (rsvs r.2 r.1) with
  | some ij => if c1 ij.1 ij.2 = true then evA [z] r.2 >>= fun q => match ints1 (rsvs q.2 q.1) with
      | some k => .ok (.fr (.bool (c2 ij.2 k)), q.2)
      | none => .no
    else .ok (.fr (.bool false), r.2)
  | none => .no
theorem rpss_int {K : PySem.W.Frag} {I H : Hp} {v : V} {i : Int} (h : RpS K I H v (.int i)) : v = .int i := by
  rcases h with h | ⟨_, _, _, _, e, _⟩
  · cases h; rfl
  · cases e
theorem ch_key {c1 c2 : Int → Int → Bool} {x y z : AF} {Q : VK} (h : tD g (fChI c1 c2 x y z) σ H Q) : tArg g x σ H fun v H1 => tArg g y σ H1 fun u H2 => rI0 (fun i j => .bl (c1 i j)) v u H2 fun w H3 => ∃ k, w = .bl k ∧
    (if k = true then tArg g z σ H3 fun w' H4 => rI0 (fun i j => .bl (c2 i j)) u w' H4 Q else Q (.bl false) H3) := by
  obtain ⟨I, env, F, s, p⟩ := h
  have key : tA g [x, y] σ H (fun vs H2 => ∃ v u, vs = [v, u] ∧ rI0 (fun i j => .bl (c1 i j)) v u H2 fun w H3 => ∃ k, w = .bl k ∧ (if k = true then tArg g z σ H3 fun w' H4 => rI0 (fun i j => .bl (c2 i j)) u w' H4 Q else Q (.bl false) H3)) := by
    refine ⟨I, env, F, s, post_mono (post_bind.mp p) (fun r q vs H' I' F' s' st av => ?_) fun _ z => z⟩
    cases q2 : ints2 (rsvs r.2 r.1) with
    | none => simp only [q2] at q; exact q.elim
    | some ij =>
      obtain ⟨i, j⟩ := ij
      simp only [q2] at q
      have rr := rsvs_rep s' av (ints2_inv q2)
      match vs, rr with
      | _, .cons r1 (.cons r2 .nil) =>
        cases rpss_int r1
        cases rpss_int r2
        refine ⟨_, _, rfl, i, j, rfl, rfl, c1 i j, rfl, ?_⟩
        by_cases hc : c1 i j = true
        · rw [if_pos hc] at q ⊢
          refine tArg_mono (tA1 (R := fun vs H4 => ∃ w', vs = [w'] ∧ rI0 (fun i j => .bl (c2 i j)) (V.int j) w' H4 Q) ⟨I', r.2, F', s', post_mono (post_bind.mp q) (fun r3 q3 vs3 H3 I3 F3 s3 st3 av3 => ?_) fun x zz => err_step st zz⟩) fun w' H4 ⟨_, e4, q4⟩ => by cases e4; exact q4
          cases q5 : ints1 (rsvs r3.2 r3.1) with
          | none => simp only [q5] at q3; exact q3.elim
          | some k =>
            simp only [q5] at q3
            have rr3 := rsvs_rep s3 av3 (ints1_inv q5)
            match vs3, rr3 with
            | _, .cons r1 .nil =>
              cases rpss_int r1
              exact ⟨_, rfl, j, k, rfl, rfl, q3 _ H3 (AftS.val ⟨I3, F3, s3, st.trans st3⟩ fun _ => rbl)⟩
        · rw [if_neg hc] at q ⊢
          exact q _ H' (AftS.val ⟨I', F', s', st⟩ fun _ => rbl)
  refine tArg_mono (tA2 key) fun v H1 q => tArg_mono q fun u H2 q => ?_
  obtain ⟨v', u', e, q⟩ := q
  cases e
  exact q
theorem de_chI {op op' : CmpOp} {c1 c2 : Int → Int → Bool} {x y z : AF} (ho : OpR X (compareOp op) (rI0 fun i j => .bl (c1 i j))) (ho' : OpR X (compareOp op') (rI0 fun i j => .bl (c2 i j))) (h : ∀ {ta tb tc : TE}, PE X a ta → PE X b tb → PE X c tc → PE X e (tChain (rI0 fun i j => .bl (c1 i j)) (rI0 fun i j => .bl (c2 i j)) ta tb tc))
    (ha : DX g X a x) (hb : DX g X b y) (hc : DX g X c z) : DE g X e (fChI c1 c2 x y z) := PE.imp (h ha hb hc) fun σ H Q q => ch_key q
theorem dt_chI {c1 c2 : Int → Int → Bool} {x y z : AF} (h : ∀ {ta tb tc : TE}, PE X a ta → PE X b tb → PE X c tc → PT X e (tTest (tChain (rI0 fun i j => .bl (c1 i j)) (rI0 fun i j => .bl (c2 i j)) ta tb tc)))
    (ha : DX g X a x) (hb : DX g X b y) (hc : DX g X c z) : DT g X e (fB (fChI c1 c2 x y z)) := PT.imp (h ha hb hc) fun σ H Q q => ch_key (tB_key q)

/-! ### blocks -/
variable {st : Stmt} {rest : List Stmt} {D : Ends}
theorem FlP_step {I1 H1 : Hp} {F1 : Nat → List Addr} {r : Fl × Env} (st : Step I H (Ow F) I1 H1 (Ow F1)) (h : FlP g D I H F r) : FlP g D I1 H1 F1 r := by
  obtain ⟨fl, e⟩ := r
  cases fl with
  | nx => exact fun σ' H' af => h σ' H' (AftS.trans st af)
  | bk => exact fun σ' H' af => h σ' H' (AftS.trans st af)
  | ct => exact fun σ' H' af => h σ' H' (AftS.trans st af)
  | rt o => exact fun v σ' H' af => h v σ' H' (Aft.trans st af)
def fSeq (s t : SF) : SF := fun env => s env >>= fun r => match r.1 with
  | .nx => t r.2
  | _ => .ok r
def fSkip : SF := fun env => .ok (.nx, env)
def fNo : SF := fun _ => .no
theorem dss_nil : DSs g X [] fSkip := PSs.imp pss_nil fun D σ H h => by
  obtain ⟨I, env, F, s, p⟩ := h
  exact p σ H ⟨I, F, s, Step.refl⟩
theorem dss_one {f : SF} (h : DS g X st f) : DSs g X [st] f := pss_one h
theorem tS_again {f : SF} {σ' : St} {H1 : Hp} {env' : Env} (af : AftS g.K g.pn I H F σ' env' H1) (p : (f env').post (FlP g D I H F) (g.err I H F)) : tS g f D σ' H1 := by
  obtain ⟨I1, F1, s, st⟩ := af
  exact ⟨I1, env', F1, s, post_mono p (fun r q => FlP_step st q) fun x z => err_step st z⟩
theorem dss_cons {f k : SF} (h1 : DS g X st f) (h2 : DSs g X rest k) : DSs g X (st :: rest) (fSeq f k) := PSs.imp (pss_cons h1 h2) fun D σ H h => by
  obtain ⟨I, env, F, s, p⟩ := h
  refine ⟨I, env, F, s, post_mono (post_bind.mp p) (fun r q => ?_) fun _ z => z⟩
  obtain ⟨fl, e⟩ := r
  cases fl with
  | nx => exact fun σ' H' af => tS_again af q
  | bk => exact q
  | ct => exact q
  | rt o => exact q
theorem ds_pass : DS g X (.Pass pos) fSkip := PS.imp ps_pass fun D σ H h => by
  obtain ⟨I, env, F, s, p⟩ := h
  exact p σ H ⟨I, F, s, Step.refl⟩
theorem ds_break : DS g X (.Break pos) (fun env => .ok (.bk, env)) := PS.imp ps_break fun D σ H h => by
  obtain ⟨I, env, F, s, p⟩ := h
  exact p σ H ⟨I, F, s, Step.refl⟩
theorem ds_continue : DS g X (.Continue pos) (fun env => .ok (.ct, env)) := PS.imp ps_continue fun D σ H h => by
  obtain ⟨I, env, F, s, p⟩ := h
  exact p σ H ⟨I, F, s, Step.refl⟩
theorem ds_never : DS g X st fNo := PS.imp ps_never fun D σ H h => let ⟨_, _, _, _, p⟩ := h; p
def fRet (f : EF) : SF := fun env => f env >>= fun r => .ok (.rt r.1, r.2)
theorem ds_ret {f : EF} (h : DE g X e f) : DS g X (.Return (some e) pos) (fRet f) := PS.imp (ps_ret h) fun D σ H h => by
  obtain ⟨I, env, F, s, p⟩ := h
  exact tD_seq s p fun r v H1 af q => q v σ H1 af
theorem ds_retN : DS g X (.Return none pos) (fun env => .ok (.rt (.fr .none), env)) := PS.imp ps_retN fun D σ H h => by
  obtain ⟨I, env, F, s, p⟩ := h
  exact p .non σ H (aftC s .non)
def fEx (f : EF) : SF := fun env => f env >>= fun r => .ok (.nx, r.2)
theorem ds_expr {f : EF} (h : DE g X e f) (hs : swapsWith e none pos.line X.env = pure false := by rfl) : DS g X (.Expr e pos) (fEx f) := PS.imp (ps_expr h hs) fun D σ H h => by
  obtain ⟨I, env, F, s, p⟩ := h
  exact tD_seq s p fun r v H1 af q => q σ H1 af.frz.toS
def fIfS (t : TF) (f k : SF) : SF := fun env => t env >>= fun r => if r.1 = true then f r.2 else k r.2
theorem ds_if {t : TF} {f k : SF} {s1 s2 : List Stmt} (hc : DT g X c t) (ha : DSs g X s1 f) (hb : DSs g X s2 k) : DS g X (.If c s1 s2 pos) (fIfS t f k) := PS.imp (ps_if hc ha hb) fun D σ H h => by
  obtain ⟨I, env, F, s, p⟩ := h
  refine tT_seq s p fun r H1 af q => ?_
  by_cases hr : r.1 = true
  · rw [if_pos hr] at q ⊢; exact tS_again af q
  · rw [if_neg hr] at q ⊢; exact tS_again af q

/-! ### names stored -/
theorem ow_up {i : Nat} {R : List Addr} {x : Addr} (h : Ow (upF F i R) x) : Ow F x ∨ x ∈ R := by
  obtain ⟨j, hj⟩ := h
  by_cases e : j = i
  · subst e; rw [upF_same] at hj; exact .inr hj
  · rw [upF_ne e] at hj; exact .inl ⟨j, hj⟩
/-- what an expression gave is stored in slot i -/
theorem Aft.store {i : Nat} {o : O} {v : V} {H1 : Hp} {env' : Env} (hi : i < env'.length) (hp : i ∉ g.pn.1) (af : Aft g.K g.pn I H F σ env' o v H1) : AftS g.K g.pn I H F (σ.set i (some v)) (env'.set i (some o)) H1 := by
  obtain ⟨I', F', R, r, s, nR, dR, st⟩ := af
  refine ⟨I', upF F' i R, s.put hi (Same.refl _) s.sub (fun _ _ _ _ => rfl) (fun j _ a ha => s.djI j a ha) nR (fun j _ a ha => dR a ⟨j, ha⟩) (fun o' e => ?_) (fun e => by cases e) (fun h => absurd h hp), st.less fun a ha => ow_up ha⟩
  cases e; exact ⟨v, rfl, r⟩
def fSet (i : Nat) (f : EF) : SF := fun env => f env >>= fun r => if i < r.2.length then .ok (.nx, r.2.set i (some r.1)) else .no
theorem set_key {i : Nat} {f : EF} (hp : i ∉ g.pn.1) (h : tS g (fSet i f) D σ H) : tAsg (tD g f) (gName i) D σ H := by
  obtain ⟨I, env, F, s, p⟩ := h
  refine tD_seq s p fun r v H1 af q => ?_
  by_cases hi : i < r.2.length
  · rw [if_pos hi] at q; exact q _ _ (af.store hi hp)
  · rw [if_neg hi] at q; exact q.elim
theorem ds_set {i : Nat} {x : Str} {f : EF} {pos' : Pos} (hN : X.N.Nodup) (hi : X.N[i]? = some x) (hx : Loc X.env.scope x) (hp : i ∉ g.pn.1) (he : DE g X e f) (hs : swapsWith e (some (.Name x pos')) pos.line X.env = pure false := by rfl)
    (hf : X.fn x = true ∨ X.env.scope.names.lookup x = some .local := by first | exact .inl rfl | exact .inr rfl | assumption) : DS g X (.Assign [.Name x pos'] e pos) (fSet i f) := PS.imp (ps_set hN hi hx he hs hf) fun D σ H h => set_key hp h

/-! ### targets -/
inductive Tg where
  | nm (i : Nat)
  | tu (is : List Nat)
  | tl (is : List Nat)
def gNames : List Nat → TGs
  | [] => gNil
  | i :: is => gCons (gName i) (gNames is)
def rdT (K : PySem.W.Frag) : Tg → TG
  | .nm i => gName i
  | .tu is => gTup K is.length (gNames is)
  | .tl is => gUnl K is.length (gNames is)
def Tg.slots : Tg → List Nat
  | .nm i => [i]
  | .tu is => is
  | .tl is => is
def setAll : List Nat → List PyData → Env → Option Env
  | [], [], e => some e
  | i :: is, d :: ds, e => if i < e.length then setAll is ds (e.set i (some (.fr d))) else none
  | _, _, _ => none
def asT : Tg → PyData → Env → Res Env
  | .nm i, d, e => ofO (setAll [i] [d] e)
  | .tu is, .tuple ds, e => ofO (setAll is ds e)
  | .tl is, .list ds, e => ofO (setAll is ds e)
  | _, _, _ => .no
/-- σ' is σ but for some slots -/
def Only' (is : List Nat) (σ σ' : St) : Prop := σ'.length = σ.length ∧ ∀ i, i ∉ is → σ'[i]? = σ[i]?
theorem names_key : ∀ (is : List Nat) {vs : List V} {ds : List PyData} {σ : St} {env env' : Env} {F : Nat → List Addr} {I H : Hp} {Q : St → Hp → Prop}, (∀ i ∈ is, i ∉ g.pn.1) → Sim g.K g.pn I H σ env F → RpAll g.K I vs ds → setAll is ds env = some env' →
    (∀ σ' F', Only' is σ σ' → Sim g.K g.pn I H σ' env' F' → (∀ a, Ow F' a → Ow F a) → Q σ' H) → gNames is vs σ H Q
  | [], _, _, σ, env, env', F, I, H, Q, _, s, .nil, e, k => by cases e; exact ⟨rfl, k σ F ⟨rfl, fun _ _ => rfl⟩ s fun _ z => z⟩
  | [], _, _, _, _, _, _, _, _, _, _, _, .cons _ _, e, _ => by cases e
  | _ :: _, _, _, _, _, _, _, _, _, _, _, _, .nil, e, _ => by cases e
  | i :: is, _, _, σ, env, env', F, I, H, Q, hp, s, .cons (v := v) (d := d) r t, e, k => by
    unfold setAll at e
    by_cases hi : i < env.length
    · rw [if_pos hi] at e
      refine ⟨v, _, rfl, ?_⟩
      have s1 : Sim g.K g.pn I H (σ.set i (some v)) (env.set i (some (.fr d))) (upF F i []) := s.put hi (Same.refl _) s.sub (fun _ _ _ _ => rfl) (fun j _ a ha => s.djI j a ha) (fun _ h => nomatch h) (fun _ _ _ _ h => nomatch h) (fun o e => by cases e; exact ⟨v, rfl, rfl, r⟩) (fun e => by cases e) (fun h => absurd h (hp i (by simp)))
      refine names_key is (fun j hj => hp j (by simp [hj])) s1 t e fun σ' F' ho s' hF => k σ' F' ⟨by rw [ho.1, List.length_set], fun j hj => ?_⟩ s' fun a ha => ?_
      · simp only [List.mem_cons, not_or] at hj
        rw [ho.2 j hj.2, List.getElem?_set_ne (Ne.symm hj.1)]
      · rcases ow_up (hF a ha) with z | z
        · exact z
        · cases z
    · rw [if_neg hi] at e; cases e
theorem tg_key {t : Tg} {v : V} {d : PyData} {env' : Env} {Q : St → Hp → Prop} (hp : ∀ i ∈ t.slots, i ∉ g.pn.1) (s : Sim g.K g.pn I H σ env F) (r : Rp g.K I v d) (e : asT t d env = .ok env')
    (k : ∀ σ' F', Only' t.slots σ σ' → Sim g.K g.pn I H σ' env' F' → (∀ a, Ow F' a → Ow F a) → Q σ' H) : rdT g.K t v σ H Q := by
  have ofs : ∀ {x : Option Env}, ofO x = .ok env' → x = some env' := fun {x} h => by cases x <;> cases h; rfl
  cases t with
  | nm i =>
    have := names_key [i] hp s (.cons r .nil) (ofs e) k
    obtain ⟨v', r', e1, q⟩ := this
    cases e1
    exact q.2
  | tu is =>
    cases r with
    | tup h1 h2 =>
      have e := ofs e
      have hl : ∀ (is : List Nat) (ds : List PyData) (a b : Env), setAll is ds a = some b → ds.length = is.length := by
        intro is
        induction is with
        | nil => intro ds a b h; cases ds <;> simp [setAll] at h ⊢
        | cons i is ih =>
          intro ds a b h
          cases ds with
          | nil => simp [setAll] at h
          | cons d ds =>
            unfold setAll at h
            split at h
            · simp [ih _ _ _ h]
            · cases h
      exact ⟨_, _, rfl, same_t s.sub h1, by rw [h2.length]; exact hl _ _ _ _ e, names_key is hp s h2 e k⟩
    | _ => cases e
  | tl is =>
    cases r with
    | lst h1 h2 =>
      have e := ofs e
      have hl : ∀ (is : List Nat) (ds : List PyData) (a b : Env), setAll is ds a = some b → ds.length = is.length := by
        intro is
        induction is with
        | nil => intro ds a b h; cases ds <;> simp [setAll] at h ⊢
        | cons i is ih =>
          intro ds a b h
          cases ds with
          | nil => simp [setAll] at h
          | cons d ds =>
            unfold setAll at h
            split at h
            · simp [ih _ _ _ h]
            · cases h
      exact ⟨_, _, rfl, (h1.mono s.sub).sq, by rw [h2.length]; exact hl _ _ _ _ e, names_key is hp s h2 e k⟩
    | _ => cases e
/-- a, b = e -/
def fAsT (t : Tg) (f : EF) : SF := fun env => f env >>= fun r => asT t r.1.data r.2 >>= fun e => .ok (.nx, e)
theorem ds_asT {t : Tg} {f : EF} {tg : Expr} (hp : ∀ i ∈ t.slots, i ∉ g.pn.1) (he : DE g X e f) (hg : PG X tg (rdT g.K t)) (hs : swapsWithSole [tg] e pos.line X.env = pure false := by rfl) (hw : swappedStores [tg] e X.env = pure none := by rfl)
    (h1 : (assignEach [tg] X.env).map (·.2) = [assign tg X.env] := by rfl) : DS g X (.Assign [tg] e pos) (fAsT t f) := PS.imp (ps_asg he hg hs hw h1) fun D σ H h => by
  obtain ⟨I, env, F, s, p⟩ := h
  refine tD_seq s p fun r v H1 af q => ?_
  obtain ⟨I', F', rp, s', st⟩ := af.frz
  cases q2 : asT t r.1.data r.2 with
  | no => rw [q2] at q; exact q.elim
  | er x => exfalso; revert q2; unfold asT ofO; split <;> (try split) <;> exact fun h => by cases h
  | ok e' =>
    rw [q2] at q
    exact tg_key hp s' rp q2 fun σ' F'' _ s'' hF => q σ' H1 ⟨I', F'', s'', st.less hF⟩

/-! ### what is walked -/
def ItOk (K : PySem.W.Frag) (I0 : Hp) (J : It) (ds : List PyData) : Prop := ∀ (I H : Hp) (i : Nat), Same I0 I → Same I H →
  (∀ d, ds[i]? = some d → J.go i H ∧ ∀ x H', J.yld i H x H' → ∃ I', Grow K I H I' H' (.fr d) x []) ∧ (ds.length = i → J.stop i H)
abbrev IF := Env → Res (List PyData × Env)
def tI (g : G) (f : IF) : TI := fun σ H R => ∃ I env F, Sim g.K g.pn I H σ env F ∧ (f env).post (fun r => ∀ J H' I' F', Sim g.K g.pn I' H' σ r.2 F' → Step I H (Ow F) I' H' (Ow F') → ItOk g.K I' J r.1 → R J H') (g.err I H F)
def DI (g : G) (X : Cx) (tg iter : Expr) (f : IF) : Prop := PI X tg iter (tI g f)
def fFor (t : Tg) (body : SF) : List PyData → SF
  | [], env => .ok (.nx, env)
  | d :: ds, env => asT t d env >>= fun e => body e >>= fun r => match r.1 with
    | .nx => fFor t body ds r.2
    | .ct => fFor t body ds r.2
    | .bk => .ok (.nx, r.2)
    | .rt o => .ok (.rt o, r.2)
def fForS (f : IF) (t : Tg) (body : SF) : SF := fun env => f env >>= fun r => fFor t body r.1 r.2
theorem asT_er {t : Tg} {d : PyData} {x : Exn} : asT t d env ≠ .er x := by
  unfold asT ofO
  split <;> (try split) <;> exact fun h => by cases h
theorem for_key {J : It} {ds : List PyData} {t : Tg} {body : SF} (hp : ∀ i ∈ t.slots, i ∉ g.pn.1) (s : Sim g.K g.pn I H σ env F) (ok : ItOk g.K I J ds) (p : (fFor t body ds env).post (FlP g D I H F) (g.err I H F)) :
    ∃ W : Nat → Nat → St → Hp → Prop, (∃ m, W 0 m σ H) ∧ ∀ i m σ H, W i m σ H →
      (J.stop i H ∧ D.nx σ H) ∨ (J.go i H ∧ ∃ N : St → Hp → Prop, (∀ σ' H', N σ' H' → ∃ m', m' < m ∧ W (i + 1) m' σ' H') ∧ ∀ x H', J.yld i H x H' → rdT g.K t x σ H' fun σ2 H2 => tS g body { D with nx := N, ct := N, bk := D.nx } σ2 H2) := by
  let L : List PyData → St → Hp → Prop := fun ds' σ H => ∃ I1 env F, Sim g.K g.pn I1 H σ env F ∧ Same I I1 ∧ (fFor t body ds' env).post (FlP g D I1 H F) (g.err I1 H F)
  refine ⟨fun i m σ H => m = ds.length - i ∧ i ≤ ds.length ∧ L (ds.drop i) σ H, ⟨ds.length, by simp, Nat.zero_le _, I, env, F, s, Same.refl _, p⟩, ?_⟩
  rintro i m σ H ⟨rfl, hi, I1, env, F, s, sm, p⟩
  by_cases hlt : i < ds.length
  · have hd : ds[i]? = some ds[i] := List.getElem?_eq_getElem hlt
    have dr : ds.drop i = ds[i] :: ds.drop (i + 1) := List.drop_eq_getElem_cons hlt
    rw [dr] at p
    have ok1 := (ok I1 H i sm s.sub).1 _ hd
    refine .inr ⟨ok1.1, L (ds.drop (i + 1)), fun σ' H' n => ⟨ds.length - (i + 1), by omega, rfl, hlt, n⟩, fun x H' y => ?_⟩
    obtain ⟨I2, gr⟩ := ok1.2 x H' y
    have p2 := post_bind.mp p
    cases q2 : asT t ds[i] env with
    | no => rw [q2] at p2; exact p2.elim
    | er x => exact absurd q2 asT_er
    | ok e' =>
      rw [q2] at p2
      obtain ⟨I3, F3, rp, s3, st3⟩ := (gr.aft s).frz
      refine tg_key hp s3 rp q2 fun σ' F'' _ s'' hF => ?_
      have st4 := st3.less hF
      refine ⟨I3, e', F'', s'', post_mono (post_bind.mp p2) (fun r q => ?_) fun x z => err_step st4 z⟩
      obtain ⟨fl, e⟩ := r
      have nxt : (fFor t body (ds.drop (i + 1)) e).post (FlP g D I1 H F) (g.err I1 H F) → ∀ σ5 H5, AftS g.K g.pn I3 H' F'' σ5 e H5 → L (ds.drop (i + 1)) σ5 H5 := fun q σ5 H5 af => by
        obtain ⟨I5, F5, s5, st5⟩ := af
        have st6 := st4.trans st5
        exact ⟨I5, e, F5, s5, sm.trans st6.i1, post_mono q (fun r z => FlP_step st6 z) fun x z => err_step st6 z⟩
      cases fl with
      | nx => exact fun σ5 H5 af => nxt q σ5 H5 af
      | ct => exact fun σ5 H5 af => nxt q σ5 H5 af
      | bk => exact fun σ5 H5 af => q σ5 H5 (AftS.trans st4 af)
      | rt o => exact fun v σ5 H5 af => q v σ5 H5 (Aft.trans st4 af)
  · have e : i = ds.length := by omega
    subst e
    rw [List.drop_length] at p
    exact .inl ⟨(ok I1 H _ sm s.sub).2 rfl, p σ H ⟨I1, F, s, Step.refl⟩⟩
theorem ds_for {f : IF} {t : Tg} {body : SF} {tg iter : Expr} {sb : List Stmt} (hp : ∀ i ∈ t.slots, i ∉ g.pn.1) (hps : PassesOwn (model X.prog X.w) X.A X.env X.xe) (hc : X.calm = true) (hi : DI g X tg iter f) (hg : PG X tg (rdT g.K t)) (hb : DSs g X sb body)
    (hs : ∀ x, foldedSetIterable iter X.env x = pure x := by intro _; rfl) : DS g X (.For tg iter sb [] pos) (fForS f t body) := PS.imp (ps_for hps hc hi hg hb hs) fun D σ H h => by
  obtain ⟨I, env, F, s, p⟩ := h
  refine ⟨I, env, F, s, post_mono (post_bind.mp p) (fun r q J H' I' F' s' st ok => ?_) fun _ z => z⟩
  exact for_key hp s' ok (post_mono q (fun r z => FlP_step st z) fun x z => err_step st z)
/-- while -/
def fWhile (t : TF) (body : SF) : Nat → SF
  | 0, _ => .no
  | n + 1, env => t env >>= fun b => if b.1 = true then body b.2 >>= fun r => match r.1 with
      | .nx => fWhile t body n r.2
      | .ct => fWhile t body n r.2
      | .bk => .ok (.nx, r.2)
      | .rt o => .ok (.rt o, r.2)
    else .ok (.nx, b.2)
theorem ds_while {t : TF} {body : SF} {sb : List Stmt} (n : Nat) (hps : PassesOwn (model X.prog X.w) X.A X.env X.xe) (hc : DT g X c t) (hb : DSs g X sb body) : DS g X (.While c sb [] pos) (fWhile t body n) := PS.imp (ps_while hps hc hb) fun D σ H h => by
  obtain ⟨I, env, F, s, p⟩ := h
  let L : Nat → St → Hp → Prop := fun m σ H => ∃ I1 env F, Sim g.K g.pn I1 H σ env F ∧ (fWhile t body m env).post (FlP g D I1 H F) (g.err I1 H F)
  refine ⟨L, ⟨n, I, env, F, s, p⟩, ?_⟩
  rintro m σ H ⟨I1, env, F, s, p⟩
  cases m with
  | zero => exact p.elim
  | succ m =>
    refine tT_seq s p fun b H1 af q => ?_
    by_cases hb : b.1 = true
    · rw [if_pos hb] at q ⊢
      refine ⟨L m, fun σ' H' n => ⟨m, by omega, n⟩, ?_⟩
      obtain ⟨I2, F2, s2, st2⟩ := af
      refine ⟨I2, b.2, F2, s2, post_mono (post_bind.mp q) (fun r q => ?_) fun x z => err_step st2 z⟩
      obtain ⟨fl, e⟩ := r
      have nxt : (fWhile t body m e).post (FlP g D I1 H F) (g.err I1 H F) → ∀ σ5 H5, AftS g.K g.pn I2 H1 F2 σ5 e H5 → L m σ5 H5 := fun q σ5 H5 af => by
        obtain ⟨I5, F5, s5, st5⟩ := af
        have st6 := st2.trans st5
        exact ⟨I5, e, F5, s5, post_mono q (fun r z => FlP_step st6 z) fun x z => err_step st6 z⟩
      cases fl with
      | nx => exact fun σ5 H5 af => nxt q σ5 H5 af
      | ct => exact fun σ5 H5 af => nxt q σ5 H5 af
      | bk => exact fun σ5 H5 af => q σ5 H5 (AftS.trans st2 af)
      | rt o => exact fun v σ5 H5 af => q v σ5 H5 (Aft.trans st2 af)
    · rw [if_neg hb] at q ⊢
      exact q σ H1 af
end
end Dy

/-! D4: comprehensions. -/
namespace Dy
open PySem PySem.Spec PyProof.Rows L2

/-! ### slots forgotten -/
def wipeE (env : Env) : List Nat → Env
  | [] => env
  | v :: vs => (wipeE env vs).set v none
theorem wipe_get {α : Type} (w : List (Option α) → List Nat → List (Option α)) (h0 : ∀ l, w l [] = l) (h1 : ∀ l v vs, w l (v :: vs) = (w l vs).set v none) (l : List (Option α)) : ∀ (vs : List Nat) (i : Nat), (w l vs)[i]? = if i ∈ vs then (if i < l.length then some none else none) else l[i]? := by
  have hl : ∀ vs, (w l vs).length = l.length := by
    intro vs
    induction vs with
    | nil => rw [h0]
    | cons v vs ih => rw [h1, List.length_set, ih]
  intro vs
  induction vs with
  | nil => intro i; rw [h0, if_neg (by simp)]
  | cons v vs ih =>
    intro i
    rw [h1]
    by_cases hv : v = i
    · subst hv
      rw [if_pos (by simp)]
      by_cases hi : v < l.length
      · rw [if_pos hi, List.getElem?_set_self (by rw [hl]; exact hi)]
      · rw [if_neg hi, List.getElem?_eq_none (by rw [List.length_set, hl]; omega)]
    · rw [List.getElem?_set_ne hv, ih i]
      by_cases hi : i ∈ vs
      · rw [if_pos hi, if_pos (List.mem_cons_of_mem _ hi)]
      · rw [if_neg hi, if_neg (by simp only [List.mem_cons, not_or]; exact ⟨fun e => hv e.symm, hi⟩)]
theorem wipe_at (σ : St) (vs : List Nat) (i : Nat) : (wipe σ vs)[i]? = if i ∈ vs then (if i < σ.length then some none else none) else σ[i]? := wipe_get wipe (fun _ => rfl) (fun _ _ _ => rfl) σ vs i
theorem wipeE_at (e : Env) (vs : List Nat) (i : Nat) : (wipeE e vs)[i]? = if i ∈ vs then (if i < e.length then some none else none) else e[i]? := wipe_get wipeE (fun _ => rfl) (fun _ _ _ => rfl) e vs i
theorem wipeE_length (e : Env) : ∀ vs : List Nat, (wipeE e vs).length = e.length
  | [] => rfl
  | v :: vs => by unfold wipeE; rw [List.length_set, wipeE_length e vs]
theorem wipe_only {vs is : List Nat} {σ σ2 : St} (hs : ∀ i ∈ is, i ∈ vs) (h : Only' is (wipe σ vs) σ2) : wipe σ2 vs = wipe σ vs := by
  have hl : σ2.length = σ.length := by rw [h.1, wipe_length]
  refine List.ext_getElem? fun i => ?_
  rw [wipe_at, wipe_at, hl]
  by_cases hi : i ∈ vs
  · rw [if_pos hi, if_pos hi]
  · rw [if_neg hi, if_neg hi, h.2 i fun z => hi (hs i z), wipe_at, if_neg hi]
def clF (F : Nat → List Addr) (vs : List Nat) : Nat → List Addr := fun i => if i ∈ vs then [] else F i
theorem clF_ow {F : Nat → List Addr} {vs : List Nat} {a : Addr} (h : Ow (clF F vs) a) : Ow F a := by
  obtain ⟨i, hi⟩ := h
  unfold clF at hi
  split at hi
  · cases hi
  · exact ⟨i, hi⟩
section
variable {K : PySem.W.Frag} {π : Pn} {I H I' H' : Hp} {σ : St} {env e : Env} {F F' : Nat → List Addr}
theorem Sim.wipe (s : Sim K π I H σ env F) {vs : List Nat} (hp : ∀ i ∈ vs, i ∉ π.1) : Sim K π I H (L2.wipe σ vs) (wipeE env vs) (clF F vs) := by
  refine ⟨by rw [wipeE_length, wipe_length, s.len], fun i o q => ?_, fun i q => ?_, fun i j a h1 h2 => ?_, fun i a h => ?_, s.sub, fun i hi => ?_⟩
  · rw [wipeE_at] at q
    by_cases h : i ∈ vs
    · rw [if_pos h] at q; split at q <;> cases q
    · rw [if_neg h] at q
      obtain ⟨v, e1, r⟩ := s.rep i o q
      exact ⟨v, by rw [wipe_at, if_neg h]; exact e1, by unfold clF; rw [if_neg h]; exact r⟩
  · unfold clF
    by_cases h : i ∈ vs
    · rw [if_pos h]
    · rw [if_neg h]; exact s.out i fun o z => q o (by rw [wipeE_at, if_neg h]; exact z)
  · unfold clF at h1 h2
    split at h1
    · cases h1
    · split at h2
      · cases h2
      · exact s.dis i j a h1 h2
  · unfold clF at h
    split at h
    · cases h
    · exact s.djI i a h
  · rw [wipe_at, if_neg fun z => hp i z hi]; exact s.pin i hi
/-- behind the block: its own slots as they were, where they held data -/
def frO : Option (Option O) → Option O
  | some (some (.fr d)) => some (.fr d)
  | _ => none
def unw (env e : Env) : List Nat → Env
  | [] => e
  | v :: vs => (unw env e vs).set v (frO env[v]?)
theorem unw_length (env e : Env) : ∀ vs : List Nat, (unw env e vs).length = e.length
  | [] => rfl
  | v :: vs => by unfold unw; rw [List.length_set, unw_length env e vs]
theorem unw_at (env e : Env) : ∀ (vs : List Nat) (i : Nat), (unw env e vs)[i]? = if i ∈ vs then (if i < e.length then some (frO env[i]?) else none) else e[i]?
  | [], i => by rw [if_neg (by simp)]; rfl
  | v :: vs, i => by
    unfold unw
    by_cases hv : v = i
    · subst hv
      rw [if_pos (by simp)]
      by_cases hi : v < e.length
      · rw [if_pos hi, List.getElem?_set_self (by rw [unw_length]; exact hi)]
      · rw [if_neg hi, List.getElem?_eq_none (by rw [List.length_set, unw_length]; omega)]
    · rw [List.getElem?_set_ne hv, unw_at env e vs i]
      by_cases hi : i ∈ vs
      · rw [if_pos hi, if_pos (List.mem_cons_of_mem _ hi)]
      · rw [if_neg hi, if_neg (by simp only [List.mem_cons, not_or]; exact ⟨fun e => hv e.symm, hi⟩)]
theorem Sim.unwipe (s0 : Sim K π I H σ env F) (sm : Same I I') {vs : List Nat} (hp : ∀ i ∈ vs, i ∉ π.1) (s : Sim K π I' H' (L2.wipe σ vs) e F') : Sim K π I' H' σ (unw env e vs) (clF F' vs) := by
  have hl : e.length = σ.length := by rw [s.len, wipe_length]
  refine ⟨by rw [unw_length, hl], fun i o q => ?_, fun i q => ?_, fun i j a h1 h2 => ?_, fun i a h => ?_, s.sub, fun i hi => s0.pin i hi⟩
  · rw [unw_at] at q
    by_cases h : i ∈ vs
    · rw [if_pos h] at q
      by_cases hi : i < e.length
      · rw [if_pos hi] at q
        have q := Option.some.inj q
        unfold frO at q
        cases q3 : env[i]? with
        | none => rw [q3] at q; cases q
        | some y =>
          cases y with
          | none => rw [q3] at q; cases q
          | some o' =>
            rw [q3] at q
            cases o' with
            | fr d =>
              cases q
              obtain ⟨v, e1, r⟩ := s0.rep i _ q3
              exact ⟨v, e1, by unfold clF; rw [if_pos h]; exact ⟨rfl, r.2.mono sm⟩⟩
            | ol _ => cases q
            | oo _ => cases q
      · rw [if_neg hi] at q; cases q
    · rw [if_neg h] at q
      obtain ⟨v, e1, r⟩ := s.rep i o q
      rw [wipe_at, if_neg h] at e1
      exact ⟨v, e1, by unfold clF; rw [if_neg h]; exact r⟩
  · unfold clF
    by_cases h : i ∈ vs
    · rw [if_pos h]
    · rw [if_neg h]; exact s.out i fun o z => q o (by rw [unw_at, if_neg h]; exact z)
  · unfold clF at h1 h2
    split at h1
    · cases h1
    · split at h2
      · cases h2
      · exact s.dis i j a h1 h2
  · unfold clF at h
    split at h
    · cases h
    · exact s.djI i a h
end
theorem Step.one {I H I1 H1 : Hp} {S S1 : Addr → Prop} (a : Step I H S I1 H1 S1) {D : Addr} {o : HO} (h : H D = some o) (n : ¬ S D) (i : I D = none) : H1 D = some o ∧ ¬ S1 D ∧ I1 D = none := by
  refine ⟨a.fr D o h n, fun z => ?_, ?_⟩
  · rcases a.s' D z with y | y
    · exact n y
    · rw [h] at y; cases y
  · cases q : I1 D with
    | none => rfl
    | some u =>
      rcases a.i' D u q with y | y | y
      · rw [i] at y; cases y
      · exact (n y).elim
      · rw [h] at y; cases y

/-! ### the loop -/
def nE {α : Type} : Res α → Res α
  | .er _ => .no
  | x => x
theorem nE_post {α : Type} {r : Res α} {P : α → Prop} {E E' : Exn → Prop} (h : (nE r).post P E) : r.post P E' := by
  cases r with
  | ok a => exact h
  | er x => exact h.elim
  | no => exact h
def lcL (vs : List Nat) (t : Tg) (test : TF) (elt : EF) : List PyData → Env → List PyData → Res (List PyData × Env)
  | [], e, acc => .ok (acc, e)
  | d :: ds, e, acc => asT t d e >>= fun e1 => nE (test e1) >>= fun b => if b.1 = true then nE (elt b.2) >>= fun r => if acc.length < 100000 then lcL vs t test elt ds (wipeE r.2 vs) (acc ++ [r.1.data]) else .no
    else lcL vs t test elt ds (wipeE b.2 vs) acc
def fLc (fi : IF) (vs : List Nat) (t : Tg) (test : TF) (elt : EF) : EF := fun env => fi env >>= fun r => lcL vs t test elt r.1 (wipeE r.2 vs) [] >>= fun q => .ok (.ol q.1, unw r.2 q.2 vs)
def fYes : TF := fun env => .ok (true, env)
def G.nox (g : G) : G := { g with E := fun _ _ _ => False }
section
variable {g : G} {X : Cx} {a b c e : Expr} {es : List Expr} {pos : Pos} {σ : St} {H I : Hp} {env : Env} {F : Nat → List Addr}
theorem lcL_er {vs : List Nat} {t : Tg} {test : TF} {elt : EF} : ∀ {ds : List PyData} {e : Env} {acc : List PyData} {x : Exn}, lcL vs t test elt ds e acc ≠ .er x
  | [], _, _, _ => fun h => by cases h
  | d :: ds, e, acc, x => fun h => by
    unfold lcL at h
    cases q : asT t d e with
    | no => rw [q] at h; cases h
    | er y => exact asT_er q
    | ok e1 =>
      rw [q, bind_ok] at h
      cases q2 : test e1 with
      | no => rw [q2] at h; cases h
      | er y => rw [q2] at h; cases h
      | ok b =>
        rw [q2] at h
        have h : (if b.1 = true then nE (elt b.2) >>= fun r => if acc.length < 100000 then lcL vs t test elt ds (wipeE r.2 vs) (acc ++ [r.1.data]) else .no else lcL vs t test elt ds (wipeE b.2 vs) acc) = .er x := h
        by_cases hb : b.1 = true
        · rw [if_pos hb] at h
          cases q3 : elt b.2 with
          | no => rw [q3] at h; cases h
          | er y => rw [q3] at h; cases h
          | ok r =>
            rw [q3] at h
            have h : (if acc.length < 100000 then lcL vs t test elt ds (wipeE r.2 vs) (acc ++ [r.1.data]) else .no) = .er x := h
            split at h
            · exact lcL_er h
            · cases h
        · rw [if_neg hb] at h; exact lcL_er h
theorem lc_key {fi : IF} {vs : List Nat} {t : Tg} {test : TF} {elt : EF} {Q : VK} (hp : ∀ i ∈ vs, i ∉ g.pn.1) (hv : ∀ i ∈ t.slots, i ∈ vs) (h : tD g (fLc fi vs t test elt) σ H Q) : tLc (tI g fi) (rdT g.K t) (tT g.nox test) (tD g.nox elt) vs σ H Q := by
  obtain ⟨I, env, F, s, p⟩ := h
  refine ⟨I, env, F, s, post_mono (post_bind.mp p) (fun r q J H1 I1 F1 s1 st1 ok D nD => ?_) fun _ z => z⟩
  have nI : I1 D = none := none_of_same s1.sub nD
  have nF : ∀ {F2 : Nat → List Addr}, F2 = F1 → ¬ Ow F2 D := fun e z => by subst e; obtain ⟨o, ho⟩ := s1.domO z; rw [nD] at ho; cases ho
  let PP : List PyData × Env → Prop := fun q => ∀ v H', Aft g.K g.pn I H F σ (unw r.2 q.2 vs) (.ol q.1) v H' → Q v H'
  let L : List PyData → Hp → Prop := fun ds H2 => ∃ I2 e F2 acc us, Sim g.K g.pn I2 H2 (wipe σ vs) e F2 ∧ H2 D = some (.lst us) ∧ RpAll g.K I2 us acc ∧ I2 D = none ∧ ¬ Ow F2 D ∧ Step I1 H1 (Ow F1) I2 H2 (fun a => Ow F2 a ∨ a = D) ∧
    (lcL vs t test elt ds e acc).post PP (fun _ => False)
  have q0 : (lcL vs t test elt r.1 (wipeE r.2 vs) []).post PP (fun _ => False) := by
    have q := post_bind.mp q
    cases z : lcL vs t test elt r.1 (wipeE r.2 vs) [] with
    | no => rw [z] at q; exact q
    | er x => exact absurd z lcL_er
    | ok y => rw [z] at q; exact q
  refine ⟨fun i m H2 => m = r.1.length - i ∧ i ≤ r.1.length ∧ L (r.1.drop i) H2, ⟨r.1.length, by simp, Nat.zero_le _, I1, wipeE r.2 vs, clF F1 vs, [], [], ?_, upd_same, .nil, nI, fun z => nF rfl (clF_ow z), ?_, q0⟩, ?_⟩
  · refine (s1.wipe hp).heap (Same.refl _) (s1.sub.trans (same_new nD)) (fun a ha => ?_) (fun a ⟨i, hi⟩ => (s1.wipe hp).djI i a hi)
    rw [upd_ne]; intro z; subst z; exact nF rfl (clF_ow ha)
  · refine ⟨Same.refl _, fun a o h _ => same_new nD a o h, fun a h => ?_, fun a o h => .inl h⟩
    rcases h with h | h
    · exact .inl (clF_ow h)
    · subst h; exact .inr nD
  · rintro i m H2 ⟨rfl, hi, I2, e, F2, acc, us, s2, hD, ra, iD, oD, st2, p2⟩
    have sm : Same I1 I2 := st2.i1
    by_cases hlt : i < r.1.length
    · have hd : r.1[i]? = some r.1[i] := List.getElem?_eq_getElem hlt
      have dr : r.1.drop i = r.1[i] :: r.1.drop (i + 1) := List.drop_eq_getElem_cons hlt
      rw [dr] at p2
      have ok1 := (ok I2 H2 i sm s2.sub).1 _ hd
      refine .inr ⟨ok1.1, L (r.1.drop (i + 1)), fun H' n => ⟨r.1.length - (i + 1), by omega, rfl, hlt, n⟩, fun x H3 y => ?_⟩
      obtain ⟨I3, gr⟩ := ok1.2 x H3 y
      obtain ⟨I4, F4, rp, s4, st4⟩ := (gr.aft s2).frz
      have p3 := post_bind.mp p2
      cases q2 : asT t r.1[i] e with
      | no => rw [q2] at p3; exact p3.elim
      | er x => exact absurd q2 asT_er
      | ok e1 =>
        rw [q2] at p3
        refine tg_key (fun j hj => hp j (hv j hj)) s4 rp q2 fun σ2 F5 ho s5 hF => ?_
        have wσ := wipe_only hv ho
        refine ⟨wσ, ?_⟩
        have st5 := st4.less hF
        obtain ⟨d1, d2, d3⟩ := st5.one hD oD iD
        have TD : ∀ x, x = D → ∃ o, H2 x = some o := fun x e => by subst e; exact ⟨_, hD⟩
        have TN : ∀ x, x = D → ¬ Ow F2 x := fun x e => by subst e; exact oD
        refine ⟨I4, e1, F5, s5, post_mono (nE_post (post_bind.mp p3)) (fun b pb H6 af => ?_) fun _ z => z⟩
        obtain ⟨I6, F6, s6, st6⟩ := af
        have st56 := st5.trans st6
        obtain ⟨b1, b2, b3⟩ := st56.one hD oD iD
        by_cases hb : b.1 = true
        · rw [if_pos hb] at pb ⊢
          refine ⟨I6, b.2, F6, s6, post_mono (nE_post (post_bind.mp pb)) (fun r7 p7 v7 H7 af7 => ?_) fun _ z => z⟩
          obtain ⟨I8, F8, rp8, s8, st8⟩ := af7.frz
          have st58 := st56.trans st8
          obtain ⟨c1, c2, c3⟩ := st58.one hD oD iD
          by_cases hz : acc.length < 100000
          · rw [if_pos hz] at p7
            refine ⟨us, c1, by rw [ra.length]; exact Nat.lt_of_lt_of_le hz (by decide), I8, wipeE r7.2 vs, clF F8 vs, acc ++ [r7.1.data], us ++ [v7], ?_, upd_same, (ra.mono st58.i1).app (.cons rp8 .nil), c3, fun z => c2 (clF_ow z), ?_, p7⟩
            · rw [← wσ]
              refine (s8.wipe hp).heap (Same.refl _) (fun a o h => ?_) (fun a ha => ?_) (fun a ⟨j, hj⟩ => (s8.wipe hp).djI j a hj)
              · rw [upd_ne (fun z => by subst z; rw [c3] at h; cases h)]; exact s8.sub a o h
              · rw [upd_ne]; intro z; subst z; exact c2 (clF_ow ha)
            · refine st2.trans ((st58.aside (fun x => x = D) TD TN).trans ⟨Same.refl _, fun a o h n => ?_, fun a h => ?_, fun a o h => .inl h⟩)
              · rw [upd_ne fun z => n (.inr z)]; exact h
              · rcases h with h | h
                · exact .inl (.inl (clF_ow h))
                · exact .inl (.inr h)
          · rw [if_neg hz] at p7; exact p7.elim
        · rw [if_neg hb] at pb ⊢
          refine ⟨I6, wipeE b.2 vs, clF F6 vs, acc, us, ?_, b1, ra.mono st56.i1, b3, fun z => b2 (clF_ow z), ?_, pb⟩
          · rw [← wσ]; exact s6.wipe hp
          · refine st2.trans ((st56.aside (fun x => x = D) TD TN).less fun a h => ?_)
            rcases h with h | h
            · exact .inl (clF_ow h)
            · exact .inr h
    · have e0 : i = r.1.length := by omega
      subst e0
      rw [List.drop_length] at p2
      refine .inl ⟨(ok I2 H2 _ sm s2.sub).2 rfl, p2 _ _ ⟨I2, clF F2 vs, [D], ⟨D, us, rfl, rfl, hD, ra⟩, s1.unwipe sm hp s2, fun a ha => ?_, fun a ha hr => ?_, ?_⟩⟩
      · simp at ha; subst ha; exact iD
      · simp at hr; subst hr; exact oD (clF_ow ha)
      · refine st1.trans (st2.less fun a h => ?_)
        rcases h with h | h
        · exact .inl (clF_ow h)
        · simp at h; exact .inr h
theorem pts_yes : PTs X [] (tT g fYes) := ⟨fun pins s σ H Q I h => pts_nil.run pins s σ H Q I (by
  obtain ⟨I, env, F, s, p⟩ := h
  exact p H ⟨I, F, s, Step.refl⟩)⟩
theorem de_lc {elt tg iter : Expr} {ifs : List Expr} {scope : Scope} {own : List (Str × Nat)} {fi : IF} {t : Tg} {test : TF} {fe : EF} (hp : ∀ i ∈ own.map (·.2), i ∉ g.pn.1) (hv : ∀ i ∈ t.slots, i ∈ own.map (·.2)) (hc : X.calm = true) (hN : X.N.Nodup) (hi : DI g X tg iter fi) (ok : BlkOk X.N X.env.scope scope own)
    (hg : ∀ (s : Shared) (H : Hp) (C : Addr) (cl : List (Str × Addr)) (fp : List Addr), PG (X.blk s H scope (compEnvC scope cl C X.env) fp) tg (rdT g.K t)) (ht : ∀ (s : Shared) (H : Hp) (C : Addr) (cl : List (Str × Addr)) (fp : List Addr), PTs (X.blk s H scope (compEnvC scope cl C X.env) fp) ifs (tT g.nox test))
    (he : ∀ (s : Shared) (H : Hp) (C : Addr) (cl : List (Str × Addr)) (fp : List Addr), DE g.nox (X.blk s H scope (compEnvC scope cl C X.env) fp) elt fe) (hs : ∀ x, foldedSetIterable iter X.env x = pure x := by intro _; rfl) :
    DE g X (.ListComp elt [⟨tg, iter, ifs, 0⟩] scope pos) (fLc fi (own.map (·.2)) t test fe) := PE.imp (pe_lc hc hN hi ok hg ht he hs) fun σ H Q h => lc_key hp hv h
/-- y = [..] -/
theorem ds_setLc {i : Nat} {y : Str} {py : Pos} {elt tg iter : Expr} {ifs : List Expr} {scope : Scope} {own : List (Str × Nat)} {spos : Pos} {fi : IF} {t : Tg} {test : TF} {fe : EF} (hpi : i ∉ g.pn.1) (hp : ∀ i ∈ own.map (·.2), i ∉ g.pn.1) (hv : ∀ i ∈ t.slots, i ∈ own.map (·.2)) (hc : X.calm = true) (hN : X.N.Nodup) (hy : X.N[i]? = some y) (hyl : X.env.scope.names.lookup y = some .local)
    (hsw : swapsWith (.ListComp elt [⟨tg, iter, ifs, 0⟩] scope pos) (some (.Name y py)) spos.line X.env = pure true) (hi : DI g X tg iter fi) (ok : BlkOk X.N X.env.scope scope own)
    (hg : ∀ (s : Shared) (H : Hp) (C : Addr) (cl : List (Str × Addr)) (fp : List Addr), PG (X.blk s H scope (compEnvC scope cl C X.env) fp) tg (rdT g.K t)) (ht : ∀ (s : Shared) (H : Hp) (C : Addr) (cl : List (Str × Addr)) (fp : List Addr), PTs (X.blk s H scope (compEnvC scope cl C X.env) fp) ifs (tT g.nox test))
    (he : ∀ (s : Shared) (H : Hp) (C : Addr) (cl : List (Str × Addr)) (fp : List Addr), DE g.nox (X.blk s H scope (compEnvC scope cl C X.env) fp) elt fe) (hs : ∀ x, foldedSetIterable iter X.env x = pure x := by intro _; rfl) :
    DS g X (.Assign [.Name y py] (.ListComp elt [⟨tg, iter, ifs, 0⟩] scope pos) spos) (fSet i (fLc fi (own.map (·.2)) t test fe)) := PS.imp (ps_setLc hc hN hy hyl hsw hi ok hg ht he hs) fun D σ H h => by
  have := set_key hpi h
  exact lc_key hp hv this
end
end Dy

/-! D5: defs and calls. -/
namespace Dy
open PySem PySem.Spec PyProof.Rows L2

/-! ### a def's promise where no repr is under way -/
structure FnG (P : Program) (w : World) (K : PySem.W.Frag) (mg : Str → Option Value) (base : Heap) (k : Nat) (f : Addr) (fd : FuncData) (ps : List Str) (sp : Sp) : Prop where
  len : ∀ vs H Q E, sp vs H Q E → vs.length = ps.length
  run : ∀ (A : Around) (outer : List PySem.Env) (s : Shared) (H : Hp) (args : Args) (us : List Value) (vs : List V) (Q : VK) (E : XK), A.guards = some [] → Room k A → L2.Env0 P w K mg base A outer s H → BindsTo s fd args (ps.zip us) → Vals vs us →
    sp vs H Q E → codeAny (model P w) A (.call (.ref f) args) (CR (L2.CX P w) outer P w H s Q E) s
end Dy
namespace Dy
open PySem PySem.Spec PyProof.Rows L2
theorem FnG.mono {P : Program} {w : World} {K : PySem.W.Frag} {mg : Str → Option Value} {base : Heap} {j k : Nat} {f : Addr} {fd : FuncData} {ps : List Str} {sp : Sp} (F : FnG P w K mg base j f fd ps sp) (h : j ≤ k) : FnG P w K mg base k f fd ps sp :=
  ⟨F.len, fun A outer s H args us vs Q E hg hr => F.run A outer s H args us vs Q E hg (hr.mono h)⟩
theorem FnG.imp {P : Program} {w : World} {K : PySem.W.Frag} {mg : Str → Option Value} {base : Heap} {k : Nat} {f : Addr} {fd : FuncData} {ps : List Str} {sp sp' : Sp} (F : FnG P w K mg base k f fd ps sp) (h : ∀ vs H Q E, sp' vs H Q E → sp vs H Q E) : FnG P w K mg base k f fd ps sp' :=
  ⟨fun vs H Q E q => F.len vs H Q E (h _ _ _ _ q), fun A outer s H args us vs Q E hg hr he hb hv hs => F.run A outer s H args us vs Q E hg hr he hb hv (h _ _ _ _ hs)⟩
/-- by its body -/
theorem fnG_of {P : Program} {w : World} {K : PySem.W.Frag} {mg : Str → Option Value} {base : Heap} {k : Nat} {x qual : Str} {st : Stmt} {f : Addr} {fd : FuncData} {N ps : List Str} {sp : Sp} (F : Fun K x qual st f fd) (S : FnScope N ps (defScope st))
    (len : ∀ vs H Q E, sp vs H Q E → vs.length = ps.length)
    (body : ∀ (cdv : Value) (A : Around) (outer : List PySem.Env) (s : Shared) (H : Hp) (vs : List V) (Q : VK) (E : XK), (A.deeper (envOfC qual (defScope st) s.heap.objs.size f cdv)).guards = some [] → Room k (A.deeper (envOfC qual (defScope st) s.heap.objs.size f cdv)) → sp vs H Q E →
      ∃ t, PSs (cxOf (L2.CX P w) P w K mg base N qual (defScope st) f cdv A outer s H E) (defBody st) t ∧ t { nx := fun _ H' => Q .non H', rt := Q } (L2.start N vs) H) : FnG P w K mg base (k + 1) f fd ps sp := by
  obtain ⟨oc, od, kV, doc, pm, an, cdv, ct, osl, rfl, lk, hcd⟩ := F.ex
  refine ⟨len, ?_⟩
  intro A outer s H args us vs Q E hg hr e0 hb r hsp
  have KX : K.In s.heap := e0.mod.kin.keeps (fun b o e => (e0.bs b o e).1)
  have lim : s.heap.NoLimit := e0.mod.nolimit.keeps (fun b o e => (e0.bs b o e).1)
  have hk : ∀ y ∈ ps.zip us, (defScope st).names.lookup y.1 = some .local ∨ ((defScope st).names.lookup y.1 = some .cell ∧ ((cellsFrom (s.heap.objs.size + 1) (defScope st).names []).lookup y.1).isSome = true) := by
    intro y hy
    rcases S.par y.1 (List.of_mem_zip hy).1 with q | q
    · exact Or.inl q
    · exact Or.inr ⟨q, PySem.W.cellsFrom_some _ _ _ (Or.inl q)⟩
  refine codeAny_call_function hr.depth (KX f _ lk) rfl S.co S.gen rfl (PySem.W.codeRec_of KX hcd) (hb _ _ _ _ ?_)
  refine wpAny_newFunctionEnv_cells S.kind hk (fun env he s1 hc => ?_)
  subst he
  refine ⟨lim.keeps hc.toInCall.keep, codeAny_func ?_⟩
  obtain ⟨t, ht, hq⟩ := body cdv A outer s H vs Q E hg (hr.deeper _) hsp
  have J : Inv (cxOf (L2.CX P w) P w K mg base N qual (defScope st) f cdv A outer s H E) [] (L2.start N vs) H s1 := inv_start S hr.hd e0 (len vs H Q E hsp) r hc
  refine wpAny_mono (ht.run [] s1 (L2.start N vs) H _ J hq) (fun fl s' hs => ?_) (fun e s' hs => hs)
  cases fl with
  | ret u =>
    obtain ⟨v, σ', H', J', rv, q⟩ := hs
    exact ⟨v, H', J'.os, J'.bare, J'.base, J'.hok, rv, q⟩
  | next =>
    obtain ⟨σ', H', J', q⟩ := hs
    exact ⟨.non, H', J'.os, J'.bare, J'.base, J'.hok, rfl, q⟩
  | brk =>
    obtain ⟨_, _, _, q⟩ := hs
    exact q.elim
  | cont =>
    obtain ⟨_, _, _, q⟩ := hs
    exact q.elim
section
variable {X : Cx} {k : Nat} {f : Addr} {fd : FuncData} {ps : List Str} {sp : Sp} {E : XK} {x : Str} {p pos : Pos} {e : Expr} {es : List Expr} {t : TA}
theorem runG {pins : List (Addr × Obj)} {σ : St} {H : Hp} {s : Shared} {Q : VK} {us : List Value} {vs : List V} (F : FnG X.prog X.w X.K X.mg X.base k f fd ps sp) (hg : X.A.guards = some []) (hr : Room k X.A) (hb : Binds X.K fd ps []) (hx : Passes (L2.CX X.prog X.w) X E)
    (J : Inv X pins σ H s) (r : Vals vs us) (h : sp vs H Q E) : wpAny (model X.prog X.w) X.A (call (.ref f) us) (EP X pins σ Q) X.xe s := by
  have hl : (us ++ []).length = ps.length := by rw [List.append_nil, ← r.length]; exact F.len _ _ _ _ h
  have hb' := hb s us J.kIn hl
  rw [List.append_nil] at hb'
  refine wpAny_call (codeAny_mono (F.run X.A X.stack s H ⟨us, []⟩ us vs Q E hg hr J.env0 hb' r h) (fun y s' hq => ?_))
  cases y with
  | error u => exact hx pins σ H s u s' J hq
  | ok fl =>
    cases fl with
    | ret u => exact J.after hq
    | next => exact hq.elim
    | brk => exact hq.elim
    | cont => exact hq.elim
theorem peG (F : FnG X.prog X.w X.K X.mg X.base k f fd ps sp) (hgd : X.A.guards = some []) (hr : Room k X.A) (hg : Gl X x) (hm : X.mg x = some (.ref f)) (hk : PySem.W.keepIn X.K (.ref f) = true) (hb : Binds X.K fd ps []) (hx : Passes (L2.CX X.prog X.w) X E)
    (ha : PA X (e :: es) t) (hdb : (x == ("__debug__" : Str)) = false := by decide) (he : starEach (e :: es) X.env = (false, eval e X.env) :: starEach es X.env := by rfl) (hpl : (backTo pos (starEach es X.env)).any (·.1) = false := by rfl) :
    PE X (.Call (.Name x p) (e :: es) [] pos) (fun σ H Q => t σ H fun vs H1 => sp vs H1 Q E) := by
  refine ⟨fun pins s σ H Q J h => wpAny_Call_Name_kw (ld_glob J hg hm ?_ hdb)⟩
  refine PySem.W.callWith_K (h₀ := X.base) J.ok.mod.kin hk (thn (ha.run pos pins s σ H _ J h) ?_) he hpl
  rintro us s1 ⟨vs, H1, J1, r, q⟩
  exact ⟨J1.kIn, runG F hgd hr hb hx J1 r q⟩
theorem peG0 (F : FnG X.prog X.w X.K X.mg X.base k f fd ps sp) (hgd : X.A.guards = some []) (hr : Room k X.A) (hg : Gl X x) (hm : X.mg x = some (.ref f)) (hk : PySem.W.keepIn X.K (.ref f) = true) (hb : Binds X.K fd ps []) (hx : Passes (L2.CX X.prog X.w) X E)
    (hdb : (x == ("__debug__" : Str)) = false := by decide) : PE X (.Call (.Name x p) [] [] pos) (fun σ H Q => sp [] H Q E) := by
  refine ⟨fun pins s σ H Q J h => wpAny_Call_Name_kw (ld_glob J hg hm ?_ hdb)⟩
  exact PySem.W.callWith_K0 J.kIn hk (runG (us := []) F hgd hr hb hx J .nil h)
end

/-! ### the mirror of a def, of a call -/
abbrev Fn := List O → Res (O × List O)
def p0 : Pn := ([], fun _ => .non)
def spD (K : PySem.W.Frag) (mg : Str → Option Value) (m : Fn) : Sp := fun vs H Q E => ∃ I os F, Sim K p0 I H (vs.map some) (os.map some) F ∧
  (m os).post (fun r => ∀ v H', Aft K p0 I H F (vs.map some) (r.2.map some) r.1 v H' → Q v H') (fun x => ∀ H' c d, Err I H (Ow F) H' → XR mg x c d H' → E c d H')
def isFr : O → Bool
  | .fr _ => true
  | _ => false
def okA (rp : List Nat) : Nat → List O → Bool
  | _, [] => true
  | k, o :: os => (rp.contains k || isFr o) && okA rp (k + 1) os
def bkA (rp : List Nat) (e : Env) : Nat → List O → Option (List O)
  | _, [] => some []
  | k, o :: os => match (if rp.contains k then (e[k]?).join else some o), bkA rp e (k + 1) os with
    | some o', some os' => some (o' :: os')
    | _, _ => none
def fnM (n N : Nat) (rp : List Nat) (body : SF) : Fn := fun os => if os.length = n ∧ okA rp 0 os = true then
    body (os.map some ++ List.replicate (N - n) none) >>= fun r => match bkA rp r.2 0 os with
      | none => .no
      | some os' => match r.1 with
        | .rt o => .ok (o, os')
        | .nx => .ok (.fr .none, os')
        | _ => .no
  else .no
theorem okA_at {rp : List Nat} : ∀ {os : List O} {k i : Nat} {o : O}, okA rp k os = true → os[i]? = some o → k + i ∉ rp → isFr o = true
  | [], _, _, _, _, h, _ => by simp at h
  | o :: os, k, 0, _, h, e, n => by
    simp at e; subst e
    unfold okA at h
    simp only [Bool.and_eq_true, Bool.or_eq_true, List.contains_iff_mem] at h
    rcases h.1 with z | z
    · exact absurd z n
    · exact z
  | o :: os, k, i + 1, _, h, e, n => by
    unfold okA at h
    simp only [Bool.and_eq_true] at h
    exact okA_at (k := k + 1) (i := i) h.2 (by simpa using e) (by rwa [Nat.add_right_comm k 1 i, Nat.add_assoc])
theorem bkA_at {rp : List Nat} {e : Env} : ∀ {os os' : List O} {k i : Nat} {o' : O}, bkA rp e k os = some os' → os'[i]? = some o' → (k + i ∈ rp ∧ e[k + i]? = some (some o')) ∨ (k + i ∉ rp ∧ os[i]? = some o')
  | [], _, _, _, _, h, e1 => by cases h; simp at e1
  | o :: os, os', k, i, o', h, e1 => by
    unfold bkA at h
    cases q1 : (if rp.contains k then (e[k]?).join else some o) with
    | none => rw [q1] at h; cases h
    | some y =>
      cases q2 : bkA rp e (k + 1) os with
      | none => rw [q1, q2] at h; cases h
      | some ys =>
        rw [q1, q2] at h; cases h
        cases i with
        | zero =>
          simp at e1; subst e1
          by_cases hk : k ∈ rp
          · left
            refine ⟨hk, ?_⟩
            rw [if_pos (by simpa using hk)] at q1
            rw [Nat.add_zero]
            cases z : e[k]? with
            | none => rw [z] at q1; cases q1
            | some w => rw [z] at q1; cases w <;> cases q1; rfl
          · right
            refine ⟨hk, ?_⟩
            rw [if_neg (by simpa using hk)] at q1
            simpa using q1
        | succ i =>
          rcases bkA_at q2 (i := i) (o' := o') (by simpa using e1) with ⟨a, b⟩ | ⟨a, b⟩
          · exact .inl ⟨by rwa [Nat.add_right_comm k 1 i, Nat.add_assoc] at a, by rwa [Nat.add_right_comm k 1 i, Nat.add_assoc] at b⟩
          · exact .inr ⟨by rwa [Nat.add_right_comm k 1 i, Nat.add_assoc] at a, by simpa using b⟩
theorem bkA_len {rp : List Nat} {e : Env} : ∀ {os os' : List O} {k : Nat}, bkA rp e k os = some os' → os'.length = os.length
  | [], _, _, h => by cases h; rfl
  | o :: os, os', k, h => by
    unfold bkA at h
    cases q1 : (if rp.contains k then (e[k]?).join else some o) with
    | none => rw [q1] at h; cases h
    | some y =>
      cases q2 : bkA rp e (k + 1) os with
      | none => rw [q1, q2] at h; cases h
      | some ys => rw [q1, q2] at h; cases h; simp [bkA_len q2]
theorem getm {α : Type} {l : List α} {i : Nat} {x : α} (h : (l.map some)[i]? = some (some x)) : l[i]? = some x := by
  rw [List.getElem?_map] at h
  cases q : l[i]? with
  | none => rw [q] at h; cases h
  | some y => rw [q] at h; cases h; rfl
theorem putm {α : Type} {l : List α} {i : Nat} {x : α} (h : l[i]? = some x) : (l.map some)[i]? = some (some x) := by rw [List.getElem?_map, h]; rfl
/-- back in the caller: the arguments behind the body -/
theorem back_args {K : PySem.W.Frag} {I H : Hp} {F : Nat → List Addr} {vs : List V} {os os' : List O} {rp : List Nat} {π : Pn} {σ' : St} {e : Env} {o : O} {v : V} {H' : Hp} (s0 : Sim K p0 I H (vs.map some) (os.map some) F) (hπ : π.1 = rp) (hv : ∀ i ∈ rp, vs[i]? = some (π.2 i))
    (hok : okA rp 0 os = true) (hb : bkA rp e 0 os = some os') (af : Aft K π I H F σ' e o v H') : Aft K p0 I H F (vs.map some) (os'.map some) o v H' := by
  obtain ⟨I', F', R, r, s, nR, dR, st⟩ := af
  have hl : os'.length = vs.length := by
    have h1 := bkA_len hb
    have h2 := s0.len
    simp only [List.length_map] at h2
    omega
  let F2 : Nat → List Addr := fun i => if i ∈ rp then F' i else []
  have ow : ∀ a, Ow F2 a → Ow F' a := fun a ⟨i, hi⟩ => by
    by_cases h : i ∈ rp
    · exact ⟨i, by simpa [F2, h] using hi⟩
    · simp [F2, h] at hi
  refine ⟨I', F2, R, r, ⟨by simp [hl], fun i y q => ?_, fun i q => ?_, fun i j a h1 h2 => ?_, fun i a h => ?_, s.sub, fun i hi => by cases hi⟩, nR, fun a ha => dR a (ow a ha), st.less fun a h => h.elim (fun z => .inl (ow a z)) .inr⟩
  · have q := getm q
    rcases bkA_at hb q with ⟨h1, h2⟩ | ⟨h1, h2⟩
    · rw [Nat.zero_add] at h1 h2
      obtain ⟨u, e1, rr⟩ := s.rep i y h2
      have e2 := s.pin i (by rw [hπ]; exact h1)
      rw [e1] at e2; cases e2
      exact ⟨_, putm (hv i h1), by simpa [F2, h1] using rr⟩
    · rw [Nat.zero_add] at h1
      have fr := okA_at hok h2 (by rw [Nat.zero_add]; exact h1)
      cases y with
      | fr d =>
        obtain ⟨u, e1, rr⟩ := s0.rep i _ (putm h2)
        exact ⟨u, e1, by simp [F2, h1, RepO]; exact rr.2.mono st.i1⟩
      | ol _ => cases fr
      | oo _ => cases fr
  · by_cases h : i ∈ rp
    · have h1 := hv i h
      have hi : i < os'.length := by
        rw [hl]
        cases Nat.lt_or_ge i vs.length with
        | inl z => exact z
        | inr z => rw [List.getElem?_eq_none z] at h1; cases h1
      exact absurd (putm (List.getElem?_eq_getElem hi)) (q _)
    · simp [F2, h]
  · by_cases h : i ∈ rp
    · by_cases h' : j ∈ rp
      · exact s.dis i j a (by simpa [F2, h] using h1) (by simpa [F2, h'] using h2)
      · simp [F2, h'] at h2
    · simp [F2, h] at h1
  · by_cases h' : i ∈ rp
    · exact s.djI i a (by simpa [F2, h'] using h)
    · simp [F2, h'] at h
theorem sim_start {K : PySem.W.Frag} {I H : Hp} {F : Nat → List Addr} {vs : List V} {os : List O} {N : List Str} {rp : List Nat} {n : Nat} (s0 : Sim K p0 I H (vs.map some) (os.map some) F) (hv : vs.length = n) (hrp : ∀ i ∈ rp, i < n) :
    Sim K (rp, fun i => vs.getD i .non) I H (L2.start N vs) (os.map some ++ List.replicate (N.length - n) none) F := by
  have hl := s0.len
  simp only [List.length_map] at hl
  have low : ∀ i, i < vs.length → (L2.start N vs)[i]? = (vs.map some)[i]? := fun i h => by unfold L2.start; rw [List.getElem?_append_left (by simpa using h)]
  have env : ∀ i o, (os.map some ++ List.replicate (N.length - n) none)[i]? = some (some o) → (os.map some)[i]? = some (some o) := fun i o q => by
    by_cases h : i < os.length
    · rwa [List.getElem?_append_left (by simpa using h)] at q
    · rw [List.getElem?_append_right (by simpa using h), List.getElem?_replicate] at q
      split at q <;> cases q
  refine ⟨by unfold L2.start; simp [hl, hv], fun i o q => ?_, fun i q => s0.out i fun o z => q o ?_, s0.dis, s0.djI, s0.sub, fun i hi => ?_⟩
  · have q := env i o q
    obtain ⟨v, e1, r⟩ := s0.rep i o q
    refine ⟨v, ?_, r⟩
    rw [low i (by
      cases Nat.lt_or_ge i vs.length with
      | inl z => exact z
      | inr z => rw [List.getElem?_eq_none (by simpa using z)] at e1; cases e1)]
    exact e1
  · rw [List.getElem?_append_left (by
      cases Nat.lt_or_ge i os.length with
      | inl h => simpa using h
      | inr h => rw [List.getElem?_eq_none (by simpa using h)] at z; cases z)]
    exact z
  · have h := hrp i hi
    rw [low i (by omega), List.getElem?_map]
    show Option.map some vs[i]? = some (some (vs.getD i .non))
    rw [List.getD_eq_getElem?_getD, List.getElem?_eq_getElem (by omega)]
    rfl
/-- THE RULE for a def -/
theorem fnD {P : Program} {w : World} {K : PySem.W.Frag} {mg : Str → Option Value} {base : Heap} {k : Nat} {x qual : Str} {st : Stmt} {f : Addr} {fd : FuncData} {N ps : List Str} {n nN : Nat} {rp : List Nat} {m : SF} (F : Fun K x qual st f fd) (S : FnScope N ps (defScope st)) (hn : ps.length = n) (hN : N.length = nN) (hrp : ∀ i ∈ rp, i < n)
    (body : ∀ (cdv : Value) (A : Around) (outer : List PySem.Env) (s : Shared) (H : Hp) (pv : Nat → V) (E : XK), (A.deeper (envOfC qual (defScope st) s.heap.objs.size f cdv)).guards = some [] → Room k (A.deeper (envOfC qual (defScope st) s.heap.objs.size f cdv)) →
      DSs ⟨K, mg, (rp, pv), E⟩ (cxOf (L2.CX P w) P w K mg base N qual (defScope st) f cdv A outer s H E) (defBody st) m) : FnG P w K mg base (k + 1) f fd ps (spD K mg (fnM n nN rp m)) := by
  have ln : ∀ {vs : List V} {H : Hp} {Q : VK} {E : XK}, spD K mg (fnM n nN rp m) vs H Q E → ∃ I os F, Sim K p0 I H (vs.map some) (os.map some) F ∧ os.length = n ∧ okA rp 0 os = true ∧ vs.length = n ∧
      (m (os.map some ++ List.replicate (nN - n) none) >>= fun r => match bkA rp r.2 0 os with
      | none => .no
      | some os' => match r.1 with
        | .rt o => .ok (o, os')
        | .nx => .ok (.fr .none, os')
        | _ => .no).post (fun r => ∀ v H', Aft K p0 I H F (vs.map some) (r.2.map some) r.1 v H' → Q v H') (fun x => ∀ H' c d, Err I H (Ow F) H' → XR mg x c d H' → E c d H') := by
    rintro vs H Q E ⟨I, os, F, s, p⟩
    unfold fnM at p
    by_cases h : os.length = n ∧ okA rp 0 os = true
    · rw [if_pos h] at p
      have hl := s.len
      simp only [List.length_map] at hl
      exact ⟨I, os, F, s, h.1, h.2, by omega, p⟩
    · rw [if_neg h] at p; exact p.elim
  refine fnG_of F S (fun vs H Q E h => ?_) fun cdv A outer s H vs Q E hg hr h => ?_
  · obtain ⟨_, _, _, _, _, _, h, _⟩ := ln h
    rw [hn, h]
  · obtain ⟨I, os, F, sim, h1, h2, h3, p⟩ := ln h
    refine ⟨_, body cdv A outer s H (fun i => vs.getD i .non) E hg hr, I, _, F, sim_start (N := N) sim h3 hrp, ?_⟩
    rw [hN]
    refine post_mono (post_bind.mp p) (fun r q => ?_) fun x z => z
    obtain ⟨fl, e⟩ := r
    have hv : ∀ i ∈ rp, vs[i]? = some (vs.getD i .non) := fun i hi => by
      have := hrp i hi
      rw [List.getD_eq_getElem?_getD, List.getElem?_eq_getElem (by omega)]; rfl
    cases qb : bkA rp e 0 os with
    | none => simp only [qb] at q; exact q.elim
    | some os' =>
      simp only [qb] at q
      cases fl with
      | rt o => exact fun v σ' H' af => q v H' (back_args sim rfl hv h2 qb af)
      | nx => exact fun σ' H' ⟨I', F', s', st'⟩ => q .non H' (back_args sim rfl hv h2 qb (AftD.aft ⟨I', F', .non, s', st'⟩))
      | bk => exact q.elim
      | ct => exact q.elim

/-! ### a call -/
def sl : List AV → Nat → Option Nat
  | [], _ => none
  | .s j :: as, i => if j = i then some 0 else (sl as i).map (· + 1)
  | .d _ :: as, i => (sl as i).map (· + 1)
def ndS : List AV → Bool
  | [] => true
  | .d _ :: as => ndS as
  | .s i :: as => (sl as i).isNone && ndS as
def rsO (env : Env) : List AV → Option (List O)
  | [] => some []
  | .d x :: as => (rsO env as).map (.fr x :: ·)
  | .s i :: as => match (env[i]?).join, rsO env as with
    | some o, some os => some (o :: os)
    | _, _ => none
def putB : List AV → List O → Env → Env
  | .d _ :: as, _ :: os, e => putB as os e
  | .s i :: as, o :: os, e => putB as os (e.set i (some o))
  | _, _, e => e
def fCall (m : Fn) (as : List AF) : EF := fun env => evA as env >>= fun r => match rsO r.2 r.1 with
  | none => .no
  | some os => if ndS r.1 = true then m os >>= fun q => .ok (q.1, putB r.1 q.2 r.2) else .no
theorem sl_some : ∀ {as : List AV} {i k : Nat}, sl as i = some k → as[k]? = some (.s i)
  | [], _, _, h => by cases h
  | .s j :: as, i, k, h => by
    unfold sl at h
    by_cases e : j = i
    · rw [if_pos e] at h; cases h; subst e; rfl
    · rw [if_neg e] at h
      cases q : sl as i with
      | none => rw [q] at h; cases h
      | some k' => rw [q] at h; cases h; simpa using sl_some q
  | .d _ :: as, i, k, h => by
    unfold sl at h
    cases q : sl as i with
    | none => rw [q] at h; cases h
    | some k' => rw [q] at h; cases h; simpa using sl_some q
theorem sl_of : ∀ {as : List AV} {i k : Nat}, ndS as = true → as[k]? = some (.s i) → sl as i = some k
  | [], _, _, _, h => by simp at h
  | .s j :: as, i, 0, n, h => by
    simp at h; subst h
    unfold sl; rw [if_pos rfl]
  | .s j :: as, i, k + 1, n, h => by
    unfold ndS at n
    simp only [Bool.and_eq_true] at n
    have q := sl_of (k := k) n.2 (by simpa using h)
    have hj : j ≠ i := fun e => by subst e; rw [q] at n; exact absurd n.1 (by simp)
    unfold sl; rw [if_neg hj, q]; rfl
  | .d _ :: as, i, 0, n, h => by simp at h
  | .d _ :: as, i, k + 1, n, h => by
    have q : sl as i = some k := sl_of (as := as) (k := k) n (by simpa using h)
    unfold sl; rw [q]; rfl
theorem putB_len : ∀ {as : List AV} {os : List O} {e : Env}, (putB as os e).length = e.length
  | [], _, _ => rfl
  | .d _ :: _, [], _ => rfl
  | .s _ :: _, [], _ => rfl
  | .d _ :: as, _ :: os, e => by unfold putB; exact putB_len
  | .s i :: as, o :: os, e => by unfold putB; rw [putB_len, List.length_set]
theorem putB_at : ∀ {as : List AV} {os : List O} {e : Env} {i : Nat}, ndS as = true → os.length = as.length → (∀ j, (sl as j).isSome = true → j < e.length) → (putB as os e)[i]? = match sl as i with
    | some k => (os[k]?).map some
    | none => e[i]?
  | [], _, _, _, _, _, _ => rfl
  | .d _ :: as, [], _, _, _, h, _ => by cases h
  | .s _ :: as, [], _, _, _, h, _ => by cases h
  | .d _ :: as, o :: os, e, i, n, h, b => by
    unfold putB sl
    rw [putB_at (as := as) (i := i) n (by simpa using h) fun j hj => b j (by unfold sl; cases q : sl as j <;> simp [q] at hj ⊢)]
    cases sl as i <;> rfl
  | .s j :: as, o :: os, e, i, n, h, b => by
    unfold ndS at n
    simp only [Bool.and_eq_true] at n
    unfold putB sl
    rw [putB_at (i := i) n.2 (by simpa using h) fun j' hj => by
      rw [List.length_set]
      refine b j' ?_
      unfold sl
      split
      · rfl
      · cases q : sl as j' <;> simp [q] at hj ⊢]
    by_cases e1 : j = i
    · subst e1
      rw [if_pos rfl]
      cases q : sl as j with
      | some k => rw [q] at n; exact absurd n.1 (by simp)
      | none =>
        show (e.set j (some o))[j]? = _
        rw [List.getElem?_set_self (b j (by unfold sl; rw [if_pos rfl]; rfl))]; rfl
    · rw [if_neg e1]
      cases q : sl as i with
      | none =>
        show (e.set j (some o))[i]? = _
        rw [List.getElem?_set_ne e1]; rfl
      | some k => rfl
theorem rsO_len {env : Env} : ∀ {as : List AV} {os : List O}, rsO env as = some os → os.length = as.length
  | [], _, h => by cases h; rfl
  | .d x :: as, os, h => by
    unfold rsO at h
    cases q : rsO env as with
    | none => rw [q] at h; cases h
    | some y => rw [q] at h; cases h; simp [rsO_len q]
  | .s i :: as, os, h => by
    unfold rsO at h
    cases q1 : (env[i]?).join with
    | none => rw [q1] at h; cases h
    | some o =>
      cases q : rsO env as with
      | none => rw [q1, q] at h; cases h
      | some y => rw [q1, q] at h; cases h; simp [rsO_len q]
theorem rsO_at {env : Env} : ∀ {as : List AV} {os : List O} {k : Nat} {o : O}, rsO env as = some os → os[k]? = some o → (∃ x, as[k]? = some (.d x) ∧ o = .fr x) ∨ (∃ i, as[k]? = some (.s i) ∧ env[i]? = some (some o))
  | [], _, _, _, h, e => by cases h; simp at e
  | .d x :: as, os, k, o, h, e => by
    unfold rsO at h
    cases q : rsO env as with
    | none => rw [q] at h; cases h
    | some y =>
      rw [q] at h; cases h
      cases k with
      | zero => simp at e; subst e; exact .inl ⟨x, rfl, rfl⟩
      | succ k => rcases rsO_at (k := k) q (by simpa using e) with ⟨x, a, b⟩ | ⟨i, a, b⟩
                  · exact .inl ⟨x, by simpa using a, b⟩
                  · exact .inr ⟨i, by simpa using a, b⟩
  | .s i :: as, os, k, o, h, e => by
    unfold rsO at h
    cases q1 : (env[i]?).join with
    | none => rw [q1] at h; cases h
    | some o1 =>
      cases q : rsO env as with
      | none => rw [q1, q] at h; cases h
      | some y =>
        rw [q1, q] at h; cases h
        cases k with
        | zero =>
          simp at e; subst e
          refine .inr ⟨i, rfl, ?_⟩
          cases z : env[i]? with
          | none => rw [z] at q1; cases q1
          | some w => rw [z] at q1; cases w <;> cases q1; rfl
        | succ k => rcases rsO_at (k := k) q (by simpa using e) with ⟨x, a, b⟩ | ⟨i, a, b⟩
                    · exact .inl ⟨x, by simpa using a, b⟩
                    · exact .inr ⟨i, by simpa using a, b⟩
theorem av_len {K : PySem.W.Frag} {I : Hp} {σ : St} : ∀ {as : List AV} {vs : List V}, RepAV K I σ as vs → vs.length = as.length
  | _, _, .nil => rfl
  | _, _, .d _ t => by simp [av_len t]
  | _, _, .s _ t => by simp [av_len t]
theorem av_at {K : PySem.W.Frag} {I : Hp} {σ : St} : ∀ {as : List AV} {vs : List V} {k : Nat} {a : AV}, RepAV K I σ as vs → as[k]? = some a → ∃ v, vs[k]? = some v ∧ (match a with | .d x => Rp K I v x | .s i => σ[i]? = some (some v))
  | _, _, _, _, .nil, h => by simp at h
  | _, _, 0, _, .d r t, h => by simp at h; subst h; exact ⟨_, rfl, r⟩
  | _, _, 0, _, .s r t, h => by simp at h; subst h; exact ⟨_, rfl, r⟩
  | _, _, k + 1, a, .d r t, h => by obtain ⟨v, h1, h2⟩ := av_at (k := k) t (by simpa using h); exact ⟨v, by simpa using h1, h2⟩
  | _, _, k + 1, a, .s r t, h => by obtain ⟨v, h1, h2⟩ := av_at (k := k) t (by simpa using h); exact ⟨v, by simpa using h1, h2⟩
section
variable {g : G} {σ : St} {I H : Hp} {env : Env} {F : Nat → List Addr}
/-- the caller's frame lends some of its slots -/
def lend (as : List AV) (F : Nat → List Addr) : Nat → List Addr := fun k => match as[k]? with
  | some (.s i) => F i
  | _ => []
theorem sim_lend {K : PySem.W.Frag} {π : Pn} {as : List AV} {vs : List V} {os : List O} (s : Sim K π I H σ env F) (nd : ndS as = true) (av : RepAV K I σ as vs) (ro : rsO env as = some os) : Sim K p0 I H (vs.map some) (os.map some) (lend as F) := by
  refine ⟨by simp [rsO_len ro, av_len av], fun k o q => ?_, fun k q => ?_, fun k l a h1 h2 => ?_, fun k a h => ?_, s.sub, fun i hi => by cases hi⟩
  · rcases rsO_at ro (getm q) with ⟨x, h1, rfl⟩ | ⟨i, h1, h2⟩
    · obtain ⟨v, e1, r⟩ := av_at av h1
      exact ⟨v, putm e1, by unfold lend; rw [h1]; exact ⟨rfl, r⟩⟩
    · obtain ⟨v, e1, r⟩ := av_at av h1
      obtain ⟨v', e2, r'⟩ := s.rep i o h2
      have r : σ[i]? = some (some v) := r
      rw [r] at e2; cases e2
      exact ⟨v, putm e1, by unfold lend; rw [h1]; exact r'⟩
  · unfold lend
    cases z : as[k]? with
    | none => rfl
    | some y =>
      cases y with
      | d x => rfl
      | s i =>
        have hk : k < os.length := by
          rw [rsO_len ro]
          cases Nat.lt_or_ge k as.length with
          | inl h => exact h
          | inr h => rw [List.getElem?_eq_none h] at z; cases z
        exact absurd (putm (List.getElem?_eq_getElem hk)) (q _)
  · unfold lend at h1 h2
    cases z1 : as[k]? with
    | none => rw [z1] at h1; cases h1
    | some y1 =>
      cases z2 : as[l]? with
      | none => rw [z2] at h2; cases h2
      | some y2 =>
        rw [z1] at h1; rw [z2] at h2
        cases y1 with
        | d _ => cases h1
        | s i =>
          cases y2 with
          | d _ => cases h2
          | s j =>
            have e := s.dis i j a h1 h2
            subst e
            have e1 := sl_of nd z1
            rw [sl_of nd z2] at e1
            exact (Option.some.inj e1).symm
  · unfold lend at h
    cases z1 : as[k]? with
    | none => rw [z1] at h; cases h
    | some y =>
      rw [z1] at h
      cases y with
      | d _ => cases h
      | s i => exact s.djI i a h
theorem lend_ow {as : List AV} {a : Addr} (h : Ow (lend as F) a) : ∃ (k i : Nat), as[k]? = some (AV.s i) ∧ a ∈ F i := by
  obtain ⟨k, hk⟩ := h
  unfold lend at hk
  cases z : as[k]? with
  | none => rw [z] at hk; cases hk
  | some y =>
    rw [z] at hk
    cases y with
    | d _ => cases hk
    | s i => exact ⟨k, i, z, hk⟩
theorem back_call {K : PySem.W.Frag} {π : Pn} {as : List AV} {vs : List V} {os os' : List O} {o : O} {v : V} {H' : Hp} (s : Sim K π I H σ env F) (nd : ndS as = true) (av : RepAV K I σ as vs) (ro : rsO env as = some os)
    (af : Aft K p0 I H (lend as F) (vs.map some) (os'.map some) o v H') : Aft K π I H F σ (putB as os' env) o v H' := by
  obtain ⟨I', FA, R, r, sA, nR, dR, st⟩ := af
  have hlo : os'.length = as.length := by
    have := sA.len
    simp only [List.length_map] at this
    rw [this, av_len av]
  have hin : ∀ j, (sl as j).isSome = true → j < env.length := fun j hj => by
    cases q : sl as j with
    | none => rw [q] at hj; cases hj
    | some k =>
      obtain ⟨w, _, e1⟩ := av_at av (sl_some q)
      have e1 : σ[j]? = some (some w) := e1
      rw [s.len]
      cases Nat.lt_or_ge j σ.length with
      | inl h => exact h
      | inr h => rw [List.getElem?_eq_none h] at e1; cases e1
  let F2 : Nat → List Addr := fun i => match sl as i with
    | some k => FA k
    | none => F i
  have notL : ∀ i, sl as i = none → ∀ a ∈ F i, ¬ Ow (lend as F) a := fun i hn a ha h => by
    obtain ⟨k, j, e1, e2⟩ := lend_ow h
    have e := s.dis i j a ha e2
    subst e
    rw [sl_of nd e1] at hn; cases hn
  have F2s : ∀ {i k}, sl as i = some k → F2 i = FA k := fun {i k} h => by show (match sl as i with | some k => FA k | none => F i) = _; rw [h]
  have F2n : ∀ {i}, sl as i = none → F2 i = F i := fun {i} h => by show (match sl as i with | some k => FA k | none => F i) = _; rw [h]
  have keepH : ∀ i, sl as i = none → ∀ a ∈ F i, H' a = H a := fun i hn a ha => by
    obtain ⟨u, hu⟩ := s.dom ha
    rw [hu, st.fr a u hu (notL i hn a ha)]
  have nA : ∀ i, sl as i = none → ∀ a ∈ F i, ∀ k, a ∉ FA k := fun i hn a ha k hk => by
    obtain ⟨u, hu⟩ := s.dom ha
    rcases st.s' a (.inl ⟨k, hk⟩) with z | z
    · exact notL i hn a ha z
    · rw [hu] at z; cases z
  have ow : ∀ a, Ow F2 a → Ow FA a ∨ ∃ i, sl as i = none ∧ a ∈ F i := fun a ⟨i, hi⟩ => by
    cases q : sl as i with
    | some k => rw [F2s q] at hi; exact .inl ⟨k, hi⟩
    | none => rw [F2n q] at hi; exact .inr ⟨i, q, hi⟩
  refine ⟨I', F2, R, r, ⟨by rw [putB_len, s.len], fun i y q => ?_, fun i q => ?_, fun i j a h1 h2 => ?_, fun i a h => ?_, sA.sub, s.pin⟩, nR, fun a ha hr => ?_, ⟨st.i1, fun a u h n => ?_, fun a h => ?_, fun a u h => ?_⟩⟩
  · rw [putB_at nd hlo hin] at q
    cases z : sl as i with
    | none =>
      rw [z] at q
      obtain ⟨w, e1, rr⟩ := s.rep i y q
      exact ⟨w, e1, by rw [F2n z]; exact rr.mono st.i1 (keepH i z)⟩
    | some k =>
      rw [z] at q
      have q : (os'[k]?).map some = some (some y) := q
      cases z2 : os'[k]? with
      | none => rw [z2] at q; cases q
      | some y' =>
        rw [z2] at q; cases q
        obtain ⟨w, e1, rr⟩ := sA.rep k y (putm z2)
        obtain ⟨w', e2, e3⟩ := av_at av (sl_some z)
        have e3 : σ[i]? = some (some w') := e3
        have := getm e1
        rw [e2] at this; cases this
        exact ⟨_, e3, by rw [F2s z]; exact rr⟩
  · cases z : sl as i with
    | none =>
      rw [F2n z]
      exact s.out i fun o hz => q o (by rw [putB_at nd hlo hin, z]; exact hz)
    | some k =>
      rw [F2s z]
      refine sA.out k fun o hz => q o ?_
      rw [putB_at nd hlo hin, z]
      show (os'[k]?).map some = some (some o)
      rw [getm hz]; rfl
  · cases z1 : sl as i with
    | none =>
      rw [F2n z1] at h1
      cases z2 : sl as j with
      | none => rw [F2n z2] at h2; exact s.dis i j a h1 h2
      | some l => rw [F2s z2] at h2; exact absurd h2 (nA i z1 a h1 l)
    | some k =>
      rw [F2s z1] at h1
      cases z2 : sl as j with
      | none => rw [F2n z2] at h2; exact absurd h1 (nA j z2 a h2 k)
      | some l =>
        rw [F2s z2] at h2
        have e := sA.dis k l a h1 h2
        subst e
        have := sl_some z1
        rw [sl_some z2] at this
        cases this; rfl
  · cases z1 : sl as i with
    | none =>
      rw [F2n z1] at h
      cases q : I' a with
      | none => rfl
      | some u =>
        rcases st.i' a u q with y | y | y
        · rw [s.djI i a h] at y; cases y
        · exact (notL i z1 a h y).elim
        · obtain ⟨w, hw⟩ := s.dom h; rw [y] at hw; cases hw
    | some k => rw [F2s z1] at h; exact sA.djI k a h
  · rcases ow a ha with z | ⟨i, hn, hi⟩
    · exact dR a z hr
    · obtain ⟨u, hu⟩ := s.dom hi
      rcases st.s' a (.inr hr) with z | z
      · exact notL i hn a hi z
      · rw [hu] at z; cases z
  · refine st.fr a u h fun z => n ?_
    obtain ⟨k, i, _, hi⟩ := lend_ow z
    exact ⟨i, hi⟩
  · have lo : ∀ a, Ow (lend as F) a → Ow F a := fun a z => by obtain ⟨k, i, _, hi⟩ := lend_ow z; exact ⟨i, hi⟩
    rcases h with h | h
    · rcases ow a h with z | ⟨i, _, hi⟩
      · rcases st.s' a (.inl z) with y | y
        · exact .inl (lo a y)
        · exact .inr y
      · exact .inl ⟨i, hi⟩
    · rcases st.s' a (.inr h) with y | y
      · exact .inl (lo a y)
      · exact .inr y
  · rcases st.i' a u h with z | z | z
    · exact .inl z
    · obtain ⟨k, i, _, hi⟩ := lend_ow z
      exact .inr (.inl ⟨i, hi⟩)
    · exact .inr (.inr z)
theorem call_key {m : Fn} {as : List AF} {Q : VK} (h : tD g (fCall m as) σ H Q) : tA g as σ H fun vs H1 => spD g.K g.mg m vs H1 Q g.E := by
  obtain ⟨I, env, F, s, p⟩ := h
  refine ⟨I, env, F, s, post_mono (post_bind.mp p) (fun r q vs H' I' F' s' st av => ?_) fun _ z => z⟩
  cases qo : rsO r.2 r.1 with
  | none => simp only [qo] at q; exact q.elim
  | some os =>
    simp only [qo] at q
    by_cases nd : ndS r.1 = true
    · rw [if_pos nd] at q
      refine ⟨I', os, lend r.1 F', sim_lend s' nd av qo, post_mono (post_bind.mp q) (fun y z v H'' af => ?_) fun x z H'' c d er xr => ?_⟩
      · exact z v H'' (Aft.trans st (back_call s' nd av qo af))
      · refine z H'' c d (Err.trans st ?_) xr
        obtain ⟨I2, e1, e2, k⟩ := er
        exact ⟨I2, e1, e2, fun a u hu n => k a u hu fun z => n (by obtain ⟨_, i, _, hi⟩ := lend_ow z; exact ⟨i, hi⟩)⟩
    · rw [if_neg nd] at q; exact q.elim
end
section
variable {g : G} {X : Cx} {k : Nat} {f : Addr} {fd : FuncData} {ps : List Str} {m : Fn} {x : Str} {p pos : Pos} {e : Expr} {es : List Expr} {as : List AF}
theorem de_call (F : FnG X.prog X.w X.K X.mg X.base k f fd ps (spD g.K g.mg m)) (hgd : X.A.guards = some []) (hr : Room k X.A) (hg : Gl X x) (hm : X.mg x = some (.ref f)) (hk : PySem.W.keepIn X.K (.ref f) = true) (hb : Binds X.K fd ps []) (hx : Passes (L2.CX X.prog X.w) X g.E)
    (ha : DA g X (e :: es) as) (hdb : (x == ("__debug__" : Str)) = false := by decide) (he : starEach (e :: es) X.env = (false, eval e X.env) :: starEach es X.env := by rfl) (hpl : (backTo pos (starEach es X.env)).any (·.1) = false := by rfl) :
    DE g X (.Call (.Name x p) (e :: es) [] pos) (fCall m as) := PE.imp (peG F hgd hr hg hm hk hb hx ha hdb he hpl) fun σ H Q h => call_key h
theorem de_call0 (F : FnG X.prog X.w X.K X.mg X.base k f fd ps (spD g.K g.mg m)) (hgd : X.A.guards = some []) (hr : Room k X.A) (hg : Gl X x) (hm : X.mg x = some (.ref f)) (hk : PySem.W.keepIn X.K (.ref f) = true) (hb : Binds X.K fd ps []) (hx : Passes (L2.CX X.prog X.w) X g.E)
    (hdb : (x == ("__debug__" : Str)) = false := by decide) : DE g X (.Call (.Name x p) [] [] pos) (fCall m []) := PE.imp (peG0 F hgd hr hg hm hk hb hx hdb) fun σ H Q h => tA_nil (call_key h)
end
/-- a mirror in other words -/
theorem spD_eq {K : PySem.W.Frag} {mg : Str → Option Value} {m m' : Fn} (h : m = m') : spD K mg m = spD K mg m' := by rw [h]
end Dy

/-! D6: the law's end. -/
namespace Dy
open PySem PySem.Spec PyProof.Rows L2

/-- the law is called where nothing is tracked but the script -/
theorem lawG {P : Program} {w : World} {K : PySem.W.Frag} {mg mb : Str → Option Value} {k : Nat} {fa a : Addr} {fd : FuncData} {x : Str} {sp : Sp} {s1 : Shared} {vs : List Value} {ns : List Int}
    (KX : K.In s1.heap) (hns : s1.heap.Ns mainGlobals mg) (hb : s1.heap.Ns builtinsNs mb) (hbb : ∀ x : Str, x ≠ "__name__" → mb x = bootBuiltins x) (hlim : s1.heap.NoLimit) (hgs : s1.gens = #[])
    (ha : s1.heap.get? a = some { cls := .type "list", data := .seq vs.toArray }) (hi : IntsAre vs ns) (hl : ns.length ≤ sizeLine) (hr : Room k callerA)
    (F : ∀ base : Heap, K.In base → base.Ns mainGlobals mg → FnG P w K mg base k fa fd [x] sp) (bind : ∀ (s : Shared) (u : Value), BindsTo s fd ⟨[u], []⟩ [(x, u)])
    (hsp : ∀ H : Hp, LsL K H a (ns.map V.int) → sp [.ref a] H (fun v _ => v = .bl true) fun _ _ _ => False) :
    codeAny (model P w) callerA (.call (.ref fa) ⟨[.ref a], []⟩) (fun r s' => r = .ok (.ret (.bool true)) ∧ OldK s1.heap s'.heap ∧ s'.os = s1.os ∧ AllBare s'.gens) s1 := by
  have rv := vals_ints hi
  have hlen := hi.length
  suffices core : ∀ H : Hp, (∀ b, H b = none ∨ ∃ o xs, H b = some (.frz o (.lst xs))) → LsL K H a (ns.map V.int) → HOk P w H s1.heap → (∀ b, H b ≠ none → b = a) → (H a ≠ none → K.lookup a = none) →
      codeAny (model P w) callerA (.call (.ref fa) ⟨[.ref a], []⟩) (fun r s' => r = .ok (.ret (.bool true)) ∧ OldK s1.heap s'.heap ∧ s'.os = s1.os ∧ AllBare s'.gens) s1 by
    cases hk : K.lookup a with
    | some o =>
      have e := KX a o hk
      rw [ha] at e
      cases e
      refine core (fun _ => none) (fun _ => Or.inl rfl) (Or.inr ⟨vs, _, hk, by rw [hlen]; exact hl, rv⟩) (fun b u z => ?_) (fun b z => (z rfl).elim) (fun z => (z rfl).elim)
      · exact absurd (show (none : Option HO) = some u from z) (by simp)
    | none =>
      let o1 : Obj := { cls := .type "list", data := .seq vs.toArray }
      refine core (fun b => if b = a then some (.frz o1 (.lst (ns.map V.int))) else none) (fun b => ?_) (Or.inl (Or.inr ⟨o1, if_pos rfl⟩)) (fun b u z => ?_) (fun b z => ?_) (fun _ => hk)
      · by_cases h : b = a
        · exact Or.inr ⟨o1, _, if_pos h⟩
        · exact Or.inl (if_neg h)
      · by_cases h : b = a
        · have z' := (if_pos h).symm.trans z
          cases z'
          rw [h]
          exact ⟨ha, by rw [List.length_map]; exact hl, vs, _, rv, ha⟩
        · have z' := (if_neg h).symm.trans z
          cases z'
      · by_cases h : b = a
        · exact h
        · exact (z (if_neg h)).elim
  intro H hO hS hok hA hK
  have up : ∀ {b : Addr} {o : Obj}, s1.heap.get? b = some o → H b = none → (hidT s1.heap H).get? b = some o := fun e n => hidT_get e n
  have free : ∀ {b : Addr} {o : Obj} {es : Array DictEntry} {ep : Nat}, s1.heap.get? b = some o → o.data = .dict es ep → H b = none := by
    intro b o es ep e d
    cases q : H b with
    | none => rfl
    | some u =>
      have z : b = a := hA b (by rw [q]; exact fun h => by cases h)
      rw [z, ha] at e
      cases e
      exact absurd (show Data.seq vs.toArray _ = Data.dict es ep from d) (by intro h; cases h)
  have ns' : ∀ {b : Addr} {m : Str → Option Value}, s1.heap.Ns b m → (hidT s1.heap H).Ns b m := by
    rintro b m ⟨o, es, ep, e, d, r⟩
    exact ⟨o, es, ep, up e (free e d), d, r⟩
  have kin : K.In (hidT s1.heap H) := by
    intro b o e
    refine up (KX b o e) ?_
    cases q : H b with
    | none => rfl
    | some u =>
      have z : b = a := hA b (by rw [q]; exact fun h => by cases h)
      subst z
      rw [hK (by rw [q]; exact fun h => by cases h)] at e
      cases e
  have hM : Mod K mg (hidT s1.heap H) := by
    refine ⟨kin, ns' hns, ⟨mb, ns' hb, hbb⟩, ?_⟩
    obtain ⟨mc, h1, h2⟩ := hlim
    exact ⟨mc, ns' h1, h2⟩
  have e0 : L2.Env0 P w K mg (hidT s1.heap H) callerA [] s1 H :=
    { frames := rfl, mod := hM, bs := fun b o e => of_hidT e, bsz := Nat.le_of_eq (hidT_size _ _), funs := trivial, frf := fun b z => (nomatch (show b ∈ ([] : List Addr) from z)), hok := hok, bare := .of_eq hgs }
  refine codeAny_mono ((F _ kin (ns' hns)).run callerA [] s1 H ⟨[.ref a], []⟩ [.ref a] [.ref a] _ _ rfl hr e0 (bind s1 (.ref a)) (.cons rfl .nil) (hsp H hS)) ?_
  intro r s' h
  cases r with
  | error e =>
    obtain ⟨_, _, _, _, _, _, _, _, _, _, _, _, z⟩ := h
    exact z.elim
  | ok fl =>
    cases fl with
    | next => exact h.elim
    | brk => exact h.elim
    | cont => exact h.elim
    | ret u =>
      obtain ⟨v, H', os, bare, un, hok', r', q⟩ := h
      have q : v = .bl true := q
      subst q
      cases (show u = Value.bool true from r')
      refine ⟨rfl, OldK.of_keep (fun b o e => ?_), os, bare⟩
      rcases hO b with z | ⟨ob, xs, z⟩
      · exact un.keep b o e z (fun h => by cases (show b ∈ ([] : List Addr) from h)) (by simp)
      · obtain ⟨e1, _⟩ := hok b _ z
        obtain ⟨e2, _⟩ := hok' b _ (un.frzs b ob _ z)
        rw [e] at e1; cases e1
        exact e2
/-- the goal behind k_head, k_fill -/
theorem walkG {l : PySem.W.OpenLaw} {n k : Nat} {q : Program} {loose : List Str} {XP : (Str → Option Value) → Heap → Prop} {YP : World → Heap → Prop} {d : DefRec} {K : Params → PySem.W.Frag} {sp : PySem.W.Frag → (Str → Option Value) → Sp} {x : Str}
    (hn : l.most = some n) (hn2 : n ≤ sizeLine) (hdf : d.params.defaults = []) (hr : Room k callerA) (hY : ∀ (w : World) (h : Heap), YP w h → (K w.params).In h)
    (F : ∀ (w : World) (mg : Str → Option Value) (fa : Addr) (h : Heap), (K w.params).In h → h.Ns mainGlobals mg → mg d.name = some (.ref fa) →
      ∃ fd : FuncData, (∀ (s : Shared) (u : Value), BindsTo s fd ⟨[u], []⟩ [(x, u)]) ∧ ∀ base : Heap, (K w.params).In base → base.Ns mainGlobals mg → FnG l.prog w (K w.params) mg base k fa fd [x] (sp (K w.params) mg))
    (hsp : ∀ (K : PySem.W.Frag) (mg : Str → Option Value) (H : Hp) (a : Addr) (ns : List Int), ns.length ≤ n → (∀ z ∈ ns, Builtin.Int.intBits z ≤ 1048576) → LsL K H a (ns.map V.int) → sp K mg [.ref a] H (fun v _ => v = .bl true) fun _ _ _ => False) :
    PySem.W.WalkO q loose XP YP l.row.toRowW d [] (fun f vs => PySem.call f vs) := by
  refine Att.attach_callB hn hdf ?_
  intro w s0 s1 mg mb fa o pm cd doc a vs ns G Y ho hd hcd hmg hobj hints hlen hbits hgs
  obtain ⟨fd, hb, hF⟩ := F w mg fa _ (hY w _ Y) G.T.g hmg
  exact lawG (hY w _ Y) G.T.g G.T.b G.T.builtins G.T.nolimit hgs hobj hints (Nat.le_trans hlen hn2) hr hF hb (fun H hS => hsp _ mg H a ns hlen hbits hS)
/-- the script's ints as data -/
theorem rp_ints {K : PySem.W.Frag} {I : Hp} : ∀ ns : List Int, RpAll K I (ns.map V.int) (ns.map PyData.int)
  | [] => .nil
  | n :: ns => .cons (.int n) (rp_ints ns)
/-- a law whose mirror says True at every script -/
theorem law_ok {K : PySem.W.Frag} {mg : Str → Option Value} {H : Hp} {a : Addr} {ns : List Int} {m : Fn} {os' : List O} (h : m [.fr (.list (ns.map PyData.int))] = .ok (.fr (.bool true), os')) (hS : LsL K H a (ns.map V.int)) :
    spD K mg m [.ref a] H (fun v _ => v = .bl true) fun _ _ _ => False := by
  refine ⟨H, [.fr (.list (ns.map PyData.int))], fun _ => [], ⟨rfl, fun i o q => ?_, fun _ _ => rfl, fun i j a h => (nomatch h), fun i a h => (nomatch h), Same.refl _, fun i hi => (nomatch hi)⟩, ?_⟩
  · cases i with
    | zero =>
      cases q
      exact ⟨_, rfl, rfl, .lst hS (rp_ints ns)⟩
    | succ i => simp at q
  · rw [h]
    intro v H' ⟨I', F', R, r, _⟩
    cases r.2
    rfl
end Dy

/-! D7: what is walked. -/
namespace Dy
open PySem PySem.Spec PyProof.Rows L2
open AutoSeq1 (wpAny_loadPart')

/-! ### enumerate of anything whose iterator is known to begin -/
theorem meets_enum1 {v : Value} {o : Obj} {Hh : Heap → Prop} (B : Begins v o Hh) :
    Meets (Builtin.«enumerate.__new__» ⟨[.type "enumerate", v], []⟩) (fun _ R s => Hh s.heap ∧ R (.ok (.ret (.ref (s.heap.push o).objs.size))) { s with heap := (s.heap.push o).push { cls := .type "enumerate", data := .fields #[.none, .bool false, .ref s.heap.objs.size, rawInt 0, .none, .none] } }) :=
  .of_wp fun prog w A R s h => by
    obtain ⟨hp, gg, dd, tk, os⟩ := s
    obtain ⟨h1, h⟩ := h
    have hsub := sub_enumerate
    have q1 : ∀ {A' : Around} {E : Value → Shared → Prop} {Q : Value → Shared → Prop}, Q (.ref hp.objs.size) ⟨hp.push o, gg, dd, tk, os⟩ → wpAny (model prog w) A' (pyIter v) Q E ⟨hp, gg, dd, tk, os⟩ := by
      intro A' E Q q
      exact B.iter prog w _ _ ⟨hp, gg, dd, tk, os⟩ _ h1 q
    wp_walk using q1
    refine wpAny_stack_any fun stk => wpAny_pure ?_
    split
    · rename_i c _ _ _ _ _
      cases (c == Value.type "enumerate") <;> (wp_walk using q1; exact ⟨_, rfl, h⟩)
    · wp_walk using q1
      exact ⟨_, rfl, h⟩
theorem call_enum1 {prog : Program} {w : World} {A : Around} {E : Value → Shared → Prop} {s : Shared} {v : Value} {o : Obj} {Hh : Heap → Prop} {Q : Value → Shared → Prop} (B : Begins v o Hh) (h1 : Hh s.heap)
    (h : ∀ h', IsEnum h' (s.heap.objs.size + 1) s.heap.objs.size 0 .none → h'.get? s.heap.objs.size = some o → (∀ b o, s.heap.get? b = some o → h'.get? b = some o) → Q (.ref (s.heap.objs.size + 1)) { s with heap := h' }) :
    wpAny (model prog w) A (call (.type "enumerate") [v]) Q E s := by
  refine callType_new F.called_enumerate (by decide) (F.typeCall_enumerate_1 _) (F.newCall_enumerate_1 _) (fun obj => F.args_object_init_2 obj _) F.entry_enumerate_new (meets_enum1 B) ⟨h1, ?_⟩
  have hz : (s.heap.push o).objs.size = s.heap.objs.size + 1 := Heap.size_push ..
  let en : Obj := { cls := .type "enumerate", data := .fields #[.none, .bool false, .ref s.heap.objs.size, rawInt 0, .none, .none] }
  have he : IsEnum ((s.heap.push o).push en) (s.heap.objs.size + 1) s.heap.objs.size 0 .none := by
    have q := Heap.get?_push_size (s.heap.push o) (o := en) rfl
    rw [hz] at q
    exact q
  show _ ∧ _
  rw [hz]
  exact ⟨⟨_, he, rfl⟩, h _ he (Heap.get?_push_of_some _ (Heap.get?_push_size _ B.free)) fun b u x => Heap.get?_push_of_some _ (Heap.get?_push_of_some _ x)⟩

/-! ### lists and tuples alike -/
def SqX (t : Bool) (K : PySem.W.Frag) (H : Hp) (a : Addr) (xs : List V) : Prop := if t = true then SqT K H a xs else SqL K H a xs
def IsX (t : Bool) (h : Heap) (a : Addr) (items : Array Value) : Prop := if t = true then h.IsTuple a items else h.IsList a items
def ItX (t : Bool) (h : Heap) (it a : Addr) (i : Nat) : Prop := if t = true then h.IsTupleIter it a i else h.IsListIter it a i
def itO (t : Bool) (a : Addr) : Obj := if t = true then { cls := .type "tuple_iterator", data := .fields #[.ref a, .int 0 0] } else { cls := .type "list_iterator", data := .fields #[.ref a, .int 0 0] }
theorem begX (t : Bool) (a : Addr) (items : Array Value) : Begins (.ref a) (itO t a) fun h => IsX t h a items := by
  cases t
  · exact begins_list a items
  · exact begins_tuple a items
theorem itX_new {t : Bool} {h : Heap} {it a : Addr} (e : h.get? it = some (itO t a)) : ItX t h it a 0 := by
  cases t
  · exact ⟨_, e, rfl, rfl⟩
  · exact ⟨_, e, rfl, rfl⟩
theorem drX {prog : Program} {w : World} {A : Around} (hh : A.handled = none) (t : Bool) (it a : Addr) (hne : a ≠ it) (items : Array Value) : Draws prog w A it [it, a] items.size (fun i v => items[i]? = some v) (fun i h => ItX t h it a i ∧ IsX t h a items) := by
  cases t
  · exact Draws.list hh it a hne items
  · exact Draws.tuple hh it a hne items
theorem itX_obj {t : Bool} {h : Heap} {it a : Addr} {i : Nat} (x : ItX t h it a i) : ∃ o, h.get? it = some o ∧ ∀ v, o.data ≠ .cell v := by
  cases t
  · obtain ⟨o, e, _, d⟩ := x
    exact ⟨o, e, fun v z => by rw [d] at z; cases z⟩
  · obtain ⟨o, e, _, d⟩ := x
    exact ⟨o, e, fun v z => by rw [d] at z; cases z⟩
theorem itX_at {t : Bool} {h h' : Heap} {it a : Addr} {i : Nat} (x : ItX t h it a i) (k : ∀ o, h.get? it = some o → h'.get? it = some o) : ItX t h' it a i := by
  cases t
  · obtain ⟨o, e, r⟩ := x
    exact ⟨o, k o e, r⟩
  · obtain ⟨o, e, r⟩ := x
    exact ⟨o, k o e, r⟩
section
variable {X : Cx} {pins : List (Addr × Obj)} {σ : St} {H : Hp} {s : Shared} {a : Addr} {xs ys : List V} {t : Bool}
theorem invX (J : Inv X pins σ H s) (h : SqX t X.K H a xs) : ∃ its : List Value, Vals xs its ∧ IsX t s.heap a its.toArray ∧ a < s.heap.objs.size := by
  cases t
  · obtain ⟨its, r, p, _⟩ := J.list h
    exact ⟨its, r, p.isList, by obtain ⟨_, _, e, _⟩ := p; exact Heap.lt_size e⟩
  · obtain ⟨its, r, p, _⟩ := J.tuple h
    exact ⟨its, r, p, by obtain ⟨_, e, _⟩ := p; exact Heap.lt_size e⟩
theorem invX_inj (J : Inv X pins σ H s) (h : SqX t X.K H a xs) (h' : SqX t X.K H a ys) : xs = ys := by
  cases t
  · exact J.list_inj h h'
  · exact J.tuple_inj h h'
end
/-- enumerate -/
def ItEn (t : Bool) (K : PySem.W.Frag) (a : Addr) : It :=
  ⟨fun i H => ∃ (xs : List V) (x : V), SqX t K H a xs ∧ xs[i]? = some x, fun i H v H' => ∃ T x, v = .ref T ∧ H T = none ∧ H' = upd H T (.tup [.int (i : Nat), x]) ∧ ∀ xs, SqX t K H a xs → xs[i]? = some x, fun i H => ∃ xs : List V, SqX t K H a xs ∧ xs.length = i⟩
theorem turn_en {P : Program} {w : World} {K : PySem.W.Frag} {elts : List Expr} {kk : Nat} {tpos : Pos} (t : Bool) (a e it : Addr) (hai : a ≠ it) (hae : a ≠ e) :
    Turn P w K (.Tuple elts kk tpos) (ItEn t K a) [e, it] e (fun i h => (∃ old, IsEnum h e it ((i : Nat) : Int) old) ∧ ItX t h it a i ∧ e ≠ it) where
  mem := by simp
  obj := by
    rintro i h ⟨⟨old, he⟩, hx, _⟩ b hb
    simp only [List.mem_cons, List.not_mem_nil, or_false] at hb
    rcases hb with rfl | rfl
    · exact ⟨_, he, fun v q => nomatch q⟩
    · exact itX_obj hx
  keep := by
    rintro i h h' ⟨⟨old, he⟩, hx, hne⟩ k
    exact ⟨⟨old, k e (by simp) _ he⟩, itX_at hx fun o q => k it (by simp) o q, hne⟩
  item := by
    intro X hP hw hK hc i pins s σ H E J hf stt hg
    subst hP hw hK
    obtain ⟨⟨old, he⟩, hit, hne⟩ := stt
    obtain ⟨xs, x, hq, hx⟩ := hg
    obtain ⟨its, rv, p, _⟩ := invX J hq
    obtain ⟨u, hu, ru⟩ := rv.get hx
    have hel : e < s.heap.objs.size := Heap.lt_size he
    have hil : it < s.heap.objs.size := by obtain ⟨_, q, _⟩ := itX_obj hit; exact Heap.lt_size q
    have hi : i < its.toArray.size := by
      rw [List.size_toArray]
      cases Nat.lt_or_ge i its.length with
      | inl z => exact z
      | inr z => rw [List.getElem?_eq_none z] at hu; cases hu
    refine wpAny_pyNext_enum_itemD (drX (A := X.A.in1) (J.ok.hd hc) t it a hai its.toArray) he ⟨hit, p⟩ hi hne (by simp only [List.mem_cons, List.not_mem_nil, or_false, not_or]; exact ⟨hne, Ne.symm hae⟩) fun y h' tk hy ho hst hT hsz hk => ?_
    have ey : y = u := by
      have hy : its.toArray[i]? = some y := hy
      have : its[i]? = some y := by simpa using hy
      rw [hu] at this; exact (Option.some.inj this).symm
    subst ey
    refine ⟨_, rfl, wpAny_letOwnedTupleGo_enum (s := { s with heap := h', toks := tk + 1 }) ho fun h'' he' sb => ?_⟩
    have hT2 : h''.get? s.heap.objs.size = some { cls := .type "tuple", data := .seq #[.int i tk, y] } := (sb.2 _ (Nat.ne_of_gt hel)).trans hT
    have nw : ObjOk X.prog X.w (upd H s.heap.objs.size (.tup [.int (i : Nat), x])) h'' s.heap.objs.size (.tup [.int (i : Nat), x]) :=
      ⟨by show 2 ≤ sizeLine; decide, [.int i tk, y], .cons ⟨_, rfl⟩ (.cons ru .nil), ⟨_, hT2, rfl, _, rfl⟩⟩
    have J1 : Inv X pins σ (upd H s.heap.objs.size (.tup [.int (i : Nat), x])) { s with heap := h'', toks := tk + 1 } := by
      refine J.turnedNew (ch := [e, it]) (fun b ob hb q => ?_) hf (Nat.le_refl _) nw
      simp only [List.mem_cons, List.not_mem_nil, or_false, not_or] at hb
      exact (sb.2 b hb.1).trans (hk b ob hb.1 hb.2 q)
    refine ⟨.ref s.heap.objs.size, _, J1, rfl, ⟨_, x, rfl, J.hok.fresh (Nat.le_refl _), rfl, fun ys hy => by rw [invX_inj J hy hq]; exact hx⟩, ⟨⟨y, ?_⟩, itX_at hst.1 fun o q => (sb.2 it (Ne.symm hne)).trans q, hne⟩, fun b hb => ?_⟩
    · have e1 : ((i + 1 : Nat) : Int) = (i : Int) + 1 := by omega
      rw [e1]
      exact he'
    · simp only [List.mem_cons, List.not_mem_nil, or_false] at hb
      have hb' : b < s.heap.objs.size := by rcases hb with rfl | rfl <;> assumption
      rw [upd_ne (Nat.ne_of_lt hb')]
      exact (hf b (by simpa using hb)).1
  done := by
    intro X hP hw hK hc i pins s σ H E J hf stt hg
    subst hP hw hK
    obtain ⟨⟨old, he⟩, hit, hne⟩ := stt
    obtain ⟨xs, hq, hx⟩ := hg
    obtain ⟨its, rv, p, _⟩ := invX J hq
    obtain ⟨f0, f1, f2, f3, f4, f5⟩ := hf it (by simp)
    have hn : its.toArray.size = i := by rw [List.size_toArray, ← rv.length]; exact hx
    have D := drX (prog := X.prog) (w := X.w) (A := X.A.in1) (J.ok.hd hc) t it a hai its.toArray
    rw [hn] at D
    exact wpAny_pyNext_enum_endD D he ⟨hit, p⟩ fun h' eb => ⟨rfl, J.turned (t' := s.toks) (fun b o hb q => eb b o hb q) f0 f1 f3 f4 f5⟩
  self := by
    rintro A i s Q E ⟨⟨_, he⟩, _⟩ h
    exact wpAny_pyIter_enum he h
def iEn (K : PySem.W.Frag) (ta : TA) : TI := fun σ H R => ta σ H fun vs H1 => ∃ a t xs, vs = [.ref a] ∧ SqX t K H1 a xs ∧ R (ItEn t K a) H1
theorem pi_en {X : Cx} {e : Expr} {ta : TA} {p pos tpos : Pos} {elts : List Expr} {kk : Nat} (hg : Gl X "enumerate") (hm : X.mg "enumerate" = none) (ha : PA X [e] ta) (hs : starEach [e] X.env = [(false, eval e X.env)] := by rfl) :
    PI X (.Tuple elts kk tpos) (.Call (.Name "enumerate" p) [e] [] pos) (iEn X.K ta) := by
  refine ⟨fun pins s σ H R J h => ?_⟩
  refine Call_ (ld_blt J hg hm boot_enumerate (PyProof.Rows.callWith_type1 (thn (ha.run pos pins s σ H _ J h) ?_) hs rfl))
  rintro us s1 ⟨vs, H1, J1, r1, a, t, xs, rfl, hq, q⟩
  cases r1 with
  | cons r rr =>
    cases rr
    cases r
    obtain ⟨its, rv, p', hlt⟩ := invX J1 hq
    refine call_enum1 (begX t a its.toArray) p' fun h' he hit hk => wpAny_pyIter_enum he ?_
    have J2 : Inv X pins σ H1 { s1 with heap := h' } := J1.kept (t' := s1.toks) hk
    refine ⟨s1.heap.objs.size + 1, [s1.heap.objs.size + 1, s1.heap.objs.size], _, _, H1, rfl, J2, turn_en t a (s1.heap.objs.size + 1) s1.heap.objs.size (Nat.ne_of_lt hlt) (Nat.ne_of_lt (Nat.lt_succ_of_lt hlt)), ⟨⟨.none, he⟩, itX_new hit, Nat.succ_ne_self _⟩, fun b hb => ?_, q⟩
    have hle : s1.heap.objs.size ≤ b := by
      simp only [List.mem_cons, List.not_mem_nil, or_false] at hb
      rcases hb with z | z
      · rw [z]; exact Nat.le_succ _
      · rw [z]; exact Nat.le_refl _
    exact J1.fpOk hle (J1.hok.fresh hle)
/-- zip of two -/
def ItZp (t u : Bool) (K : PySem.W.Frag) (a b : Addr) : It :=
  ⟨fun i H => ∃ (xs ys : List V) (x y : V), SqX t K H a xs ∧ SqX u K H b ys ∧ xs[i]? = some x ∧ ys[i]? = some y,
    fun i H v H' => ∃ T x y, v = .ref T ∧ H T = none ∧ H' = upd H T (.tup [x, y]) ∧ (∀ xs, SqX t K H a xs → xs[i]? = some x) ∧ ∀ ys, SqX u K H b ys → ys[i]? = some y,
    fun i H => ∃ xs ys : List V, SqX t K H a xs ∧ SqX u K H b ys ∧ i ≤ xs.length ∧ i ≤ ys.length ∧ (i = xs.length ∨ i = ys.length)⟩
theorem turn_zp {P : Program} {w : World} {K : PySem.W.Frag} {elts : List Expr} {kk : Nat} {tpos : Pos} (t u : Bool) {a b z TI TO i1 i2 : Addr} (S : ZipSep2 z TI TO i1 i2 [i1, a] [i2, b]) (ha : a ≠ i1) (hb : b ≠ i2) :
    Turn P w K (.Tuple elts kk tpos) (ItZp t u K a b) [z, TI, TO, i1, i2] z (fun i h => IsZip h z TI TO .none ∧ IsTupOf2 h TI (.ref i1) (.ref i2) ∧ (∃ x y, IsTupOf2 h TO x y) ∧ ItX t h i1 a i ∧ ItX u h i2 b i) where
  mem := by simp
  obj := by
    rintro i h ⟨hz, hTI, ⟨x, y, hTO⟩, h1, h2⟩ c hc
    simp only [List.mem_cons, List.not_mem_nil, or_false] at hc
    rcases hc with rfl | rfl | rfl | rfl | rfl
    · exact ⟨_, hz, fun v q => nomatch q⟩
    · exact ⟨_, hTI, fun v q => nomatch q⟩
    · exact ⟨_, hTO, fun v q => nomatch q⟩
    · exact itX_obj h1
    · exact itX_obj h2
  keep := by
    rintro i h h' ⟨hz, hTI, ⟨x, y, hTO⟩, h1, h2⟩ k
    exact ⟨k z (by simp) _ hz, k TI (by simp) _ hTI, ⟨x, y, k TO (by simp) _ hTO⟩, itX_at h1 fun o q => k i1 (by simp) o q, itX_at h2 fun o q => k i2 (by simp) o q⟩
  item := by
    intro X hP hw hK hc i pins s σ H E J hf stt hg
    subst hP hw hK
    obtain ⟨hz, hTI, ⟨x0, y0, hTO⟩, h1, h2⟩ := stt
    obtain ⟨xs, ys, x, y, hqx, hqy, hx, hy⟩ := hg
    obtain ⟨its, rv, p, _⟩ := invX J hqx
    obtain ⟨its2, rv2, p2, _⟩ := invX J hqy
    obtain ⟨v1, hv1, r1⟩ := rv.get hx
    obtain ⟨v2, hv2, r2⟩ := rv2.get hy
    have lt : ∀ {l : List Value} {v : Value}, l[i]? = some v → i < l.toArray.size := fun {l v} q => by
      rw [List.size_toArray]
      cases Nat.lt_or_ge i l.length with
      | inl z => exact z
      | inr z => rw [List.getElem?_eq_none z] at q; cases q
    have hzl : z < s.heap.objs.size := Heap.lt_size hz
    have hh : X.A.in1.handled = none := J.ok.hd hc
    refine wpAny_pyNext_zipD2_item S (drX hh t i1 a ha its.toArray) (drX hh u i2 b hb its2.toArray) hz hTI hTO ⟨h1, p⟩ ⟨h2, p2⟩ (lt hv1) (lt hv2) fun w1 w2 h' tk e1 e2 z' TO' st1 st2 hT hsz hk => ?_
    have k1 : w1 = v1 := by
      have e1 : its.toArray[i]? = some w1 := e1
      have : its[i]? = some w1 := by simpa using e1
      rw [hv1] at this; exact (Option.some.inj this).symm
    have k2 : w2 = v2 := by
      have e2 : its2.toArray[i]? = some w2 := e2
      have : its2[i]? = some w2 := by simpa using e2
      rw [hv2] at this; exact (Option.some.inj this).symm
    subst k1 k2
    refine ⟨_, rfl, wpAny_letOwnedTupleGo_zip (s := { s with heap := h', toks := tk }) z' fun h'' z'' sb => ?_⟩
    have hT2 : h''.get? s.heap.objs.size = some { cls := .type "tuple", data := .seq #[w1, w2] } := (sb.2 _ (Nat.ne_of_gt hzl)).trans hT
    have nw : ObjOk X.prog X.w (upd H s.heap.objs.size (.tup [x, y])) h'' s.heap.objs.size (.tup [x, y]) :=
      ⟨by show 2 ≤ sizeLine; decide, [w1, w2], .cons r1 (.cons r2 .nil), ⟨_, hT2, rfl, _, rfl⟩⟩
    have J1 : Inv X pins σ (upd H s.heap.objs.size (.tup [x, y])) { s with heap := h'', toks := tk } := by
      refine J.turnedNew (ch := [z, TI, TO, i1, i2]) (fun c o hb q => ?_) hf (Nat.le_refl _) nw
      simp only [List.mem_cons, List.not_mem_nil, or_false, not_or] at hb
      exact (sb.2 c hb.1).trans (hk c o hb.1 hb.2.2.1 hb.2.2.2.1 hb.2.2.2.2 q)
    have hlt : ∀ c ∈ [z, TI, TO, i1, i2], c < s.heap.objs.size := fun c hcm => by
      simp only [List.mem_cons, List.not_mem_nil, or_false] at hcm
      rcases hcm with rfl | rfl | rfl | rfl | rfl
      · exact hzl
      · exact Heap.lt_size hTI
      · exact Heap.lt_size hTO
      · obtain ⟨_, q, _⟩ := itX_obj h1; exact Heap.lt_size q
      · obtain ⟨_, q, _⟩ := itX_obj h2; exact Heap.lt_size q
    refine ⟨.ref s.heap.objs.size, _, J1, rfl, ⟨_, x, y, rfl, J.hok.fresh (Nat.le_refl _), rfl, fun l hl => by rw [invX_inj J hl hqx]; exact hx, fun l hl => by rw [invX_inj J hl hqy]; exact hy⟩, ⟨z'', ?_, ⟨w1, w2, ?_⟩, ?_, ?_⟩, fun c hcm => ?_⟩
    · exact (sb.2 _ S.TIz).trans (hk _ _ S.TIz S.TITO S.TIi1 S.TIi2 hTI)
    · exact (sb.2 _ S.TOz).trans TO'
    · exact itX_at st1.1 fun o q => (sb.2 _ S.zi1.symm).trans q
    · exact itX_at st2.1 fun o q => (sb.2 _ S.zi2.symm).trans q
    · rw [upd_ne (Nat.ne_of_lt (hlt c hcm))]
      exact (hf c hcm).1
  done := by
    intro X hP hw hK hc i pins s σ H E J hf stt hg
    subst hP hw hK
    obtain ⟨hz, hTI, ⟨x0, y0, hTO⟩, h1, h2⟩ := stt
    obtain ⟨xs, ys, hqx, hqy, g1, g2, g3⟩ := hg
    obtain ⟨its, rv, p, _⟩ := invX J hqx
    obtain ⟨its2, rv2, p2, _⟩ := invX J hqy
    have e1 : its.toArray.size = xs.length := by rw [List.size_toArray, rv.length]
    have e2 : its2.toArray.size = ys.length := by rw [List.size_toArray, rv2.length]
    have hh : X.A.in1.handled = none := J.ok.hd hc
    refine wpAny_pyNext_zipD2_end S (drX hh t i1 a ha its.toArray) (drX hh u i2 b hb its2.toArray) hz hTI hTO ⟨h1, p⟩ ⟨h2, p2⟩ (by rw [e1]; exact g1) (by rw [e2]; exact g2) (by rw [e1, e2]; exact g3) fun h' tk hk => ⟨rfl, ?_⟩
    refine J.turnedL (ch := [z, TI, TO, i1, i2]) (fun c o hcn q => ?_) hf
    simp only [List.mem_cons, List.not_mem_nil, or_false, not_or] at hcn
    exact hk c o hcn.1 hcn.2.2.1 hcn.2.2.2.1 hcn.2.2.2.2 q
  self := by
    rintro A i s Q E ⟨hz, _⟩ h
    exact wpAny_pyIter_zip hz h
def iZp (K : PySem.W.Frag) (ta : TA) : TI := fun σ H R => ta σ H fun vs H1 => ∃ a b t u xs ys, vs = [.ref a, .ref b] ∧ SqX t K H1 a xs ∧ SqX u K H1 b ys ∧ R (ItZp t u K a b) H1
theorem pi_zp {X : Cx} {e e2 : Expr} {ta : TA} {p pos tpos : Pos} {elts : List Expr} {kk : Nat} (hg : Gl X "zip") (hm : X.mg "zip" = none) (ha : PA X [e, e2] ta) (hs : starEach [e, e2] X.env = (false, eval e X.env) :: starEach [e2] X.env := by rfl)
    (hpl : (backTo pos (starEach [e2] X.env)).any (·.1) = false := by rfl) : PI X (.Tuple elts kk tpos) (.Call (.Name "zip" p) [e, e2] [] pos) (iZp X.K ta) := by
  refine ⟨fun pins s σ H R J h => ?_⟩
  refine Call_ (ld_blt J hg hm PyProof.Rows.boot_zip (PyProof.Rows.callWith_type1 (thn (ha.run pos pins s σ H _ J h) ?_) hs hpl))
  rintro us s1 ⟨vs, H1, J1, r1, a, b, t, u, xs, ys, rfl, hqx, hqy, q⟩
  cases r1 with
  | cons r rr =>
    cases rr with
    | cons r' rr =>
      cases rr
      cases r
      cases r'
      obtain ⟨its, rv, p1, l1⟩ := invX J1 hqx
      obtain ⟨its2, rv2, p2, l2⟩ := invX J1 hqy
      refine zip_begins2 (begX t a its.toArray) (begX u b its2.toArray) p1 p2 fun h' hz hTI hTO h1 h2 hsz hk => wpAny_pyIter_zip hz ?_
      have J2 : Inv X pins σ H1 { s1 with heap := h' } := J1.kept (t' := s1.toks) hk
      refine ⟨s1.heap.objs.size + 4, [s1.heap.objs.size + 4, s1.heap.objs.size + 2, s1.heap.objs.size + 3, s1.heap.objs.size, s1.heap.objs.size + 1], _, _, H1, rfl, J2, turn_zp t u (zip_sep2 (N := s1.heap.objs.size) (fp1 := [a]) (fp2 := [b]) (by simpa using l1) (by simpa using l2)) (Nat.ne_of_lt l1) (Nat.ne_of_lt (Nat.lt_succ_of_lt l2)), ⟨hz, hTI, ⟨_, _, hTO⟩, itX_new h1, itX_new h2⟩, fun c hcm => ?_, q⟩
      have hle : s1.heap.objs.size ≤ c := by
        simp only [List.mem_cons, List.not_mem_nil, or_false] at hcm
        rcases hcm with z | z | z | z | z
        · rw [z]; exact Nat.le_add_right _ _
        · rw [z]; exact Nat.le_add_right _ _
        · rw [z]; exact Nat.le_add_right _ _
        · rw [z]; exact Nat.le_refl _
        · rw [z]; exact Nat.le_add_right _ _
      exact J1.fpOk hle (J1.hok.fresh hle)
end Dy

/-! D8: operations on data. -/
namespace Dy
open PySem PySem.Spec PyProof.Rows L2

section
variable {K : PySem.W.Frag} {I H : Hp} {v u : V} {d e : PyData}
/-! ### data seen through a heap -/
mutual
theorem Rp.dp (s : Same I H) : ∀ {v : V} {d : PyData}, Rp K I v d → d.canLay0 = true → Dp K H v d
  | _, _, .non, _ => .non
  | _, _, .bl b, _ => .bl b
  | _, _, .int i, _ => .int i
  | _, _, .str x, _ => .str x
  | _, _, .lst h a, c => .lst (h.mono s).sq (RpAll.dp s a (by simpa [PyData.canLay0] using c))
  | _, _, .tup h a, c => .tup (same_t s h) (RpAll.dp s a (by simpa [PyData.canLay0] using c))
  | _, _, .dic h a, c => by simp [PyData.canLay0] at c
theorem RpAll.dp (s : Same I H) : ∀ {vs : List V} {ds : List PyData}, RpAll K I vs ds → PyData.canLayAll0 ds = true → DpAll K H vs ds
  | _, _, .nil, _ => .nil
  | _, _, .cons h t, c => by
    simp only [PyData.canLayAll0, Bool.and_eq_true] at c
    exact .cons (Rp.dp s h c.1) (RpAll.dp s t c.2)
end
theorem RpS.dp (s : Same I H) (h : RpS K I H v d) (c : d.canLay0 = true) : Dp K H v d := by
  rcases h with h | ⟨a, vs, ds, rfl, rfl, h1, h2⟩
  · exact h.dp s c
  · exact .lst (SqL.of h1) (h2.dp s (by simpa [PyData.canLay0] using c))
theorem RpS.int {i : Int} (h : RpS K I H v (.int i)) : v = .int i := rpss_int h
theorem RpS.str {x : Str} (h : RpS K I H v (.str x)) : v = .str x := by
  rcases h with h | ⟨_, _, _, _, e, _⟩
  · cases h; rfl
  · cases e
theorem RpS.bl {x : Bool} (h : RpS K I H v (.bool x)) : v = .bl x := by
  rcases h with h | ⟨_, _, _, _, e, _⟩
  · cases h; rfl
  · cases e
theorem RpS.non (h : RpS K I H v .none) : v = .non := by
  rcases h with h | ⟨_, _, _, _, e, _⟩
  · cases h; rfl
  · cases e
theorem RpS.lst {ds : List PyData} (s : Same I H) (h : RpS K I H v (.list ds)) : ∃ a vs, v = .ref a ∧ LsL K H a vs ∧ RpAll K I vs ds := by
  rcases h with h | ⟨a, vs, ds, rfl, e, h1, h2⟩
  · cases h with
    | lst h1 h2 => exact ⟨_, _, rfl, h1.mono s, h2⟩
  · cases e; exact ⟨a, vs, rfl, .of h1, h2⟩
theorem RpS.tup {ds : List PyData} (s : Same I H) (h : RpS K I H v (.tuple ds)) : ∃ a vs, v = .ref a ∧ SqT K H a vs ∧ RpAll K I vs ds := by
  rcases h with h | ⟨_, _, _, _, e, _⟩
  · cases h with
    | tup h1 h2 => exact ⟨_, _, rfl, same_t s h1, h2⟩
  · cases e
theorem RpAll.ints : ∀ {vs : List V} {ns : List Int}, RpAll K I vs (ns.map PyData.int) → vs = ns.map V.int
  | _, [], h => by cases h; rfl
  | _, n :: ns, h => by
    cases h with
    | cons h t => cases h; rw [RpAll.ints t]; rfl
theorem RpAll.bools : ∀ {vs : List V} {ns : List Bool}, RpAll K I vs (ns.map PyData.bool) → vs = ns.map V.bl
  | _, [], h => by cases h; rfl
  | _, n :: ns, h => by
    cases h with
    | cons h t => cases h; rw [RpAll.bools t]; rfl
/-- all ints, all truths -/
def intsOf : List PyData → Option (List Int)
  | [] => some []
  | .int i :: ds => (intsOf ds).map (i :: ·)
  | _ => none
def boolsOf : List PyData → Option (List Bool)
  | [] => some []
  | .bool i :: ds => (boolsOf ds).map (i :: ·)
  | _ => none
theorem intsOf_inv : ∀ {ds : List PyData} {ns : List Int}, intsOf ds = some ns → ds = ns.map PyData.int
  | [], _, h => by cases h; rfl
  | .int i :: ds, ns, h => by
    unfold intsOf at h
    cases q : intsOf ds with
    | none => rw [q] at h; cases h
    | some ms => rw [q] at h; cases h; rw [intsOf_inv q]; rfl
  | .none :: _, _, h => by cases h
  | .bool _ :: _, _, h => by cases h
  | .str _ :: _, _, h => by cases h
  | .list _ :: _, _, h => by cases h
  | .tuple _ :: _, _, h => by cases h
  | .dict _ :: _, _, h => by cases h
theorem boolsOf_inv : ∀ {ds : List PyData} {ns : List Bool}, boolsOf ds = some ns → ds = ns.map PyData.bool
  | [], _, h => by cases h; rfl
  | .bool i :: ds, ns, h => by
    unfold boolsOf at h
    cases q : boolsOf ds with
    | none => rw [q] at h; cases h
    | some ms => rw [q] at h; cases h; rw [boolsOf_inv q]; rfl
  | .none :: _, _, h => by cases h
  | .int _ :: _, _, h => by cases h
  | .str _ :: _, _, h => by cases h
  | .list _ :: _, _, h => by cases h
  | .tuple _ :: _, _, h => by cases h
  | .dict _ :: _, _, h => by cases h
theorem intsOf_map (ns : List Int) : intsOf (ns.map PyData.int) = some ns := by
  induction ns with
  | nil => rfl
  | cons n ns ih => rw [List.map_cons, intsOf, ih]; rfl
theorem boolsOf_map (ns : List Bool) : boolsOf (ns.map PyData.bool) = some ns := by
  induction ns with
  | nil => rfl
  | cons n ns ih => rw [List.map_cons, boolsOf, ih]; rfl
end

/-! ### operators -/
theorem OpR.or {X : Cx} {f : Value → Value → Sem Value} {r r' : R2} (h : OpR X f r) (h' : OpR X f r') : OpR X f (fun x y H Q => r x y H Q ∨ r' x y H Q) := by
  intro pins s σ H x y v u Q J rx ry q
  rcases q with q | q
  · exact h pins s σ H x y v u Q J rx ry q
  · exact h' pins s σ H x y v u Q J rx ry q
section
variable {X : Cx} {K : PySem.W.Frag}
def rCatL (K : PySem.W.Frag) : R2 := fun x y H Q => ∃ l b xs zs, x = .ref l ∧ y = .ref b ∧ LsL K H l xs ∧ LsL K H b zs ∧ xs.length + zs.length ≤ sizeLine ∧ ∀ p, H p = none → Q (.ref p) (upd H p (.lst (xs ++ zs)))
theorem op_catL : OpR X (binaryOp .Add) (rCatL X.K) := by
  rintro pins s σ H x y v u Q J rx ry ⟨l, b, xs, zs, rfl, rfl, hl, hb, hz, q⟩
  cases rx
  cases ry
  obtain ⟨z, its, n, r, e0, e⟩ := hl.obj J
  obtain ⟨z2, its2, n2, r2, e20, e2⟩ := hb.obj J
  refine PySem.P.add_list e e2 ?_ (by rw [List.size_toArray, List.size_toArray, ← e0, ← e20]; exact hz)
  rw [show its.toArray ++ its2.toArray = (its ++ its2).toArray by simp]
  exact ⟨.ref _, _, J.lnew (t' := s.toks) (r.append r2) (by rw [List.length_append]; exact hz), rfl, q _ J.fresh⟩
def rAddS' : R2 := fun x y H Q => ∃ i j, x = .str i ∧ y = .str j ∧ i.length + j.length ≤ sizeLine ∧ Q (.str (i ++ j)) H
/-- + -/
def rAdd (K : PySem.W.Frag) : R2 := fun x y H Q => (rI0 (fun i j => .int (i + j)) x y H Q ∨ rCatL K x y H Q) ∨ (rCatA K x y H Q ∨ rAddS' x y H Q)
theorem op_addA : OpR X (binaryOp .Add) (rAdd X.K) := (op_add.or op_catL).or (op_catA.or op_add_str)
def pAdd : PyData → PyData → Option O
  | .int i, .int j => some (.fr (.int (i + j)))
  | .list xs, .list ys => if xs.length + ys.length ≤ 1000000 then some (.ol (xs ++ ys)) else none
  | .tuple xs, .tuple ys => if xs.length + ys.length ≤ 1000000 then some (.fr (.tuple (xs ++ ys))) else none
  | .str x, .str y => if x.length + y.length ≤ 1000000 then some (.fr (.str (x ++ y))) else none
  | _, _ => none
theorem six {n : Nat} (h : n ≤ 1000000) : n ≤ sizeLine := Nat.le_trans h (by decide)
theorem os_add : OpS K (two (rAdd K)) (on2 pAdd) := ops2 fun v u d e I H Q o s r1 r2 q k => by
  unfold pAdd at q
  split at q
  · cases q
    rw [r1.int, r2.int]
    exact .inl (.inl ⟨_, _, rfl, rfl, k _ _ _ _ (Grow.val s (.int _))⟩)
  · split at q
    · rename_i hz
      cases q
      obtain ⟨a, vs, rfl, h1, h2⟩ := r1.lst s
      obtain ⟨b, ws, rfl, h3, h4⟩ := r2.lst s
      exact .inl (.inr ⟨a, b, vs, ws, rfl, rfl, h1, h3, by rw [h2.length, h4.length]; exact six hz, fun p np => k _ _ _ _ (Grow.lst s np (h2.app h4))⟩)
    · cases q
  · split at q
    · rename_i hz
      cases q
      obtain ⟨a, vs, rfl, h1, h2⟩ := r1.tup s
      obtain ⟨b, ws, rfl, h3, h4⟩ := r2.tup s
      refine .inr (.inl ⟨a, b, vs, ws, rfl, rfl, h1, h3, by rw [h2.length, h4.length]; exact six hz, fun e => ?_, fun _ e => ?_, fun _ _ p np => k _ _ _ _ (Grow.tup s np (h2.app h4))⟩)
      · subst e
        cases h2
        exact k _ _ _ _ (Grow.val s (rps_rp r2 rfl))
      · subst e
        cases h4
        rw [List.append_nil] at k
        exact k _ _ _ _ (Grow.val s (rps_rp r1 rfl))
    · cases q
  · split at q
    · rename_i hz
      cases q
      rw [r1.str, r2.str]
      exact .inr (.inr ⟨_, _, rfl, rfl, six hz, k _ _ _ _ (Grow.val s (.str _))⟩)
    · cases q
  · cases q
def pSub : PyData → PyData → Option O
  | .int i, .int j => some (.fr (.int (i - j)))
  | _, _ => none
theorem os_sub : OpS K (two (rI0 fun i j => .int (i - j))) (on2 pSub) := ops2 fun v u d e I H Q o s r1 r2 q k => by
  unfold pSub at q
  split at q
  · cases q
    rw [r1.int, r2.int]
    exact ⟨_, _, rfl, rfl, k _ _ _ _ (Grow.val s (.int _))⟩
  · cases q
/-- * -/
def smI (i : Int) : Bool := decide (-(2 ^ 64) < i ∧ i < 2 ^ 64)
def muOk (i j : Int) : Bool := smI j || (smI i || decide (i.natAbs.log2 + j.natAbs.log2 < 1000000))
theorem muOk_ok {i j : Int} (h : muOk i j = true) : IntMulOk i j := by
  unfold muOk smI at h
  simp only [Bool.or_eq_true, decide_eq_true_eq] at h
  rcases h with h | h | h
  · exact CMul.ok (.inr h)
  · exact CMul.ok (.inl h)
  · exact CMulW.ok h
theorem op_mulM : OpR X (binaryOp .Mult) (rI (fun i j => muOk i j = true) fun i j => .int (i * j)) := opI fun _ _ _ _ _ _ _ hc q => mul_int q (muOk_ok hc)
def rRepL (K : PySem.W.Frag) : R2 := fun x y H Q => ∃ l k xs, x = .ref l ∧ y = .int k ∧ LsL K H l xs ∧ -(2 ^ 63) ≤ k ∧ k < 2 ^ 63 ∧ xs.length * k.toNat ≤ sizeLine ∧ ∀ p, H p = none → Q (.ref p) (upd H p (.lst (List.replicate k.toNat xs).flatten))
def pMul : PyData → PyData → Option O
  | .int i, .int j => if muOk i j = true then some (.fr (.int (i * j))) else none
  | .list xs, .int k => if k ≤ 100000 ∧ -100000 ≤ k ∧ xs.length * k.toNat ≤ 1000000 then some (.ol (List.replicate k.toNat xs).flatten) else none
  | .tuple xs, .int k => if xs.length ≤ 1000 ∧ 2 ≤ k ∧ k ≤ 1000 ∧ xs ≠ [] then some (.fr (.tuple (List.replicate k.toNat xs).flatten)) else none
  | _, _ => none
theorem RpAll.rep {I : Hp} {vs : List V} {ds : List PyData} (h : RpAll K I vs ds) : ∀ n : Nat, RpAll K I (List.replicate n vs).flatten (List.replicate n ds).flatten
  | 0 => .nil
  | n + 1 => by
    rw [List.replicate_succ, List.replicate_succ, List.flatten_cons, List.flatten_cons]
    exact h.app (h.rep n)
/-- // and % -/
def pDiv : PyData → PyData → Option O
  | .int i, .int j => if 0 < j ∧ j < 1073741824 then some (.fr (.int (i / j))) else none
  | _, _ => none
theorem os_div : OpS K (two (rI CDiv fun i j => .int (i / j))) (on2 pDiv) := ops2 fun v u d e I H Q o s r1 r2 q k => by
  unfold pDiv at q
  split at q
  · split at q
    · rename_i hc
      cases q
      rw [r1.int, r2.int]
      exact ⟨_, _, rfl, rfl, hc, k _ _ _ _ (Grow.val s (.int _))⟩
    · cases q
  · cases q
def pMod : PyData → PyData → Option O
  | .int i, .int j => if 0 < j then some (.fr (.int (i % j))) else none
  | _, _ => none
theorem os_mod : OpS K (two (rI (fun _ j => 0 < j) fun i j => .int (i % j))) (on2 pMod) := ops2 fun v u d e I H Q o s r1 r2 q k => by
  unfold pMod at q
  split at q
  · split at q
    · rename_i hc
      cases q
      rw [r1.int, r2.int]
      exact ⟨_, _, rfl, rfl, hc, k _ _ _ _ (Grow.val s (.int _))⟩
    · cases q
  · cases q
def pPow : PyData → PyData → Option O
  | .int i, .int j => if 0 ≤ j ∧ j ≤ 1000000 ∧ i.natAbs < 2 ^ 64 then some (.fr (.int (i ^ j.toNat))) else none
  | _, _ => none
theorem os_pow : OpS K (two (rI CPow fun i j => .int (i ^ j.toNat))) (on2 pPow) := ops2 fun v u d e I H Q o s r1 r2 q k => by
  unfold pPow at q
  split at q
  · split at q
    · rename_i hc
      cases q
      rw [r1.int, r2.int]
      exact ⟨_, _, rfl, rfl, hc, k _ _ _ _ (Grow.val s (.int _))⟩
    · cases q
  · cases q
def pNeg : PyData → Option O
  | .int i => some (.fr (.int (-i)))
  | _ => none
theorem os_neg : OpS K (one (rU fun i => .int (-i))) (on1 pNeg) := ops1 fun v d I H Q o s r1 q k => by
  unfold pNeg at q
  split at q
  · cases q
    rw [r1.int]
    exact ⟨_, rfl, k _ _ _ _ (Grow.val s (.int _))⟩
  · cases q

/-! ### comparisons -/
def cmI (c : Int → Int → Bool) : PyData → PyData → Option O
  | .int i, .int j => some (.fr (.bool (c i j)))
  | _, _ => none
theorem os_cmI {c : Int → Int → Bool} : OpS K (two (rI0 fun i j => .bl (c i j))) (on2 (cmI c)) := ops2 fun v u d e I H Q o s r1 r2 q k => by
  unfold cmI at q
  split at q
  · cases q
    rw [r1.int, r2.int]
    exact ⟨_, _, rfl, rfl, k _ _ _ _ (Grow.val s rbl)⟩
  · cases q
def shp (d : PyData) : Bool := SeqAt.shaped d
def pEq (d e : PyData) : Option O := match d, e with
  | .str a, .str b => some (.fr (.bool (decide (a = b))))
  | d, e => if shp d = true ∧ shp e = true then some (.fr (.bool (PyData.eqv d e))) else none
def pNe (d e : PyData) : Option O := match d, e with
  | .str a, .str b => some (.fr (.bool (!decide (a = b))))
  | d, e => if shp d = true ∧ shp e = true then some (.fr (.bool (!PyData.eqv d e))) else none
def rEqA (K : PySem.W.Frag) : R2 := fun x y H Q => rEqD K x y H Q ∨ rEq x y H Q
def rNeA (K : PySem.W.Frag) : R2 := fun x y H Q => rNeD K x y H Q ∨ rNe x y H Q
theorem op_eqA (hu : X.A.units + 64 < cLine) : OpR X (compareOp .Eq) (rEqA X.K) := (op_eqD hu).or op_eq
theorem op_neA (hu : X.A.units + 64 < cLine) : OpR X (compareOp .NotEq) (rNeA X.K) := (op_neD hu).or op_ne
theorem dec_str {a b : Str} : decide (V.str a = V.str b) = decide (a = b) := by
  by_cases h : a = b
  · subst h; simp
  · rw [decide_eq_false h, decide_eq_false fun z => h (V.str.inj z)]
theorem os_eq : OpS K (two (rEqA K)) (on2 pEq) := ops2 fun v u d e I H Q o s r1 r2 q k => by
  unfold pEq at q
  split at q
  · cases q
    rw [r1.str, r2.str]
    exact .inr ⟨rfl, by rw [dec_str]; exact k _ _ _ _ (Grow.val s rbl)⟩
  · split at q
    · rename_i hc
      cases q
      exact .inl ⟨_, _, r1.dp s (SeqAt.canLay_of_shaped hc.1), r2.dp s (SeqAt.canLay_of_shaped hc.2), hc.1, hc.2, k _ _ _ _ (Grow.val s rbl)⟩
    · cases q
theorem os_ne : OpS K (two (rNeA K)) (on2 pNe) := ops2 fun v u d e I H Q o s r1 r2 q k => by
  unfold pNe at q
  split at q
  · cases q
    rw [r1.str, r2.str]
    exact .inr ⟨rfl, by rw [dec_str]; exact k _ _ _ _ (Grow.val s rbl)⟩
  · split at q
    · rename_i hc
      cases q
      exact .inl ⟨_, _, r1.dp s (SeqAt.canLay_of_shaped hc.1), r2.dp s (SeqAt.canLay_of_shaped hc.2), hc.1, hc.2, k _ _ _ _ (Grow.val s rbl)⟩
    · cases q
def isN : PyData → Bool
  | .none => true
  | _ => false
def pIs (d e : PyData) : Option O := if isN e = true then some (.fr (.bool (isN d))) else none
def pIsn (d e : PyData) : Option O := if isN e = true then some (.fr (.bool (!isN d))) else none
theorem isN_rep {I H : Hp} {v : V} {d : PyData} (h : RpS K I H v d) : decide (v = .non) = isN d := by
  rcases h with h | ⟨_, _, _, rfl, rfl, _⟩
  · cases h <;> rfl
  · rfl
theorem os_is : OpS K (two fun x y H Q => y = .non ∧ Q (.bl (decide (x = .non))) H) (on2 pIs) := ops2 fun v u d e I H Q o s r1 r2 q k => by
  unfold pIs at q
  split at q
  · rename_i hc
    cases q
    have e1 := isN_rep r2
    rw [hc] at e1
    rw [isN_rep r1]
    exact ⟨of_decide_eq_true e1, k _ _ _ _ (Grow.val s rbl)⟩
  · cases q
theorem os_isn : OpS K (two fun x y H Q => y = .non ∧ Q (.bl (!decide (x = .non))) H) (on2 pIsn) := ops2 fun v u d e I H Q o s r1 r2 q k => by
  unfold pIsn at q
  split at q
  · rename_i hc
    cases q
    have e1 := isN_rep r2
    rw [hc] at e1
    rw [isN_rep r1]
    exact ⟨of_decide_eq_true e1, k _ _ _ _ (Grow.val s rbl)⟩
  · cases q
/-- in a list -/
def pIn : PyData → PyData → Option O
  | d, .list ds => if shp d = true ∧ shp (.list ds) = true then some (.fr (.bool (ds.any fun z => PyData.eqv z d))) else none
  | _, _ => none
def pNin : PyData → PyData → Option O
  | d, .list ds => if shp d = true ∧ shp (.list ds) = true then some (.fr (.bool (!ds.any fun z => PyData.eqv z d))) else none
  | _, _ => none
theorem os_in : OpS K (two (rInD K)) (on2 pIn) := ops2 fun v u d e I H Q o s r1 r2 q k => by
  unfold pIn at q
  split at q
  · split at q
    · rename_i hc
      cases q
      exact ⟨_, _, r1.dp s (SeqAt.canLay_of_shaped hc.1), r2.dp s (SeqAt.canLay_of_shaped hc.2), hc.1, hc.2, k _ _ _ _ (Grow.val s rbl)⟩
    · cases q
  · cases q
theorem os_nin : OpS K (two (rNotInD K)) (on2 pNin) := ops2 fun v u d e I H Q o s r1 r2 q k => by
  unfold pNin at q
  split at q
  · split at q
    · rename_i hc
      cases q
      exact ⟨_, _, r1.dp s (SeqAt.canLay_of_shaped hc.1), r2.dp s (SeqAt.canLay_of_shaped hc.2), hc.1, hc.2, k _ _ _ _ (Grow.val s rbl)⟩
    · cases q
  · cases q

/-! ### items and slices -/
def pIx : PyData → PyData → Option O
  | .list xs, .int i => (atI xs i).map .fr
  | .tuple xs, .int i => (atI xs i).map .fr
  | .str z, .int i => if z.length ≤ 1000000 then (atI z.cps.toList i).map fun c => .fr (.str ⟨#[c]⟩) else none
  | _, _ => none
theorem atI_rep {I : Hp} {vs : List V} {ds : List PyData} {i : Int} {d : PyData} (r : RpAll K I vs ds) (h : atI ds i = some d) : ∃ v, atI vs i = some v ∧ Rp K I v d := by
  unfold atI at h ⊢
  rw [r.length]
  cases q : ixN ds.length i with
  | none => rw [q] at h; cases h
  | some j =>
    rw [q] at h
    exact r.get h
theorem os_ix : OpS K (two (rIx K)) (on2 pIx) := ops2 fun v u d e I H Q o s r1 r2 q k => by
  unfold pIx at q
  split at q
  · rename_i xs i
    cases z : atI xs i with
    | none => rw [z] at q; cases q
    | some x =>
      rw [z] at q; cases q
      obtain ⟨a, vs, rfl, h1, h2⟩ := r1.lst s
      obtain ⟨y, h3, h4⟩ := atI_rep h2 z
      rw [r2.int]
      exact .inl ⟨a, vs, i, y, rfl, rfl, h1.sq, h3, k _ _ _ _ (Grow.val s h4)⟩
  · rename_i xs i
    cases z : atI xs i with
    | none => rw [z] at q; cases q
    | some x =>
      rw [z] at q; cases q
      obtain ⟨a, vs, rfl, h1, h2⟩ := r1.tup s
      obtain ⟨y, h3, h4⟩ := atI_rep h2 z
      rw [r2.int]
      exact .inr (.inl ⟨a, vs, i, y, rfl, rfl, h1, h3, k _ _ _ _ (Grow.val s h4)⟩)
  · rename_i z i
    split at q
    · rename_i hz
      cases y : atI z.cps.toList i with
      | none => rw [y] at q; cases q
      | some c =>
        rw [y] at q; cases q
        rw [r1.str, r2.int]
        exact .inr (.inr ⟨z, i, c, rfl, rfl, six hz, y, k _ _ _ _ (Grow.val s (.str _))⟩)
    · cases q
  · cases q
def cutD {α : Type} (xs : List α) (lo hi : Option Int) : List α := (xs.drop (HT.sIx xs.length 0 lo)).take (HT.sIx xs.length xs.length hi - HT.sIx xs.length 0 lo)
theorem cut_rep {I : Hp} {vs : List V} {ds : List PyData} (r : RpAll K I vs ds) (lo hi : Option Int) : RpAll K I (cutV vs lo hi) (cutD ds lo hi) := by
  unfold cutV cutD
  rw [r.length]
  exact (r.drops _).takes _
def pSl (d : PyData) (lo hi : Option Int) : Option O := match d with
  | .list xs => some (.ol (cutD xs lo hi))
  | .tuple xs => some (.fr (.tuple (cutD xs lo hi)))
  | .str z => if z.length ≤ 1000000 then some (.fr (.str (cutS z lo hi))) else none
  | _ => none
def rSlX' (K : PySem.W.Frag) : V → Option Int → Option Int → Hp → VK → Prop := fun x lo hi H Q => (rSlL K x lo hi H Q ∨ rSlA K x lo hi H Q) ∨ rSlS x lo hi H Q
theorem sl_any : SlR X (rSlX' X.K) := (sl_list.or sl_tupA).or sl_str
theorem os_sl {v : V} {d : PyData} {lo hi : Option Int} {I H : Hp} {Q : VK} {o : O} (s : Same I H) (r1 : RpS K I H v d) (q : pSl d lo hi = some o) (k : ∀ v H' I' R, Grow K I H I' H' o v R → Q v H') : rSlX' K v lo hi H Q := by
  unfold pSl at q
  split at q
  · cases q
    obtain ⟨a, vs, rfl, h1, h2⟩ := r1.lst s
    exact .inl (.inl ⟨a, vs, rfl, h1.sq, fun p np => k _ _ _ _ (Grow.lst s np (cut_rep h2 lo hi))⟩)
  · cases q
    obtain ⟨a, vs, rfl, h1, h2⟩ := r1.tup s
    refine .inl (.inr ⟨a, vs, rfl, h1, fun e => ?_, fun _ p np => k _ _ _ _ (Grow.tup s np (cut_rep h2 lo hi))⟩)
    rename_i xs
    have ec : cutD xs lo hi = xs := by
      unfold cutD
      rw [← h2.length, e.1, e.2, List.drop_zero, Nat.sub_zero, h2.length, List.take_length]
    rw [ec] at k
    exact k _ _ _ _ (Grow.val s (rps_rp r1 rfl))
  · split at q
    · rename_i hz
      cases q
      rw [r1.str]
      exact .inr ⟨_, rfl, six hz, k _ _ _ _ (Grow.val s (.str _))⟩
    · cases q
  · cases q
end
section
variable {g : G} {X : Cx} {a b c e : Expr} {pos p2 : Pos} {σ : St} {H : Hp}
def sl3 (r : V → Option Int → Option Int → Hp → VK → Prop) : List V → Hp → VK → Prop
  | [x, .int i, .int j], H, Q => r x (some i) (some j) H Q
  | _, _, _ => False
def sl2l (r : V → Option Int → Option Int → Hp → VK → Prop) : List V → Hp → VK → Prop
  | [x, .int i], H, Q => r x (some i) none H Q
  | _, _, _ => False
def sl2h (r : V → Option Int → Option Int → Hp → VK → Prop) : List V → Hp → VK → Prop
  | [x, .int i], H, Q => r x none (some i) H Q
  | _, _, _ => False
def pSl3 : List PyData → Option O
  | [d, .int i, .int j] => pSl d (some i) (some j)
  | _ => none
def pSl2l : PyData → PyData → Option O
  | d, .int i => pSl d (some i) none
  | _, _ => none
def pSl2h : PyData → PyData → Option O
  | d, .int i => pSl d none (some i)
  | _, _ => none
theorem de_slLo {x y : AF} (ha : DX g X a x) (hb : DX g X b y) (hK : X.K = g.K := by rfl) : DE g X (.Subscript a (.Slice (some b) none none p2) pos) (fOp (on2 pSl2l) [x, y]) :=
  PE.imp (pe_slice sl_any ha (po_some hb) po_none) fun σ H Q h => by
    refine tArg_mono (tA2 (op_key (r := two fun v u H1 Q => ∃ i, u = V.int i ∧ rSlX' X.K v (some i) none H1 Q) ?_ h)) fun v H1 q => tArg_mono q fun u H2 q => q
    refine ops2 fun v u d e I H Q o s r1 r2 q k => ?_
    unfold pSl2l at q
    split at q
    · rw [r2.int, hK]
      exact ⟨_, rfl, os_sl s r1 q k⟩
    · cases q
theorem de_slHi {x y : AF} (ha : DX g X a x) (hb : DX g X b y) (hK : X.K = g.K := by rfl) : DE g X (.Subscript a (.Slice none (some b) none p2) pos) (fOp (on2 pSl2h) [x, y]) :=
  PE.imp (pe_slice sl_any ha po_none (po_some hb)) fun σ H Q h => by
    refine tArg_mono (tA2 (op_key (r := two fun v u H1 Q => ∃ i, u = V.int i ∧ rSlX' X.K v none (some i) H1 Q) ?_ h)) fun v H1 q => tArg_mono q fun u H2 q => q
    refine ops2 fun v u d e I H Q o s r1 r2 q k => ?_
    unfold pSl2h at q
    split at q
    · rw [r2.int, hK]
      exact ⟨_, rfl, os_sl s r1 q k⟩
    · cases q
end
end Dy

/-! D9: built-in functions, walks, stores. -/
namespace Dy
open PySem PySem.Spec PyProof.Rows L2

section
variable {X : Cx} {K : PySem.W.Frag}
theorem op_repL : OpR X (binaryOp .Mult) (rRepL X.K) := by
  rintro pins s σ H x y v u Q J rx ry ⟨l, k, xs, rfl, rfl, hL, h1, h2, hz, q⟩
  cases rx
  obtain ⟨t, rfl⟩ := ry
  obtain ⟨z, its, n, r, hl, e⟩ := hL.obj J
  have a1 : its.toArray.size * k.toNat ≤ sizeLine := by
    rw [List.size_toArray, ← hl]
    exact hz
  have a2 : ¬ its.toArray.size * k.toNat > (2 ^ 63 - 1) / 8 := Nat.not_lt.mpr (Nat.le_trans a1 (by decide))
  have a3 : ¬ (!Builtin.List.listFitsIndex k) = true := by rw [fitsIndex_both h1 h2]; decide
  have a4 : ¬ Builtin.List.listTooLong (its.toArray.size * k.toNat) = true := by rw [notLongL a1]; decide
  have a5 : List.foldl (fun x1 x2 => x1 ++ x2) #[] (List.replicate (if its.toArray.isEmpty = true then 0 else k.toNat) its.toArray) = (List.replicate k.toNat its).flatten.toArray := by
    rw [size_rep]
    cases its with
    | nil => simp
    | cons b c => rfl
  refine wpAny_binaryOp_repeat_ref (T := "list") (U := "int") (by decide) ⟨_, e, rfl⟩ (fun s' => typeIs_int s' k t) noFill_list_mul F.fills_int_mul F.slot_int_rmul repeat_list F.slot_int_index.lookup ?_
  refine call_meets F.slot_int_rmul (typeIs_int s k t) F.entry_int_rmul (F.args_int_rmul_2 _ _) (int___rmul___int_list k t l its.toArray n) ⟨e, rfl, ⟨_, e, rfl⟩, ?_⟩
  refine call_meets F.slot_list_mul ⟨_, e, rfl⟩ F.entry_list_mul (F.args_list_mul_2 _ _) (AutoListH.list___mul___list_int_3 l its.toArray n k t a3 a2 a4) ⟨e, ?_⟩
  rw [a5]
  exact ⟨.ref _, _, J.lnew (t' := s.toks) (r.rep k.toNat) (by rw [PyProof.Rows.lm_len_rep_flat, Nat.mul_comm]; exact hz), rfl, q _ J.fresh⟩
def rMulA (K : PySem.W.Frag) : R2 := fun x y H Q => (rI (fun i j => muOk i j = true) (fun i j => .int (i * j)) x y H Q ∨ rRepL K x y H Q) ∨ rRepT K x y H Q
theorem op_mulA : OpR X (binaryOp .Mult) (rMulA X.K) := (op_mulM.or op_repL).or op_repT
theorem os_mul : OpS K (two (rMulA K)) (on2 pMul) := ops2 fun v u d e I H Q o s r1 r2 q k => by
  unfold pMul at q
  split at q
  · split at q
    · rename_i hc
      cases q
      rw [r1.int, r2.int]
      exact .inl (.inl ⟨_, _, rfl, rfl, hc, k _ _ _ _ (Grow.val s (.int _))⟩)
    · cases q
  · split at q
    · rename_i hc
      cases q
      obtain ⟨a, vs, rfl, h1, h2⟩ := r1.lst s
      rw [r2.int]
      exact .inl (.inr ⟨a, _, vs, rfl, rfl, h1, by omega, by omega, by rw [h2.length]; exact six hc.2.2, fun p np => k _ _ _ _ (Grow.lst s np (h2.rep _))⟩)
    · cases q
  · split at q
    · rename_i hc
      cases q
      obtain ⟨a, vs, rfl, h1, h2⟩ := r1.tup s
      rw [r2.int]
      refine .inr ⟨a, _, vs, rfl, rfl, h1, fun z => ?_, hc.2.1, hc.2.2.1, by rw [h2.length]; exact hc.1, fun p np => k _ _ _ _ (Grow.tup s np (h2.rep _))⟩
      subst z
      cases h2
      exact hc.2.2.2 rfl
    · cases q
  · cases q

/-! ### built-in functions -/
theorem ops1c {r : List V → Hp → VK → Prop} {f : PyData → Option O} (h : ∀ (v : V) (d : PyData) (I H : Hp) (Q : VK) (o : O), Same I H → RpS K I H v d → f d = some o → (∀ v H' I' R, Grow K I H I' H' o v R → Q v H') → r [v] H Q) : OpS K r (on1 f) := by
  intro vs ds I H Q o s q e k
  match vs, ds, q with
  | _, _, .nil => simp [on1] at e
  | _, _, .cons q1 .nil => exact h _ _ I H Q o s q1 e k
  | _, _, .cons _ (.cons _ _) => simp [on1] at e
theorem ops2c {r : List V → Hp → VK → Prop} {f : PyData → PyData → Option O} (h : ∀ (v u : V) (d e : PyData) (I H : Hp) (Q : VK) (o : O), Same I H → RpS K I H v d → RpS K I H u e → f d e = some o → (∀ v H' I' R, Grow K I H I' H' o v R → Q v H') → r [v, u] H Q) : OpS K r (on2 f) := by
  intro vs ds I H Q o s q e k
  match vs, ds, q with
  | _, _, .nil => simp [on2] at e
  | _, _, .cons _ .nil => simp [on2] at e
  | _, _, .cons q1 (.cons q2 .nil) => exact h _ _ _ _ I H Q o s q1 q2 e k
  | _, _, .cons _ (.cons _ (.cons _ _)) => simp [on2] at e
def pLen : PyData → Option O
  | .list xs => some (.fr (.int xs.length))
  | .tuple xs => some (.fr (.int xs.length))
  | .str x => if x.length ≤ 1000000 then some (.fr (.int x.length)) else none
  | _ => none
theorem os_len : OpS K (fun xs H Q => ∃ x n, xs = [x] ∧ LenV K x H n ∧ Q (.int n) H) (on1 pLen) := ops1c fun v d I H Q o s r1 q k => by
  unfold pLen at q
  split at q
  · cases q
    obtain ⟨a, vs, rfl, h1, h2⟩ := r1.lst s
    rw [← h2.length] at k
    exact ⟨_, _, rfl, .inl ⟨vs, h1.sq, rfl⟩, k _ _ _ _ (Grow.val s (.int _))⟩
  · cases q
    obtain ⟨a, vs, rfl, h1, h2⟩ := r1.tup s
    rw [← h2.length] at k
    exact ⟨_, _, rfl, .inr ⟨vs, h1, rfl⟩, k _ _ _ _ (Grow.val s (.int _))⟩
  · split at q
    · rename_i hz
      cases q
      rw [r1.str]
      exact ⟨_, _, rfl, ⟨six hz, rfl⟩, k _ _ _ _ (Grow.val s (.int _))⟩
    · cases q
  · cases q
def pSum : PyData → Option O
  | .list xs => (intsOf xs).map fun ns => .fr (.int ns.sum)
  | _ => none
theorem os_sum : OpS K (rSum K) (on1 pSum) := ops1c fun v d I H Q o s r1 q k => by
  unfold pSum at q
  split at q
  · rename_i xs
    cases z : intsOf xs with
    | none => rw [z] at q; cases q
    | some ns =>
      rw [z] at q; cases q
      obtain ⟨a, vs, rfl, h1, h2⟩ := r1.lst s
      rw [intsOf_inv z] at h2
      rw [h2.ints] at h1
      exact ⟨a, ns, rfl, h1.sq, k _ _ _ _ (Grow.val s (.int _))⟩
  · cases q
def pAll : PyData → Option O
  | .list xs => (boolsOf xs).map fun ns => .fr (.bool (ns.all id))
  | _ => none
theorem os_all : OpS K (rAll K) (on1 pAll) := ops1c fun v d I H Q o s r1 q k => by
  unfold pAll at q
  split at q
  · rename_i xs
    cases z : boolsOf xs with
    | none => rw [z] at q; cases q
    | some ns =>
      rw [z] at q; cases q
      obtain ⟨a, vs, rfl, h1, h2⟩ := r1.lst s
      rw [boolsOf_inv z] at h2
      rw [h2.bools] at h1
      exact ⟨a, ns, rfl, h1.sq, k _ _ _ _ (Grow.val s rbl)⟩
  · cases q
/-- the greatest, the least of some ints -/
def maxL : List Int → Int
  | [] => 0
  | [a] => a
  | a :: b :: r => max a (maxL (b :: r))
def minL : List Int → Int
  | [] => 0
  | [a] => a
  | a :: b :: r => min a (minL (b :: r))
theorem maxL_ge : ∀ {ns : List Int} {y : Int}, y ∈ ns → y ≤ maxL ns
  | [a], y, h => by simp at h; subst h; exact Int.le_refl _
  | a :: b :: r, y, h => by
    unfold maxL
    rcases List.mem_cons.mp h with e | h
    · subst e; omega
    · have := maxL_ge h; omega
theorem maxL_mem : ∀ {ns : List Int}, ns ≠ [] → maxL ns ∈ ns
  | [], h => absurd rfl h
  | [a], _ => by simp [maxL]
  | a :: b :: r, _ => by
    have ih := maxL_mem (ns := b :: r) (by simp)
    unfold maxL
    by_cases h : a ≤ maxL (b :: r)
    · rw [Int.max_eq_right h]; exact List.mem_cons_of_mem _ ih
    · rw [Int.max_eq_left (by omega)]; exact List.mem_cons_self
theorem minL_le : ∀ {ns : List Int} {y : Int}, y ∈ ns → minL ns ≤ y
  | [a], y, h => by simp at h; subst h; exact Int.le_refl _
  | a :: b :: r, y, h => by
    unfold minL
    rcases List.mem_cons.mp h with e | h
    · subst e; omega
    · have := minL_le h; omega
theorem minL_mem : ∀ {ns : List Int}, ns ≠ [] → minL ns ∈ ns
  | [], h => absurd rfl h
  | [a], _ => by simp [minL]
  | a :: b :: r, _ => by
    have ih := minL_mem (ns := b :: r) (by simp)
    unfold minL
    by_cases h : a ≤ minL (b :: r)
    · rw [Int.min_eq_left h]; exact List.mem_cons_self
    · rw [Int.min_eq_right (by omega)]; exact List.mem_cons_of_mem _ ih
def rMax' (K : PySem.W.Frag) : List V → Hp → VK → Prop := fun xs H Q => (∃ i j, xs = [.int i, .int j] ∧ Q (.int (if j > i then j else i)) H) ∨ rMax K xs H Q
def rMin' (K : PySem.W.Frag) : List V → Hp → VK → Prop := fun xs H Q => (∃ i j, xs = [.int i, .int j] ∧ Q (.int (if j < i then j else i)) H) ∨ rMin K xs H Q
theorem cl_max (hc : X.calm = true) : CallR X (.builtin "max") (rMax' X.K) := (call_max2 hc).or (cr_max hc)
theorem cl_min (hc : X.calm = true) : CallR X (.builtin "min") (rMin' X.K) := (call_min2 hc).or (cr_min hc)
def pMax : List PyData → Option O
  | [.int i, .int j] => some (.fr (.int (max i j)))
  | [.list xs] => match intsOf xs with
    | some (n :: ns) => some (.fr (.int (maxL (n :: ns))))
    | _ => none
  | _ => none
def pMin : List PyData → Option O
  | [.int i, .int j] => some (.fr (.int (min i j)))
  | [.list xs] => match intsOf xs with
    | some (n :: ns) => some (.fr (.int (minL (n :: ns))))
    | _ => none
  | _ => none
theorem os_max : OpS K (rMax' K) pMax := fun vs ds I H Q o s r q k => by
  unfold pMax at q
  split at q
  · rename_i i j
    cases q
    match vs, r with
    | _, .cons r1 (.cons r2 .nil) =>
      rw [r1.int, r2.int]
      refine .inl ⟨i, j, rfl, ?_⟩
      have e : (if j > i then j else i) = max i j := by split <;> omega
      rw [e]
      exact k _ _ _ _ (Grow.val s (.int _))
  · rename_i xs
    match vs, r with
    | _, .cons r1 .nil =>
      split at q
      · rename_i n ns z
        cases q
        obtain ⟨a, vs, rfl, h1, h2⟩ := r1.lst s
        rw [intsOf_inv z] at h2
        rw [h2.ints] at h1
        refine .inr ⟨a, n :: ns, rfl, h1.sq, by simp, fun m hm hb => ?_⟩
        have e : m = maxL (n :: ns) := Int.le_antisymm (maxL_ge hm) (hb _ (maxL_mem (by simp)))
        rw [e]
        exact k _ _ _ _ (Grow.val s (.int _))
      · cases q
  · cases q
theorem os_min : OpS K (rMin' K) pMin := fun vs ds I H Q o s r q k => by
  unfold pMin at q
  split at q
  · rename_i i j
    cases q
    match vs, r with
    | _, .cons r1 (.cons r2 .nil) =>
      rw [r1.int, r2.int]
      refine .inl ⟨i, j, rfl, ?_⟩
      have e : (if j < i then j else i) = min i j := by split <;> omega
      rw [e]
      exact k _ _ _ _ (Grow.val s (.int _))
  · rename_i xs
    match vs, r with
    | _, .cons r1 .nil =>
      split at q
      · rename_i n ns z
        cases q
        obtain ⟨a, vs, rfl, h1, h2⟩ := r1.lst s
        rw [intsOf_inv z] at h2
        rw [h2.ints] at h1
        refine .inr ⟨a, n :: ns, rfl, h1.sq, by simp, fun m hm hb => ?_⟩
        have e : m = minL (n :: ns) := Int.le_antisymm (hb _ (minL_mem (by simp))) (minL_le hm)
        rw [e]
        exact k _ _ _ _ (Grow.val s (.int _))
      · cases q
  · cases q
def pList (d : PyData) : Option O := (seqOf d).map .ol
theorem os_list : OpS K (fun xs H Q => ∃ p ys, xs = [.ref p] ∧ (SqL K H p ys ∨ SqT K H p ys) ∧ ∀ l, H l = none → Q (.ref l) (upd H l (.lst ys))) (on1 pList) := ops1c fun v d I H Q o s r1 q k => by
  unfold pList at q
  cases z : seqOf d with
  | none => rw [z] at q; cases q
  | some xs =>
    rw [z] at q; cases q
    obtain ⟨p, vs, rfl, h1, h2⟩ := rps_seq s r1 z
    exact ⟨p, vs, rfl, h1.symm, fun l nl => k _ _ _ _ (Grow.lst s nl h2)⟩
def pTuple (d : PyData) : Option O := (seqOf d).map fun xs => .fr (.tuple xs)
theorem os_tuple : OpS K (fun xs H Q => ∃ p ys, xs = [.ref p] ∧ ((SqL K H p ys ∧ ∀ l, H l = none → Q (.ref l) (upd H l (.tup ys))) ∨ (SqT K H p ys ∧ Q (.ref p) H))) (on1 pTuple) := ops1c fun v d I H Q o s r1 q k => by
  unfold pTuple at q
  cases d with
  | list xs =>
    cases q
    obtain ⟨p, vs, rfl, h1, h2⟩ := r1.lst s
    exact ⟨p, vs, rfl, .inl ⟨h1.sq, fun l nl => k _ _ _ _ (Grow.tup s nl h2)⟩⟩
  | tuple xs =>
    cases q
    obtain ⟨p, vs, rfl, h1, h2⟩ := r1.tup s
    exact ⟨p, vs, rfl, .inr ⟨h1, k _ _ _ _ (Grow.val s (rps_rp r1 rfl))⟩⟩
  | _ => cases q
def pInt : PyData → Option O
  | .int i => some (.fr (.int i))
  | .bool b => some (.fr (.int (if b then 1 else 0)))
  | _ => none
theorem os_int : OpS K (fun xs H Q => (∃ i, xs = [.int i] ∧ Q (.int i) H) ∨ ∃ k, xs = [.bl k] ∧ Q (.int (if k then 1 else 0)) H) (on1 pInt) := ops1c fun v d I H Q o s r1 q k => by
  unfold pInt at q
  split at q
  · cases q
    rw [r1.int]
    exact .inl ⟨_, rfl, k _ _ _ _ (Grow.val s (.int _))⟩
  · cases q
    rw [r1.bl]
    exact .inr ⟨_, rfl, k _ _ _ _ (Grow.val s (.int _))⟩
  · cases q
def pStr : PyData → Option O
  | .int i => if i.natAbs < 2 ^ 1900 then some (.fr (.str (toString i))) else none
  | _ => none
theorem log_lt {i : Int} (h : i.natAbs < 2 ^ 1900) : i.natAbs.log2 < 1920 := Nat.lt_of_lt_of_le (PySem.Flt.log2_lt_of (by decide) h) (by decide)
theorem os_str : OpS K (fun xs H Q => ∃ i : Int, xs = [.int i] ∧ i.natAbs.log2 < 1920 ∧ Q (.str (toString i)) H) (on1 pStr) := ops1c fun v d I H Q o s r1 q k => by
  unfold pStr at q
  split at q
  · split at q
    · rename_i hc
      cases q
      rw [r1.int]
      exact ⟨_, rfl, log_lt hc, k _ _ _ _ (Grow.val s (.str _))⟩
    · cases q
  · cases q
/-- isinstance -/
inductive Ty where
  | int | bool | str | list | tuple | dict
def Ty.name : Ty → String
  | .int => "int"
  | .bool => "bool"
  | .str => "str"
  | .list => "list"
  | .tuple => "tuple"
  | .dict => "dict"
def tyN : PyData → String
  | .none => "NoneType"
  | .bool _ => "bool"
  | .int _ => "int"
  | .str _ => "str"
  | .list _ => "list"
  | .tuple _ => "tuple"
  | .dict _ => "dict"
def isA : Ty → PyData → Bool
  | .int, .int _ => true
  | .int, .bool _ => true
  | .bool, .bool _ => true
  | .str, .str _ => true
  | .list, .list _ => true
  | .tuple, .tuple _ => true
  | .dict, .dict _ => true
  | _, _ => false
theorem isA_kit (t : Ty) (d : PyData) : kitB (tyN d) t.name = some (isA t d) := by
  cases t <;> cases d <;> first | rfl | (show kitB _ _ = _; decide +kernel)
theorem tyX {I H : Hp} {v : V} {d : PyData} (s : Same I H) (h : RpS K I H v d) : TyX K H v (.type (tyN d)) := by
  rcases h with h | ⟨a, vs, ds, rfl, rfl, h1, _⟩
  · cases h with
    | non => exact .base .non
    | bl b => exact .base (.bl b)
    | int i => exact .base (.int i)
    | str x => exact .base (.str x)
    | lst h1 _ =>
      rcases h1.mono s with (h1 | ⟨o, h1⟩) | ⟨its, n, h1, _⟩
      · exact .base (.lst h1)
      · exact .base (.frz h1)
      · exact .kList h1 rfl
    | tup h1 _ =>
      rcases same_t s h1 with (h1 | ⟨o, h1⟩) | ⟨o, its, n, h1, h2, _⟩
      · exact .base (.tup h1)
      · exact .fTuple h1
      · exact .kTuple h1 h2
    | dic h1 _ => exact .base (.dK (s _ _ h1))
  · exact .base (.lst h1)
end
section
variable {g : G} {X : Cx} {a b c e : Expr} {pos p p2 : Pos} {σ : St} {H : Hp}
theorem de_isi {x : AF} {n : Str} (t : Ty) (hg : Gl X "isinstance") (hm : X.mg "isinstance" = none) (hv : bootBuiltins "isinstance" = some (.builtin "isinstance")) (ha : DX g X a x) (hT : PE X (.Name n p2) (tC (.ty t.name))) (hK : X.K = g.K := by rfl)
    (h1 : starEach [a, .Name n p2] X.env = (false, eval a X.env) :: starEach [.Name n p2] X.env := by rfl) (h2 : starEach [.Name n p2] X.env = (false, eval (.Name n p2) X.env) :: starEach [] X.env := by rfl) (h3 : (backTo pos (starEach [.Name n p2] X.env)).any (·.1) = false := by rfl) :
    DE g X (.Call (.Name "isinstance" p) [a, .Name n p2] [] pos) (fOp (on1 fun d => some (.fr (.bool (isA t d)))) [x]) :=
  PE.imp (pe_callB call_isi hg hm hv (pa_cons ha (pa_cons hT pa_nil h2) h1) (by decide) (by decide) h1 h3) fun σ H Q h => by
    refine tArg_mono (tA1 (op_key (r := one fun v H1 Q => rIsi X.K [v, .ty t.name] H1 Q) ?_ h)) fun v H1 q => q
    refine ops1 fun v d I H Q o s r1 q k => ?_
    cases q
    exact ⟨v, .ty t.name, .type (tyN d), .type t.name, isA t d, rfl, .ty _, by rw [hK]; exact tyX s r1, kit_ty (isA_kit t d), k _ _ _ _ (Grow.val s rbl)⟩

/-! ### walks -/
def fSq (a : AF) : IF := fun env => evA [a] env >>= fun r => match dvs r.1 with
  | some [d] => match seqOf d with
    | some xs => .ok (xs, r.2)
    | none => .no
  | _ => .no
theorem it_l {K : PySem.W.Frag} {I H : Hp} {a : Addr} {vs : List V} {ds : List PyData} (h : LsL K I a vs) (r : RpAll K I vs ds) : ItOk K I (Itl K a) ds := fun I2 H2 i s1 s2 => by
  have hq : SqL K H2 a vs := (h.mono (s1.trans s2)).sq
  refine ⟨fun d hd => ?_, fun e => ⟨vs, hq, by rw [r.length]; omega⟩⟩
  obtain ⟨v, hv, rp⟩ := r.get hd
  refine ⟨⟨vs, v, hq, hv⟩, fun x H' y => ?_⟩
  obtain ⟨rfl, y⟩ := y
  have := y vs hq
  rw [hv] at this; cases this
  exact ⟨I2, Grow.val s2 (rp.mono s1)⟩
theorem it_t {K : PySem.W.Frag} {I H : Hp} {a : Addr} {vs : List V} {ds : List PyData} (h : SqT K I a vs) (r : RpAll K I vs ds) : ItOk K I (Itt K a) ds := fun I2 H2 i s1 s2 => by
  have hq : SqT K H2 a vs := same_t (s1.trans s2) h
  refine ⟨fun d hd => ?_, fun e => ⟨vs, hq, by rw [r.length]; omega⟩⟩
  obtain ⟨v, hv, rp⟩ := r.get hd
  refine ⟨⟨vs, v, hq, hv⟩, fun x H' y => ?_⟩
  obtain ⟨rfl, y⟩ := y
  have := y vs hq
  rw [hv] at this; cases this
  exact ⟨I2, Grow.val s2 (rp.mono s1)⟩
theorem di_seq {tg : Expr} {x : AF} (ha : DX g X a x) (hK : X.K = g.K := by rfl) : DI g X tg a (fSq x) := by
  refine ⟨fun pins s σ H R J h => ?_⟩
  obtain ⟨I, env, F, sm, p⟩ := h
  unfold fSq at p
  cases q : evA [x] env with
  | no => rw [q] at p; exact p.elim
  | er y =>
    rw [q] at p
    have ps : g.err I H F y := p
    refine (pi_list ha).run pins s σ H R J ?_
    refine tA1 (R := fun vs H1 => ∃ v, vs = [v] ∧ ∃ a, v = .ref a ∧ (∃ xs, SqL X.K H1 a xs) ∧ R (Itl X.K a) H1) ⟨I, env, F, sm, by rw [q]; exact ps⟩ |> fun h => tArg_mono h fun v H1 ⟨_, e, z⟩ => by cases e; exact z
  | ok r =>
    rw [q, bind_ok] at p
    cases q2 : dvs r.1 with
    | none => rw [q2] at p; exact p.elim
    | some ds =>
      match ds, q2 with
      | [], q2 => rw [q2] at p; exact p.elim
      | _ :: _ :: _, q2 => rw [q2] at p; exact p.elim
      | [d], q2 =>
        rw [q2] at p
        have ps := p
        cases d with
        | list xs =>
          have ps : ∀ J H' I' F', Sim g.K g.pn I' H' σ r.2 F' → Step I H (Ow F) I' H' (Ow F') → ItOk g.K I' J xs → R J H' := ps
          refine (pi_list ha).run pins s σ H R J ?_
          have key : tA g [x] σ H (fun vs H1 => ∃ v, vs = [v] ∧ ∃ a, v = .ref a ∧ (∃ xs, SqL X.K H1 a xs) ∧ R (Itl X.K a) H1) := by
            refine ⟨I, env, F, sm, ?_⟩
            rw [q]
            intro vs H' I' F' s' st av
            match vs, dvs_rep av q2 with
            | [v], .cons rp .nil =>
              cases rp with
              | lst h1 h2 =>
                rw [hK]
                exact ⟨_, rfl, _, rfl, ⟨_, (h1.mono s'.sub).sq⟩, ps _ _ _ _ s' st (it_l (H := H') h1 h2)⟩
          exact tArg_mono (tA1 key) fun v H1 ⟨_, e, z⟩ => by cases e; exact z
        | tuple xs =>
          have ps : ∀ J H' I' F', Sim g.K g.pn I' H' σ r.2 F' → Step I H (Ow F) I' H' (Ow F') → ItOk g.K I' J xs → R J H' := ps
          refine (pi_tup ha).run pins s σ H R J ?_
          have key : tA g [x] σ H (fun vs H1 => ∃ v, vs = [v] ∧ ∃ a, v = .ref a ∧ (∃ xs, SqT X.K H1 a xs) ∧ R (Itt X.K a) H1) := by
            refine ⟨I, env, F, sm, ?_⟩
            rw [q]
            intro vs H' I' F' s' st av
            match vs, dvs_rep av q2 with
            | [v], .cons rp .nil =>
              cases rp with
              | tup h1 h2 =>
                rw [hK]
                exact ⟨_, rfl, _, rfl, ⟨_, same_t s'.sub h1⟩, ps _ _ _ _ s' st (it_t (H := H') h1 h2)⟩
          exact tArg_mono (tA1 key) fun v H1 ⟨_, e, z⟩ => by cases e; exact z
        | none => exact ps.elim
        | bool _ => exact ps.elim
        | int _ => exact ps.elim
        | str _ => exact ps.elim
        | dict _ => exact ps.elim
end
end Dy

/-! D10: more walks, stores, repr. -/
namespace Dy
open PySem PySem.Spec PyProof.Rows L2

section
variable {g : G} {X : Cx} {a b c e : Expr} {es : List Expr} {pos p tpos : Pos} {σ : St} {H : Hp} {elts : List Expr} {kk : Nat} {tg : Expr}
/-! ### ranges -/
def rng (lo : Int) (n : Nat) : List PyData := (List.range n).map fun k : Nat => PyData.int (lo + (k : Int))
theorem it_r {K : PySem.W.Frag} {I : Hp} {lo : Int} {n : Nat} : ItOk K I (Itr lo n) (rng lo n) := fun I2 H2 i s1 s2 => by
  unfold rng
  refine ⟨fun d hd => ?_, fun e => ?_⟩
  · rw [List.getElem?_map] at hd
    cases q : (List.range n)[i]? with
    | none => rw [q] at hd; cases hd
    | some k =>
      rw [q] at hd; cases hd
      obtain ⟨hk, e⟩ := List.getElem?_eq_some_iff.mp q
      rw [List.length_range] at hk
      rw [List.getElem_range] at e
      subst e
      refine ⟨hk, fun x H' y => ?_⟩
      obtain ⟨rfl, rfl⟩ := y
      exact ⟨I2, Grow.val s2 (.int _)⟩
  · rw [List.length_map, List.length_range] at e
    exact Nat.le_of_eq e
def fR1 (x : AF) : IF := fun env => evA [x] env >>= fun r => match ints1 (rsvs r.2 r.1) with
  | some n => if n ≤ 1000000000 ∧ -1000000000 ≤ n then .ok (rng 0 n.toNat, r.2) else .no
  | none => .no
theorem di_r1 {x : AF} (hg : Gl X "range") (hm : X.mg "range" = none) (ha : DA g X [a] [x]) (hs : starEach [a] X.env = [(false, eval a X.env)] := by rfl) : DI g X tg (.Call (.Name "range" p) [a] [] pos) (fR1 x) :=
  PI.imp (pi_range1 hg hm ha hs) fun σ H R h => by
    obtain ⟨I, env, F, s, p⟩ := h
    refine ⟨I, env, F, s, post_mono (post_bind.mp p) (fun r q vs H' I' F' s' st av => ?_) fun _ z => z⟩
    cases q2 : ints1 (rsvs r.2 r.1) with
    | none => simp only [q2] at q; exact q.elim
    | some n =>
      simp only [q2] at q
      by_cases hz : n ≤ 1000000000 ∧ -1000000000 ≤ n
      · rw [if_pos hz] at q
        match vs, rsvs_rep s' av (ints1_inv q2) with
        | _, .cons r1 .nil =>
          cases rpss_int r1
          exact ⟨n, rfl, by omega, by omega, q _ _ _ _ s' st it_r⟩
      · rw [if_neg hz] at q; exact q.elim
def fR2 (x y : AF) : IF := fun env => evA [x, y] env >>= fun r => match ints2 (rsvs r.2 r.1) with
  | some n => if n.1 ≤ 1000000000 ∧ -1000000000 ≤ n.1 ∧ n.2 ≤ 1000000000 ∧ -1000000000 ≤ n.2 then .ok (rng n.1 (n.2 - n.1).toNat, r.2) else .no
  | none => .no
theorem di_r2 {x y : AF} (hg : Gl X "range") (hm : X.mg "range" = none) (ha : DA g X [a, b] [x, y]) (hs : starEach [a, b] X.env = [(false, eval a X.env), (false, eval b X.env)] := by rfl) (hs2 : starEach [b] X.env = [(false, eval b X.env)] := by rfl) :
    DI g X tg (.Call (.Name "range" p) [a, b] [] pos) (fR2 x y) := PI.imp (pi_range2 hg hm ha hs hs2) fun σ H R h => by
    obtain ⟨I, env, F, s, p⟩ := h
    refine ⟨I, env, F, s, post_mono (post_bind.mp p) (fun r q vs H' I' F' s' st av => ?_) fun _ z => z⟩
    cases q2 : ints2 (rsvs r.2 r.1) with
    | none => simp only [q2] at q; exact q.elim
    | some n =>
      obtain ⟨i, j⟩ := n
      simp only [q2] at q
      by_cases hz : i ≤ 1000000000 ∧ -1000000000 ≤ i ∧ j ≤ 1000000000 ∧ -1000000000 ≤ j
      · rw [if_pos hz] at q
        match vs, rsvs_rep s' av (ints2_inv q2) with
        | _, .cons r1 (.cons r2 .nil) =>
          cases rpss_int r1
          cases rpss_int r2
          exact ⟨i, j, rfl, ⟨by omega, by omega, by omega, by omega⟩, q _ _ _ _ s' st it_r⟩
      · rw [if_neg hz] at q; exact q.elim
/-! ### enumerate, zip -/
def enumD : Nat → List PyData → List PyData
  | _, [] => []
  | i, d :: ds => .tuple [.int (i : Nat), d] :: enumD (i + 1) ds
theorem enumD_at : ∀ {ds : List PyData} {k i : Nat} {x : PyData}, (enumD k ds)[i]? = some x → ∃ d, ds[i]? = some d ∧ x = .tuple [.int ((k + i : Nat) : Int), d]
  | [], _, _, _, h => by simp [enumD] at h
  | d :: ds, k, 0, x, h => by
    unfold enumD at h
    simp at h; subst h
    exact ⟨d, rfl, rfl⟩
  | d :: ds, k, i + 1, x, h => by
    unfold enumD at h
    obtain ⟨y, h1, h2⟩ := enumD_at (ds := ds) (k := k + 1) (i := i) (x := x) (by simpa using h)
    exact ⟨y, by simpa using h1, by rw [h2]; congr 3; omega⟩
theorem enumD_len : ∀ (ds : List PyData) (k : Nat), (enumD k ds).length = ds.length
  | [], _ => rfl
  | d :: ds, k => by unfold enumD; rw [List.length_cons, enumD_len ds, List.length_cons]
def zipD : List PyData → List PyData → List PyData
  | x :: xs, y :: ys => .tuple [x, y] :: zipD xs ys
  | _, _ => []
theorem zipD_at : ∀ {xs ys : List PyData} {i : Nat} {z : PyData}, (zipD xs ys)[i]? = some z → ∃ x y, xs[i]? = some x ∧ ys[i]? = some y ∧ z = .tuple [x, y]
  | [], _, _, _, h => by simp [zipD] at h
  | _ :: _, [], _, _, h => by simp [zipD] at h
  | x :: xs, y :: ys, 0, z, h => by
    unfold zipD at h
    simp at h; subst h
    exact ⟨x, y, rfl, rfl, rfl⟩
  | x :: xs, y :: ys, i + 1, z, h => by
    unfold zipD at h
    obtain ⟨a, b, h1, h2, h3⟩ := zipD_at (xs := xs) (ys := ys) (i := i) (z := z) (by simpa using h)
    exact ⟨a, b, by simpa using h1, by simpa using h2, h3⟩
theorem zipD_len : ∀ (xs ys : List PyData), (zipD xs ys).length = min xs.length ys.length
  | [], _ => by simp [zipD]
  | _ :: _, [] => by simp [zipD]
  | x :: xs, y :: ys => by unfold zipD; rw [List.length_cons, zipD_len xs ys, List.length_cons, List.length_cons]; omega
theorem sqX_of {K : PySem.W.Frag} {I : Hp} {v : V} {d : PyData} {xs : List PyData} (h : Rp K I v d) (e : seqOf d = some xs) : ∃ a t vs, v = .ref a ∧ (∀ I', Same I I' → SqX t K I' a vs) ∧ RpAll K I vs xs := by
  cases h with
  | lst h1 h2 => cases e; exact ⟨_, false, _, rfl, fun I' s => (h1.mono s).sq, h2⟩
  | tup h1 h2 => cases e; exact ⟨_, true, _, rfl, fun I' s => same_t s h1, h2⟩
  | non => cases e
  | bl => cases e
  | int => cases e
  | str => cases e
  | dic => cases e
theorem growT {K : PySem.W.Frag} {I H : Hp} {T : Addr} {vs : List V} {ds : List PyData} (s : Same I H) (n : H T = none) (r : RpAll K I vs ds) : ∃ I', Grow K I H I' (upd H T (.tup vs)) (.fr (.tuple ds)) (.ref T) [] := ⟨_, Grow.tup s n r⟩
def fEn (x : AF) : IF := fun env => fSq x env >>= fun r => .ok (enumD 0 r.1, r.2)
theorem di_en {x : AF} (hg : Gl X "enumerate") (hm : X.mg "enumerate" = none) (ha : DA g X [a] [x]) (hK : X.K = g.K := by rfl) (hs : starEach [a] X.env = [(false, eval a X.env)] := by rfl) : DI g X (.Tuple elts kk tpos) (.Call (.Name "enumerate" p) [a] [] pos) (fEn x) :=
  PI.imp (pi_en hg hm ha hs) fun σ H R h => by
    obtain ⟨I, env, F, s, p⟩ := h
    unfold fEn fSq at p
    refine ⟨I, env, F, s, post_mono (post_bind.mp (post_bind.mp p)) (fun r q vs H' I' F' s' st av => ?_) fun _ z => z⟩
    cases q2 : dvs r.1 with
    | none => simp only [q2] at q; exact q.elim
    | some ds =>
      simp only [q2] at q
      match ds, vs, dvs_rep av q2 with
      | [], _, .nil => exact q.elim
      | _ :: _ :: _, _, .cons _ (.cons _ _) => exact q.elim
      | [d], [v], .cons rp .nil =>
        cases q3 : seqOf d with
        | none => simp only [q3] at q; exact q.elim
        | some xs =>
          simp only [q3] at q
          obtain ⟨a, t, ws, rfl, hq, ra⟩ := sqX_of rp q3
          rw [hK]
          refine ⟨a, t, ws, rfl, hq H' s'.sub, q _ _ _ _ s' st fun I2 H2 i s1 s2 => ⟨fun z hz => ?_, fun e => ⟨ws, hq H2 (s1.trans s2), by rw [ra.length, ← e, enumD_len]⟩⟩⟩
          obtain ⟨x, hx, rfl⟩ := enumD_at hz
          obtain ⟨w, hw, rw'⟩ := ra.get hx
          refine ⟨⟨ws, w, hq H2 (s1.trans s2), hw⟩, fun y H3 hy => ?_⟩
          obtain ⟨T, x', rfl, nT, rfl, hy⟩ := hy
          have := hy ws (hq H2 (s1.trans s2))
          rw [hw] at this; cases this
          rw [Nat.zero_add]
          exact growT s2 nT (.cons (.int _) (.cons (rw'.mono s1) .nil))
def fZp (x y : AF) : IF := fun env => evA [x, y] env >>= fun r => match dvs r.1 with
  | some [d, e] => match seqOf d, seqOf e with
    | some xs, some ys => .ok (zipD xs ys, r.2)
    | _, _ => .no
  | _ => .no
theorem di_zp {x y : AF} (hg : Gl X "zip") (hm : X.mg "zip" = none) (ha : DA g X [a, b] [x, y]) (hK : X.K = g.K := by rfl) (hs : starEach [a, b] X.env = (false, eval a X.env) :: starEach [b] X.env := by rfl) (hpl : (backTo pos (starEach [b] X.env)).any (·.1) = false := by rfl) :
    DI g X (.Tuple elts kk tpos) (.Call (.Name "zip" p) [a, b] [] pos) (fZp x y) := PI.imp (pi_zp hg hm ha hs hpl) fun σ H R h => by
    obtain ⟨I, env, F, s, p⟩ := h
    unfold fZp at p
    refine ⟨I, env, F, s, post_mono (post_bind.mp p) (fun r q vs H' I' F' s' st av => ?_) fun _ z => z⟩
    cases q2 : dvs r.1 with
    | none => simp only [q2] at q; exact q.elim
    | some ds =>
      simp only [q2] at q
      match ds, vs, dvs_rep av q2 with
      | [], _, .nil => exact q.elim
      | [_], _, .cons _ .nil => exact q.elim
      | _ :: _ :: _ :: _, _, .cons _ (.cons _ (.cons _ _)) => exact q.elim
      | [d, e], [v, u], .cons rp (.cons rp2 .nil) =>
        cases q3 : seqOf d with
        | none => simp only [q3] at q; exact q.elim
        | some xs =>
          cases q4 : seqOf e with
          | none => simp only [q3, q4] at q; exact q.elim
          | some ys =>
            simp only [q3, q4] at q
            obtain ⟨a, t, ws, rfl, hq, ra⟩ := sqX_of rp q3
            obtain ⟨b, t2, ws2, rfl, hq2, ra2⟩ := sqX_of rp2 q4
            rw [hK]
            refine ⟨a, b, t, t2, ws, ws2, rfl, hq H' s'.sub, hq2 H' s'.sub, q _ _ _ _ s' st fun I2 H2 i s1 s2 => ⟨fun z hz => ?_, fun e => ?_⟩⟩
            · obtain ⟨x, y, hx, hy, rfl⟩ := zipD_at hz
              obtain ⟨w, hw, rw'⟩ := ra.get hx
              obtain ⟨w2, hw2, rw2⟩ := ra2.get hy
              refine ⟨⟨ws, ws2, w, w2, hq H2 (s1.trans s2), hq2 H2 (s1.trans s2), hw, hw2⟩, fun y H3 hy => ?_⟩
              obtain ⟨T, x', y', rfl, nT, rfl, hy1, hy2⟩ := hy
              have e1 := hy1 ws (hq H2 (s1.trans s2))
              have e2 := hy2 ws2 (hq2 H2 (s1.trans s2))
              rw [hw] at e1; cases e1
              rw [hw2] at e2; cases e2
              exact growT s2 nT (.cons (rw'.mono s1) (.cons (rw2.mono s1) .nil))
            · rw [zipD_len] at e
              have l1 := ra.length
              have l2 := ra2.length
              refine ⟨ws, ws2, hq H2 (s1.trans s2), hq2 H2 (s1.trans s2), ?_, ?_, ?_⟩ <;> omega

/-! ### an owned list changed in its place -/
theorem Sim.own {K : PySem.W.Frag} {π : Pn} {I H : Hp} {σ : St} {env : Env} {F : Nat → List Addr} {i : Nat} {ds : List PyData} (s : Sim K π I H σ env F) (q : env[i]? = some (some (.ol ds))) :
    ∃ a vs, σ[i]? = some (some (.ref a)) ∧ H a = some (.lst vs) ∧ RpAll K I vs ds ∧ ∀ vs' ds', RpAll K I vs' ds' → AftS K π I H F σ (env.set i (some (.ol ds'))) (upd H a (.lst vs')) := by
  obtain ⟨v, e1, a, vs, rfl, hF, h1, h2⟩ := s.rep i _ q
  refine ⟨a, vs, e1, h1, h2, fun vs' ds' r => ?_⟩
  have hi : i < env.length := by
    cases Nat.lt_or_ge i env.length with
    | inl h => exact h
    | inr h => rw [List.getElem?_eq_none h] at q; cases q
  have ha : a ∈ F i := by rw [hF]; simp
  have nI := s.djI i a ha
  have ne : ∀ j, j ≠ i → ∀ b ∈ F j, b ≠ a := fun j hj b hb e => by subst e; exact hj (s.dis j i b hb ha)
  refine ⟨I, upF F i [a], ?_, ⟨Same.refl _, fun b o h n => ?_, fun b h => ?_, fun _ _ h => .inl h⟩⟩
  · have := s.put (i := i) (x := some (.ol ds')) (sv := some (.ref a)) (R := [a]) (H' := upd H a (.lst vs')) hi (Same.refl _) (fun b o h => ?_) (fun j hj b hb => ?_) (fun j _ b hb => s.djI j b hb) (fun b hb => ?_) (fun j hj b hb h => ?_) (fun o e => ?_) (fun e => by cases e) (fun hp => ?_)
    · rw [set_same e1] at this; exact this
    · rw [upd_ne (fun e => by subst e; rw [nI] at h; cases h)]; exact s.sub b o h
    · rw [upd_ne (ne j hj b hb)]
    · simp at hb; subst hb; exact nI
    · simp at h; exact ne j hj b hb h
    · cases e; exact ⟨_, rfl, a, vs', rfl, rfl, upd_same, r⟩
    · have := s.pin i hp; rw [e1] at this; exact Option.some.inj this
  · rw [upd_ne (fun e => by subst e; exact n ⟨i, ha⟩)]; exact h
  · rcases ow_up h with z | z
    · exact .inl z
    · simp at z; subst z; exact .inl ⟨i, ha⟩
/-- x.append(e) -/
def fApp (i : Nat) (f : EF) : SF := fun env => match env[i]? with
  | some (some (.ol _)) => f env >>= fun r => match r.2[i]? with
    | some (some (.ol ds)) => if ds.length < 1000000 then .ok (.nx, r.2.set i (some (.ol (ds ++ [r.1.data])))) else .no
    | _ => .no
  | _ => .no
theorem ds_app {i : Nat} {x : Str} {px apos cpos spos : Pos} {f : EF} (hx : PE X (.Name x px) (tVar i)) (he : DE g X e f)
    (h2 : attributeBase (.Name x px) "append" X.env (eval (.Name x px) X.env) = eval (.Name x px) X.env := by rfl)
    (h3 : ((backTo cpos (starEach [e] X.env)).all (fun x => !x.1) && (backToKw cpos (keywordEach [] X.env)).all (fun x => x.1.isSome)
      && decide ([e].length + ([] : List Keyword).length + (if ([] : List Keyword).isEmpty then 0 else 1) < 30)) = true := by rfl)
    (h4 : (apos.endLine == cpos.line) = true := by rfl) (h5 : starEach [e] X.env = (false, eval e X.env) :: starEach [] X.env := by rfl)
    (hs : swapsWith (.Call (.Attribute (.Name x px) "append" apos) [e] [] cpos) none spos.line X.env = pure false := by rfl) :
    DS g X (.Expr (.Call (.Attribute (.Name x px) "append" apos) [e] [] cpos) spos) (fApp i f) := PS.imp (ps_expr (pe_bm PySem.F.plainAttrs_list PySem.F.slot_list_append PySem.F.type_list_append mt_append hx (pa_cons he pa_nil h5) h2 h3 h4 h5 rfl) hs) fun D σ H q => by
  obtain ⟨I, env, F, s, p⟩ := q
  unfold fApp at p
  split at p
  · rename_i ds0 q0
    obtain ⟨a, vs, e1, h1, h2, _⟩ := s.own q0
    refine ⟨.ref a, e1, .inl ⟨rfl, vs, SqL.of h1⟩, ?_⟩
    refine tD_seq s p fun r v H1 af q => ?_
    obtain ⟨I', F', rp, s', st⟩ := af.frz
    split at q
    · rename_i ds q1
      by_cases hz : ds.length < 1000000
      · rw [if_pos hz] at q
        obtain ⟨a', vs', e1', h1', h2', up⟩ := s'.own q1
        rw [e1] at e1'; cases e1'
        exact ⟨a, vs', v, rfl, rfl, h1', by rw [h2'.length]; exact Nat.lt_of_lt_of_le hz (by decide), q _ _ (AftS.trans st (up _ _ (h2'.app (.cons rp .nil))))⟩
      · rw [if_neg hz] at q; exact q.elim
    · exact q.elim
  · exact p.elim
/-- x[k] = e -/
def fSetI (i : Nat) (y : AF) (f : EF) : SF := fun env => f env >>= fun r => match r.2[i]? with
  | some (some (.ol _)) => evA [y] r.2 >>= fun q => match ints1 (rsvs q.2 q.1) with
    | none => .no
    | some k => match q.2[i]? with
      | some (some (.ol ds)) => match ixN ds.length k with
        | some j => .ok (.nx, q.2.set i (some (.ol (ds.set j r.1.data))))
        | none => .no
      | _ => .no
  | _ => .no
theorem ds_setI {i : Nat} {x : Str} {px spos : Pos} {f : EF} {y : AF} (hx : PE X (.Name x px) (tVar i)) (hk : DX g X b y) (he : DE g X e f)
    (ha : ∀ v, assign (.Subscript (.Name x px) b pos) X.env v = (do
      let ov ← holding [v] (eval (.Name x px) X.env)
      let iv ← holding [v, ov] (eval b X.env)
      standAt pos
      holding [v, ov, iv] (setItem ov iv v)
      release [v, ov, iv] []) := by intro _; rfl)
    (hs : swapsWithSole [.Subscript (.Name x px) b pos] e spos.line X.env = pure false := by rfl) (hw : swappedStores [.Subscript (.Name x px) b pos] e X.env = pure none := by rfl)
    (h1 : (assignEach [.Subscript (.Name x px) b pos] X.env).map (·.2) = [assign (.Subscript (.Name x px) b pos) X.env] := by rfl) :
    DS g X (.Assign [.Subscript (.Name x px) b pos] e spos) (fSetI i y f) := PS.imp (ps_asg he (pg_sub hx hk set_list ha) hs hw h1) fun D σ H q => by
  obtain ⟨I, env, F, s, p⟩ := q
  refine tD_seq s p fun r v H1 af q => ?_
  obtain ⟨I', F', rp, s', st⟩ := af.frz
  split at q
  · rename_i ds0 q0
    obtain ⟨w, hw, _⟩ := s'.rep i _ q0
    refine ⟨w, hw, ?_⟩
    refine tArg_mono (tA1 (R := fun vs H3 => ∃ u, vs = [u] ∧ rSetL w u v H3 fun H4 => D.nx σ H4) ⟨I', r.2, F', s', post_mono (post_bind.mp q) (fun r3 q3 vs3 H3 I3 F3 s3 st3 av3 => ?_) fun x zz => err_step st zz⟩) fun u H3 ⟨_, e3, z⟩ => by cases e3; exact z
    cases q5 : ints1 (rsvs r3.2 r3.1) with
    | none => simp only [q5] at q3; exact q3.elim
    | some k =>
      simp only [q5] at q3
      have rr3 := rsvs_rep s3 av3 (ints1_inv q5)
      match vs3, rr3 with
      | _, .cons r1 .nil =>
        cases rpss_int r1
        refine ⟨_, rfl, ?_⟩
        split at q3
        · rename_i ds q6
          obtain ⟨a, vs, e1, h1, h2, up⟩ := s3.own q6
          rw [hw] at e1; cases e1
          cases q7 : ixN ds.length k with
          | none => simp only [q7] at q3; exact q3.elim
          | some j =>
            simp only [q7] at q3
            exact ⟨a, vs, k, j, rfl, rfl, h1, by rw [h2.length]; exact q7, q3 _ _ (AftS.trans (st.trans st3) (up _ _ (h2.sets j (rp.mono st3.i1))))⟩
        · exact q3.elim
  · exact q.elim
end
end Dy

/-! D11: repr, reversed slices, parallel stores. -/
namespace Dy
open PySem PySem.Spec PyProof.Rows L2

/-! ### repr -/
mutual
def rw8 : PyData → Nat
  | .none => 4
  | .bool _ => 5
  | .int i => i.natAbs.log2 + 2
  | .str x => (reprText x).length
  | .list xs => rw8s xs + 2
  | .tuple xs => rw8s xs + 2
  | .dict _ => 0
def rw8s : List PyData → Nat
  | [] => 0
  | x :: xs => rw8 x + 2 + rw8s xs
end
theorem listText_le (ts : List Str) : (listText ts).length ≤ piled ts + 2 := by
  cases ts with
  | nil => decide +kernel
  | cons t r =>
    have h := textFrom_length_pos r 1 (("[" : Str) ++ (if (0 : Nat) > 0 then ", " else "" : String) ++ t) (Nat.succ_pos 0)
    have e : ((("[" : Str) ++ (if (0 : Nat) > 0 then ", " else "" : String) ++ t)).length = 1 + t.length := by
      rw [strLen_append, strLen_append]; rfl
    have hX : (listText (t :: r)).length = (textFrom 0 "[" (t :: r)).length + 1 := by
      show (textFrom 0 "[" (t :: r) ++ "]").length = _
      rw [strLen_append]; rfl
    have hY : (textFrom 0 "[" (t :: r)).length = (textFrom 1 (("[" : Str) ++ (if (0 : Nat) > 0 then ", " else "" : String) ++ t) r).length := rfl
    rw [hX, hY, h, e, piled_cons]; omega
mutual
theorem shown_len : ∀ d : PyData, d.canLay0 = true → d.shown.length ≤ rw8 d
  | .none, _ => by decide +kernel
  | .bool b, _ => by cases b <;> decide +kernel
  | .int i, _ => by
    show (Str.ofString (toString i)).length ≤ i.natAbs.log2 + 2
    rw [PySem.ofString_length]
    exact int_text_length_le (k := i.natAbs.log2 + 1) (by omega) (by omega)
  | .str x, _ => Nat.le_refl _
  | .list xs, h => by
    have := shown_len_all xs (by simpa [PyData.canLay0] using h)
    have := listText_le (PyData.shownAll xs)
    show (listText (PyData.shownAll xs)).length ≤ rw8s xs + 2
    omega
  | .tuple xs, h => by
    have := shown_len_all xs (by simpa [PyData.canLay0] using h)
    have := fmt_text (PyData.shownAll xs)
    show (tupleText (PyData.shownAll xs)).length ≤ rw8s xs + 2
    omega
  | .dict _, h => by simp [PyData.canLay0] at h
theorem shown_len_all : ∀ ds : List PyData, PyData.canLayAll0 ds = true → piled (PyData.shownAll ds) ≤ rw8s ds
  | [], _ => Nat.le_refl _
  | d :: ds, h => by
    have h' : d.canLay0 = true ∧ PyData.canLayAll0 ds = true := by simpa [PyData.canLayAll0] using h
    have h1 := shown_len d h'.1
    have h2 := shown_len_all ds h'.2
    show piled (d.shown :: PyData.shownAll ds) ≤ rw8 d + 2 + rw8s ds
    rw [piled_cons]
    omega
end
def rOk (d : PyData) : Bool := d.canLay0 && (d.showable && decide (d.depth ≤ 64 ∧ rw8 d ≤ 16777216))
def pRepr (d : PyData) : Option O := if rOk d = true then some (.fr (.str d.shown)) else none
section
variable {X : Cx}
def rRepr (K : PySem.W.Frag) : List V → Hp → VK → Prop := fun xs H Q => ∃ x d, xs = [x] ∧ Dp K H x d ∧ d.showable = true ∧ d.hasDict = false ∧ d.depth ≤ 64 ∧ d.shown.length ≤ sizeLine ∧ Q (.str d.shown) H
theorem cr_repr {k : Nat} (hg : X.A.guards = some []) (hr : Room k X.A) : CallR X (.builtin "repr") (rRepr X.K) := by
  intro pins s σ H xs us Q J r h
  obtain ⟨x, d, rfl, hd, h1, h2, h3, h4, q⟩ := h
  obtain ⟨u, rfl, ru⟩ := vals1 r
  obtain ⟨as, rd⟩ := Dp.reads J d x u hd ru
  have hu := hr.un
  cases rd with
  | none => exact PySem.P.repr_of_none ⟨.str _, H, J.tok _, ⟨_, rfl⟩, q⟩
  | bool b => cases b <;> exact PySem.P.repr_of_bool ⟨.str _, H, J.tok _, ⟨_, rfl⟩, q⟩
  | int i t => exact PySem.P.repr_of_int (by simpa [PyData.showable] using h1) ⟨.str _, H, J.tok _, ⟨_, rfl⟩, q⟩
  | str y t => exact PySem.P.repr_of_str ⟨.str _, H, J.tok _, ⟨_, rfl⟩, q⟩ h4
  | list e1 e2 e3 e4 =>
    exact repr_of_reads' (.list e1 e2 e3 e4) h1 (PyData.noDict_hsm h2) hg (by omega) (fun _ _ z => z) (fun h' u tk k => ⟨.str _, H, J.kept (t' := tk) fun b ob q => k b ob q, ⟨_, rfl⟩, q⟩) h4
  | tuple e1 e2 e3 e4 =>
    exact repr_of_reads' (.tuple e1 e2 e3 e4) h1 (PyData.noDict_hsm h2) hg (by omega) (fun _ _ z => z) (fun h' u tk k => ⟨.str _, H, J.kept (t' := tk) fun b ob q => k b ob q, ⟨_, rfl⟩, q⟩) h4
  | dict e1 e2 e3 e4 e5 => simp [PyData.hasDict] at h2
theorem os_repr {K : PySem.W.Frag} : OpS K (rRepr K) (on1 pRepr) := ops1c fun v d I H Q o s r1 q k => by
  unfold pRepr at q
  split at q
  · rename_i hc
    cases q
    unfold rOk at hc
    simp only [Bool.and_eq_true, decide_eq_true_eq] at hc
    obtain ⟨c1, c2, c3, c4⟩ := hc
    exact ⟨v, d, rfl, r1.dp s c1, c2, PyData.hasDict_of_canLay d c1, c3, Nat.le_trans (shown_len d c1) (Nat.le_trans c4 (by decide)), k _ _ _ _ (Grow.val s (.str _))⟩
  · cases q
end

/-! ### xs[::-1] -/
def pRev : PyData → Option O
  | .list xs => some (.ol xs.reverse)
  | _ => none
section
variable {g : G} {X : Cx} {a b c e : Expr} {es : List Expr} {pos p1 p2 p3 : Pos} {σ : St} {H I : Hp} {env : Env} {F : Nat → List Addr} {D : Ends}
theorem de_rev {x : AF} {k : Nat} (ha : DX g X a x) (hK : X.K = g.K := by rfl) : DE g X (.Subscript a (.Slice none none (some (.UnaryOp .USub (.Constant (.int 1) k p1) p2)) p3) pos) (fOp (on1 pRev) [x]) :=
  PE.imp (pe_revL ha) fun σ H Q h => by
    refine tArg_mono (tA1 (op_key (r := one fun v H1 Q => ∃ a xs, v = V.ref a ∧ SqL X.K H1 a xs ∧ ∀ p, H1 p = none → Q (.ref p) (upd H1 p (.lst xs.reverse))) ?_ h)) fun v H1 q => q
    refine ops1 fun v d I H Q o s r1 q k => ?_
    unfold pRev at q
    split at q
    · cases q
      obtain ⟨a, vs, rfl, h1, h2⟩ := r1.lst s
      exact ⟨a, vs, rfl, by rw [hK]; exact h1.sq, fun p np => k _ _ _ _ (Grow.lst s np h2.rev)⟩
    · cases q

/-! ### a, b = e1, e2 -/
def fPar (i j : Nat) (f1 f2 : EF) : SF := fun env => f1 env >>= fun r1 => f2 r1.2 >>= fun r2 => if i < r2.2.length ∧ j < r2.2.length ∧ i ≠ j then .ok (.nx, (r2.2.set i (some r1.1)).set j (some r2.1)) else .no
theorem par_key {i j : Nat} {f1 f2 : EF} (hi : i ∉ g.pn.1) (hj : j ∉ g.pn.1) (h : tS g (fPar i j f1 f2) D σ H) :
    tD g f1 σ H fun v H1 => tD g f2 σ H1 fun w H2 => ∀ H3, Same H2 H3 → D.nx ((σ.set i (some v)).set j (some w)) H3 := by
  obtain ⟨I, env, F, s, p⟩ := h
  refine tD_seq s p fun r1 v H1 af q => ?_
  obtain ⟨I1, F1, R1, rp1, s1, n1, d1, st1⟩ := af
  have q' : (f2 r1.2 >>= fun r2 => if i < r2.2.length ∧ j < r2.2.length ∧ i ≠ j then Res.ok (Fl.nx, (r2.2.set i (some r1.1)).set j (some r2.1)) else .no).post (FlP g D I H F) (g.err I1 H1 F1) :=
    post_mono q (fun _ z => z) fun x z => err_step (st1.less fun a ha => .inl ha) z
  refine tD_seq s1 q' fun r2 w H2 af2 q2 => ?_
  obtain ⟨I2, F2, R2, rp2, s2, n2, d2, st2⟩ := af2
  intro H3 sm
  by_cases hc : i < r2.2.length ∧ j < r2.2.length ∧ i ≠ j
  · rw [if_pos hc] at q2
    have dm1 : ∀ a ∈ R1, ∃ o, H1 a = some o := rp1.dom
    have k1 : ∀ a ∈ R1, H2 a = H1 a := st2.keeps dm1 fun a ha hz => d1 a hz ha
    have dm2 : ∀ a ∈ R2, ∃ o, H2 a = some o := rp2.dom
    have nI2 : ∀ a ∈ R1, I2 a = none := fun a ha => by
      cases q : I2 a with
      | none => rfl
      | some u =>
        rcases st2.i' a u q with z | z | z
        · rw [n1 a ha] at z; cases z
        · exact (d1 a z ha).elim
        · obtain ⟨o, ho⟩ := dm1 a ha; rw [z] at ho; cases ho
    have dF2 : ∀ a, Ow F2 a → a ∉ R1 := fun a ha hr => by
      rcases st2.s' a (.inl ha) with z | z
      · exact d1 a z hr
      · obtain ⟨o, ho⟩ := dm1 a hr; rw [z] at ho; cases ho
    have dR : ∀ a ∈ R1, a ∉ R2 := fun a hr h2 => by
      rcases st2.s' a (.inr h2) with z | z
      · exact d1 a z hr
      · obtain ⟨o, ho⟩ := dm1 a hr; rw [z] at ho; cases ho
    have k3 : ∀ a o, H2 a = some o → H3 a = some o := fun a o h => sm a o h
    have e3 : ∀ {a}, (∃ o, H2 a = some o) → H3 a = H2 a := fun {a} ⟨o, h⟩ => by rw [h, k3 a o h]
    have s3 : Sim g.K g.pn I2 H3 σ r2.2 F2 := s2.heap (Same.refl _) (s2.sub.trans sm) (fun a ha => e3 (s2.domO ha)) fun a ⟨l, hl⟩ => s2.djI l a hl
    have r1' : RepO g.K I2 H3 r1.1 v R1 := rp1.mono st2.i1 fun a ha => by
      rw [e3 (by obtain ⟨o, ho⟩ := dm1 a ha; exact ⟨o, by rw [k1 a ha]; exact ho⟩), k1 a ha]
    have r2' : RepO g.K I2 H3 r2.1 w R2 := rp2.mono (Same.refl _) fun a ha => e3 (dm2 a ha)
    have s4 : Sim g.K g.pn I2 H3 (σ.set i (some v)) (r2.2.set i (some r1.1)) (upF F2 i R1) :=
      s3.put hc.1 (Same.refl _) s3.sub (fun _ _ _ _ => rfl) (fun l _ a ha => s3.djI l a ha) nI2 (fun l _ a ha => dF2 a ⟨l, ha⟩) (fun o e => by cases e; exact ⟨v, rfl, r1'⟩) (fun e => by cases e) (fun h => absurd h hi)
    have s5 : Sim g.K g.pn I2 H3 ((σ.set i (some v)).set j (some w)) ((r2.2.set i (some r1.1)).set j (some r2.1)) (upF (upF F2 i R1) j R2) :=
      s4.put (by rw [List.length_set]; exact hc.2.1) (Same.refl _) s4.sub (fun _ _ _ _ => rfl) (fun l _ a ha => s4.djI l a ha) n2 (fun l _ a ha hr => by
        rcases ow_up (⟨l, ha⟩ : Ow (upF F2 i R1) a) with z | z
        · exact d2 a z hr
        · exact dR a z hr) (fun o e => by cases e; exact ⟨w, rfl, r2'⟩) (fun e => by cases e) (fun h => absurd h hj)
    refine q2 _ _ ⟨I2, _, s5, ?_⟩
    have stA := st2.aside (fun a => a ∈ R1) dm1 (fun a ha hz => d1 a hz ha)
    refine (st1.trans stA).trans ⟨Same.refl _, fun a o h _ => k3 a o h, fun a ha => ?_, fun a o h => .inl h⟩
    rcases ow_up ha with z | z
    · rcases ow_up z with y | y
      · exact .inl (.inl (.inl y))
      · exact .inl (.inr y)
    · exact .inl (.inl (.inr z))
  · rw [if_neg hc] at q2; exact q2.elim
theorem ds_par {i j : Nat} {x y : Str} {f1 f2 : EF} {px py pt : Pos} {kt k2 pt2} (hpi : i ∉ g.pn.1) (hpj : j ∉ g.pn.1) (hc : X.calm = true) (hN : X.N.Nodup) (hi : X.N[i]? = some x) (hj : X.N[j]? = some y) (hij : i ≠ j)
    (hx : X.env.scope.names.lookup x = some .local) (hy : X.env.scope.names.lookup y = some .local) (ha : DE g X a f1) (hb : DE g X b f2)
    (hw : swappedStores [.Tuple [.Name x px, .Name y py] kt pt] (.Tuple [a, b] k2 pt2) X.env = pure (some [x, y]) := by rfl)
    (h1 : starEach [a, b] X.env = (false, eval a X.env) :: starEach [b] X.env := by rfl) (h2 : starEach [b] X.env = (false, eval b X.env) :: starEach [] X.env := by rfl)
    (hs : swapsWithSole [.Tuple [.Name x px, .Name y py] kt pt] (.Tuple [a, b] k2 pt2) pos.line X.env = pure false := by rfl) :
    DS g X (.Assign [.Tuple [.Name x px, .Name y py] kt pt] (.Tuple [a, b] k2 pt2) pos) (fPar i j f1 f2) := PS.imp (ps_par hc hN hi hj hij hx hy (pa_cons ha (pa_cons hb pa_nil h2) h1) hw hs) fun D σ H h => by
  refine tArg_mono (x := .v f1) (par_key hpi hpj h) fun v H1 q => tArg_mono (x := .v f2) q fun w H2 q => ?_
  exact ⟨v, w, rfl, q H2 (Same.refl _)⟩
/-- one of the names is a cell -/
theorem ds_parC {i j : Nat} {tg : Expr} {f1 f2 : EF} {k2 pt2} (hpi : i ∉ g.pn.1) (hpj : j ∉ g.pn.1) (hg : PG X tg (rdT g.K (.tu [i, j]))) (ha : DE g X a f1) (hb : DE g X b f2)
    (h1 : starEach [a, b] X.env = (false, eval a X.env) :: starEach [b] X.env := by rfl) (h2 : starEach [b] X.env = (false, eval b X.env) :: starEach [] X.env := by rfl)
    (hs : swapsWithSole [tg] (.Tuple [a, b] k2 pt2) pos.line X.env = pure false := by rfl) (hw : swappedStores [tg] (.Tuple [a, b] k2 pt2) X.env = pure none := by rfl)
    (h3 : (assignEach [tg] X.env).map (·.2) = [assign tg X.env] := by rfl) :
    DS g X (.Assign [tg] (.Tuple [a, b] k2 pt2) pos) (fPar i j f1 f2) := PS.imp (ps_asg (pe_tup (pa_cons ha (pa_cons hb pa_nil h2) h1)) hg hs hw h3) fun D σ H h => by
  refine tArg_mono (x := .v f1) (par_key hpi hpj h) fun v H1 q => tArg_mono (x := .v f2) q fun w H2 q => ?_
  refine ⟨by show 2 ≤ sizeLine; decide, fun p np => ?_⟩
  exact ⟨_, _, rfl, SqT.of upd_same, rfl, _, _, rfl, _, _, rfl, rfl, q _ (same_new np)⟩
end
end Dy

/-! D12: defs as their callers see them; words for the printed derivations. -/
namespace Dy
open PySem PySem.Spec PyProof.Rows L2

/-- a def of the module by its mirror -/
def CallOk (P : Program) (w : World) (K : PySem.W.Frag) (mg : Str → Option Value) (k : Nat) (x : Str) (ps : List Str) (m : Fn) : Prop :=
  ∃ f fd, mg x = some (.ref f) ∧ PySem.W.keepIn K (.ref f) = true ∧ Binds K fd ps [] ∧ ∀ base, FnG P w K mg base k f fd ps (spD K mg m)
theorem CallOk.mono {P : Program} {w : World} {K : PySem.W.Frag} {mg : Str → Option Value} {j k : Nat} {x : Str} {ps : List Str} {m : Fn} (h : CallOk P w K mg j x ps m) (l : j ≤ k) : CallOk P w K mg k x ps m := by
  obtain ⟨f, fd, h1, h2, h3, h4⟩ := h
  exact ⟨f, fd, h1, h2, h3, fun b => (h4 b).mono l⟩
theorem callOk_of {P : Program} {w : World} {K : PySem.W.Frag} {mg : Str → Option Value} {k : Nat} {x qual : Str} {st : Stmt} {f : Addr} {fd : FuncData} {ps : List Str} {m : Fn} (F : Fun K x qual st f fd) (hm : mg x = some (.ref f)) (hb : Binds K fd ps []) (h : ∀ base, FnG P w K mg base k f fd ps (spD K mg m)) : CallOk P w K mg k x ps m :=
  ⟨f, fd, hm, F.kp, hb, h⟩
theorem ru64 {k : Nat} {A : Around} (h : Room k A) : A.units + 64 < cLine := by have := h.un; omega
theorem ru65 {k : Nat} {A : Around} (h : Room k A) : A.units + 65 < cLine := by have := h.un; omega
theorem ru0 {k : Nat} {A : Around} (h : Room k A) : A.units < cLine := by have := h.un; omega
section
variable {g : G} {X : Cx} {k : Nat} {ps : List Str} {m : Fn} {x : Str} {p pos : Pos} {e : Expr} {es : List Expr} {as : List AF}
theorem dcall (c : CallOk X.prog X.w X.K X.mg k x ps m) (hgd : X.A.guards = some []) (hr : Room k X.A) (hg : Gl X x) (hx : Passes (L2.CX X.prog X.w) X g.E)
    (ha : DA g X (e :: es) as) (hK : g.K = X.K := by rfl) (hM : g.mg = X.mg := by rfl) (hdb : (x == ("__debug__" : Str)) = false := by decide) (he : starEach (e :: es) X.env = (false, eval e X.env) :: starEach es X.env := by rfl) (hpl : (backTo pos (starEach es X.env)).any (·.1) = false := by rfl) :
    DE g X (.Call (.Name x p) (e :: es) [] pos) (fCall m as) := by
  obtain ⟨f, fd, h1, h2, h3, h4⟩ := c
  have h5 := h4 X.base
  rw [← hK, ← hM] at h5
  exact de_call (X := X) (by rw [hK, hM] at h5; rw [hK, hM]; exact h5) hgd hr hg h1 h2 h3 hx ha hdb he hpl
theorem dcall0 (c : CallOk X.prog X.w X.K X.mg k x ps m) (hgd : X.A.guards = some []) (hr : Room k X.A) (hg : Gl X x) (hx : Passes (L2.CX X.prog X.w) X g.E)
    (hK : g.K = X.K := by rfl) (hM : g.mg = X.mg := by rfl) (hdb : (x == ("__debug__" : Str)) = false := by decide) : DE g X (.Call (.Name x p) [] [] pos) (fCall m []) := by
  obtain ⟨f, fd, h1, h2, h3, h4⟩ := c
  have h5 := h4 X.base
  exact de_call0 (X := X) (by rw [hK, hM]; exact h5) hgd hr hg h1 h2 h3 hx hdb
end
theorem npn {is rp : List Nat} (h : (is.all fun i => !rp.contains i) = true) : ∀ i ∈ is, i ∉ rp := fun i hi hr => by
  have := List.all_eq_true.mp h i hi
  rw [List.contains_iff_mem.mpr hr] at this
  cases this
theorem np1 {i : Nat} {rp : List Nat} (h : rp.contains i = false) : i ∉ rp := fun hr => by
  rw [List.contains_iff_mem.mpr hr] at h
  cases h
theorem bt_len : bootBuiltins "len" = some (.builtin "len") := by decide +kernel
theorem bt_sum : bootBuiltins "sum" = some (.builtin "sum") := by decide +kernel
theorem bt_max : bootBuiltins "max" = some (.builtin "max") := by decide +kernel
theorem bt_min : bootBuiltins "min" = some (.builtin "min") := by decide +kernel
theorem bt_all : bootBuiltins "all" = some (.builtin "all") := by decide +kernel
theorem bt_any : bootBuiltins "any" = some (.builtin "any") := by decide +kernel
theorem bt_repr : bootBuiltins "repr" = some (.builtin "repr") := by decide +kernel
theorem bt_isinstance : bootBuiltins "isinstance" = some (.builtin "isinstance") := by decide +kernel
theorem bt_sorted : bootBuiltins "sorted" = some (.builtin "sorted") := by decide +kernel
theorem bt_abs : bootBuiltins "abs" = some (.builtin "abs") := by decide +kernel
theorem bt_list : bootBuiltins "list" = some (.type "list") := by decide +kernel
theorem bt_tuple : bootBuiltins "tuple" = some (.type "tuple") := by decide +kernel
theorem bt_int : bootBuiltins "int" = some (.type "int") := by decide +kernel
theorem bt_str : bootBuiltins "str" = some (.type "str") := by decide +kernel
theorem bt_bool : bootBuiltins "bool" = some (.type "bool") := by decide +kernel
theorem bt_dict : bootBuiltins "dict" = some (.type "dict") := by decide +kernel
section
variable {X : Cx} {x : Str} {pos : Pos}
/-- a built-in type's name -/
theorem pty {T : String} (hg : Gl X x) (hm : X.mg x = none) (hv : bootBuiltins x = some (.type T)) (hn : x ≠ "__name__" := by decide) (hd : (x == ("__debug__" : Str)) = false := by decide) : PE X (.Name x pos) (tC (.ty T)) := by
  exact pe_bltn hg hm hv rfl hn hd
end
end Dy

/-! D13: mirrors evaluated. -/
namespace Dy
open PySem
section
variable (env : Env) (i j n m : Nat) (f k : EF) (t u : TF) (s s' : SF) (as : List AF) (x y z : AF) (d : PyData)
theorem a_seq : fSeq s s' env = s env >>= fun r => match r.1 with | .nx => s' r.2 | _ => .ok r := rfl
theorem a_ifS : fIfS t s s' env = t env >>= fun r => if r.1 = true then s r.2 else s' r.2 := rfl
theorem a_B : fB f env = f env >>= fun r => match r.1 with | .fr (.bool b) => .ok (b, r.2) | _ => .no := rfl
theorem a_op (g : List PyData → Option O) : fOp g as env = evA as env >>= fun r => match rsvs r.2 r.1 with | none => .no | some ds => match g ds with | none => .no | some o => .ok (o, r.2) := rfl
theorem a_ov (g : List PyData → Option O) : fOv g as env = evA as env >>= fun r => match dvs r.1 with | none => .no | some ds => match g ds with | none => .no | some o => .ok (o, r.2) := rfl
theorem a_ev0 : evA [] env = .ok ([], env) := rfl
theorem a_evv : evA (.v f :: as) env = f env >>= fun r => evA as r.2 >>= fun q => .ok (.d r.1.data :: q.1, q.2) := rfl
theorem a_evs : evA (.s i :: as) env = match env[i]? with | some (some _) => evA as env >>= fun q => .ok (.s i :: q.1, q.2) | _ => .no := rfl
theorem a_C : fC d env = .ok (.fr d, env) := rfl
theorem a_V : fV i env = match env[i]? with | some (some (.fr d)) => .ok (.fr d, env) | some (some o) => .ok (.fr o.data, env.set i (some (.fr o.data))) | _ => .no := rfl
theorem a_M : fM i env = match env[i]? with | some (some o) => .ok (o, env.set i none) | _ => .no := rfl
theorem a_set : fSet i f env = f env >>= fun r => if i < r.2.length then .ok (.nx, r.2.set i (some r.1)) else .no := rfl
theorem a_setI : fSetI i y f env = f env >>= fun r => match r.2[i]? with
  | some (some (.ol _)) => evA [y] r.2 >>= fun q => match Dy.ints1 (rsvs q.2 q.1) with
    | none => .no
    | some k => match q.2[i]? with
      | some (some (.ol ds)) => match L2.ixN ds.length k with
        | some j => .ok (.nx, q.2.set i (some (.ol (ds.set j r.1.data))))
        | none => .no
      | _ => .no
  | _ => .no := rfl
theorem a_app : fApp i f env = match env[i]? with
  | some (some (.ol _)) => f env >>= fun r => match r.2[i]? with
    | some (some (.ol ds)) => if ds.length < 1000000 then .ok (.nx, r.2.set i (some (.ol (ds ++ [r.1.data])))) else .no
    | _ => .no
  | _ => .no := rfl
theorem a_ret : fRet f env = f env >>= fun r => .ok (.rt r.1, r.2) := rfl
theorem a_ex : fEx f env = f env >>= fun r => .ok (.nx, r.2) := rfl
theorem a_skip : fSkip env = .ok (.nx, env) := rfl
theorem a_no : fNo env = .no := rfl
theorem a_not : fNot t env = t env >>= fun r => .ok (!r.1, r.2) := rfl
theorem a_andT : fAndT t u env = t env >>= fun r => if r.1 = true then u r.2 else .ok (false, r.2) := rfl
theorem a_orT : fOrT t u env = t env >>= fun r => if r.1 = true then .ok (true, r.2) else u r.2 := rfl
theorem a_and : fAnd f k env = fB f env >>= fun r => if r.1 = true then k r.2 else .ok (.fr (.bool false), r.2) := rfl
theorem a_or : fOr f k env = fB f env >>= fun r => if r.1 = true then .ok (.fr (.bool true), r.2) else k r.2 := rfl
theorem a_notV : fNotV f env = fB f env >>= fun r => .ok (.fr (.bool (!r.1)), r.2) := rfl
theorem a_if : fIf t f k env = t env >>= fun r => if r.1 = true then f r.2 else k r.2 := rfl
theorem a_par : fPar i j f k env = f env >>= fun r1 => k r1.2 >>= fun r2 => if i < r2.2.length ∧ j < r2.2.length ∧ i ≠ j then .ok (.nx, (r2.2.set i (some r1.1)).set j (some r2.1)) else .no := rfl
theorem a_call (m : Fn) : fCall m as env = evA as env >>= fun r => match rsO r.2 r.1 with | none => .no | some os => if ndS r.1 = true then m os >>= fun q => .ok (q.1, putB r.1 q.2 r.2) else .no := rfl
theorem a_forS (g : IF) (w : Tg) : fForS g w s env = g env >>= fun r => fFor w s r.1 r.2 := rfl
theorem a_sq : fSq x env = evA [x] env >>= fun r => match dvs r.1 with | some [d] => (match seqOf d with | some xs => .ok (xs, r.2) | none => .no) | _ => .no := rfl
theorem a_r1 : fR1 x env = evA [x] env >>= fun r => match Dy.ints1 (rsvs r.2 r.1) with | some n => if n ≤ 1000000000 ∧ -1000000000 ≤ n then .ok (rng 0 n.toNat, r.2) else .no | none => .no := rfl
theorem a_r2 : fR2 x y env = evA [x, y] env >>= fun r => match Dy.ints2 (rsvs r.2 r.1) with | some n => if n.1 ≤ 1000000000 ∧ -1000000000 ≤ n.1 ∧ n.2 ≤ 1000000000 ∧ -1000000000 ≤ n.2 then .ok (rng n.1 (n.2 - n.1).toNat, r.2) else .no | none => .no := rfl
theorem a_en : fEn x env = fSq x env >>= fun r => .ok (enumD 0 r.1, r.2) := rfl
theorem a_zp : fZp x y env = evA [x, y] env >>= fun r => match dvs r.1 with | some [d, e] => (match seqOf d, seqOf e with | some xs, some ys => .ok (zipD xs ys, r.2) | _, _ => .no) | _ => .no := rfl
theorem a_asT (w : Tg) : fAsT w f env = f env >>= fun r => asT w r.1.data r.2 >>= fun e => .ok (.nx, e) := rfl
theorem a_chI (c1 c2 : Int → Int → Bool) : fChI c1 c2 x y z env = evA [x, y] env >>= fun r => match Dy.ints2 (rsvs r.2 r.1) with
  | some ij => if c1 ij.1 ij.2 = true then evA [z] r.2 >>= fun q => match Dy.ints1 (rsvs q.2 q.1) with
      | some k => .ok (.fr (.bool (c2 ij.2 k)), q.2)
      | none => .no
    else .ok (.fr (.bool false), r.2)
  | none => .no := rfl
theorem a_yes : fYes env = .ok (true, env) := rfl
theorem a_lc (g : IF) (vs : List Nat) (w : Tg) : fLc g vs w t f env = g env >>= fun r => lcL vs w t f r.1 (wipeE r.2 vs) [] >>= fun q => .ok (.ol q.1, unw r.2 q.2 vs) := rfl
theorem a_fn (rp : List Nat) (os : List O) : fnM n m rp s os = if os.length = n ∧ okA rp 0 os = true then
    s (os.map some ++ List.replicate (m - n) none) >>= fun r => match bkA rp r.2 0 os with
      | none => .no
      | some os' => match r.1 with
        | .rt o => .ok (o, os')
        | .nx => .ok (.fr .none, os')
        | _ => .no
  else .no := rfl
end
section
variable (i j : Int) (xs ys : List PyData) (d e : PyData) (a b : Str) (t : Bool) (rs : List (List PyData))
theorem d_fr : (O.fr d).data = d := rfl
theorem d_ol : (O.ol xs).data = .list xs := rfl
theorem f_fr : isFr (.fr d) = true := rfl
theorem q_addI : pAdd (.int i) (.int j) = some (.fr (.int (i + j))) := rfl
theorem q_addL : pAdd (.list xs) (.list ys) = if xs.length + ys.length ≤ 1000000 then some (.ol (xs ++ ys)) else none := rfl
theorem q_addT : pAdd (.tuple xs) (.tuple ys) = if xs.length + ys.length ≤ 1000000 then some (.fr (.tuple (xs ++ ys))) else none := rfl
theorem q_addS : pAdd (.str a) (.str b) = if a.length + b.length ≤ 1000000 then some (.fr (.str (a ++ b))) else none := rfl
theorem q_sub : pSub (.int i) (.int j) = some (.fr (.int (i - j))) := rfl
theorem q_div : pDiv (.int i) (.int j) = if 0 < j ∧ j < 1073741824 then some (.fr (.int (i / j))) else none := rfl
theorem q_mod : pMod (.int i) (.int j) = if 0 < j then some (.fr (.int (i % j))) else none := rfl
theorem q_pow : pPow (.int i) (.int j) = if 0 ≤ j ∧ j ≤ 1000000 ∧ i.natAbs < 2 ^ 64 then some (.fr (.int (i ^ j.toNat))) else none := rfl
theorem q_neg : pNeg (.int i) = some (.fr (.int (-i))) := rfl
theorem q_cm (c : Int → Int → Bool) : cmI c (.int i) (.int j) = some (.fr (.bool (c i j))) := rfl
theorem q_isN : isN .none = true := rfl
theorem q_isI : isN (.int i) = false := rfl
theorem q_isS : isN (.str a) = false := rfl
theorem q_isT : isN (.tuple xs) = false := rfl
theorem q_isL : isN (.list xs) = false := rfl
theorem q_isB : isN (.bool t) = false := rfl
theorem q_lenL : pLen (.list xs) = some (.fr (.int xs.length)) := rfl
theorem q_lenT : pLen (.tuple xs) = some (.fr (.int xs.length)) := rfl
theorem q_tupL : pTuple (.list xs) = some (.fr (.tuple xs)) := rfl
theorem q_tupT : pTuple (.tuple xs) = some (.fr (.tuple xs)) := rfl
theorem q_lstL : pList (.list xs) = some (.ol xs) := rfl
theorem q_lstT : pList (.tuple xs) = some (.ol xs) := rfl
theorem q_revL : pRev (.list xs) = some (.ol xs.reverse) := rfl
theorem q_slL : pSl2l (.list xs) (.int i) = some (.ol (cutD xs (some i) none)) := rfl
theorem q_slT : pSl2l (.tuple xs) (.int i) = some (.fr (.tuple (cutD xs (some i) none))) := rfl
theorem q_shL : pSl2h (.list xs) (.int i) = some (.ol (cutD xs none (some i))) := rfl
theorem q_shT : pSl2h (.tuple xs) (.int i) = some (.fr (.tuple (cutD xs none (some i)))) := rfl
theorem q_sqL : seqOf (.list xs) = some xs := rfl
theorem q_sqT : seqOf (.tuple xs) = some xs := rfl
theorem q_intI : pInt (.int i) = some (.fr (.int i)) := rfl
theorem q_max2 : pMax [.int i, .int j] = some (.fr (.int (max i j))) := rfl
theorem q_min2 : pMin [.int i, .int j] = some (.fr (.int (min i j))) := rfl
theorem q_aII : isA .int (.int i) = true := rfl
theorem q_aBI : isA .bool (.int i) = false := rfl
theorem q_aTI : isA .tuple (.int i) = false := rfl
theorem q_aTT : isA .tuple (.tuple xs) = true := rfl
theorem q_aLL : isA .list (.list xs) = true := rfl
theorem q_aTL : isA .tuple (.list xs) = false := rfl
theorem q_aIT : isA .int (.tuple xs) = false := rfl
end
/-! ### loops -/
theorem for_inv {t : Tg} {body : SF} (P : Nat → Env → Prop) (ds : List PyData) {env : Env} (h0 : P 0 env) (step : ∀ k d e, ds[k]? = some d → P k e → ∃ e1 e2, asT t d e = .ok e1 ∧ body e1 = .ok (.nx, e2) ∧ P (k + 1) e2) :
    ∃ e, fFor t body ds env = .ok (.nx, e) ∧ P ds.length e := by
  suffices h : ∀ (xs : List PyData) (k : Nat) (env : Env), ds.drop k = xs → k ≤ ds.length → P k env → ∃ e, fFor t body xs env = .ok (.nx, e) ∧ P ds.length e from h ds 0 env rfl (Nat.zero_le _) h0
  intro xs
  induction xs with
  | nil =>
    intro k env hd hk hp
    have hl : ds.length ≤ k := List.drop_eq_nil_iff.mp hd
    have : k = ds.length := by omega
    subst this
    exact ⟨env, rfl, hp⟩
  | cons x xs ih =>
    intro k env hd hk hp
    have hlt : k < ds.length := by
      cases Nat.lt_or_ge k ds.length with
      | inl h => exact h
      | inr h => rw [List.drop_eq_nil_iff.mpr h] at hd; cases hd
    rw [List.drop_eq_getElem_cons hlt] at hd
    cases hd
    obtain ⟨e1, e2, a1, a2, p⟩ := step k _ env (List.getElem?_eq_getElem hlt) hp
    obtain ⟨e, b1, b2⟩ := ih (k + 1) e2 rfl hlt p
    refine ⟨e, ?_, b2⟩
    unfold fFor
    rw [a1, bind_ok, a2, bind_ok]
    exact b1
theorem lc_inv {vs : List Nat} {t : Tg} {test : TF} {elt : EF} (P : Nat → Env → List PyData → Prop) (ds : List PyData) {env : Env} {acc : List PyData} (h0 : P 0 env acc)
    (step : ∀ k d e acc, ds[k]? = some d → P k e acc → ∃ e1 b e2, asT t d e = .ok e1 ∧ test e1 = .ok (b, e2) ∧ (b = false → P (k + 1) (wipeE e2 vs) acc) ∧ (b = true → ∃ o e3, elt e2 = .ok (o, e3) ∧ acc.length < 100000 ∧ P (k + 1) (wipeE e3 vs) (acc ++ [o.data]))) :
    ∃ e acc', lcL vs t test elt ds env acc = .ok (acc', e) ∧ P ds.length e acc' := by
  suffices h : ∀ (xs : List PyData) (k : Nat) (env : Env) (acc : List PyData), ds.drop k = xs → k ≤ ds.length → P k env acc → ∃ e acc', lcL vs t test elt xs env acc = .ok (acc', e) ∧ P ds.length e acc' from h ds 0 env acc rfl (Nat.zero_le _) h0
  intro xs
  induction xs with
  | nil =>
    intro k env acc hd hk hp
    have hl : ds.length ≤ k := List.drop_eq_nil_iff.mp hd
    have : k = ds.length := by omega
    subst this
    exact ⟨env, acc, rfl, hp⟩
  | cons x xs ih =>
    intro k env acc hd hk hp
    have hlt : k < ds.length := by
      cases Nat.lt_or_ge k ds.length with
      | inl h => exact h
      | inr h => rw [List.drop_eq_nil_iff.mpr h] at hd; cases hd
    rw [List.drop_eq_getElem_cons hlt] at hd
    cases hd
    obtain ⟨e1, b, e2, a1, a2, pf, pt⟩ := step k _ env acc (List.getElem?_eq_getElem hlt) hp
    unfold lcL
    rw [a1, bind_ok, a2]
    show ∃ e acc', (if b = true then _ else _) = Res.ok (acc', e) ∧ P ds.length e acc'
    cases b with
    | false => exact ih (k + 1) _ acc rfl hlt (pf rfl)
    | true =>
      obtain ⟨o, e3, c1, c2, p⟩ := pt rfl
      rw [if_pos rfl]
      show ∃ e acc', (nE (elt e2) >>= fun r => if acc.length < 100000 then lcL vs t test elt _ (wipeE r.2 vs) (acc ++ [r.1.data]) else .no) = Res.ok (acc', e) ∧ P ds.length e acc'
      rw [c1]
      show ∃ e acc', (if acc.length < 100000 then lcL vs t test elt _ (wipeE e3 vs) (acc ++ [o.data]) else .no) = Res.ok (acc', e) ∧ P ds.length e acc'
      rw [if_pos c2]
      exact ih (k + 1) _ _ rfl hlt p
/-- a comprehension that changes nothing -/
theorem lc_fm {vs : List Nat} {t : Tg} {test : TF} {elt : EF} (p : PyData → Bool) (h : PyData → PyData) {e : Env} : ∀ (ds acc : List PyData), (∀ d ∈ ds, ∃ e1 e2, asT t d e = .ok e1 ∧ test e1 = .ok (p d, e2) ∧ (p d = false → wipeE e2 vs = e) ∧ (p d = true → ∃ o e3, elt e2 = .ok (o, e3) ∧ o.data = h d ∧ wipeE e3 vs = e)) → acc.length + ds.length ≤ 100000 →
    lcL vs t test elt ds e acc = .ok (acc ++ (ds.filter p).map h, e)
  | [], acc, _, _ => by simp [lcL]
  | d :: ds, acc, hs, hl => by
    obtain ⟨e1, e2, a1, a2, pf, pt⟩ := hs d (by simp)
    have hl' : acc.length + (ds.length + 1) ≤ 100000 := hl
    unfold lcL
    rw [a1, bind_ok, a2]
    show (if p d = true then _ else _) = _
    cases hp : p d with
    | false =>
      rw [if_neg (by decide)]
      have ih := lc_fm p h (vs := vs) (t := t) (test := test) (elt := elt) (e := e) ds acc (fun x hx => hs x (by simp [hx])) (by omega)
      show lcL vs t test elt ds (wipeE e2 vs) acc = _
      rw [pf hp, ih, List.filter_cons_of_neg (by simp [hp])]
    | true =>
      obtain ⟨o, e3, c1, c2, c3⟩ := pt hp
      rw [if_pos rfl]
      show (nE (elt e2) >>= fun r => if acc.length < 100000 then lcL vs t test elt ds (wipeE r.2 vs) (acc ++ [r.1.data]) else .no) = _
      rw [c1]
      show (if acc.length < 100000 then lcL vs t test elt ds (wipeE e3 vs) (acc ++ [o.data]) else .no) = _
      have ih := lc_fm p h (vs := vs) (t := t) (test := test) (elt := elt) (e := e) ds (acc ++ [o.data]) (fun x hx => hs x (by simp [hx])) (by simp; omega)
      rw [if_pos (by omega), c3, ih, List.filter_cons_of_pos hp, c2]
      simp
theorem lc_map {vs : List Nat} {t : Tg} {elt : EF} (h : PyData → PyData) {e : Env} (ds : List PyData) (hs : ∀ d ∈ ds, ∃ e1 o e3, asT t d e = .ok e1 ∧ elt e1 = .ok (o, e3) ∧ o.data = h d ∧ wipeE e3 vs = e) (hl : ds.length ≤ 100000) :
    lcL vs t fYes elt ds e [] = .ok (ds.map h, e) := by
  have := lc_fm (vs := vs) (t := t) (test := fYes) (elt := elt) (e := e) (fun _ => true) h ds [] (fun d hd => by
    obtain ⟨e1, o, e3, a1, a2, a3, a4⟩ := hs d hd
    exact ⟨e1, e1, a1, rfl, fun z => (by cases z), fun _ => ⟨o, e3, a2, a3, a4⟩⟩) (by simpa using hl)
  rw [this, List.filter_eq_self.mpr (fun _ _ => rfl), List.nil_append]
theorem rng_at {lo : Int} {n k : Nat} {d : PyData} (h : (rng lo n)[k]? = some d) : k < n ∧ d = .int (lo + k) := by
  unfold rng at h
  rw [List.getElem?_map] at h
  cases q : (List.range n)[k]? with
  | none => rw [q] at h; cases h
  | some j =>
    rw [q] at h; cases h
    obtain ⟨hk, e⟩ := List.getElem?_eq_some_iff.mp q
    rw [List.length_range] at hk
    rw [List.getElem_range] at e
    subst e
    exact ⟨hk, rfl⟩
theorem rng_len {lo : Int} {n : Nat} : (rng lo n).length = n := by unfold rng; simp
end Dy

namespace K03
open PySem PySem.Spec PyProof.Rows L2 Dy
def topS (i : Nat) : Stmt := PySem.Challenge.pw_codepick_k03_nodes_and_heights.main.body.getD i (.Pass ⟨0, 0, 0, 0⟩)
section
variable {P : Program} {w : World} {K : PySem.W.Frag} {mg : Str → Option Value}
/-! ### _law_pen -/
abbrev s__law_pen : Stmt := topS 21
theorem sc__law_pen : FnScope ["_law_cell_here"] ["_law_cell_here"] (defScope s__law_pen) := ⟨rfl, rfl, rfl, by decide +kernel, rfl, by decide +kernel, by decide +kernel⟩
def b__law_pen : SF := fRet (fOv pLst [.v (fOp (pMax) [.v (fC (.int 0)), .v (fOp (on2 pSub) [.s 0, .v (fOp (on2 pPow) [.v (fC (.int 10)), .v (fC (.int 18))])])]), .v (fOp (on2 pAdd) [.v (fOp (on2 pMod) [.s 0, .v (fC (.int 2147483629))]), .v (fC (.int 1))]), .v (fC (.int 0))])
def M__law_pen : Fn := fnM 1 1 [] b__law_pen
theorem ok__law_pen {f : Addr} {fd : FuncData} {k : Nat} (F : Fun K "_law_pen" "_law_pen" s__law_pen f fd) (hm : mg "_law_pen" = some (.ref f)) (hb : Binds K fd ["_law_cell_here"] []) (z_max : mg "max" = none) : CallOk P w K mg (k + 1) "_law_pen" ["_law_cell_here"] M__law_pen :=
  callOk_of F hm hb fun base => fnD F sc__law_pen rfl rfl (by decide) fun cdv A outer s H qv E hgd hr => (dss_one (ds_ret (de_lst (da_cons (dx_v (de_callB (cl_max rfl) os_max rfl z_max bt_max (da_cons (dx_v de_int) (da_cons (dx_v (de_op op_sub os_sub (dx_s 0 (pv 0)) (dx_v (de_op op_pow os_pow (dx_v de_int) (dx_v de_int))))) da_nil)))) (da_cons (dx_v (de_op op_addA os_add (dx_v (de_op op_mod os_mod (dx_s 0 (pv 0)) (dx_v de_int))) (dx_v de_int))) (da_cons (dx_v de_int) da_nil))))))
/-! ### is_between -/
abbrev s_is_between : Stmt := topS 7
theorem sc_is_between : FnScope ["thing", "low", "high"] ["thing", "low", "high"] (defScope s_is_between) := ⟨rfl, rfl, rfl, by decide +kernel, rfl, by decide +kernel, by decide +kernel⟩
def b_is_between : SF := fRet (fAnd (fOp (on1 fun d => some (.fr (.bool (isA .int d)))) [.s 0]) (fAnd (fNotV (fOp (on1 fun d => some (.fr (.bool (isA .bool d)))) [.s 0])) (fChI (fun i j => decide (i ≤ j)) (fun i j => decide (i ≤ j)) (.s 1) (.s 0) (.s 2))))
def M_is_between : Fn := fnM 3 3 [] b_is_between
theorem ok_is_between {f : Addr} {fd : FuncData} {k : Nat} (F : Fun K "is_between" "is_between" s_is_between f fd) (hm : mg "is_between" = some (.ref f)) (hb : Binds K fd ["thing", "low", "high"] []) (z_bool : mg "bool" = none) (z_int : mg "int" = none) (z_isinstance : mg "isinstance" = none) : CallOk P w K mg (k + 1) "is_between" ["thing", "low", "high"] M_is_between :=
  callOk_of F hm hb fun base => fnD F sc_is_between rfl rfl (by decide) fun cdv A outer s H qv E hgd hr => (dss_one (ds_ret (de_and (de_isi .int rfl z_isinstance bt_isinstance (dx_s 0 (pv 0)) (pty rfl z_int bt_int)) (de_and (de_not (de_isi .bool rfl z_isinstance bt_isinstance (dx_s 0 (pv 0)) (pty rfl z_bool bt_bool))) (de_one (de_chI op_le op_le (fun a b c => pe_chain op_le op_le a b c) (dx_s 1 (pv 1)) (dx_s 0 (pv 0)) (dx_s 2 (pv 2))))))))
/-! ### is_arities -/
abbrev s_is_arities : Stmt := topS 8
theorem sc_is_arities : FnScope ["thing", "arity"] ["thing"] (defScope s_is_arities) := ⟨rfl, rfl, rfl, by decide +kernel, rfl, by decide +kernel, by decide +kernel⟩
def E1_is_arities : EF := fCall M_is_between [.v (fV 1), .v (fC (.int 0)), .v (fC (.int 2))]
def b_is_arities : SF := fSeq (fIfS (fOrT (fNot (fB (fOp (on1 fun d => some (.fr (.bool (isA .tuple d)))) [.s 0]))) (fNot (fB (fChI (fun i j => decide (i ≤ j)) (fun i j => decide (i ≤ j)) (.v (fC (.int 1))) (.v (fOp (on1 pLen) [.s 0])) (.v (fC (.int 6))))))) (fRet (fC (.bool false))) (fSkip))
  (fRet (fOp (on1 pAll) [.v (fLc (fSq (.v (fV 0))) [1] (.nm 1) (fYes) (E1_is_arities))]))
def M_is_arities : Fn := fnM 1 2 [] b_is_arities
theorem ok_is_arities {f : Addr} {fd : FuncData} {k : Nat} (F : Fun K "is_arities" "is_arities" s_is_arities f fd) (hm : mg "is_arities" = some (.ref f)) (hb : Binds K fd ["thing"] []) (c_is_between : CallOk P w K mg k "is_between" ["thing", "low", "high"] M_is_between) (z_all : mg "all" = none) (z_isinstance : mg "isinstance" = none) (z_len : mg "len" = none) (z_tuple : mg "tuple" = none) {t_MOST_ARITY : Tok} (g_MOST_ARITY : mg "MOST_ARITY" = some (.int 2 t_MOST_ARITY)) {t_MOST_OPERATORS : Tok} (g_MOST_OPERATORS : mg "MOST_OPERATORS" = some (.int 6 t_MOST_OPERATORS)) : CallOk P w K mg (k + 1) "is_arities" ["thing"] M_is_arities :=
  callOk_of F hm hb fun base => fnD F sc_is_arities rfl rfl (by decide) fun cdv A outer s H qv E hgd hr => (dss_cons (ds_if (dw_t (dw_or (dt_not (dt_val (de_isi .tuple rfl z_isinstance bt_isinstance (dx_s 0 (pv 0)) (pty rfl z_tuple bt_tuple)))) (dw_or1 (dt_not (dt_chI (fun a b c => pt_chain op_le op_le a b c) (dx_v de_int) (dx_v (de_callB call_len os_len rfl z_len bt_len (da_cons (dx_s 0 (pv 0)) da_nil))) (dx_v (de_gint rfl g_MOST_OPERATORS))))))) (dss_one (ds_ret de_bl)) dss_nil)
    (dss_one (ds_ret (de_callB (cr_all rfl) os_all rfl z_all bt_all (da_cons (dx_v (de_lc (own := [("arity", 1)]) (npn rfl) (by decide) rfl sc_is_arities.nd (di_seq (dx_v (de_v 0 (pv 0)))) (blkOk_by (N := ["thing", "arity"]) (sc := defScope s_is_arities) (own := [("arity", 1)]) (by decide +kernel)) (fun _ _ _ _ _ => (pg_name (i := 1) sc_is_arities.nd rfl (by first | exact .inl rfl | exact .inr rfl))) (fun _ _ _ _ _ => pts_yes) (fun _ _ _ _ _ => (dcall c_is_between hgd hr rfl passL (da_cons (dx_v (de_v 1 (pv 1))) (da_cons (dx_v de_int) (da_cons (dx_v (de_gint rfl g_MOST_ARITY)) da_nil))))))) da_nil)))))
/-! ### need_arities -/
abbrev s_need_arities : Stmt := topS 9
theorem sc_need_arities : FnScope ["thing"] ["thing"] (defScope s_need_arities) := ⟨rfl, rfl, rfl, by decide +kernel, rfl, by decide +kernel, by decide +kernel⟩
def b_need_arities : SF := fIfS (fNot (fB (fCall M_is_arities [.v (fV 0)]))) (fNo) (fSkip)
def M_need_arities : Fn := fnM 1 1 [] b_need_arities
theorem ok_need_arities {f : Addr} {fd : FuncData} {k : Nat} (F : Fun K "need_arities" "need_arities" s_need_arities f fd) (hm : mg "need_arities" = some (.ref f)) (hb : Binds K fd ["thing"] []) (c_is_arities : CallOk P w K mg k "is_arities" ["thing"] M_is_arities) : CallOk P w K mg (k + 1) "need_arities" ["thing"] M_need_arities :=
  callOk_of F hm hb fun base => fnD F sc_need_arities rfl rfl (by decide) fun cdv A outer s H qv E hgd hr => (dss_one (ds_if (dt_not (dt_val (dcall c_is_arities hgd hr rfl (passes_call (takes_of rfl rfl rfl rfl) (fun _ _ _ _ h => h)) (da_cons (dx_v (de_v 0 (pv 0))) da_nil)))) (dss_one ds_never) dss_nil))
/-! ### is_node -/
abbrev s_is_node : Stmt := topS 11
theorem sc_is_node : FnScope ["arities", "thing", "before", "node"] ["arities", "thing", "before"] (defScope s_is_node) := ⟨rfl, rfl, rfl, by decide +kernel, rfl, by decide +kernel, by decide +kernel⟩
def E1_is_node : EF := fCall M_is_between [.v (fV 3), .v (fC (.int 0)), .v (fOp (on2 pSub) [.s 2, .v (fC (.int 1))])]
def b_is_node : SF := fSeq (fIfS (fOrT (fNot (fB (fOp (on1 fun d => some (.fr (.bool (isA .tuple d)))) [.s 1]))) (fOrT (fB (fOp (on2 pEq) [.s 1, .v (fOv pTup [])])) (fNot (fB (fCall M_is_between [.v (fOp (on2 pIx) [.s 1, .v (fC (.int 0))]), .v (fC (.int 0)), .v (fOp (on2 pSub) [.v (fOp (on1 pLen) [.s 0]), .v (fC (.int 1))])]))))) (fRet (fC (.bool false))) (fSkip))
  (fSeq (fIfS (fB (fOp (on2 pNe) [.v (fOp (on1 pLen) [.s 1]), .v (fOp (on2 pAdd) [.v (fC (.int 1)), .v (fOp (on2 pIx) [.s 0, .v (fOp (on2 pIx) [.s 1, .v (fC (.int 0))])])])])) (fRet (fC (.bool false))) (fSkip))
  (fRet (fOp (on1 pAll) [.v (fLc (fSq (.v (fOp (on2 pSl2l) [.s 1, .v (fC (.int 1))]))) [3] (.nm 3) (fYes) (E1_is_node))])))
def M_is_node : Fn := fnM 3 4 [] b_is_node
theorem ok_is_node {f : Addr} {fd : FuncData} {k : Nat} (F : Fun K "is_node" "is_node" s_is_node f fd) (hm : mg "is_node" = some (.ref f)) (hb : Binds K fd ["arities", "thing", "before"] []) (c_is_between : CallOk P w K mg k "is_between" ["thing", "low", "high"] M_is_between) (z_all : mg "all" = none) (z_isinstance : mg "isinstance" = none) (z_len : mg "len" = none) (z_tuple : mg "tuple" = none) : CallOk P w K mg (k + 1) "is_node" ["arities", "thing", "before"] M_is_node :=
  callOk_of F hm hb fun base => fnD F sc_is_node rfl rfl (by decide) fun cdv A outer s H qv E hgd hr => (dss_cons (ds_if (dw_t (dw_or (dt_not (dt_val (de_isi .tuple rfl z_isinstance bt_isinstance (dx_s 1 (pv 1)) (pty rfl z_tuple bt_tuple)))) (dw_or (dt_cmp (op_eqA (ru64 hr)) os_eq (dx_s 1 (pv 1)) (dx_v (de_tup da_nil)) (nomark _)) (dw_or1 (dt_not (dt_val (dcall c_is_between hgd hr rfl (passes_call (takes_of rfl rfl rfl rfl) (fun _ _ _ _ h => h)) (da_cons (dx_v (de_ix ix_seq os_ix (dx_s 1 (pv 1)) (dx_v de_int) (fun _ _ => rfl))) (da_cons (dx_v de_int) (da_cons (dx_v (de_op op_sub os_sub (dx_v (de_callB call_len os_len rfl z_len bt_len (da_cons (dx_s 0 (pv 0)) da_nil))) (dx_v de_int))) da_nil)))))))))) (dss_one (ds_ret de_bl)) dss_nil)
    (dss_cons (ds_if (dt_cmp (op_neA (ru64 hr)) os_ne (dx_v (de_callB call_len os_len rfl z_len bt_len (da_cons (dx_s 1 (pv 1)) da_nil))) (dx_v (de_op op_addA os_add (dx_v de_int) (dx_v (de_ix ix_seq os_ix (dx_s 0 (pv 0)) (dx_v (de_ix ix_seq os_ix (dx_s 1 (pv 1)) (dx_v de_int) (fun _ _ => rfl))) (fun _ _ => rfl))))) (nomark _)) (dss_one (ds_ret de_bl)) dss_nil)
    (dss_one (ds_ret (de_callB (cr_all rfl) os_all rfl z_all bt_all (da_cons (dx_v (de_lc (own := [("node", 3)]) (npn rfl) (by decide) rfl sc_is_node.nd (di_seq (dx_v (de_slLo (dx_s 1 (pv 1)) (dx_v de_int)))) (blkOk_by (N := ["arities", "thing", "before", "node"]) (sc := defScope s_is_node) (own := [("node", 3)]) (by decide +kernel)) (fun _ _ _ _ _ => (pg_name (i := 3) sc_is_node.nd rfl (by first | exact .inl rfl | exact .inr rfl))) (fun _ _ _ _ _ => pts_yes) (fun _ _ _ _ _ => (dcall c_is_between hgd hr rfl passL (da_cons (dx_v (de_v 3 (pv 3))) (da_cons (dx_v de_int) (da_cons (dx_v (de_op op_sub os_sub (dx_s 2 (pv 2)) (dx_v de_int))) da_nil))))))) da_nil))))))
/-! ### is_written -/
abbrev s_is_written : Stmt := topS 12
theorem sc_is_written : FnScope ["arities", "thing", "at", "node"] ["arities", "thing"] (defScope s_is_written) := ⟨rfl, rfl, rfl, by decide +kernel, rfl, by decide +kernel, by decide +kernel⟩
def E1_is_written : EF := fCall M_is_node [.v (fV 0), .v (fV 3), .v (fV 2)]
def b_is_written : SF := fSeq (fIfS (fOrT (fNot (fB (fOp (on1 fun d => some (.fr (.bool (isA .tuple d)))) [.s 1]))) (fB (fOp (on2 pEq) [.s 1, .v (fOv pTup [])]))) (fRet (fC (.bool false))) (fSkip))
  (fRet (fOp (on1 pAll) [.v (fLc (fEn (.v (fV 1))) [2, 3] (.tu [2, 3]) (fYes) (E1_is_written))]))
def M_is_written : Fn := fnM 2 4 [] b_is_written
theorem ok_is_written {f : Addr} {fd : FuncData} {k : Nat} (F : Fun K "is_written" "is_written" s_is_written f fd) (hm : mg "is_written" = some (.ref f)) (hb : Binds K fd ["arities", "thing"] []) (c_is_node : CallOk P w K mg k "is_node" ["arities", "thing", "before"] M_is_node) (z_all : mg "all" = none) (z_enumerate : mg "enumerate" = none) (z_isinstance : mg "isinstance" = none) (z_tuple : mg "tuple" = none) : CallOk P w K mg (k + 1) "is_written" ["arities", "thing"] M_is_written :=
  callOk_of F hm hb fun base => fnD F sc_is_written rfl rfl (by decide) fun cdv A outer s H qv E hgd hr => (dss_cons (ds_if (dw_t (dw_or (dt_not (dt_val (de_isi .tuple rfl z_isinstance bt_isinstance (dx_s 1 (pv 1)) (pty rfl z_tuple bt_tuple)))) (dw_or1 (dt_cmp (op_eqA (ru64 hr)) os_eq (dx_s 1 (pv 1)) (dx_v (de_tup da_nil)) (nomark _))))) (dss_one (ds_ret de_bl)) dss_nil)
    (dss_one (ds_ret (de_callB (cr_all rfl) os_all rfl z_all bt_all (da_cons (dx_v (de_lc (own := [("at", 2), ("node", 3)]) (npn rfl) (by decide) rfl sc_is_written.nd (di_en rfl z_enumerate (da_cons (dx_v (de_v 1 (pv 1))) da_nil)) (blkOk_by (N := ["arities", "thing", "at", "node"]) (sc := defScope s_is_written) (own := [("at", 2), ("node", 3)]) (by decide +kernel)) (fun _ _ _ _ _ => (pg_tup rfl (pgs_cons (pg_name (i := 2) sc_is_written.nd rfl (by first | exact .inl rfl | exact .inr rfl)) (pgs_cons (pg_name (i := 3) sc_is_written.nd rfl (by first | exact .inl rfl | exact .inr rfl)) pgs_nil)))) (fun _ _ _ _ _ => pts_yes) (fun _ _ _ _ _ => (dcall c_is_node hgd hr rfl passL (da_cons (dx_v (de_v 0 (pv 0))) (da_cons (dx_v (de_v 3 (pv 3))) (da_cons (dx_v (de_v 2 (pv 2))) da_nil))))))) da_nil)))))
/-! ### need_tree -/
abbrev s_need_tree : Stmt := topS 13
theorem sc_need_tree : FnScope ["arities", "thing"] ["arities", "thing"] (defScope s_need_tree) := ⟨rfl, rfl, rfl, by decide +kernel, rfl, by decide +kernel, by decide +kernel⟩
def b_need_tree : SF := fIfS (fNot (fB (fCall M_is_written [.v (fV 0), .v (fV 1)]))) (fNo) (fSkip)
def M_need_tree : Fn := fnM 2 2 [] b_need_tree
theorem ok_need_tree {f : Addr} {fd : FuncData} {k : Nat} (F : Fun K "need_tree" "need_tree" s_need_tree f fd) (hm : mg "need_tree" = some (.ref f)) (hb : Binds K fd ["arities", "thing"] []) (c_is_written : CallOk P w K mg k "is_written" ["arities", "thing"] M_is_written) : CallOk P w K mg (k + 1) "need_tree" ["arities", "thing"] M_need_tree :=
  callOk_of F hm hb fun base => fnD F sc_need_tree rfl rfl (by decide) fun cdv A outer s H qv E hgd hr => (dss_one (ds_if (dt_not (dt_val (dcall c_is_written hgd hr rfl (passes_call (takes_of rfl rfl rfl rfl) (fun _ _ _ _ h => h)) (da_cons (dx_v (de_v 0 (pv 0))) (da_cons (dx_v (de_v 1 (pv 1))) da_nil))))) (dss_one ds_never) dss_nil))
/-! ### need_both -/
abbrev s_need_both : Stmt := topS 14
theorem sc_need_both : FnScope ["arities", "tree"] ["arities", "tree"] (defScope s_need_both) := ⟨rfl, rfl, rfl, by decide +kernel, rfl, by decide +kernel, by decide +kernel⟩
def b_need_both : SF := fSeq (fEx (fCall M_need_arities [.v (fV 0)]))
  (fEx (fCall M_need_tree [.v (fV 0), .v (fV 1)]))
def M_need_both : Fn := fnM 2 2 [] b_need_both
theorem ok_need_both {f : Addr} {fd : FuncData} {k : Nat} (F : Fun K "need_both" "need_both" s_need_both f fd) (hm : mg "need_both" = some (.ref f)) (hb : Binds K fd ["arities", "tree"] []) (c_need_arities : CallOk P w K mg k "need_arities" ["thing"] M_need_arities) (c_need_tree : CallOk P w K mg k "need_tree" ["arities", "thing"] M_need_tree) : CallOk P w K mg (k + 1) "need_both" ["arities", "tree"] M_need_both :=
  callOk_of F hm hb fun base => fnD F sc_need_both rfl rfl (by decide) fun cdv A outer s H qv E hgd hr => (dss_cons (ds_expr (dcall c_need_arities hgd hr rfl (passes_call (takes_of rfl rfl rfl rfl) (fun _ _ _ _ h => h)) (da_cons (dx_v (de_v 0 (pv 0))) da_nil)))
    (dss_one (ds_expr (dcall c_need_tree hgd hr rfl (passes_call (takes_of rfl rfl rfl rfl) (fun _ _ _ _ h => h)) (da_cons (dx_v (de_v 0 (pv 0))) (da_cons (dx_v (de_v 1 (pv 1))) da_nil))))))
/-! ### amounts -/
abbrev s_amounts : Stmt := topS 15
theorem sc_amounts : FnScope ["tree", "found", "node", "part"] ["tree"] (defScope s_amounts) := ⟨rfl, rfl, rfl, by decide +kernel, rfl, by decide +kernel, by decide +kernel⟩
def E1_amounts : EF := fOp (on2 pIx) [.s 1, .s 3]
def L1_amounts : SF := fApp 1 (fOp (on2 pAdd) [.v (fC (.int 1)), .v (fOp (on1 pSum) [.v (fLc (fSq (.v (fOp (on2 pSl2l) [.s 2, .v (fC (.int 1))]))) [3] (.nm 3) (fYes) (E1_amounts))])])
def b_amounts : SF := fSeq (fSet 1 (fOv pLst []))
  (fSeq (fForS (fSq (.v (fV 0))) (.nm 2) (L1_amounts))
  (fRet (fM 1)))
def M_amounts : Fn := fnM 1 4 [] b_amounts
theorem ok_amounts {f : Addr} {fd : FuncData} {k : Nat} (F : Fun K "amounts" "amounts" s_amounts f fd) (hm : mg "amounts" = some (.ref f)) (hb : Binds K fd ["tree"] []) (z_sum : mg "sum" = none) : CallOk P w K mg (k + 1) "amounts" ["tree"] M_amounts :=
  callOk_of F hm hb fun base => fnD F sc_amounts rfl rfl (by decide) fun cdv A outer s H qv E hgd hr => (dss_cons (ds_set (i := 1) sc_amounts.nd rfl (by first | exact .inl rfl | exact .inr rfl) (np1 rfl) (de_lst da_nil))
    (dss_cons (ds_for (npn rfl) (passes_of rfl) rfl (di_seq (dx_v (de_v 0 (pv 0)))) (pg_name (i := 2) sc_amounts.nd rfl (by first | exact .inl rfl | exact .inr rfl)) (dss_one (ds_app (pv 1) (de_op op_addA os_add (dx_v de_int) (dx_v (de_callB (cr_sum rfl) os_sum rfl z_sum bt_sum (da_cons (dx_v (de_lc (own := [("part", 3)]) (npn rfl) (by decide) rfl sc_amounts.nd (di_seq (dx_v (de_slLo (dx_s 2 (pv 2)) (dx_v de_int)))) (blkOk_by (N := ["tree", "found", "node", "part"]) (sc := defScope s_amounts) (own := [("part", 3)]) (by decide +kernel)) (fun _ _ _ _ _ => (pg_name (i := 3) sc_amounts.nd rfl (by first | exact .inl rfl | exact .inr rfl))) (fun _ _ _ _ _ => pts_yes) (fun _ _ _ _ _ => (de_ix ix_seq os_ix (dx_s 1 (pv 1)) (dx_s 3 (pv 3)) (fun _ _ => rfl))))) da_nil)))))))
    (dss_one (ds_ret (de_m 1 (pv 1))))))
/-! ### nodes -/
abbrev s_nodes : Stmt := topS 17
theorem sc_nodes : FnScope ["arities", "tree"] ["arities", "tree"] (defScope s_nodes) := ⟨rfl, rfl, rfl, by decide +kernel, rfl, by decide +kernel, by decide +kernel⟩
def b_nodes : SF := fSeq (fEx (fCall M_need_both [.v (fV 0), .v (fV 1)]))
  (fRet (fOp (on2 pIx) [.v (fCall M_amounts [.v (fV 1)]), .v (fOp (on1 pNeg) [.v (fC (.int 1))])]))
def M_nodes : Fn := fnM 2 2 [] b_nodes
theorem ok_nodes {f : Addr} {fd : FuncData} {k : Nat} (F : Fun K "nodes" "nodes" s_nodes f fd) (hm : mg "nodes" = some (.ref f)) (hb : Binds K fd ["arities", "tree"] []) (c_amounts : CallOk P w K mg k "amounts" ["tree"] M_amounts) (c_need_both : CallOk P w K mg k "need_both" ["arities", "tree"] M_need_both) : CallOk P w K mg (k + 1) "nodes" ["arities", "tree"] M_nodes :=
  callOk_of F hm hb fun base => fnD F sc_nodes rfl rfl (by decide) fun cdv A outer s H qv E hgd hr => (dss_cons (ds_expr (dcall c_need_both hgd hr rfl (passes_call (takes_of rfl rfl rfl rfl) (fun _ _ _ _ h => h)) (da_cons (dx_v (de_v 0 (pv 0))) (da_cons (dx_v (de_v 1 (pv 1))) da_nil))))
    (dss_one (ds_ret (de_ix ix_seq os_ix (dx_v (dcall c_amounts hgd hr rfl (passes_call (takes_of rfl rfl rfl rfl) (fun _ _ _ _ h => h)) (da_cons (dx_v (de_v 1 (pv 1))) da_nil))) (dx_v (de_un un_neg os_neg (dx_v de_int))) (fun _ _ => rfl)))))
/-! ### heights -/
abbrev s_heights : Stmt := topS 16
theorem sc_heights : FnScope ["tree", "found", "node", "part"] ["tree"] (defScope s_heights) := ⟨rfl, rfl, rfl, by decide +kernel, rfl, by decide +kernel, by decide +kernel⟩
def E1_heights : EF := fOp (on2 pIx) [.s 1, .s 3]
def L1_heights : SF := fApp 1 (fOp (on2 pAdd) [.v (fC (.int 1)), .v (fOp (pMax) [.v (fOp (on2 pAdd) [.v (fOv pLst [.v (fC (.int 0))]), .v (fLc (fSq (.v (fOp (on2 pSl2l) [.s 2, .v (fC (.int 1))]))) [3] (.nm 3) (fYes) (E1_heights))])])])
def b_heights : SF := fSeq (fSet 1 (fOv pLst []))
  (fSeq (fForS (fSq (.v (fV 0))) (.nm 2) (L1_heights))
  (fRet (fM 1)))
def M_heights : Fn := fnM 1 4 [] b_heights
theorem ok_heights {f : Addr} {fd : FuncData} {k : Nat} (F : Fun K "heights" "heights" s_heights f fd) (hm : mg "heights" = some (.ref f)) (hb : Binds K fd ["tree"] []) (z_max : mg "max" = none) : CallOk P w K mg (k + 1) "heights" ["tree"] M_heights :=
  callOk_of F hm hb fun base => fnD F sc_heights rfl rfl (by decide) fun cdv A outer s H qv E hgd hr => (dss_cons (ds_set (i := 1) sc_heights.nd rfl (by first | exact .inl rfl | exact .inr rfl) (np1 rfl) (de_lst da_nil))
    (dss_cons (ds_for (npn rfl) (passes_of rfl) rfl (di_seq (dx_v (de_v 0 (pv 0)))) (pg_name (i := 2) sc_heights.nd rfl (by first | exact .inl rfl | exact .inr rfl)) (dss_one (ds_app (pv 1) (de_op op_addA os_add (dx_v de_int) (dx_v (de_callB (cl_max rfl) os_max rfl z_max bt_max (da_cons (dx_v (de_op op_addA os_add (dx_v (de_lst (da_cons (dx_v de_int) da_nil))) (dx_v (de_lc (own := [("part", 3)]) (npn rfl) (by decide) rfl sc_heights.nd (di_seq (dx_v (de_slLo (dx_s 2 (pv 2)) (dx_v de_int)))) (blkOk_by (N := ["tree", "found", "node", "part"]) (sc := defScope s_heights) (own := [("part", 3)]) (by decide +kernel)) (fun _ _ _ _ _ => (pg_name (i := 3) sc_heights.nd rfl (by first | exact .inl rfl | exact .inr rfl))) (fun _ _ _ _ _ => pts_yes) (fun _ _ _ _ _ => (de_ix ix_seq os_ix (dx_s 1 (pv 1)) (dx_s 3 (pv 3)) (fun _ _ => rfl))))))) da_nil)))))))
    (dss_one (ds_ret (de_m 1 (pv 1))))))
/-! ### height -/
abbrev s_height : Stmt := topS 18
theorem sc_height : FnScope ["arities", "tree"] ["arities", "tree"] (defScope s_height) := ⟨rfl, rfl, rfl, by decide +kernel, rfl, by decide +kernel, by decide +kernel⟩
def b_height : SF := fSeq (fEx (fCall M_need_both [.v (fV 0), .v (fV 1)]))
  (fRet (fOp (on2 pIx) [.v (fCall M_heights [.v (fV 1)]), .v (fOp (on1 pNeg) [.v (fC (.int 1))])]))
def M_height : Fn := fnM 2 2 [] b_height
theorem ok_height {f : Addr} {fd : FuncData} {k : Nat} (F : Fun K "height" "height" s_height f fd) (hm : mg "height" = some (.ref f)) (hb : Binds K fd ["arities", "tree"] []) (c_heights : CallOk P w K mg k "heights" ["tree"] M_heights) (c_need_both : CallOk P w K mg k "need_both" ["arities", "tree"] M_need_both) : CallOk P w K mg (k + 1) "height" ["arities", "tree"] M_height :=
  callOk_of F hm hb fun base => fnD F sc_height rfl rfl (by decide) fun cdv A outer s H qv E hgd hr => (dss_cons (ds_expr (dcall c_need_both hgd hr rfl (passes_call (takes_of rfl rfl rfl rfl) (fun _ _ _ _ h => h)) (da_cons (dx_v (de_v 0 (pv 0))) (da_cons (dx_v (de_v 1 (pv 1))) da_nil))))
    (dss_one (ds_ret (de_ix ix_seq os_ix (dx_v (dcall c_heights hgd hr rfl (passes_call (takes_of rfl rfl rfl rfl) (fun _ _ _ _ h => h)) (da_cons (dx_v (de_v 1 (pv 1))) da_nil))) (dx_v (de_un un_neg os_neg (dx_v de_int))) (fun _ _ => rfl)))))
/-! ### _law_cell -/
abbrev s__law_cell : Stmt := topS 20
theorem sc__law_cell : FnScope ["_law_script", "_law_k"] ["_law_script", "_law_k"] (defScope s__law_cell) := ⟨rfl, rfl, rfl, by decide +kernel, rfl, by decide +kernel, by decide +kernel⟩
def b__law_cell : SF := fSeq (fIfS (fB (fOp (on2 (cmI (fun i j => decide (i < j)))) [.s 1, .v (fOp (on1 pLen) [.s 0])])) (fRet (fOp (on2 pIx) [.s 0, .s 1])) (fSkip))
  (fRet (fC (.int 0)))
def M__law_cell : Fn := fnM 2 2 [] b__law_cell
theorem ok__law_cell {f : Addr} {fd : FuncData} {k : Nat} (F : Fun K "_law_cell" "_law_cell" s__law_cell f fd) (hm : mg "_law_cell" = some (.ref f)) (hb : Binds K fd ["_law_script", "_law_k"] []) (z_len : mg "len" = none) : CallOk P w K mg (k + 1) "_law_cell" ["_law_script", "_law_k"] M__law_cell :=
  callOk_of F hm hb fun base => fnD F sc__law_cell rfl rfl (by decide) fun cdv A outer s H qv E hgd hr => (dss_cons (ds_if (dt_cmp op_lt os_cmI (dx_s 1 (pv 1)) (dx_v (de_callB call_len os_len rfl z_len bt_len (da_cons (dx_s 0 (pv 0)) da_nil))) (nomark _)) (dss_one (ds_ret (de_ix ix_seq os_ix (dx_s 0 (pv 0)) (dx_s 1 (pv 1)) (fun _ _ => rfl)))) dss_nil)
    (dss_one (ds_ret de_int)))
/-! ### _law_draw -/
abbrev s__law_draw : Stmt := topS 22
theorem sc__law_draw : FnScope ["_law_pen_here", "_law_many", "_law_stirred", "_law_found"] ["_law_pen_here", "_law_many"] (defScope s__law_draw) := ⟨rfl, rfl, rfl, by decide +kernel, rfl, by decide +kernel, by decide +kernel⟩
def b__law_draw : SF := fSeq (fIfS (fB (fOp (on2 (cmI (fun i j => decide (j < i)))) [.v (fOp (on2 pIx) [.s 0, .v (fC (.int 0))]), .v (fC (.int 0))])) (fSeq (fSet 3 (fOp (on2 pMod) [.v (fOp (on2 pIx) [.s 0, .v (fC (.int 0))]), .s 1]))
  (fSeq (fSetI 0 (.v (fC (.int 0))) (fOp (on2 pDiv) [.v (fOp (on2 pIx) [.s 0, .v (fC (.int 0))]), .s 1]))
  (fRet (fM 3)))) (fSkip))
  (fSeq (fSetI 0 (.v (fC (.int 2))) (fOp (on2 pAdd) [.v (fOp (on2 pIx) [.s 0, .v (fC (.int 2))]), .v (fC (.int 1))]))
  (fSeq (fSetI 0 (.v (fC (.int 1))) (fOp (on2 pMod) [.v (fOp (on2 pAdd) [.v (fOp (on2 pAdd) [.v (fOp (on2 pMul) [.v (fOp (on2 pIx) [.s 0, .v (fC (.int 1))]), .v (fC (.int 48271))]), .v (fOp (on2 pMul) [.v (fC (.int 1009)), .v (fOp (on2 pIx) [.s 0, .v (fC (.int 2))])])]), .v (fC (.int 7))]), .v (fC (.int 2147483647))]))
  (fSeq (fSet 2 (fOp (on2 pMod) [.v (fOp (on2 pAdd) [.v (fOp (on2 pAdd) [.v (fOp (on2 pMul) [.v (fOp (on2 pIx) [.s 0, .v (fC (.int 1))]), .v (fOp (on2 pIx) [.s 0, .v (fC (.int 1))])]), .v (fOp (on2 pMul) [.v (fC (.int 69621)), .v (fOp (on2 pIx) [.s 0, .v (fC (.int 1))])])]), .v (fC (.int 11))]), .v (fC (.int 2147483629))]))
  (fSeq (fSet 2 (fOp (on2 pMod) [.v (fOp (on2 pAdd) [.v (fOp (on2 pMul) [.s 2, .s 2]), .v (fOp (on2 pMul) [.v (fC (.int 40014)), .s 2])]), .v (fC (.int 2147483587))]))
  (fRet (fOp (on2 pMod) [.v (fOp (on2 pDiv) [.s 2, .v (fC (.int 16))]), .s 1]))))))
def M__law_draw : Fn := fnM 2 4 [0] b__law_draw
theorem ok__law_draw {f : Addr} {fd : FuncData} {k : Nat} (F : Fun K "_law_draw" "_law_draw" s__law_draw f fd) (hm : mg "_law_draw" = some (.ref f)) (hb : Binds K fd ["_law_pen_here", "_law_many"] [])  : CallOk P w K mg (k + 1) "_law_draw" ["_law_pen_here", "_law_many"] M__law_draw :=
  callOk_of F hm hb fun base => fnD F sc__law_draw rfl rfl (by decide) fun cdv A outer s H qv E hgd hr => (dss_cons (ds_if (dt_cmp op_gt os_cmI (dx_v (de_ix ix_seq os_ix (dx_s 0 (pv 0)) (dx_v de_int) (fun _ _ => rfl))) (dx_v de_int) (nomark _)) (dss_cons (ds_set (i := 3) sc__law_draw.nd rfl (by first | exact .inl rfl | exact .inr rfl) (np1 rfl) (de_op op_mod os_mod (dx_v (de_ix ix_seq os_ix (dx_s 0 (pv 0)) (dx_v de_int) (fun _ _ => rfl))) (dx_s 1 (pv 1))))
    (dss_cons (ds_setI (pv 0) (dx_v de_int) (de_op op_fdiv os_div (dx_v (de_ix ix_seq os_ix (dx_s 0 (pv 0)) (dx_v de_int) (fun _ _ => rfl))) (dx_s 1 (pv 1))))
    (dss_one (ds_ret (de_m 3 (pv 3)))))) dss_nil)
    (dss_cons (ds_setI (pv 0) (dx_v de_int) (de_op op_addA os_add (dx_v (de_ix ix_seq os_ix (dx_s 0 (pv 0)) (dx_v de_int) (fun _ _ => rfl))) (dx_v de_int)))
    (dss_cons (ds_setI (pv 0) (dx_v de_int) (de_op op_mod os_mod (dx_v (de_op op_addA os_add (dx_v (de_op op_addA os_add (dx_v (de_op op_mulA os_mul (dx_v (de_ix ix_seq os_ix (dx_s 0 (pv 0)) (dx_v de_int) (fun _ _ => rfl))) (dx_v de_int))) (dx_v (de_op op_mulA os_mul (dx_v de_int) (dx_v (de_ix ix_seq os_ix (dx_s 0 (pv 0)) (dx_v de_int) (fun _ _ => rfl))))))) (dx_v de_int))) (dx_v de_int)))
    (dss_cons (ds_set (i := 2) sc__law_draw.nd rfl (by first | exact .inl rfl | exact .inr rfl) (np1 rfl) (de_op op_mod os_mod (dx_v (de_op op_addA os_add (dx_v (de_op op_addA os_add (dx_v (de_op op_mulA os_mul (dx_v (de_ix ix_seq os_ix (dx_s 0 (pv 0)) (dx_v de_int) (fun _ _ => rfl))) (dx_v (de_ix ix_seq os_ix (dx_s 0 (pv 0)) (dx_v de_int) (fun _ _ => rfl))))) (dx_v (de_op op_mulA os_mul (dx_v de_int) (dx_v (de_ix ix_seq os_ix (dx_s 0 (pv 0)) (dx_v de_int) (fun _ _ => rfl))))))) (dx_v de_int))) (dx_v de_int)))
    (dss_cons (ds_set (i := 2) sc__law_draw.nd rfl (by first | exact .inl rfl | exact .inr rfl) (np1 rfl) (de_op op_mod os_mod (dx_v (de_op op_addA os_add (dx_v (de_op op_mulA os_mul (dx_s 2 (pv 2)) (dx_s 2 (pv 2)))) (dx_v (de_op op_mulA os_mul (dx_v de_int) (dx_s 2 (pv 2)))))) (dx_v de_int)))
    (dss_one (ds_ret (de_op op_mod os_mod (dx_v (de_op op_fdiv os_div (dx_s 2 (pv 2)) (dx_v de_int))) (dx_s 1 (pv 1))))))))))
/-! ### _law_pick -/
abbrev s__law_pick : Stmt := topS 23
theorem sc__law_pick : FnScope ["_law_pen_here", "_law_some"] ["_law_pen_here", "_law_some"] (defScope s__law_pick) := ⟨rfl, rfl, rfl, by decide +kernel, rfl, by decide +kernel, by decide +kernel⟩
def b__law_pick : SF := fRet (fOp (on2 pIx) [.s 1, .v (fCall M__law_draw [.s 0, .v (fOp (on1 pLen) [.s 1])])])
def M__law_pick : Fn := fnM 2 2 [0] b__law_pick
theorem ok__law_pick {f : Addr} {fd : FuncData} {k : Nat} (F : Fun K "_law_pick" "_law_pick" s__law_pick f fd) (hm : mg "_law_pick" = some (.ref f)) (hb : Binds K fd ["_law_pen_here", "_law_some"] []) (c__law_draw : CallOk P w K mg k "_law_draw" ["_law_pen_here", "_law_many"] M__law_draw) (z_len : mg "len" = none) : CallOk P w K mg (k + 1) "_law_pick" ["_law_pen_here", "_law_some"] M__law_pick :=
  callOk_of F hm hb fun base => fnD F sc__law_pick rfl rfl (by decide) fun cdv A outer s H qv E hgd hr => (dss_one (ds_ret (de_ix ix_seq os_ix (dx_s 1 (pv 1)) (dx_v (dcall c__law_draw hgd hr rfl (passes_call (takes_of rfl rfl rfl rfl) (fun _ _ _ _ h => h)) (da_cons (dx_s 0 (pv 0)) (da_cons (dx_v (de_callB call_len os_len rfl z_len bt_len (da_cons (dx_s 1 (pv 1)) da_nil))) da_nil)))) (fun _ _ => rfl))))
/-! ### _law_arities -/
abbrev s__law_arities : Stmt := topS 25
theorem sc__law_arities : FnScope ["_law_pen_here", "_law_found", "_law_turn"] ["_law_pen_here"] (defScope s__law_arities) := ⟨rfl, rfl, rfl, by decide +kernel, rfl, by decide +kernel, by decide +kernel⟩
def E1__law_arities : EF := fCall M__law_pick [.s 0, .v (fOv pLst [.v (fC (.int 0)), .v (fC (.int 1)), .v (fC (.int 2)), .v (fC (.int 2))])]
def b__law_arities : SF := fSeq (fSet 1 (fLc (fR1 (.v (fCall M__law_draw [.s 0, .v (fC (.int 4))]))) [2] (.nm 2) (fYes) (E1__law_arities)))
  (fSeq (fSet 1 (fOp (on2 pAdd) [.s 1, .v (fOp (on2 pMul) [.v (fOv pLst [.v (fC (.int 0))]), .v (fOp (on2 pAdd) [.v (fC (.int 1)), .v (fCall M__law_draw [.s 0, .v (fC (.int 2))])])])]))
  (fRet (fOp (on1 pTuple) [.v (fIf (fB (fOp (on2 pEq) [.v (fCall M__law_draw [.s 0, .v (fC (.int 2))]), .v (fC (.int 0))])) (fOp (on1 pRev) [.s 1]) (fV 1))])))
def M__law_arities : Fn := fnM 1 3 [0] b__law_arities
theorem ok__law_arities {f : Addr} {fd : FuncData} {k : Nat} (F : Fun K "_law_arities" "_law_arities" s__law_arities f fd) (hm : mg "_law_arities" = some (.ref f)) (hb : Binds K fd ["_law_pen_here"] []) (c__law_draw : CallOk P w K mg k "_law_draw" ["_law_pen_here", "_law_many"] M__law_draw) (c__law_pick : CallOk P w K mg k "_law_pick" ["_law_pen_here", "_law_some"] M__law_pick) (z_range : mg "range" = none) (z_tuple : mg "tuple" = none) : CallOk P w K mg (k + 1) "_law_arities" ["_law_pen_here"] M__law_arities :=
  callOk_of F hm hb fun base => fnD F sc__law_arities rfl rfl (by decide) fun cdv A outer s H qv E hgd hr => (dss_cons (ds_setLc (i := 1) (own := [("_law_turn", 2)]) (np1 rfl) (npn rfl) (by decide) rfl sc__law_arities.nd rfl rfl (sw_true rfl rfl rfl (by decide +kernel)) (di_r1 rfl z_range (da_cons (dx_v (dcall c__law_draw hgd hr rfl (passes_call (takes_of rfl rfl rfl rfl) (fun _ _ _ _ h => h)) (da_cons (dx_s 0 (pv 0)) (da_cons (dx_v de_int) da_nil)))) da_nil)) (blkOk_by (N := ["_law_pen_here", "_law_found", "_law_turn"]) (sc := defScope s__law_arities) (own := [("_law_turn", 2)]) (by decide +kernel)) (fun _ _ _ _ _ => (pg_name (i := 2) sc__law_arities.nd rfl (by first | exact .inl rfl | exact .inr rfl))) (fun _ _ _ _ _ => pts_yes) (fun _ _ _ _ _ => (dcall c__law_pick hgd hr rfl passL (da_cons (dx_s 0 (pv 0)) (da_cons (dx_v (de_lst (da_cons (dx_v de_int) (da_cons (dx_v de_int) (da_cons (dx_v de_int) (da_cons (dx_v de_int) da_nil)))))) da_nil)))))
    (dss_cons (ds_set (i := 1) sc__law_arities.nd rfl (by first | exact .inl rfl | exact .inr rfl) (np1 rfl) (de_op op_addA os_add (dx_s 1 (pv 1)) (dx_v (de_op op_mulA os_mul (dx_v (de_lst (da_cons (dx_v de_int) da_nil))) (dx_v (de_op op_addA os_add (dx_v de_int) (dx_v (dcall c__law_draw hgd hr rfl (passes_call (takes_of rfl rfl rfl rfl) (fun _ _ _ _ h => h)) (da_cons (dx_s 0 (pv 0)) (da_cons (dx_v de_int) da_nil))))))))))
    (dss_one (ds_ret (de_callTy call_tuple_of os_tuple rfl z_tuple bt_tuple (da_cons (dx_v (de_if (dt_cmp (op_eqA (ru64 hr)) os_eq (dx_v (dcall c__law_draw hgd hr rfl (passes_call (takes_of rfl rfl rfl rfl) (fun _ _ _ _ h => h)) (da_cons (dx_s 0 (pv 0)) (da_cons (dx_v de_int) da_nil)))) (dx_v de_int) (nomark _)) (de_rev (dx_s 1 (pv 1))) (de_v 1 (pv 1)))) da_nil))))))
/-! ### _law_written -/
abbrev s__law_written : Stmt := topS 26
theorem sc__law_written : FnScope ["_law_pen_here", "_law_arities_here", "_law_upto", "_law_leaves", "_law_found", "_law_turn", "_law_one", "_law_near", "_law_parts", "_law_arity", "_law_lap"] ["_law_pen_here", "_law_arities_here", "_law_upto"] (defScope s__law_written) := ⟨rfl, rfl, rfl, by decide +kernel, rfl, by decide +kernel, by decide +kernel⟩
def E1__law_written : EF := fV 6
def T1__law_written : TF := fB (fOp (on2 pEq) [.s 9, .v (fC (.int 0))])
def E2__law_written : EF := fOp (on2 pIx) [.v (fOv pLst [.v (fV 7), .v (fOp (on2 pSub) [.v (fOp (on1 pLen) [.s 4]), .v (fC (.int 1))]), .v (fCall M__law_draw [.s 0, .v (fOp (on1 pLen) [.s 4])])]), .v (fCall M__law_draw [.s 0, .v (fC (.int 3))])]
def L1__law_written : SF := fSeq (fSet 6 (fCall M__law_draw [.s 0, .v (fOp (on1 pLen) [.s 1])]))
  (fSeq (fSet 7 (fOp (pMax) [.v (fC (.int 0)), .v (fOp (on2 pSub) [.v (fOp (on2 pSub) [.v (fOp (on1 pLen) [.s 4]), .v (fC (.int 1))]), .v (fCall M__law_draw [.s 0, .v (fC (.int 3))])])]))
  (fSeq (fSet 8 (fLc (fR1 (.v (fC (.int 2)))) [10] (.nm 10) (fYes) (E2__law_written)))
  (fApp 4 (fOp (on2 pAdd) [.v (fOv pTup [.v (fV 6)]), .v (fOp (on1 pTuple) [.v (fOp (on2 pSl2h) [.s 8, .v (fOp (on2 pIx) [.s 1, .s 6])])])]))))
def b__law_written : SF := fSeq (fSet 3 (fLc (fEn (.v (fV 1))) [6, 9] (.tu [6, 9]) (T1__law_written) (E1__law_written)))
  (fSeq (fIfS (fB (fOp (on2 pEq) [.s 3, .v (fOv pLst [])])) (fRet (fC .none)) (fSkip))
  (fSeq (fSet 4 (fOv pLst [.v (fOv pTup [.v (fCall M__law_pick [.s 0, .v (fV 3)])])]))
  (fSeq (fForS (fR1 (.v (fCall M__law_draw [.s 0, .v (fV 2)]))) (.nm 5) (L1__law_written))
  (fRet (fOp (on1 pTuple) [.s 4])))))
def M__law_written : Fn := fnM 3 11 [0] b__law_written
theorem ok__law_written {f : Addr} {fd : FuncData} {k : Nat} (F : Fun K "_law_written" "_law_written" s__law_written f fd) (hm : mg "_law_written" = some (.ref f)) (hb : Binds K fd ["_law_pen_here", "_law_arities_here", "_law_upto"] []) (c__law_draw : CallOk P w K mg k "_law_draw" ["_law_pen_here", "_law_many"] M__law_draw) (c__law_pick : CallOk P w K mg k "_law_pick" ["_law_pen_here", "_law_some"] M__law_pick) (z_enumerate : mg "enumerate" = none) (z_len : mg "len" = none) (z_max : mg "max" = none) (z_range : mg "range" = none) (z_tuple : mg "tuple" = none) : CallOk P w K mg (k + 1) "_law_written" ["_law_pen_here", "_law_arities_here", "_law_upto"] M__law_written :=
  callOk_of F hm hb fun base => fnD F sc__law_written rfl rfl (by decide) fun cdv A outer s H qv E hgd hr => (dss_cons (ds_setLc (i := 3) (own := [("_law_one", 6), ("_law_arity", 9)]) (np1 rfl) (npn rfl) (by decide) rfl sc__law_written.nd rfl rfl (sw_true rfl rfl rfl (by decide +kernel)) (di_en rfl z_enumerate (da_cons (dx_v (de_v 1 (pv 1))) da_nil)) (blkOk_by (N := ["_law_pen_here", "_law_arities_here", "_law_upto", "_law_leaves", "_law_found", "_law_turn", "_law_one", "_law_near", "_law_parts", "_law_arity", "_law_lap"]) (sc := defScope s__law_written) (own := [("_law_one", 6), ("_law_arity", 9)]) (by decide +kernel)) (fun _ _ _ _ _ => (pg_tup rfl (pgs_cons (pg_name (i := 6) sc__law_written.nd rfl (by first | exact .inl rfl | exact .inr rfl)) (pgs_cons (pg_name (i := 9) sc__law_written.nd rfl (by first | exact .inl rfl | exact .inr rfl)) pgs_nil)))) (fun _ _ _ _ _ => (pts_one (dt_cmp (op_eqA (ru64 hr)) os_eq (dx_s 9 (pv 9)) (dx_v de_int) (nomark _)))) (fun _ _ _ _ _ => (de_v 6 (pv 6))))
    (dss_cons (ds_if (dt_cmp (op_eqA (ru64 hr)) os_eq (dx_s 3 (pv 3)) (dx_v (de_lst da_nil)) (nomark _)) (dss_one (ds_ret de_non)) dss_nil)
    (dss_cons (ds_set (i := 4) sc__law_written.nd rfl (by first | exact .inl rfl | exact .inr rfl) (np1 rfl) (de_lst (da_cons (dx_v (de_tup (da_cons (dx_v (dcall c__law_pick hgd hr rfl (passes_call (takes_of rfl rfl rfl rfl) (fun _ _ _ _ h => h)) (da_cons (dx_s 0 (pv 0)) (da_cons (dx_v (de_v 3 (pv 3))) da_nil)))) da_nil))) da_nil)))
    (dss_cons (ds_for (npn rfl) (passes_of rfl) rfl (di_r1 rfl z_range (da_cons (dx_v (dcall c__law_draw hgd hr rfl (passes_call (takes_of rfl rfl rfl rfl) (fun _ _ _ _ h => h)) (da_cons (dx_s 0 (pv 0)) (da_cons (dx_v (de_v 2 (pv 2))) da_nil)))) da_nil)) (pg_name (i := 5) sc__law_written.nd rfl (by first | exact .inl rfl | exact .inr rfl)) (dss_cons (ds_set (i := 6) sc__law_written.nd rfl (by first | exact .inl rfl | exact .inr rfl) (np1 rfl) (dcall c__law_draw hgd hr rfl (passes_call (takes_of rfl rfl rfl rfl) (fun _ _ _ _ h => h)) (da_cons (dx_s 0 (pv 0)) (da_cons (dx_v (de_callB call_len os_len rfl z_len bt_len (da_cons (dx_s 1 (pv 1)) da_nil))) da_nil))))
    (dss_cons (ds_set (i := 7) sc__law_written.nd rfl (by first | exact .inl rfl | exact .inr rfl) (np1 rfl) (de_callB (cl_max rfl) os_max rfl z_max bt_max (da_cons (dx_v de_int) (da_cons (dx_v (de_op op_sub os_sub (dx_v (de_op op_sub os_sub (dx_v (de_callB call_len os_len rfl z_len bt_len (da_cons (dx_s 4 (pv 4)) da_nil))) (dx_v de_int))) (dx_v (dcall c__law_draw hgd hr rfl (passes_call (takes_of rfl rfl rfl rfl) (fun _ _ _ _ h => h)) (da_cons (dx_s 0 (pv 0)) (da_cons (dx_v de_int) da_nil)))))) da_nil))))
    (dss_cons (ds_setLc (i := 8) (own := [("_law_lap", 10)]) (np1 rfl) (npn rfl) (by decide) rfl sc__law_written.nd rfl rfl (sw_true rfl rfl rfl (by decide +kernel)) (di_r1 rfl z_range (da_cons (dx_v de_int) da_nil)) (blkOk_by (N := ["_law_pen_here", "_law_arities_here", "_law_upto", "_law_leaves", "_law_found", "_law_turn", "_law_one", "_law_near", "_law_parts", "_law_arity", "_law_lap"]) (sc := defScope s__law_written) (own := [("_law_lap", 10)]) (by decide +kernel)) (fun _ _ _ _ _ => (pg_name (i := 10) sc__law_written.nd rfl (by first | exact .inl rfl | exact .inr rfl))) (fun _ _ _ _ _ => pts_yes) (fun _ _ _ _ _ => (de_ix ix_seq os_ix (dx_v (de_lst (da_cons (dx_v (de_v 7 (pv 7))) (da_cons (dx_v (de_op op_sub os_sub (dx_v (de_callB call_len os_len rfl z_len bt_len (da_cons (dx_s 4 (pv 4)) da_nil))) (dx_v de_int))) (da_cons (dx_v (dcall c__law_draw hgd hr rfl passL (da_cons (dx_s 0 (pv 0)) (da_cons (dx_v (de_callB call_len os_len rfl z_len bt_len (da_cons (dx_s 4 (pv 4)) da_nil))) da_nil)))) da_nil))))) (dx_v (dcall c__law_draw hgd hr rfl passL (da_cons (dx_s 0 (pv 0)) (da_cons (dx_v de_int) da_nil)))) (fun _ _ => rfl))))
    (dss_one (ds_app (pv 4) (de_op op_addA os_add (dx_v (de_tup (da_cons (dx_v (de_v 6 (pv 6))) da_nil))) (dx_v (de_callTy call_tuple_of os_tuple rfl z_tuple bt_tuple (da_cons (dx_v (de_slHi (dx_s 8 (pv 8)) (dx_v (de_ix ix_seq os_ix (dx_s 1 (pv 1)) (dx_s 6 (pv 6)) (fun _ _ => rfl))))) da_nil))))))))))
    (dss_one (ds_ret (de_callTy call_tuple_of os_tuple rfl z_tuple bt_tuple (da_cons (dx_s 4 (pv 4)) da_nil))))))))
/-! ### _law_due -/
abbrev s__law_due : Stmt := topS 27
theorem sc__law_due : FnScope ["_law_written_here", "_law_one", "_law_many", "_law_far", "_law_part"] ["_law_written_here"] (defScope s__law_due) := ⟨rfl, rfl, rfl, by decide +kernel, rfl, by decide +kernel, by decide +kernel⟩
def E1__law_due : EF := fOp (on2 pIx) [.s 2, .s 4]
def E2__law_due : EF := fOp (on2 pIx) [.s 3, .s 4]
def L1__law_due : SF := fSeq (fApp 2 (fOp (on2 pAdd) [.v (fC (.int 1)), .v (fOp (on1 pSum) [.v (fLc (fSq (.v (fOp (on2 pSl2l) [.s 1, .v (fC (.int 1))]))) [4] (.nm 4) (fYes) (E1__law_due))])]))
  (fApp 3 (fOp (on2 pAdd) [.v (fOp (pMax) [.v (fOp (on2 pAdd) [.v (fOv pLst [.v (fC (.int 0))]), .v (fLc (fSq (.v (fOp (on2 pSl2l) [.s 1, .v (fC (.int 1))]))) [4] (.nm 4) (fYes) (E2__law_due))])]), .v (fC (.int 1))]))
def b__law_due : SF := fSeq (fPar 2 3 (fOv pLst []) (fOv pLst []))
  (fSeq (fForS (fSq (.v (fV 0))) (.nm 1) (L1__law_due))
  (fRet (fOv pLst [.v (fOp (on2 pIx) [.s 2, .v (fOp (on1 pNeg) [.v (fC (.int 1))])]), .v (fOp (on2 pIx) [.s 3, .v (fOp (on1 pNeg) [.v (fC (.int 1))])])])))
def M__law_due : Fn := fnM 1 5 [] b__law_due
theorem ok__law_due {f : Addr} {fd : FuncData} {k : Nat} (F : Fun K "_law_due" "_law_due" s__law_due f fd) (hm : mg "_law_due" = some (.ref f)) (hb : Binds K fd ["_law_written_here"] []) (z_max : mg "max" = none) (z_sum : mg "sum" = none) : CallOk P w K mg (k + 1) "_law_due" ["_law_written_here"] M__law_due :=
  callOk_of F hm hb fun base => fnD F sc__law_due rfl rfl (by decide) fun cdv A outer s H qv E hgd hr => (dss_cons (ds_parC (i := 2) (j := 3) (np1 rfl) (np1 rfl) (pg_tup rfl (pgs_cons (pg_name (i := 2) sc__law_due.nd rfl (by first | exact .inl rfl | exact .inr rfl)) (pgs_cons (pg_name (i := 3) sc__law_due.nd rfl (by first | exact .inl rfl | exact .inr rfl)) pgs_nil))) (de_lst da_nil) (de_lst da_nil))
    (dss_cons (ds_for (npn rfl) (passes_of rfl) rfl (di_seq (dx_v (de_v 0 (pv 0)))) (pg_name (i := 1) sc__law_due.nd rfl (by first | exact .inl rfl | exact .inr rfl)) (dss_cons (ds_app (pv 2) (de_op op_addA os_add (dx_v de_int) (dx_v (de_callB (cr_sum rfl) os_sum rfl z_sum bt_sum (da_cons (dx_v (de_lc (own := [("_law_part", 4)]) (npn rfl) (by decide) rfl sc__law_due.nd (di_seq (dx_v (de_slLo (dx_s 1 (pv 1)) (dx_v de_int)))) (blkOk_by (N := ["_law_written_here", "_law_one", "_law_many", "_law_far", "_law_part"]) (sc := defScope s__law_due) (own := [("_law_part", 4)]) (by decide +kernel)) (fun _ _ _ _ _ => (pg_name (i := 4) sc__law_due.nd rfl (by first | exact .inl rfl | exact .inr rfl))) (fun _ _ _ _ _ => pts_yes) (fun _ _ _ _ _ => (de_ix ix_seq os_ix (dx_s 2 (pv 2)) (dx_s 4 (pv 4)) (fun _ _ => rfl))))) da_nil)))))
    (dss_one (ds_app (pv 3) (de_op op_addA os_add (dx_v (de_callB (cl_max rfl) os_max rfl z_max bt_max (da_cons (dx_v (de_op op_addA os_add (dx_v (de_lst (da_cons (dx_v de_int) da_nil))) (dx_v (de_lc (own := [("_law_part", 4)]) (npn rfl) (by decide) rfl sc__law_due.nd (di_seq (dx_v (de_slLo (dx_s 1 (pv 1)) (dx_v de_int)))) (blkOk_by (N := ["_law_written_here", "_law_one", "_law_many", "_law_far", "_law_part"]) (sc := defScope s__law_due) (own := [("_law_part", 4)]) (by decide +kernel)) (fun _ _ _ _ _ => (pg_name (i := 4) sc__law_due.nd rfl (by first | exact .inl rfl | exact .inr rfl))) (fun _ _ _ _ _ => pts_yes) (fun _ _ _ _ _ => (de_ix ix_seq os_ix (dx_s 3 (pv 3)) (dx_s 4 (pv 4)) (fun _ _ => rfl))))))) da_nil))) (dx_v de_int))))))
    (dss_one (ds_ret (de_lst (da_cons (dx_v (de_ix ix_seq os_ix (dx_s 2 (pv 2)) (dx_v (de_un un_neg os_neg (dx_v de_int))) (fun _ _ => rfl))) (da_cons (dx_v (de_ix ix_seq os_ix (dx_s 3 (pv 3)) (dx_v (de_un un_neg os_neg (dx_v de_int))) (fun _ _ => rfl))) da_nil)))))))
/-! ### _law_same -/
abbrev s__law_same : Stmt := topS 24
theorem sc__law_same : FnScope ["_law_found", "_law_due_here"] ["_law_found", "_law_due_here"] (defScope s__law_same) := ⟨rfl, rfl, rfl, by decide +kernel, rfl, by decide +kernel, by decide +kernel⟩
def b__law_same : SF := fRet (fOp (on2 pEq) [.v (fOp (on1 pRepr) [.s 0]), .v (fOp (on1 pRepr) [.s 1])])
def M__law_same : Fn := fnM 2 2 [] b__law_same
theorem ok__law_same {f : Addr} {fd : FuncData} {k : Nat} (F : Fun K "_law_same" "_law_same" s__law_same f fd) (hm : mg "_law_same" = some (.ref f)) (hb : Binds K fd ["_law_found", "_law_due_here"] []) (z_repr : mg "repr" = none) : CallOk P w K mg (k + 1) "_law_same" ["_law_found", "_law_due_here"] M__law_same :=
  callOk_of F hm hb fun base => fnD F sc__law_same rfl rfl (by decide) fun cdv A outer s H qv E hgd hr => (dss_one (ds_ret (de_cmp (op_eqA (ru64 hr)) os_eq (dx_v (de_callB (cr_repr hgd hr) os_repr rfl z_repr bt_repr (da_cons (dx_s 0 (pv 0)) da_nil))) (dx_v (de_callB (cr_repr hgd hr) os_repr rfl z_repr bt_repr (da_cons (dx_s 1 (pv 1)) da_nil))) (nomark _))))
/-! ### law -/
abbrev s_law : Stmt := topS 28
theorem sc_law : FnScope ["_law_script", "_law_full", "_law_k", "_law_pen_here", "_law_lap", "_law_arities_here", "_law_written_here", "_law_turn", "_law_kept", "_law_due_here", "_law_at"] ["_law_script"] (defScope s_law) := ⟨rfl, rfl, rfl, by decide +kernel, rfl, by decide +kernel, by decide +kernel⟩
def E1_law : EF := fOv pTup [.v (fC (.int 1)), .v (fV 10), .v (fV 10)]
def L1_law : SF := fIfS (fNot (fB (fCall M__law_same [.v (fOv pLst [.v (fCall M_nodes [.v (fV 5), .v (fV 6)]), .v (fCall M_height [.v (fV 5), .v (fV 6)])]), .v (fV 9)]))) (fRet (fC (.bool false))) (fSkip)
def L2_law : SF := fSeq (fSet 5 (fCall M__law_arities [.s 3]))
  (fSeq (fSet 6 (fCall M__law_written [.s 3, .v (fV 5), .v (fOp (on2 pIx) [.v (fOv pLst [.v (fC (.int 4)), .v (fC (.int 12)), .v (fC (.int 100))]), .v (fOp (on2 pMod) [.s 4, .v (fC (.int 3))])])]))
  (fSeq (fPar 8 9 (fOp (on1 pRepr) [.s 6]) (fCall M__law_due [.v (fV 6)]))
  (fSeq (fForS (fR1 (.v (fC (.int 2)))) (.nm 7) (L1_law))
  (fIfS (fB (fOp (on2 pNe) [.v (fOp (on1 pRepr) [.s 6]), .s 8])) (fRet (fC (.bool false))) (fSkip)))))
def L3_law : SF := fSeq (fSet 3 (fCall M__law_pen [.v (fCall M__law_cell [.v (fV 0), .v (fV 2)])]))
  (fForS (fR1 (.v (fC (.int 14)))) (.nm 4) (L2_law))
def b_law : SF := fSeq (fSet 1 (fOp (on2 pAdd) [.v (fOv pTup [.v (fOv pTup [.v (fC (.int 0))])]), .v (fOp (on1 pTuple) [.v (fLc (fR1 (.v (fC (.int 99)))) [10] (.nm 10) (fYes) (E1_law))])]))
  (fSeq (fIfS (fB (fOp (on2 pNe) [.v (fOv pLst [.v (fCall M_nodes [.v (fOv pTup [.v (fC (.int 0)), .v (fC (.int 2))]), .v (fV 1)]), .v (fCall M_height [.v (fOv pTup [.v (fC (.int 0)), .v (fC (.int 2))]), .v (fV 1)])]), .v (fOv pLst [.v (fOp (on2 pSub) [.v (fOp (on2 pMul) [.v (fOp (on2 pPow) [.v (fC (.int 2)), .v (fC (.int 64))]), .v (fOp (on2 pPow) [.v (fC (.int 2)), .v (fC (.int 36))])]), .v (fC (.int 1))]), .v (fC (.int 100))])])) (fRet (fC (.bool false))) (fSkip))
  (fSeq (fForS (fR1 (.v (fOp (pMax) [.v (fC (.int 1)), .v (fOp (pMin) [.v (fOp (on1 pLen) [.s 0]), .v (fC (.int 3))])]))) (.nm 2) (L3_law))
  (fRet (fC (.bool true)))))
def M_law : Fn := fnM 1 11 [] b_law
theorem fn_law {f : Addr} {fd : FuncData} {k : Nat} (F : Fun K "law" "law" s_law f fd) {base : Heap} (c__law_arities : CallOk P w K mg k "_law_arities" ["_law_pen_here"] M__law_arities) (c__law_cell : CallOk P w K mg k "_law_cell" ["_law_script", "_law_k"] M__law_cell) (c__law_due : CallOk P w K mg k "_law_due" ["_law_written_here"] M__law_due) (c__law_pen : CallOk P w K mg k "_law_pen" ["_law_cell_here"] M__law_pen) (c__law_same : CallOk P w K mg k "_law_same" ["_law_found", "_law_due_here"] M__law_same) (c__law_written : CallOk P w K mg k "_law_written" ["_law_pen_here", "_law_arities_here", "_law_upto"] M__law_written) (c_height : CallOk P w K mg k "height" ["arities", "tree"] M_height) (c_nodes : CallOk P w K mg k "nodes" ["arities", "tree"] M_nodes) (z_len : mg "len" = none) (z_max : mg "max" = none) (z_min : mg "min" = none) (z_range : mg "range" = none) (z_repr : mg "repr" = none) (z_tuple : mg "tuple" = none) : FnG P w K mg base (k + 1) f fd ["_law_script"] (spD K mg M_law) :=
  fnD F sc_law rfl rfl (by decide) fun cdv A outer s H qv E hgd hr => (dss_cons (ds_set (i := 1) sc_law.nd rfl (by first | exact .inl rfl | exact .inr rfl) (np1 rfl) (de_op op_addA os_add (dx_v (de_tup (da_cons (dx_v (de_tup (da_cons (dx_v de_int) da_nil))) da_nil))) (dx_v (de_callTy call_tuple_of os_tuple rfl z_tuple bt_tuple (da_cons (dx_v (de_lc (own := [("_law_at", 10)]) (npn rfl) (by decide) rfl sc_law.nd (di_r1 rfl z_range (da_cons (dx_v de_int) da_nil)) (blkOk_by (N := ["_law_script", "_law_full", "_law_k", "_law_pen_here", "_law_lap", "_law_arities_here", "_law_written_here", "_law_turn", "_law_kept", "_law_due_here", "_law_at"]) (sc := defScope s_law) (own := [("_law_at", 10)]) (by decide +kernel)) (fun _ _ _ _ _ => (pg_name (i := 10) sc_law.nd rfl (by first | exact .inl rfl | exact .inr rfl))) (fun _ _ _ _ _ => pts_yes) (fun _ _ _ _ _ => (de_tup (da_cons (dx_v de_int) (da_cons (dx_v (de_v 10 (pv 10))) (da_cons (dx_v (de_v 10 (pv 10))) da_nil))))))) da_nil)))))
    (dss_cons (ds_if (dt_cmp (op_neA (ru64 hr)) os_ne (dx_v (de_lst (da_cons (dx_v (dcall c_nodes hgd hr rfl (passes_call (takes_of rfl rfl rfl rfl) (fun _ _ _ _ h => h)) (da_cons (dx_v (de_tup (da_cons (dx_v de_int) (da_cons (dx_v de_int) da_nil)))) (da_cons (dx_v (de_v 1 (pv 1))) da_nil)))) (da_cons (dx_v (dcall c_height hgd hr rfl (passes_call (takes_of rfl rfl rfl rfl) (fun _ _ _ _ h => h)) (da_cons (dx_v (de_tup (da_cons (dx_v de_int) (da_cons (dx_v de_int) da_nil)))) (da_cons (dx_v (de_v 1 (pv 1))) da_nil)))) da_nil)))) (dx_v (de_lst (da_cons (dx_v (de_op op_sub os_sub (dx_v (de_op op_mulA os_mul (dx_v (de_op op_pow os_pow (dx_v de_int) (dx_v de_int))) (dx_v (de_op op_pow os_pow (dx_v de_int) (dx_v de_int))))) (dx_v de_int))) (da_cons (dx_v de_int) da_nil)))) (nomark _)) (dss_one (ds_ret de_bl)) dss_nil)
    (dss_cons (ds_for (npn rfl) (passes_of rfl) rfl (di_r1 rfl z_range (da_cons (dx_v (de_callB (cl_max rfl) os_max rfl z_max bt_max (da_cons (dx_v de_int) (da_cons (dx_v (de_callB (cl_min rfl) os_min rfl z_min bt_min (da_cons (dx_v (de_callB call_len os_len rfl z_len bt_len (da_cons (dx_s 0 (pv 0)) da_nil))) (da_cons (dx_v de_int) da_nil)))) da_nil)))) da_nil)) (pg_name (i := 2) sc_law.nd rfl (by first | exact .inl rfl | exact .inr rfl)) (dss_cons (ds_set (i := 3) sc_law.nd rfl (by first | exact .inl rfl | exact .inr rfl) (np1 rfl) (dcall c__law_pen hgd hr rfl (passes_call (takes_of rfl rfl rfl rfl) (fun _ _ _ _ h => h)) (da_cons (dx_v (dcall c__law_cell hgd hr rfl (passes_call (takes_of rfl rfl rfl rfl) (fun _ _ _ _ h => h)) (da_cons (dx_v (de_v 0 (pv 0))) (da_cons (dx_v (de_v 2 (pv 2))) da_nil)))) da_nil)))
    (dss_one (ds_for (npn rfl) (passes_of rfl) rfl (di_r1 rfl z_range (da_cons (dx_v de_int) da_nil)) (pg_name (i := 4) sc_law.nd rfl (by first | exact .inl rfl | exact .inr rfl)) (dss_cons (ds_set (i := 5) sc_law.nd rfl (by first | exact .inl rfl | exact .inr rfl) (np1 rfl) (dcall c__law_arities hgd hr rfl (passes_call (takes_of rfl rfl rfl rfl) (fun _ _ _ _ h => h)) (da_cons (dx_s 3 (pv 3)) da_nil)))
    (dss_cons (ds_set (i := 6) sc_law.nd rfl (by first | exact .inl rfl | exact .inr rfl) (np1 rfl) (dcall c__law_written hgd hr rfl (passes_call (takes_of rfl rfl rfl rfl) (fun _ _ _ _ h => h)) (da_cons (dx_s 3 (pv 3)) (da_cons (dx_v (de_v 5 (pv 5))) (da_cons (dx_v (de_ix ix_seq os_ix (dx_v (de_lst (da_cons (dx_v de_int) (da_cons (dx_v de_int) (da_cons (dx_v de_int) da_nil))))) (dx_v (de_op op_mod os_mod (dx_s 4 (pv 4)) (dx_v de_int))) (fun _ _ => rfl))) da_nil)))))
    (dss_cons (ds_par (i := 8) (j := 9) (np1 rfl) (np1 rfl) rfl sc_law.nd rfl rfl (by decide) rfl rfl (de_callB (cr_repr hgd hr) os_repr rfl z_repr bt_repr (da_cons (dx_s 6 (pv 6)) da_nil)) (dcall c__law_due hgd hr rfl (passes_call (takes_of rfl rfl rfl rfl) (fun _ _ _ _ h => h)) (da_cons (dx_v (de_v 6 (pv 6))) da_nil)))
    (dss_cons (ds_for (npn rfl) (passes_of rfl) rfl (di_r1 rfl z_range (da_cons (dx_v de_int) da_nil)) (pg_name (i := 7) sc_law.nd rfl (by first | exact .inl rfl | exact .inr rfl)) (dss_one (ds_if (dt_not (dt_val (dcall c__law_same hgd hr rfl (passes_call (takes_of rfl rfl rfl rfl) (fun _ _ _ _ h => h)) (da_cons (dx_v (de_lst (da_cons (dx_v (dcall c_nodes hgd hr rfl (passes_call (takes_of rfl rfl rfl rfl) (fun _ _ _ _ h => h)) (da_cons (dx_v (de_v 5 (pv 5))) (da_cons (dx_v (de_v 6 (pv 6))) da_nil)))) (da_cons (dx_v (dcall c_height hgd hr rfl (passes_call (takes_of rfl rfl rfl rfl) (fun _ _ _ _ h => h)) (da_cons (dx_v (de_v 5 (pv 5))) (da_cons (dx_v (de_v 6 (pv 6))) da_nil)))) da_nil)))) (da_cons (dx_v (de_v 9 (pv 9))) da_nil))))) (dss_one (ds_ret de_bl)) dss_nil)))
    (dss_one (ds_if (dt_cmp (op_neA (ru64 hr)) os_ne (dx_v (de_callB (cr_repr hgd hr) os_repr rfl z_repr bt_repr (da_cons (dx_s 6 (pv 6)) da_nil))) (dx_s 8 (pv 8)) (nomark _)) (dss_one (ds_ret de_bl)) dss_nil))))))))))
    (dss_one (ds_ret de_bl)))))
end
theorem all_mk {l : PySem.W.OpenLaw} {w : World} {K : PySem.W.Frag} {h : Heap} {mg : Str → Option Value} {fa : Addr} (X : K.In h) (G : h.Ns mainGlobals mg) (hfa : mg "law" = some (.ref fa))
    {f0 : Addr} {od0 an0 : Option Addr} {sl0 : Array (Option Value)} {oc0 kV0 dc0 pm0 cd0 ct0 : Value} (a0 : PySem.W.nsIn K mainGlobals "_law_pen" = some (some (.ref f0))) (l0 : K.lookup f0 = some ⟨oc0, od0, .func (PySem.W.fnOf "_law_pen" "_law_pen" (defArgs s__law_pen) (defBody s__law_pen) (defScope s__law_pen) .none kV0 dc0 pm0 an0 cd0 ct0), sl0⟩) (c0 : PySem.W.codeIn K cd0 "_law_pen" = true) (k0 : PySem.W.keepIn K (.ref f0) = true)
    {f1 : Addr} {od1 an1 : Option Addr} {sl1 : Array (Option Value)} {oc1 kV1 dc1 pm1 cd1 ct1 : Value} (a1 : PySem.W.nsIn K mainGlobals "is_between" = some (some (.ref f1))) (l1 : K.lookup f1 = some ⟨oc1, od1, .func (PySem.W.fnOf "is_between" "is_between" (defArgs s_is_between) (defBody s_is_between) (defScope s_is_between) .none kV1 dc1 pm1 an1 cd1 ct1), sl1⟩) (c1 : PySem.W.codeIn K cd1 "is_between" = true) (k1 : PySem.W.keepIn K (.ref f1) = true)
    {f2 : Addr} {od2 an2 : Option Addr} {sl2 : Array (Option Value)} {oc2 kV2 dc2 pm2 cd2 ct2 : Value} (a2 : PySem.W.nsIn K mainGlobals "is_arities" = some (some (.ref f2))) (l2 : K.lookup f2 = some ⟨oc2, od2, .func (PySem.W.fnOf "is_arities" "is_arities" (defArgs s_is_arities) (defBody s_is_arities) (defScope s_is_arities) .none kV2 dc2 pm2 an2 cd2 ct2), sl2⟩) (c2 : PySem.W.codeIn K cd2 "is_arities" = true) (k2 : PySem.W.keepIn K (.ref f2) = true)
    {f3 : Addr} {od3 an3 : Option Addr} {sl3 : Array (Option Value)} {oc3 kV3 dc3 pm3 cd3 ct3 : Value} (a3 : PySem.W.nsIn K mainGlobals "need_arities" = some (some (.ref f3))) (l3 : K.lookup f3 = some ⟨oc3, od3, .func (PySem.W.fnOf "need_arities" "need_arities" (defArgs s_need_arities) (defBody s_need_arities) (defScope s_need_arities) .none kV3 dc3 pm3 an3 cd3 ct3), sl3⟩) (c3 : PySem.W.codeIn K cd3 "need_arities" = true) (k3 : PySem.W.keepIn K (.ref f3) = true)
    {f4 : Addr} {od4 an4 : Option Addr} {sl4 : Array (Option Value)} {oc4 kV4 dc4 pm4 cd4 ct4 : Value} (a4 : PySem.W.nsIn K mainGlobals "is_node" = some (some (.ref f4))) (l4 : K.lookup f4 = some ⟨oc4, od4, .func (PySem.W.fnOf "is_node" "is_node" (defArgs s_is_node) (defBody s_is_node) (defScope s_is_node) .none kV4 dc4 pm4 an4 cd4 ct4), sl4⟩) (c4 : PySem.W.codeIn K cd4 "is_node" = true) (k4 : PySem.W.keepIn K (.ref f4) = true)
    {f5 : Addr} {od5 an5 : Option Addr} {sl5 : Array (Option Value)} {oc5 kV5 dc5 pm5 cd5 ct5 : Value} (a5 : PySem.W.nsIn K mainGlobals "is_written" = some (some (.ref f5))) (l5 : K.lookup f5 = some ⟨oc5, od5, .func (PySem.W.fnOf "is_written" "is_written" (defArgs s_is_written) (defBody s_is_written) (defScope s_is_written) .none kV5 dc5 pm5 an5 cd5 ct5), sl5⟩) (c5 : PySem.W.codeIn K cd5 "is_written" = true) (k5 : PySem.W.keepIn K (.ref f5) = true)
    {f6 : Addr} {od6 an6 : Option Addr} {sl6 : Array (Option Value)} {oc6 kV6 dc6 pm6 cd6 ct6 : Value} (a6 : PySem.W.nsIn K mainGlobals "need_tree" = some (some (.ref f6))) (l6 : K.lookup f6 = some ⟨oc6, od6, .func (PySem.W.fnOf "need_tree" "need_tree" (defArgs s_need_tree) (defBody s_need_tree) (defScope s_need_tree) .none kV6 dc6 pm6 an6 cd6 ct6), sl6⟩) (c6 : PySem.W.codeIn K cd6 "need_tree" = true) (k6 : PySem.W.keepIn K (.ref f6) = true)
    {f7 : Addr} {od7 an7 : Option Addr} {sl7 : Array (Option Value)} {oc7 kV7 dc7 pm7 cd7 ct7 : Value} (a7 : PySem.W.nsIn K mainGlobals "need_both" = some (some (.ref f7))) (l7 : K.lookup f7 = some ⟨oc7, od7, .func (PySem.W.fnOf "need_both" "need_both" (defArgs s_need_both) (defBody s_need_both) (defScope s_need_both) .none kV7 dc7 pm7 an7 cd7 ct7), sl7⟩) (c7 : PySem.W.codeIn K cd7 "need_both" = true) (k7 : PySem.W.keepIn K (.ref f7) = true)
    {f8 : Addr} {od8 an8 : Option Addr} {sl8 : Array (Option Value)} {oc8 kV8 dc8 pm8 cd8 ct8 : Value} (a8 : PySem.W.nsIn K mainGlobals "amounts" = some (some (.ref f8))) (l8 : K.lookup f8 = some ⟨oc8, od8, .func (PySem.W.fnOf "amounts" "amounts" (defArgs s_amounts) (defBody s_amounts) (defScope s_amounts) .none kV8 dc8 pm8 an8 cd8 ct8), sl8⟩) (c8 : PySem.W.codeIn K cd8 "amounts" = true) (k8 : PySem.W.keepIn K (.ref f8) = true)
    {f9 : Addr} {od9 an9 : Option Addr} {sl9 : Array (Option Value)} {oc9 kV9 dc9 pm9 cd9 ct9 : Value} (a9 : PySem.W.nsIn K mainGlobals "nodes" = some (some (.ref f9))) (l9 : K.lookup f9 = some ⟨oc9, od9, .func (PySem.W.fnOf "nodes" "nodes" (defArgs s_nodes) (defBody s_nodes) (defScope s_nodes) .none kV9 dc9 pm9 an9 cd9 ct9), sl9⟩) (c9 : PySem.W.codeIn K cd9 "nodes" = true) (k9 : PySem.W.keepIn K (.ref f9) = true)
    {f10 : Addr} {od10 an10 : Option Addr} {sl10 : Array (Option Value)} {oc10 kV10 dc10 pm10 cd10 ct10 : Value} (a10 : PySem.W.nsIn K mainGlobals "heights" = some (some (.ref f10))) (l10 : K.lookup f10 = some ⟨oc10, od10, .func (PySem.W.fnOf "heights" "heights" (defArgs s_heights) (defBody s_heights) (defScope s_heights) .none kV10 dc10 pm10 an10 cd10 ct10), sl10⟩) (c10 : PySem.W.codeIn K cd10 "heights" = true) (k10 : PySem.W.keepIn K (.ref f10) = true)
    {f11 : Addr} {od11 an11 : Option Addr} {sl11 : Array (Option Value)} {oc11 kV11 dc11 pm11 cd11 ct11 : Value} (a11 : PySem.W.nsIn K mainGlobals "height" = some (some (.ref f11))) (l11 : K.lookup f11 = some ⟨oc11, od11, .func (PySem.W.fnOf "height" "height" (defArgs s_height) (defBody s_height) (defScope s_height) .none kV11 dc11 pm11 an11 cd11 ct11), sl11⟩) (c11 : PySem.W.codeIn K cd11 "height" = true) (k11 : PySem.W.keepIn K (.ref f11) = true)
    {f12 : Addr} {od12 an12 : Option Addr} {sl12 : Array (Option Value)} {oc12 kV12 dc12 pm12 cd12 ct12 : Value} (a12 : PySem.W.nsIn K mainGlobals "_law_cell" = some (some (.ref f12))) (l12 : K.lookup f12 = some ⟨oc12, od12, .func (PySem.W.fnOf "_law_cell" "_law_cell" (defArgs s__law_cell) (defBody s__law_cell) (defScope s__law_cell) .none kV12 dc12 pm12 an12 cd12 ct12), sl12⟩) (c12 : PySem.W.codeIn K cd12 "_law_cell" = true) (k12 : PySem.W.keepIn K (.ref f12) = true)
    {f13 : Addr} {od13 an13 : Option Addr} {sl13 : Array (Option Value)} {oc13 kV13 dc13 pm13 cd13 ct13 : Value} (a13 : PySem.W.nsIn K mainGlobals "_law_draw" = some (some (.ref f13))) (l13 : K.lookup f13 = some ⟨oc13, od13, .func (PySem.W.fnOf "_law_draw" "_law_draw" (defArgs s__law_draw) (defBody s__law_draw) (defScope s__law_draw) .none kV13 dc13 pm13 an13 cd13 ct13), sl13⟩) (c13 : PySem.W.codeIn K cd13 "_law_draw" = true) (k13 : PySem.W.keepIn K (.ref f13) = true)
    {f14 : Addr} {od14 an14 : Option Addr} {sl14 : Array (Option Value)} {oc14 kV14 dc14 pm14 cd14 ct14 : Value} (a14 : PySem.W.nsIn K mainGlobals "_law_pick" = some (some (.ref f14))) (l14 : K.lookup f14 = some ⟨oc14, od14, .func (PySem.W.fnOf "_law_pick" "_law_pick" (defArgs s__law_pick) (defBody s__law_pick) (defScope s__law_pick) .none kV14 dc14 pm14 an14 cd14 ct14), sl14⟩) (c14 : PySem.W.codeIn K cd14 "_law_pick" = true) (k14 : PySem.W.keepIn K (.ref f14) = true)
    {f15 : Addr} {od15 an15 : Option Addr} {sl15 : Array (Option Value)} {oc15 kV15 dc15 pm15 cd15 ct15 : Value} (a15 : PySem.W.nsIn K mainGlobals "_law_arities" = some (some (.ref f15))) (l15 : K.lookup f15 = some ⟨oc15, od15, .func (PySem.W.fnOf "_law_arities" "_law_arities" (defArgs s__law_arities) (defBody s__law_arities) (defScope s__law_arities) .none kV15 dc15 pm15 an15 cd15 ct15), sl15⟩) (c15 : PySem.W.codeIn K cd15 "_law_arities" = true) (k15 : PySem.W.keepIn K (.ref f15) = true)
    {f16 : Addr} {od16 an16 : Option Addr} {sl16 : Array (Option Value)} {oc16 kV16 dc16 pm16 cd16 ct16 : Value} (a16 : PySem.W.nsIn K mainGlobals "_law_written" = some (some (.ref f16))) (l16 : K.lookup f16 = some ⟨oc16, od16, .func (PySem.W.fnOf "_law_written" "_law_written" (defArgs s__law_written) (defBody s__law_written) (defScope s__law_written) .none kV16 dc16 pm16 an16 cd16 ct16), sl16⟩) (c16 : PySem.W.codeIn K cd16 "_law_written" = true) (k16 : PySem.W.keepIn K (.ref f16) = true)
    {f17 : Addr} {od17 an17 : Option Addr} {sl17 : Array (Option Value)} {oc17 kV17 dc17 pm17 cd17 ct17 : Value} (a17 : PySem.W.nsIn K mainGlobals "_law_due" = some (some (.ref f17))) (l17 : K.lookup f17 = some ⟨oc17, od17, .func (PySem.W.fnOf "_law_due" "_law_due" (defArgs s__law_due) (defBody s__law_due) (defScope s__law_due) .none kV17 dc17 pm17 an17 cd17 ct17), sl17⟩) (c17 : PySem.W.codeIn K cd17 "_law_due" = true) (k17 : PySem.W.keepIn K (.ref f17) = true)
    {f18 : Addr} {od18 an18 : Option Addr} {sl18 : Array (Option Value)} {oc18 kV18 dc18 pm18 cd18 ct18 : Value} (a18 : PySem.W.nsIn K mainGlobals "_law_same" = some (some (.ref f18))) (l18 : K.lookup f18 = some ⟨oc18, od18, .func (PySem.W.fnOf "_law_same" "_law_same" (defArgs s__law_same) (defBody s__law_same) (defScope s__law_same) .none kV18 dc18 pm18 an18 cd18 ct18), sl18⟩) (c18 : PySem.W.codeIn K cd18 "_law_same" = true) (k18 : PySem.W.keepIn K (.ref f18) = true)
    {f19 : Addr} {od19 an19 : Option Addr} {sl19 : Array (Option Value)} {oc19 kV19 dc19 pm19 cd19 ct19 : Value} (a19 : PySem.W.nsIn K mainGlobals "law" = some (some (.ref f19))) (l19 : K.lookup f19 = some ⟨oc19, od19, .func (PySem.W.fnOf "law" "law" (defArgs s_law) (defBody s_law) (defScope s_law) .none kV19 dc19 pm19 an19 cd19 ct19), sl19⟩) (c19 : PySem.W.codeIn K cd19 "law" = true) (k19 : PySem.W.keepIn K (.ref f19) = true)
    (z_all : PySem.W.nsIn K mainGlobals "all" = some none)
    (z_bool : PySem.W.nsIn K mainGlobals "bool" = some none)
    (z_enumerate : PySem.W.nsIn K mainGlobals "enumerate" = some none)
    (z_int : PySem.W.nsIn K mainGlobals "int" = some none)
    (z_isinstance : PySem.W.nsIn K mainGlobals "isinstance" = some none)
    (z_len : PySem.W.nsIn K mainGlobals "len" = some none)
    (z_max : PySem.W.nsIn K mainGlobals "max" = some none)
    (z_min : PySem.W.nsIn K mainGlobals "min" = some none)
    (z_range : PySem.W.nsIn K mainGlobals "range" = some none)
    (z_repr : PySem.W.nsIn K mainGlobals "repr" = some none)
    (z_sum : PySem.W.nsIn K mainGlobals "sum" = some none)
    (z_tuple : PySem.W.nsIn K mainGlobals "tuple" = some none)
    {t_MOST_ARITY : Tok} (g_MOST_ARITY : PySem.W.nsIn K mainGlobals "MOST_ARITY" = some (some (.int 2 t_MOST_ARITY)))
    {t_MOST_OPERATORS : Tok} (g_MOST_OPERATORS : PySem.W.nsIn K mainGlobals "MOST_OPERATORS" = some (some (.int 6 t_MOST_OPERATORS)))
    : ∃ fd : FuncData, (∀ (s : Shared) (v : Value), BindsTo s fd ⟨[v], []⟩ [("_law_script", v)]) ∧ ∀ base : Heap, K.In base → base.Ns mainGlobals mg → FnG l.prog w K mg base 7 fa fd ["_law_script"] (spD K mg M_law) := by
  have e := hfa.symm.trans (PySem.W.mg_of X G a19)
  cases e
  have F0 := fun_mk (st := s__law_pen) l0 c0 k0
  have b0 := F0.binds (ps := ["_law_cell_here"]) fun _ _ _ _ _ _ us hl => match us, hl with | [_], _ => rfl
  have C__law_pen : CallOk l.prog w K mg 1 "_law_pen" ["_law_cell_here"] M__law_pen := ok__law_pen (k := 0) F0 (PySem.W.mg_of X G a0) b0 (PySem.W.mg_none_of X G z_max)
  have F1 := fun_mk (st := s_is_between) l1 c1 k1
  have b1 := F1.binds (ps := ["thing", "low", "high"]) fun _ _ _ _ _ _ us hl => match us, hl with | [_, _, _], _ => rfl
  have C_is_between : CallOk l.prog w K mg 1 "is_between" ["thing", "low", "high"] M_is_between := ok_is_between (k := 0) F1 (PySem.W.mg_of X G a1) b1 (PySem.W.mg_none_of X G z_bool) (PySem.W.mg_none_of X G z_int) (PySem.W.mg_none_of X G z_isinstance)
  have F2 := fun_mk (st := s_is_arities) l2 c2 k2
  have b2 := F2.binds (ps := ["thing"]) fun _ _ _ _ _ _ us hl => match us, hl with | [_], _ => rfl
  have C_is_arities : CallOk l.prog w K mg 2 "is_arities" ["thing"] M_is_arities := ok_is_arities (k := 1) F2 (PySem.W.mg_of X G a2) b2 (C_is_between.mono (by decide)) (PySem.W.mg_none_of X G z_all) (PySem.W.mg_none_of X G z_isinstance) (PySem.W.mg_none_of X G z_len) (PySem.W.mg_none_of X G z_tuple) (PySem.W.mg_of X G g_MOST_ARITY) (PySem.W.mg_of X G g_MOST_OPERATORS)
  have F3 := fun_mk (st := s_need_arities) l3 c3 k3
  have b3 := F3.binds (ps := ["thing"]) fun _ _ _ _ _ _ us hl => match us, hl with | [_], _ => rfl
  have C_need_arities : CallOk l.prog w K mg 3 "need_arities" ["thing"] M_need_arities := ok_need_arities (k := 2) F3 (PySem.W.mg_of X G a3) b3 (C_is_arities.mono (by decide))
  have F4 := fun_mk (st := s_is_node) l4 c4 k4
  have b4 := F4.binds (ps := ["arities", "thing", "before"]) fun _ _ _ _ _ _ us hl => match us, hl with | [_, _, _], _ => rfl
  have C_is_node : CallOk l.prog w K mg 2 "is_node" ["arities", "thing", "before"] M_is_node := ok_is_node (k := 1) F4 (PySem.W.mg_of X G a4) b4 (C_is_between.mono (by decide)) (PySem.W.mg_none_of X G z_all) (PySem.W.mg_none_of X G z_isinstance) (PySem.W.mg_none_of X G z_len) (PySem.W.mg_none_of X G z_tuple)
  have F5 := fun_mk (st := s_is_written) l5 c5 k5
  have b5 := F5.binds (ps := ["arities", "thing"]) fun _ _ _ _ _ _ us hl => match us, hl with | [_, _], _ => rfl
  have C_is_written : CallOk l.prog w K mg 3 "is_written" ["arities", "thing"] M_is_written := ok_is_written (k := 2) F5 (PySem.W.mg_of X G a5) b5 (C_is_node.mono (by decide)) (PySem.W.mg_none_of X G z_all) (PySem.W.mg_none_of X G z_enumerate) (PySem.W.mg_none_of X G z_isinstance) (PySem.W.mg_none_of X G z_tuple)
  have F6 := fun_mk (st := s_need_tree) l6 c6 k6
  have b6 := F6.binds (ps := ["arities", "thing"]) fun _ _ _ _ _ _ us hl => match us, hl with | [_, _], _ => rfl
  have C_need_tree : CallOk l.prog w K mg 4 "need_tree" ["arities", "thing"] M_need_tree := ok_need_tree (k := 3) F6 (PySem.W.mg_of X G a6) b6 (C_is_written.mono (by decide))
  have F7 := fun_mk (st := s_need_both) l7 c7 k7
  have b7 := F7.binds (ps := ["arities", "tree"]) fun _ _ _ _ _ _ us hl => match us, hl with | [_, _], _ => rfl
  have C_need_both : CallOk l.prog w K mg 5 "need_both" ["arities", "tree"] M_need_both := ok_need_both (k := 4) F7 (PySem.W.mg_of X G a7) b7 (C_need_arities.mono (by decide)) (C_need_tree.mono (by decide))
  have F8 := fun_mk (st := s_amounts) l8 c8 k8
  have b8 := F8.binds (ps := ["tree"]) fun _ _ _ _ _ _ us hl => match us, hl with | [_], _ => rfl
  have C_amounts : CallOk l.prog w K mg 1 "amounts" ["tree"] M_amounts := ok_amounts (k := 0) F8 (PySem.W.mg_of X G a8) b8 (PySem.W.mg_none_of X G z_sum)
  have F9 := fun_mk (st := s_nodes) l9 c9 k9
  have b9 := F9.binds (ps := ["arities", "tree"]) fun _ _ _ _ _ _ us hl => match us, hl with | [_, _], _ => rfl
  have C_nodes : CallOk l.prog w K mg 6 "nodes" ["arities", "tree"] M_nodes := ok_nodes (k := 5) F9 (PySem.W.mg_of X G a9) b9 (C_amounts.mono (by decide)) (C_need_both.mono (by decide))
  have F10 := fun_mk (st := s_heights) l10 c10 k10
  have b10 := F10.binds (ps := ["tree"]) fun _ _ _ _ _ _ us hl => match us, hl with | [_], _ => rfl
  have C_heights : CallOk l.prog w K mg 1 "heights" ["tree"] M_heights := ok_heights (k := 0) F10 (PySem.W.mg_of X G a10) b10 (PySem.W.mg_none_of X G z_max)
  have F11 := fun_mk (st := s_height) l11 c11 k11
  have b11 := F11.binds (ps := ["arities", "tree"]) fun _ _ _ _ _ _ us hl => match us, hl with | [_, _], _ => rfl
  have C_height : CallOk l.prog w K mg 6 "height" ["arities", "tree"] M_height := ok_height (k := 5) F11 (PySem.W.mg_of X G a11) b11 (C_heights.mono (by decide)) (C_need_both.mono (by decide))
  have F12 := fun_mk (st := s__law_cell) l12 c12 k12
  have b12 := F12.binds (ps := ["_law_script", "_law_k"]) fun _ _ _ _ _ _ us hl => match us, hl with | [_, _], _ => rfl
  have C__law_cell : CallOk l.prog w K mg 1 "_law_cell" ["_law_script", "_law_k"] M__law_cell := ok__law_cell (k := 0) F12 (PySem.W.mg_of X G a12) b12 (PySem.W.mg_none_of X G z_len)
  have F13 := fun_mk (st := s__law_draw) l13 c13 k13
  have b13 := F13.binds (ps := ["_law_pen_here", "_law_many"]) fun _ _ _ _ _ _ us hl => match us, hl with | [_, _], _ => rfl
  have C__law_draw : CallOk l.prog w K mg 1 "_law_draw" ["_law_pen_here", "_law_many"] M__law_draw := ok__law_draw (k := 0) F13 (PySem.W.mg_of X G a13) b13 
  have F14 := fun_mk (st := s__law_pick) l14 c14 k14
  have b14 := F14.binds (ps := ["_law_pen_here", "_law_some"]) fun _ _ _ _ _ _ us hl => match us, hl with | [_, _], _ => rfl
  have C__law_pick : CallOk l.prog w K mg 2 "_law_pick" ["_law_pen_here", "_law_some"] M__law_pick := ok__law_pick (k := 1) F14 (PySem.W.mg_of X G a14) b14 (C__law_draw.mono (by decide)) (PySem.W.mg_none_of X G z_len)
  have F15 := fun_mk (st := s__law_arities) l15 c15 k15
  have b15 := F15.binds (ps := ["_law_pen_here"]) fun _ _ _ _ _ _ us hl => match us, hl with | [_], _ => rfl
  have C__law_arities : CallOk l.prog w K mg 3 "_law_arities" ["_law_pen_here"] M__law_arities := ok__law_arities (k := 2) F15 (PySem.W.mg_of X G a15) b15 (C__law_draw.mono (by decide)) (C__law_pick.mono (by decide)) (PySem.W.mg_none_of X G z_range) (PySem.W.mg_none_of X G z_tuple)
  have F16 := fun_mk (st := s__law_written) l16 c16 k16
  have b16 := F16.binds (ps := ["_law_pen_here", "_law_arities_here", "_law_upto"]) fun _ _ _ _ _ _ us hl => match us, hl with | [_, _, _], _ => rfl
  have C__law_written : CallOk l.prog w K mg 3 "_law_written" ["_law_pen_here", "_law_arities_here", "_law_upto"] M__law_written := ok__law_written (k := 2) F16 (PySem.W.mg_of X G a16) b16 (C__law_draw.mono (by decide)) (C__law_pick.mono (by decide)) (PySem.W.mg_none_of X G z_enumerate) (PySem.W.mg_none_of X G z_len) (PySem.W.mg_none_of X G z_max) (PySem.W.mg_none_of X G z_range) (PySem.W.mg_none_of X G z_tuple)
  have F17 := fun_mk (st := s__law_due) l17 c17 k17
  have b17 := F17.binds (ps := ["_law_written_here"]) fun _ _ _ _ _ _ us hl => match us, hl with | [_], _ => rfl
  have C__law_due : CallOk l.prog w K mg 1 "_law_due" ["_law_written_here"] M__law_due := ok__law_due (k := 0) F17 (PySem.W.mg_of X G a17) b17 (PySem.W.mg_none_of X G z_max) (PySem.W.mg_none_of X G z_sum)
  have F18 := fun_mk (st := s__law_same) l18 c18 k18
  have b18 := F18.binds (ps := ["_law_found", "_law_due_here"]) fun _ _ _ _ _ _ us hl => match us, hl with | [_, _], _ => rfl
  have C__law_same : CallOk l.prog w K mg 1 "_law_same" ["_law_found", "_law_due_here"] M__law_same := ok__law_same (k := 0) F18 (PySem.W.mg_of X G a18) b18 (PySem.W.mg_none_of X G z_repr)
  have F19 := fun_mk (st := s_law) l19 c19 k19
  exact ⟨_, fun s v => .of_eq rfl, fun base _ _ => fn_law (k := 6) F19 (C__law_arities.mono (by decide)) (C__law_cell.mono (by decide)) (C__law_due.mono (by decide)) (C__law_pen.mono (by decide)) (C__law_same.mono (by decide)) (C__law_written.mono (by decide)) (C_height.mono (by decide)) (C_nodes.mono (by decide)) (PySem.W.mg_none_of X G z_len) (PySem.W.mg_none_of X G z_max) (PySem.W.mg_none_of X G z_min) (PySem.W.mg_none_of X G z_range) (PySem.W.mg_none_of X G z_repr) (PySem.W.mg_none_of X G z_tuple)⟩
end K03

namespace K03
open PySem Dy
open L2 (atI ixN)
def Pen (o : O) : Prop := ∃ a b c : Int, o = .ol [.int a, .int b, .int c]
theorem draw_ok {o : O} {m : Int} (h : Pen o) (h1 : 0 < m) (h2 : m < 1073741824) : ∃ r o', Pen o' ∧ 0 ≤ r ∧ r < m ∧ M__law_draw [o, .fr (.int m)] = .ok (.fr (.int r), [o', .fr (.int m)]) := by
  obtain ⟨a, b, c, rfl⟩ := h
  by_cases ha : 0 < a
  · refine ⟨a % m, _, ⟨a / m, b, c, rfl⟩, Int.emod_nonneg _ (by omega), Int.emod_lt_of_pos _ h1, ?_⟩
    simp [M__law_draw, b__law_draw, a_seq, a_ifS, a_B, a_op, a_ov, a_ev0, a_evv, a_evs, a_C, a_V, a_M, a_set, a_setI, a_app, a_ret, a_ex, a_skip, a_no, a_not, a_andT, a_orT, a_and, a_or, a_notV, a_if, a_par, a_call, a_forS, a_sq, a_r1, a_r2, a_en, a_zp, a_asT, a_chI, a_yes, a_lc, a_fn, okA, f_fr, bkA, rsvs, rsv, dvs, on1, on2, d_fr, d_ol, rsO, ndS, sl, putB, asT, setAll, ofO, Dy.ints1, Dy.ints2, nE, wipeE, unw, frO, q_addI, q_addL, q_addT, q_addS, q_sub, q_div, q_mod, q_pow, q_neg, q_cm, pIs, pIsn, q_isN, q_isI, q_isS, q_isT, q_isL, q_isB, q_lenL, q_lenT, pTup, pLst, q_tupL, q_tupT, q_lstL, q_lstT, q_revL, q_slL, q_slT, q_shL, q_shT, q_sqL, q_sqT, q_intI, q_max2, q_min2, q_aII, q_aBI, q_aTI, q_aTT, q_aLL, q_aTL, q_aIT, pIx, atI, ixN, ha, h1, h2]
  · have mul1 : ∀ i : Int, pMul (.int i) (.int 48271) = some (.fr (.int (i * 48271))) := fun i => by simp [pMul, muOk, smI]
    have mul2 : ∀ i : Int, pMul (.int 1009) (.int i) = some (.fr (.int (1009 * i))) := fun i => by simp [pMul, muOk, smI]
    have mul3 : ∀ i : Int, pMul (.int 69621) (.int i) = some (.fr (.int (69621 * i))) := fun i => by simp [pMul, muOk, smI]
    have mul4 : ∀ i : Int, pMul (.int 40014) (.int i) = some (.fr (.int (40014 * i))) := fun i => by simp [pMul, muOk, smI]
    have mul5 : ∀ i : Int, 0 ≤ i → i < 2147483648 → pMul (.int i) (.int i) = some (.fr (.int (i * i))) := fun i h h' => by
      have : smI i = true := by unfold smI; exact decide_eq_true ⟨by omega, by omega⟩
      simp [pMul, muOk, this]
    have e1 : ∀ x : Int, pMul (.int (x % 2147483647)) (.int (x % 2147483647)) = some (.fr (.int (x % 2147483647 * (x % 2147483647)))) := fun x => mul5 _ (Int.emod_nonneg _ (by decide)) (Int.lt_trans (Int.emod_lt_of_pos x (by decide)) (by decide))
    have e2 : ∀ x : Int, pMul (.int (x % 2147483629)) (.int (x % 2147483629)) = some (.fr (.int (x % 2147483629 * (x % 2147483629)))) := fun x => mul5 _ (Int.emod_nonneg _ (by decide)) (Int.lt_trans (Int.emod_lt_of_pos x (by decide)) (by decide))
    refine ⟨((((b * 48271 + 1009 * (c + 1) + 7) % 2147483647 * ((b * 48271 + 1009 * (c + 1) + 7) % 2147483647) + 69621 * ((b * 48271 + 1009 * (c + 1) + 7) % 2147483647) + 11) % 2147483629 * ((((b * 48271 + 1009 * (c + 1) + 7) % 2147483647 * ((b * 48271 + 1009 * (c + 1) + 7) % 2147483647) + 69621 * ((b * 48271 + 1009 * (c + 1) + 7) % 2147483647) + 11) % 2147483629)) + 40014 * (((b * 48271 + 1009 * (c + 1) + 7) % 2147483647 * ((b * 48271 + 1009 * (c + 1) + 7) % 2147483647) + 69621 * ((b * 48271 + 1009 * (c + 1) + 7) % 2147483647) + 11) % 2147483629)) % 2147483587 / 16) % m, _, ⟨a, (b * 48271 + 1009 * (c + 1) + 7) % 2147483647, c + 1, rfl⟩, Int.emod_nonneg _ (by omega), Int.emod_lt_of_pos _ h1, ?_⟩
    simp [M__law_draw, b__law_draw, a_seq, a_ifS, a_B, a_op, a_ov, a_ev0, a_evv, a_evs, a_C, a_V, a_M, a_set, a_setI, a_app, a_ret, a_ex, a_skip, a_no, a_not, a_andT, a_orT, a_and, a_or, a_notV, a_if, a_par, a_call, a_forS, a_sq, a_r1, a_r2, a_en, a_zp, a_asT, a_chI, a_yes, a_lc, a_fn, okA, f_fr, bkA, rsvs, rsv, dvs, on1, on2, d_fr, d_ol, rsO, ndS, sl, putB, asT, setAll, ofO, Dy.ints1, Dy.ints2, nE, wipeE, unw, frO, q_addI, q_addL, q_addT, q_addS, q_sub, q_div, q_mod, q_pow, q_neg, q_cm, pIs, pIsn, q_isN, q_isI, q_isS, q_isT, q_isL, q_isB, q_lenL, q_lenT, pTup, pLst, q_tupL, q_tupT, q_lstL, q_lstT, q_revL, q_slL, q_slT, q_shL, q_shT, q_sqL, q_sqT, q_intI, q_max2, q_min2, q_aII, q_aBI, q_aTI, q_aTT, q_aLL, q_aTL, q_aIT, pIx, atI, ixN, ha, h1, h2, mul1, mul2, mul3, mul4, e1, e2]

theorem pEq_int (i j : Int) : pEq (.int i) (.int j) = some (.fr (.bool (decide (i = j)))) := by
  have h : ∀ k : Int, shp (.int k) = true := fun k => by unfold shp SeqAt.shaped; simp [PyData.canLay0, PyData.depth]
  show (if shp (.int i) = true ∧ shp (.int j) = true then some (O.fr (PyData.bool (PyData.eqv (.int i) (.int j)))) else none) = _
  rw [if_pos ⟨h i, h j⟩]
  show some (O.fr (PyData.bool (PyData.eqv (.int i) (.int j)))) = _
  congr 3
theorem rng0_at {n k : Nat} {d : PyData} (h : (rng 0 n)[k]? = some d) : k < n ∧ d = .int (k : Int) := by
  obtain ⟨h1, h2⟩ := rng_at h
  exact ⟨h1, by rw [h2, Int.zero_add]⟩
theorem atI_ok {α : Type} {xs : List α} {r : Int} (h0 : 0 ≤ r) (h1 : r < xs.length) : ∃ x, xs[r.toNat]? = some x ∧ x ∈ xs ∧ atI xs r = some x := by
  have hk : r.toNat < xs.length := by omega
  refine ⟨xs[r.toNat], List.getElem?_eq_getElem hk, List.getElem_mem hk, ?_⟩
  unfold atI ixN
  rw [if_pos h0, if_pos h1]
  exact List.getElem?_eq_getElem hk
theorem pIxL {xs : List PyData} {i : Int} {d : PyData} (h : atI xs i = some d) : pIx (.list xs) (.int i) = some (.fr d) := by show Option.map O.fr (atI xs i) = _; rw [h]; rfl
theorem pIxT {xs : List PyData} {i : Int} {d : PyData} (h : atI xs i = some d) : pIx (.tuple xs) (.int i) = some (.fr d) := by show Option.map O.fr (atI xs i) = _; rw [h]; rfl
theorem pick_ok {o : O} {xs : List PyData} (hp : Pen o) (hx : xs ≠ []) (hl : xs.length < 1000000) : ∃ d o', d ∈ xs ∧ Pen o' ∧ M__law_pick [o, .fr (.list xs)] = .ok (.fr d, [o', .fr (.list xs)]) := by
  have h0 : 0 < xs.length := List.length_pos_iff.mpr hx
  obtain ⟨r, o', p, r0, r1, e⟩ := draw_ok (m := xs.length) hp (by omega) (by omega)
  obtain ⟨x, _, hm, ea⟩ := atI_ok (xs := xs) r0 r1
  obtain ⟨a, b, c, rfl⟩ := hp
  obtain ⟨a', b', c', rfl⟩ := p
  refine ⟨x, _, hm, ⟨a', b', c', rfl⟩, ?_⟩
  simp [M__law_pick, b__law_pick, a_seq, a_ifS, a_B, a_op, a_ov, a_ev0, a_evv, a_evs, a_C, a_V, a_M, a_set, a_setI, a_app, a_ret, a_ex, a_skip, a_no, a_not, a_andT, a_orT, a_and, a_or, a_notV, a_if, a_par, a_call, a_forS, a_sq, a_r1, a_r2, a_en, a_zp, a_asT, a_chI, a_yes, a_lc, a_fn, okA, f_fr, bkA, rsvs, rsv, dvs, on1, on2, d_fr, d_ol, rsO, ndS, sl, putB, asT, setAll, ofO, Dy.ints1, Dy.ints2, nE, wipeE, unw, frO, q_addI, q_addL, q_addT, q_addS, q_sub, q_div, q_mod, q_pow, q_neg, q_cm, pIs, pIsn, q_isN, q_isI, q_isS, q_isT, q_isL, q_isB, q_lenL, q_lenT, pTup, pLst, q_tupL, q_tupT, q_lstL, q_lstT, q_revL, q_slL, q_slT, q_shL, q_shT, q_sqL, q_sqT, q_intI, q_max2, q_min2, q_aII, q_aBI, q_aTI, q_aTT, q_aLL, q_aTL, q_aIT, e, pIxL ea]
theorem cell_ok {ns : List PyData} {k : Nat} (h : ∀ d ∈ ns, ∃ z, d = .int z) : ∃ z : Int, M__law_cell [.fr (.list ns), .fr (.int k)] = .ok (.fr (.int z), [.fr (.list ns), .fr (.int k)]) := by
  by_cases hk : (k : Int) < ns.length
  · obtain ⟨x, _, hm, ea⟩ := atI_ok (xs := ns) (r := k) (by omega) hk
    obtain ⟨z, rfl⟩ := h x hm
    exact ⟨z, by simp [M__law_cell, b__law_cell, a_seq, a_ifS, a_B, a_op, a_ov, a_ev0, a_evv, a_evs, a_C, a_V, a_M, a_set, a_setI, a_app, a_ret, a_ex, a_skip, a_no, a_not, a_andT, a_orT, a_and, a_or, a_notV, a_if, a_par, a_call, a_forS, a_sq, a_r1, a_r2, a_en, a_zp, a_asT, a_chI, a_yes, a_lc, a_fn, okA, f_fr, bkA, rsvs, rsv, dvs, on1, on2, d_fr, d_ol, rsO, ndS, sl, putB, asT, setAll, ofO, Dy.ints1, Dy.ints2, nE, wipeE, unw, frO, q_addI, q_addL, q_addT, q_addS, q_sub, q_div, q_mod, q_pow, q_neg, q_cm, pIs, pIsn, q_isN, q_isI, q_isS, q_isT, q_isL, q_isB, q_lenL, q_lenT, pTup, pLst, q_tupL, q_tupT, q_lstL, q_lstT, q_revL, q_slL, q_slT, q_shL, q_shT, q_sqL, q_sqT, q_intI, q_max2, q_min2, q_aII, q_aBI, q_aTI, q_aTT, q_aLL, q_aTL, q_aIT, hk, pIxL ea]⟩
  · exact ⟨0, by simp [M__law_cell, b__law_cell, a_seq, a_ifS, a_B, a_op, a_ov, a_ev0, a_evv, a_evs, a_C, a_V, a_M, a_set, a_setI, a_app, a_ret, a_ex, a_skip, a_no, a_not, a_andT, a_orT, a_and, a_or, a_notV, a_if, a_par, a_call, a_forS, a_sq, a_r1, a_r2, a_en, a_zp, a_asT, a_chI, a_yes, a_lc, a_fn, okA, f_fr, bkA, rsvs, rsv, dvs, on1, on2, d_fr, d_ol, rsO, ndS, sl, putB, asT, setAll, ofO, Dy.ints1, Dy.ints2, nE, wipeE, unw, frO, q_addI, q_addL, q_addT, q_addS, q_sub, q_div, q_mod, q_pow, q_neg, q_cm, pIs, pIsn, q_isN, q_isI, q_isS, q_isT, q_isL, q_isB, q_lenL, q_lenT, pTup, pLst, q_tupL, q_tupT, q_lstL, q_lstT, q_revL, q_slL, q_slT, q_shL, q_shT, q_sqL, q_sqT, q_intI, q_max2, q_min2, q_aII, q_aBI, q_aTI, q_aTT, q_aLL, q_aTL, q_aIT, hk]⟩
theorem pen_ok (z : Int) : ∃ o, Pen o ∧ M__law_pen [.fr (.int z)] = .ok (o, [.fr (.int z)]) := by
  refine ⟨_, ⟨max 0 (z - 10 ^ 18), z % 2147483629 + 1, 0, rfl⟩, ?_⟩
  simp [M__law_pen, b__law_pen, a_seq, a_ifS, a_B, a_op, a_ov, a_ev0, a_evv, a_evs, a_C, a_V, a_M, a_set, a_setI, a_app, a_ret, a_ex, a_skip, a_no, a_not, a_andT, a_orT, a_and, a_or, a_notV, a_if, a_par, a_call, a_forS, a_sq, a_r1, a_r2, a_en, a_zp, a_asT, a_chI, a_yes, a_lc, a_fn, okA, f_fr, bkA, rsvs, rsv, dvs, on1, on2, d_fr, d_ol, rsO, ndS, sl, putB, asT, setAll, ofO, Dy.ints1, Dy.ints2, nE, wipeE, unw, frO, q_addI, q_addL, q_addT, q_addS, q_sub, q_div, q_mod, q_pow, q_neg, q_cm, pIs, pIsn, q_isN, q_isI, q_isS, q_isT, q_isL, q_isB, q_lenL, q_lenT, pTup, pLst, q_tupL, q_tupT, q_lstL, q_lstT, q_revL, q_slL, q_slT, q_shL, q_shT, q_sqL, q_sqT, q_intI, q_max2, q_min2, q_aII, q_aBI, q_aTI, q_aTT, q_aLL, q_aTL, q_aIT]

/-! ### arities -/
def ArOk (as : List Int) : Prop := (∀ a ∈ as, 0 ≤ a ∧ a ≤ 2) ∧ 0 ∈ as ∧ as.length ≤ 6
def dI (as : List Int) : List PyData := as.map PyData.int
def dT (as : List Int) : PyData := .tuple (dI as)
theorem dI_len (as : List Int) : (dI as).length = as.length := by simp [dI]
theorem pLen_dT (as : List Int) : pLen (dT as) = some (.fr (.int as.length)) := by simp [dT, pLen, dI]
theorem seq_dT (as : List Int) : seqOf (dT as) = some (dI as) := rfl
theorem rng3 {o : O} (hp : Pen o) : ∃ (r : Int) (o' : O), Pen o' ∧ 0 ≤ r ∧ r < 4 ∧ M__law_draw [o, .fr (.int 4)] = .ok (.fr (.int r), [o', .fr (.int 4)]) := draw_ok hp (by decide) (by decide)
theorem arities_ok {o : O} (hp : Pen o) : ∃ as o', Pen o' ∧ ArOk as ∧ M__law_arities [o] = .ok (.fr (dT as), [o']) := by
  obtain ⟨r, o1, p1, r0, r1, e1⟩ := draw_ok (m := 4) hp (by decide) (by decide)
  -- the comprehension
  have key : ∃ (xs : List Int) (o2 : O), Pen o2 ∧ (∀ x ∈ xs, 0 ≤ x ∧ x ≤ 2) ∧ xs.length = r.toNat ∧
      lcL [2] (.nm 2) fYes E1__law_arities (rng 0 r.toNat) [some o1, none, none] [] = .ok (dI xs, [some o2, none, none]) := by
    obtain ⟨e, acc, h, o2, xs, p2, q1, q2, q3, q4⟩ := lc_inv (vs := [2]) (t := .nm 2) (test := fYes) (elt := E1__law_arities)
      (fun k e acc => ∃ o2 xs, Pen o2 ∧ (∀ x ∈ xs, 0 ≤ x ∧ x ≤ 2) ∧ xs.length = k ∧ acc = dI xs ∧ e = [some o2, none, none]) (rng 0 r.toNat) (env := [some o1, none, none]) (acc := []) ⟨o1, [], p1, by simp, rfl, rfl, rfl⟩ (fun k d e acc hd hP => by
        obtain ⟨o2, xs, p2, q1, q2, rfl, rfl⟩ := hP
        obtain ⟨hk, rfl⟩ := rng0_at hd
        obtain ⟨d, o3, hm, p3, e3⟩ := pick_ok (xs := [.int 0, .int 1, .int 2, .int 2]) p2 (by simp) (by decide)
        have hd : ∃ x : Int, d = .int x ∧ 0 ≤ x ∧ x ≤ 2 := by
          simp at hm
          rcases hm with rfl | rfl | rfl <;> exact ⟨_, rfl, by decide, by decide⟩
        obtain ⟨x, rfl, x0, x1⟩ := hd
        refine ⟨_, true, _, rfl, rfl, fun z => (by cases z), fun _ => ⟨.fr (.int x), [some o3, none, some (.fr (.int k))], ?_, ?_, o3, xs ++ [x], p3, ?_, ?_, ?_, ?_⟩⟩
        · simp [E1__law_arities, a_seq, a_ifS, a_B, a_op, a_ov, a_ev0, a_evv, a_evs, a_C, a_V, a_M, a_set, a_setI, a_app, a_ret, a_ex, a_skip, a_no, a_not, a_andT, a_orT, a_and, a_or, a_notV, a_if, a_par, a_call, a_forS, a_sq, a_r1, a_r2, a_en, a_zp, a_asT, a_chI, a_yes, a_lc, a_fn, okA, f_fr, bkA, rsvs, rsv, dvs, on1, on2, d_fr, d_ol, rsO, ndS, sl, putB, asT, setAll, ofO, Dy.ints1, Dy.ints2, nE, wipeE, unw, frO, q_addI, q_addL, q_addT, q_addS, q_sub, q_div, q_mod, q_pow, q_neg, q_cm, pIs, pIsn, q_isN, q_isI, q_isS, q_isT, q_isL, q_isB, q_lenL, q_lenT, pTup, pLst, q_tupL, q_tupT, q_lstL, q_lstT, q_revL, q_slL, q_slT, q_shL, q_shT, q_sqL, q_sqT, q_intI, q_max2, q_min2, q_aII, q_aBI, q_aTI, q_aTT, q_aLL, q_aTL, q_aIT, e3]
        · rw [dI_len, q2]; omega
        · intro y hy
          rcases List.mem_append.mp hy with h | h
          · exact q1 y h
          · simp at h; subst h; exact ⟨x0, x1⟩
        · simp [q2]
        · simp [dI, O.data]
        · rfl)
    refine ⟨xs, o2, p2, q1, by rw [q2, rng_len], ?_⟩
    rw [h, q3, q4]
  obtain ⟨xs, o2, p2, q1, q2, e2⟩ := key
  obtain ⟨r2, o3, p3, s0, s1, e3⟩ := draw_ok (m := 2) p2 (by decide) (by decide)
  obtain ⟨r3, o4, p4, t0, t1, e4⟩ := draw_ok (m := 2) p3 (by decide) (by decide)
  have hr : r ≤ 1000000000 ∧ -1000000000 ≤ r := ⟨by omega, by omega⟩
  have hmul : pMul (.list [.int 0]) (.int (1 + r2)) = some (.ol (dI (List.replicate (1 + r2).toNat 0))) := by
    rcases (by omega : r2 = 0 ∨ r2 = 1) with rfl | rfl <;> rfl
  have hq0 : ∀ i j : Int, pEq (.int i) (.int j) = some (.fr (.bool (decide (i = j)))) := fun i j => pEq_int i j
  let ys := xs ++ List.replicate (1 + r2).toNat 0
  have hys : ∀ a ∈ ys, 0 ≤ a ∧ a ≤ 2 := fun a ha => by
    rcases List.mem_append.mp ha with h | h
    · exact q1 a h
    · rw [(List.mem_replicate.mp h).2]; exact ⟨by decide, by decide⟩
  have hy0 : (0 : Int) ∈ ys := List.mem_append.mpr (.inr (List.mem_replicate.mpr ⟨by omega, rfl⟩))
  have hyl : ys.length ≤ 6 := by simp [ys]; omega
  have hlen : xs.length + (1 + r2).toNat ≤ 1000000 := by omega
  have run : M__law_arities [o] = .ok (.fr (dT (if r3 = 0 then ys.reverse else ys)), [o4]) := by
    have hadd : ∀ n : Nat, xs.length + n ≤ 1000000 → pAdd (.list (dI xs)) (.list (dI (List.replicate n 0))) = some (.ol (dI (xs ++ List.replicate n 0))) := fun n hn => by
      simp [pAdd, dI, hn]
    by_cases h3 : r3 = 0
    · subst h3
      simp [M__law_arities, b__law_arities, a_seq, a_ifS, a_B, a_op, a_ov, a_ev0, a_evv, a_evs, a_C, a_V, a_M, a_set, a_setI, a_app, a_ret, a_ex, a_skip, a_no, a_not, a_andT, a_orT, a_and, a_or, a_notV, a_if, a_par, a_call, a_forS, a_sq, a_r1, a_r2, a_en, a_zp, a_asT, a_chI, a_yes, a_lc, a_fn, okA, f_fr, bkA, rsvs, rsv, dvs, on1, on2, d_fr, d_ol, rsO, ndS, sl, putB, asT, setAll, ofO, Dy.ints1, Dy.ints2, nE, wipeE, unw, frO, q_addI, q_addL, q_addT, q_addS, q_sub, q_div, q_mod, q_pow, q_neg, q_cm, pIs, pIsn, q_isN, q_isI, q_isS, q_isT, q_isL, q_isB, q_lenL, q_lenT, pTup, pLst, q_tupL, q_tupT, q_lstL, q_lstT, q_revL, q_slL, q_slT, q_shL, q_shT, q_sqL, q_sqT, q_intI, q_max2, q_min2, q_aII, q_aBI, q_aTI, q_aTT, q_aLL, q_aTL, q_aIT, e1, hr, e2, e3, hmul, hadd, hlen, e4, hq0, dT, dI, ys]
    · simp [M__law_arities, b__law_arities, a_seq, a_ifS, a_B, a_op, a_ov, a_ev0, a_evv, a_evs, a_C, a_V, a_M, a_set, a_setI, a_app, a_ret, a_ex, a_skip, a_no, a_not, a_andT, a_orT, a_and, a_or, a_notV, a_if, a_par, a_call, a_forS, a_sq, a_r1, a_r2, a_en, a_zp, a_asT, a_chI, a_yes, a_lc, a_fn, okA, f_fr, bkA, rsvs, rsv, dvs, on1, on2, d_fr, d_ol, rsO, ndS, sl, putB, asT, setAll, ofO, Dy.ints1, Dy.ints2, nE, wipeE, unw, frO, q_addI, q_addL, q_addT, q_addS, q_sub, q_div, q_mod, q_pow, q_neg, q_cm, pIs, pIsn, q_isN, q_isI, q_isS, q_isT, q_isL, q_isB, q_lenL, q_lenT, pTup, pLst, q_tupL, q_tupT, q_lstL, q_lstT, q_revL, q_slL, q_slT, q_shL, q_shT, q_sqL, q_sqT, q_intI, q_max2, q_min2, q_aII, q_aBI, q_aTI, q_aTT, q_aLL, q_aTL, q_aIT, e1, hr, e2, e3, hmul, hadd, hlen, e4, hq0, dT, dI, ys, h3]
  refine ⟨_, o4, p4, ?_, run⟩
  by_cases h3 : r3 = 0
  · rw [if_pos h3]; exact ⟨fun a ha => hys a (List.mem_reverse.mp ha), List.mem_reverse.mpr hy0, by rw [List.length_reverse]; exact hyl⟩
  · rw [if_neg h3]; exact ⟨hys, hy0, hyl⟩

theorem cutHi {α : Type} (xs : List α) (k : Nat) : cutD xs none (some k) = xs.take k := by
  unfold cutD
  rw [HT.sIx_none, HT.sIx_nat, List.drop_zero, Nat.sub_zero]
  by_cases h : k ≤ xs.length
  · rw [Nat.min_eq_left h]
  · rw [Nat.min_eq_right (by omega), List.take_length, List.take_of_length_le (by omega)]
theorem cutLo {α : Type} (xs : List α) (k : Nat) : cutD xs (some k) none = xs.drop k := by
  unfold cutD
  rw [HT.sIx_none, HT.sIx_nat]
  by_cases h : k ≤ xs.length
  · rw [Nat.min_eq_left h, List.take_of_length_le (by simp)]
  · rw [Nat.min_eq_right (by omega), List.drop_of_length_le (Nat.le_refl _), List.drop_of_length_le (by omega), List.take_nil]
/-! ### shapes -/
theorem lay_ints : ∀ as : List Int, PyData.canLayAll0 (dI as) = true
  | [] => rfl
  | a :: as => by
    show (PyData.canLay0 (.int a) && PyData.canLayAll0 (dI as)) = true
    rw [lay_ints as]; rfl
theorem dep_ints : ∀ as : List Int, PyData.depthAll (dI as) = 0
  | [] => rfl
  | a :: as => by
    show max (PyData.depth (.int a)) (PyData.depthAll (dI as)) = 0
    rw [dep_ints as]; rfl
theorem shp_L (as : List Int) : shp (.list (dI as)) = true := by
  unfold shp SeqAt.shaped
  have h1 : (PyData.list (dI as)).canLay0 = true := by simpa [PyData.canLay0] using lay_ints as
  have h2 : (PyData.list (dI as)).depth ≤ 64 := by simp [PyData.depth, dep_ints]
  rw [h1, decide_eq_true h2]; rfl
theorem shp_T (as : List Int) : shp (.tuple (dI as)) = true := by
  unfold shp SeqAt.shaped
  have h1 : (PyData.tuple (dI as)).canLay0 = true := by simpa [PyData.canLay0] using lay_ints as
  have h2 : (PyData.tuple (dI as)).depth ≤ 64 := by simp [PyData.depth, dep_ints]
  rw [h1, decide_eq_true h2]; rfl
theorem pEq_nil {as : List Int} (h : as ≠ []) : pEq (.list (dI as)) (.list []) = some (.fr (.bool false)) := by
  show (if _ then _ else _) = _
  rw [if_pos ⟨shp_L as, shp_L []⟩]
  cases as with
  | nil => exact absurd rfl h
  | cons a as => rfl
/-! ### trees -/
def NodeOk (as : List Int) (k : Nat) (n : List Int) : Prop := ∃ op ps, n = op :: ps ∧ 0 ≤ op ∧ op < as.length ∧ as[op.toNat]? = some (ps.length : Int) ∧ ∀ p ∈ ps, 0 ≤ p ∧ p < (k : Int)
def WF (as : List Int) (tree : List (List Int)) : Prop := ∀ k n, tree[k]? = some n → NodeOk as k n
theorem WF.snoc {as : List Int} {tree : List (List Int)} {n : List Int} (h : WF as tree) (hn : NodeOk as tree.length n) : WF as (tree ++ [n]) := by
  intro k m hk
  by_cases h1 : k < tree.length
  · rw [List.getElem?_append_left h1] at hk; exact h k m hk
  · rw [List.getElem?_append_right (by omega)] at hk
    have : k - tree.length = 0 := by
      cases q : k - tree.length with
      | zero => rfl
      | succ j => rw [q] at hk; simp at hk
    rw [this] at hk
    simp at hk; subst hk
    have : k = tree.length := by omega
    rw [this]; exact hn
def trD (tree : List (List Int)) : List PyData := tree.map dT
theorem trD_len (tree : List (List Int)) : (trD tree).length = tree.length := by simp [trD]
/-- the leaves' numbers -/
def isLeaf : PyData → Bool
  | .tuple [_, .int a] => decide (a = 0)
  | _ => false
def fstD : PyData → PyData
  | .tuple (x :: _) => x
  | _ => .none
theorem enum_mem : ∀ (as : List Int) (k : Nat) (d : PyData), d ∈ enumD k (dI as) → ∃ j a, as[j]? = some a ∧ d = .tuple [.int ((k + j : Nat) : Int), .int a]
  | [], _, d, h => by simp [dI, enumD] at h
  | a :: as, k, d, h => by
    have h : d ∈ PyData.tuple [.int (k : Int), .int a] :: enumD (k + 1) (dI as) := h
    rcases List.mem_cons.mp h with rfl | h
    · exact ⟨0, a, rfl, rfl⟩
    · obtain ⟨j, b, h1, h2⟩ := enum_mem as (k + 1) d h
      exact ⟨j + 1, b, by simpa using h1, by rw [h2, show k + (j + 1) = k + 1 + j by omega]⟩
theorem enum_mem0 {as : List Int} {d : PyData} (h : d ∈ enumD 0 (dI as)) : ∃ (j : Nat) (a : Int), as[j]? = some a ∧ d = .tuple [.int (j : Int), .int a] := by
  obtain ⟨j, a, h1, h2⟩ := enum_mem as 0 d h
  exact ⟨j, a, h1, by rw [h2, Nat.zero_add]⟩
theorem mem_enum : ∀ (as : List Int) (k j : Nat) (a : Int), as[j]? = some a → PyData.tuple [.int ((k + j : Nat) : Int), .int a] ∈ enumD k (dI as)
  | [], _, _, _, h => by simp at h
  | b :: as, k, 0, a, h => by
    simp at h; subst h
    exact List.mem_cons_self
  | b :: as, k, j + 1, a, h => by
    have := mem_enum as (k + 1) j a (by simpa using h)
    rw [show k + (j + 1) = k + 1 + j by omega]
    exact List.mem_cons_of_mem _ this
theorem leaves_are (as : List Int) (h : 0 ∈ as) : ∃ ls : List Int, ((enumD 0 (dI as)).filter isLeaf).map fstD = dI ls ∧ ls ≠ [] ∧ ls.length ≤ as.length ∧ ∀ l ∈ ls, 0 ≤ l ∧ l < as.length ∧ as[l.toNat]? = some 0 := by
  have all : ∀ d ∈ (enumD 0 (dI as)).filter isLeaf, ∃ l : Int, fstD d = .int l ∧ 0 ≤ l ∧ l < as.length ∧ as[l.toNat]? = some 0 := fun d hd => by
    obtain ⟨h1, h2⟩ := List.mem_filter.mp hd
    obtain ⟨j, a, ha, rfl⟩ := enum_mem as 0 d h1
    have : a = 0 := by simpa [isLeaf] using h2
    subst this
    have hj : j < as.length := (List.getElem?_eq_some_iff.mp ha).1
    exact ⟨((0 + j : Nat) : Int), rfl, by omega, by omega, by simpa using ha⟩
  have mk : ∀ xs : List PyData, (∀ d ∈ xs, ∃ l : Int, fstD d = .int l ∧ 0 ≤ l ∧ l < as.length ∧ as[l.toNat]? = some 0) → ∃ ls : List Int, xs.map fstD = dI ls ∧ ls.length = xs.length ∧ ∀ l ∈ ls, 0 ≤ l ∧ l < as.length ∧ as[l.toNat]? = some 0 := by
    intro xs
    induction xs with
    | nil => intro _; exact ⟨[], rfl, rfl, by simp⟩
    | cons x xs ih =>
      intro hx
      obtain ⟨l, e, p⟩ := hx x (by simp)
      obtain ⟨ls, e1, e2, e3⟩ := ih fun d hd => hx d (by simp [hd])
      refine ⟨l :: ls, by rw [List.map_cons, e, e1]; rfl, by simp [e2], fun y hy => ?_⟩
      rcases List.mem_cons.mp hy with rfl | hy
      · exact p
      · exact e3 y hy
  obtain ⟨ls, e1, e2, e3⟩ := mk _ all
  refine ⟨ls, e1, fun z => ?_, ?_, e3⟩
  · obtain ⟨j, hj⟩ := List.getElem?_of_mem h
    have m := List.mem_filter.mpr ⟨mem_enum as 0 j 0 hj, (rfl : isLeaf (.tuple [.int ((0 + j : Nat) : Int), .int 0]) = true)⟩
    subst z
    have : ((enumD 0 (dI as)).filter isLeaf) = [] := List.length_eq_zero_iff.mp (by rw [← e2]; rfl)
    rw [this] at m; cases m
  · rw [e2]
    exact Nat.le_trans (List.length_filter_le _ _) (by rw [enumD_len, dI_len]; exact Nat.le_refl _)

theorem max0 (i : Int) : max 0 i = if 0 ≤ i then i else 0 := by split <;> omega
theorem written_ok {o : O} {as : List Int} {up : Int} (hp : Pen o) (ha : ArOk as) (u0 : 0 < up) (u1 : up ≤ 1000) :
    ∃ tree o', Pen o' ∧ WF as tree ∧ tree ≠ [] ∧ tree.length ≤ up.toNat ∧ M__law_written [o, .fr (dT as), .fr (.int up)] = .ok (.fr (.tuple (trD tree)), [o', .fr (dT as), .fr (.int up)]) := by
  obtain ⟨a1, a2, a3⟩ := ha
  obtain ⟨ls, l1, l2, l3, l4⟩ := leaves_are as a2
  have hlc : lcL [6, 9] (.tu [6, 9]) T1__law_written E1__law_written (enumD 0 (dI as)) [some o, some (.fr (dT as)), some (.fr (.int up)), none, none, none, none, none, none, none, none] []
      = .ok (dI ls, [some o, some (.fr (dT as)), some (.fr (.int up)), none, none, none, none, none, none, none, none]) := by
    rw [lc_fm isLeaf fstD _ _ (fun d hd => ?_) (by rw [enumD_len, dI_len]; simp; omega), List.nil_append, l1]
    obtain ⟨j, a, hj, rfl⟩ := enum_mem0 hd
    let ee : Dy.Env := [some o, some (.fr (dT as)), some (.fr (.int up)), none, none, none, some (.fr (.int (j : Int))), none, none, some (.fr (.int a)), none]
    exact ⟨ee, ee, rfl, by simp [T1__law_written, a_seq, a_ifS, a_B, a_op, a_ov, a_ev0, a_evv, a_evs, a_C, a_V, a_M, a_set, a_setI, a_app, a_ret, a_ex, a_skip, a_no, a_not, a_andT, a_orT, a_and, a_or, a_notV, a_if, a_par, a_call, a_forS, a_sq, a_r1, a_r2, a_en, a_zp, a_asT, a_chI, a_yes, a_lc, a_fn, okA, f_fr, bkA, rsvs, rsv, dvs, on1, on2, d_fr, d_ol, rsO, ndS, sl, putB, asT, setAll, ofO, Dy.ints1, Dy.ints2, nE, wipeE, unw, frO, q_addI, q_addL, q_addT, q_addS, q_sub, q_div, q_mod, q_pow, q_neg, q_cm, pIs, pIsn, q_isN, q_isI, q_isS, q_isT, q_isL, q_isB, q_lenL, q_lenT, pTup, pLst, q_tupL, q_tupT, q_lstL, q_lstT, q_revL, q_slL, q_slT, q_shL, q_shT, q_sqL, q_sqT, q_intI, q_max2, q_min2, q_aII, q_aBI, q_aTI, q_aTT, q_aLL, q_aTL, q_aIT, pEq_int, isLeaf, ee], fun _ => rfl, fun _ => ⟨.fr (.int (j : Int)), ee, rfl, rfl, rfl⟩⟩
  obtain ⟨d1, o1, m1, p1, e1⟩ := pick_ok (xs := dI ls) hp (by simpa [dI] using l2) (by rw [dI_len]; omega)
  obtain ⟨l, hl, rfl⟩ : ∃ l, l ∈ ls ∧ d1 = .int l := by
    simp [dI] at m1
    obtain ⟨l, h1, h2⟩ := m1
    exact ⟨l, h1, h2.symm⟩
  obtain ⟨q1, q2, q3⟩ := l4 l hl
  obtain ⟨r, o2, p2, r0, r1, e2⟩ := draw_ok (m := up) p1 u0 (by omega)
  -- the loop
  let P : Nat → Dy.Env → Prop := fun k e => ∃ o3 tree x5 x6 x7 x8, Pen o3 ∧ WF as tree ∧ tree.length = k + 1 ∧ e = [some o3, some (.fr (dT as)), some (.fr (.int up)), some (.fr (.list (dI ls))), some (.ol (trD tree)), x5, x6, x7, x8, none, none]
  have init : P 0 [some o2, some (.fr (dT as)), some (.fr (.int up)), some (.fr (.list (dI ls))), some (.ol [.tuple [.int l]]), none, none, none, none, none, none] := ⟨o2, [[l]], none, none, none, none, p2, fun k n hk => by
    cases k with
    | zero => simp at hk; subst hk; exact ⟨l, [], rfl, q1, q2, q3, by simp⟩
    | succ k => simp at hk, rfl, rfl⟩
  have step : ∀ k d e, (rng 0 r.toNat)[k]? = some d → P k e → ∃ e1 e2, asT (.nm 5) d e = .ok e1 ∧ L1__law_written e1 = .ok (.nx, e2) ∧ P (k + 1) e2 := by
    intro k d e hd hP
    obtain ⟨hk, rfl⟩ := rng0_at hd
    obtain ⟨o3, tree, x5, x6, x7, x8, p3, wf, tl, rfl⟩ := hP
    have hlen : 0 < as.length := List.length_pos_of_mem a2
    obtain ⟨v, o4, p4, v0, v1, e4⟩ := draw_ok (m := as.length) p3 (by omega) (by omega)
    obtain ⟨w, o5, p5, w0, w1, e5⟩ := draw_ok (m := 3) p4 (by decide) (by decide)
    have near : ∃ y : Int, max 0 ((tree.length : Int) - 1 - w) = y ∧ 0 ≤ y ∧ y < tree.length := ⟨_, rfl, by omega, by omega⟩
    obtain ⟨y, ey, y0, y1⟩ := near
    have comp : ∃ (ps : List Int) (o6 : O), Pen o6 ∧ ps.length = 2 ∧ (∀ p ∈ ps, 0 ≤ p ∧ p < (tree.length : Int)) ∧
        lcL [10] (.nm 10) fYes E2__law_written (rng 0 2)
          [some o5, some (.fr (dT as)), some (.fr (.int up)), some (.fr (.list (dI ls))), some (.ol (trD tree)), some (.fr (.int k)), some (.fr (.int v)), some (.fr (.int y)), x8, none, none] [] =
        .ok (dI ps, [some o6, some (.fr (dT as)), some (.fr (.int up)), some (.fr (.list (dI ls))), some (.ol (trD tree)), some (.fr (.int k)), some (.fr (.int v)), some (.fr (.int y)), x8, none, none]) := by
      obtain ⟨e, acc, h, o6, ps, z1, z2, z3, z4, z5⟩ := lc_inv (vs := [10]) (t := .nm 10) (test := fYes) (elt := E2__law_written)
        (fun k2 e acc => ∃ o6 ps, Pen o6 ∧ ps.length = k2 ∧ (∀ p ∈ ps, 0 ≤ p ∧ p < (tree.length : Int)) ∧ acc = dI ps ∧ e = [some o6, some (.fr (dT as)), some (.fr (.int up)), some (.fr (.list (dI ls))), some (.ol (trD tree)), some (.fr (.int k)), some (.fr (.int v)), some (.fr (.int y)), x8, none, none])
        (rng 0 2) (env := [some o5, some (.fr (dT as)), some (.fr (.int up)), some (.fr (.list (dI ls))), some (.ol (trD tree)), some (.fr (.int k)), some (.fr (.int v)), some (.fr (.int y)), x8, none, none]) (acc := []) ⟨o5, [], p5, rfl, by simp, rfl, rfl⟩ (fun k2 d e acc hd hP => by
          obtain ⟨o6, ps, z1, z2, z3, rfl, rfl⟩ := hP
          obtain ⟨hk2, rfl⟩ := rng0_at hd
          obtain ⟨s1, o7, p7, s10, s11, e7⟩ := draw_ok (m := tree.length) z1 (by omega) (by omega)
          obtain ⟨s2, o8, p8, s20, s21, e8⟩ := draw_ok (m := 3) p7 (by decide) (by decide)
          obtain ⟨g, hg, g0, g1⟩ : ∃ g : Int, pIx (.list [.int y, .int ((tree.length : Int) - 1), .int s1]) (.int s2) = some (.fr (.int g)) ∧ 0 ≤ g ∧ g < tree.length := by
            rcases (by omega : s2 = 0 ∨ s2 = 1 ∨ s2 = 2) with rfl | rfl | rfl
            · exact ⟨y, rfl, y0, y1⟩
            · exact ⟨_, rfl, by omega, by omega⟩
            · exact ⟨s1, rfl, s10, s11⟩
          refine ⟨_, true, _, rfl, rfl, fun z => (by cases z), fun _ => ⟨.fr (.int g), [some o8, some (.fr (dT as)), some (.fr (.int up)), some (.fr (.list (dI ls))), some (.ol (trD tree)), some (.fr (.int k)), some (.fr (.int v)), some (.fr (.int y)), x8, none, some (.fr (.int k2))], ?_, ?_, o8, ps ++ [g], p8, ?_, ?_, ?_, ?_⟩⟩
          · simp [E2__law_written, a_seq, a_ifS, a_B, a_op, a_ov, a_ev0, a_evv, a_evs, a_C, a_V, a_M, a_set, a_setI, a_app, a_ret, a_ex, a_skip, a_no, a_not, a_andT, a_orT, a_and, a_or, a_notV, a_if, a_par, a_call, a_forS, a_sq, a_r1, a_r2, a_en, a_zp, a_asT, a_chI, a_yes, a_lc, a_fn, okA, f_fr, bkA, rsvs, rsv, dvs, on1, on2, d_fr, d_ol, rsO, ndS, sl, putB, asT, setAll, ofO, Dy.ints1, Dy.ints2, nE, wipeE, unw, frO, q_addI, q_addL, q_addT, q_addS, q_sub, q_div, q_mod, q_pow, q_neg, q_cm, pIs, pIsn, q_isN, q_isI, q_isS, q_isT, q_isL, q_isB, q_lenL, q_lenT, pTup, pLst, q_tupL, q_tupT, q_lstL, q_lstT, q_revL, q_slL, q_slT, q_shL, q_shT, q_sqL, q_sqT, q_intI, q_max2, q_min2, q_aII, q_aBI, q_aTI, q_aTT, q_aLL, q_aTL, q_aIT, trD_len, e7, e8, hg]
          · rw [dI_len, z2]; omega
          · simp [z2]
          · intro p hp
            rcases List.mem_append.mp hp with h | h
            · exact z3 p h
            · simp at h; subst h; exact ⟨g0, g1⟩
          · simp [dI, O.data]
          · rfl)
      refine ⟨ps, o6, z1, by rw [z2, rng_len], z3, ?_⟩
      rw [h, z4, z5]
    obtain ⟨ps, o6, z1, z2, z3, z4⟩ := comp
    obtain ⟨a, ga, ma, eav⟩ := atI_ok (xs := as) v0 v1
    obtain ⟨b0, b1⟩ := a1 a ma
    have gi : pIx (dT as) (.int v) = some (.fr (.int a)) := pIxT (by
      unfold atI ixN dI
      rw [List.length_map, if_pos v0, if_pos v1]
      show (as.map PyData.int)[v.toNat]? = _
      rw [List.getElem?_map, ga]; rfl)
    have cu : cutD (dI ps) none (some a) = dI (ps.take a.toNat) := by
      have : a = (a.toNat : Int) := by omega
      rw [this, cutHi, Int.toNat_natCast]
      simp [dI]
    refine ⟨_, [some o6, some (.fr (dT as)), some (.fr (.int up)), some (.fr (.list (dI ls))), some (.ol (trD (tree ++ [v :: ps.take a.toNat]))), some (.fr (.int k)), some (.fr (.int v)), some (.fr (.int y)), some (.ol (dI ps)), none, none], rfl, ?_, o6, tree ++ [v :: ps.take a.toNat], _, _, _, _, z1, wf.snoc ⟨v, ps.take a.toNat, rfl, v0, v1, ?_, fun p hp => z3 p (List.mem_of_mem_take hp)⟩, by simp [tl], rfl⟩
    · have s1 : 1 + (dI (ps.take a.toNat)).length ≤ 1000000 := by rw [dI_len, List.length_take]; omega
      have s2 : tree.length < 1000000 := by omega
      have s3 : trD (tree ++ [v :: ps.take a.toNat]) = trD tree ++ [.tuple (.int v :: dI (ps.take a.toNat))] := by simp [trD, dT, dI]
      simp [L1__law_written, a_seq, a_ifS, a_B, a_op, a_ov, a_ev0, a_evv, a_evs, a_C, a_V, a_M, a_set, a_setI, a_app, a_ret, a_ex, a_skip, a_no, a_not, a_andT, a_orT, a_and, a_or, a_notV, a_if, a_par, a_call, a_forS, a_sq, a_r1, a_r2, a_en, a_zp, a_asT, a_chI, a_yes, a_lc, a_fn, okA, f_fr, bkA, rsvs, rsv, dvs, on1, on2, d_fr, d_ol, rsO, ndS, sl, putB, asT, setAll, ofO, Dy.ints1, Dy.ints2, nE, wipeE, unw, frO, q_addI, q_addL, q_addT, q_addS, q_sub, q_div, q_mod, q_pow, q_neg, q_cm, pIs, pIsn, q_isN, q_isI, q_isS, q_isT, q_isL, q_isB, q_lenL, q_lenT, pTup, pLst, q_tupL, q_tupT, q_lstL, q_lstT, q_revL, q_slL, q_slT, q_shL, q_shT, q_sqL, q_sqT, q_intI, q_max2, q_min2, q_aII, q_aBI, q_aTI, q_aTT, q_aLL, q_aTL, q_aIT, pLen_dT, e4, trD_len, e5, ey, z4, gi, cu, s1, s2, s3]
    · rw [ga, List.length_take, z2]
      congr 1
      omega
  obtain ⟨e, h1, o3, tree, x5, x6, x7, x8, p3, wf, tl, rfl⟩ := for_inv P (rng 0 r.toNat) init step
  rw [rng_len] at tl
  refine ⟨tree, o3, p3, wf, fun z => by subst z; simp at tl, by omega, ?_⟩
  have hr : r ≤ 1000000000 ∧ -1000000000 ≤ r := ⟨by omega, by omega⟩
  simp [M__law_written, b__law_written, a_seq, a_ifS, a_B, a_op, a_ov, a_ev0, a_evv, a_evs, a_C, a_V, a_M, a_set, a_setI, a_app, a_ret, a_ex, a_skip, a_no, a_not, a_andT, a_orT, a_and, a_or, a_notV, a_if, a_par, a_call, a_forS, a_sq, a_r1, a_r2, a_en, a_zp, a_asT, a_chI, a_yes, a_lc, a_fn, okA, f_fr, bkA, rsvs, rsv, dvs, on1, on2, d_fr, d_ol, rsO, ndS, sl, putB, asT, setAll, ofO, Dy.ints1, Dy.ints2, nE, wipeE, unw, frO, q_addI, q_addL, q_addT, q_addS, q_sub, q_div, q_mod, q_pow, q_neg, q_cm, pIs, pIsn, q_isN, q_isI, q_isS, q_isT, q_isL, q_isB, q_lenL, q_lenT, pTup, pLst, q_tupL, q_tupT, q_lstL, q_lstT, q_revL, q_slL, q_slT, q_shL, q_shT, q_sqL, q_sqT, q_intI, q_max2, q_min2, q_aII, q_aBI, q_aTI, q_aTT, q_aLL, q_aTL, q_aIT, seq_dT, hlc, pEq_nil l2, e1, e2, hr, h1]

/-! ### what the program asks of arities and trees -/
theorem between_ok {a lo hi : Int} (h1 : lo ≤ a) (h2 : a ≤ hi) : M_is_between [.fr (.int a), .fr (.int lo), .fr (.int hi)] = .ok (.fr (.bool true), [.fr (.int a), .fr (.int lo), .fr (.int hi)]) := by
  simp [M_is_between, b_is_between, a_seq, a_ifS, a_B, a_op, a_ov, a_ev0, a_evv, a_evs, a_C, a_V, a_M, a_set, a_setI, a_app, a_ret, a_ex, a_skip, a_no, a_not, a_andT, a_orT, a_and, a_or, a_notV, a_if, a_par, a_call, a_forS, a_sq, a_r1, a_r2, a_en, a_zp, a_asT, a_chI, a_yes, a_lc, a_fn, okA, f_fr, bkA, rsvs, rsv, dvs, on1, on2, d_fr, d_ol, rsO, ndS, sl, putB, asT, setAll, ofO, Dy.ints1, Dy.ints2, nE, wipeE, unw, frO, q_addI, q_addL, q_addT, q_addS, q_sub, q_div, q_mod, q_pow, q_neg, q_cm, pIs, pIsn, q_isN, q_isI, q_isS, q_isT, q_isL, q_isB, q_lenL, q_lenT, pTup, pLst, q_tupL, q_tupT, q_lstL, q_lstT, q_revL, q_slL, q_slT, q_shL, q_shT, q_sqL, q_sqT, q_intI, q_max2, q_min2, q_aII, q_aBI, q_aTI, q_aTT, q_aLL, q_aTL, q_aIT, h1, h2]
theorem pAll_true {α : Type} (xs : List α) : pAll (.list (xs.map fun _ => .bool true)) = some (.fr (.bool true)) := by
  have e : xs.map (fun _ => PyData.bool true) = (xs.map fun _ => true).map PyData.bool := by simp
  show (boolsOf _).map _ = _
  rw [e, boolsOf_map]
  simp
theorem arOk_ok {as : List Int} (h : ArOk as) : M_is_arities [.fr (dT as)] = .ok (.fr (.bool true), [.fr (dT as)]) := by
  obtain ⟨a1, a2, a3⟩ := h
  have hlen : 0 < as.length := List.length_pos_of_mem a2
  have e1 : lcL [1] (.nm 1) fYes E1_is_arities (dI as) [some (.fr (dT as)), none] [] = .ok ((dI as).map fun _ => .bool true, [some (.fr (dT as)), none]) := by
    refine lc_map (fun _ => .bool true) (dI as) (fun d hd => ?_) (by rw [dI_len]; omega)
    obtain ⟨a, ha, rfl⟩ := List.mem_map.mp hd
    obtain ⟨x0, x1⟩ := a1 a ha
    exact ⟨_, .fr (.bool true), [some (.fr (dT as)), some (.fr (.int a))], rfl, by simp [E1_is_arities, a_seq, a_ifS, a_B, a_op, a_ov, a_ev0, a_evv, a_evs, a_C, a_V, a_M, a_set, a_setI, a_app, a_ret, a_ex, a_skip, a_no, a_not, a_andT, a_orT, a_and, a_or, a_notV, a_if, a_par, a_call, a_forS, a_sq, a_r1, a_r2, a_en, a_zp, a_asT, a_chI, a_yes, a_lc, a_fn, okA, f_fr, bkA, rsvs, rsv, dvs, on1, on2, d_fr, d_ol, rsO, ndS, sl, putB, asT, setAll, ofO, Dy.ints1, Dy.ints2, nE, wipeE, unw, frO, q_addI, q_addL, q_addT, q_addS, q_sub, q_div, q_mod, q_pow, q_neg, q_cm, pIs, pIsn, q_isN, q_isI, q_isS, q_isT, q_isL, q_isB, q_lenL, q_lenT, pTup, pLst, q_tupL, q_tupT, q_lstL, q_lstT, q_revL, q_slL, q_slT, q_shL, q_shT, q_sqL, q_sqT, q_intI, q_max2, q_min2, q_aII, q_aBI, q_aTI, q_aTT, q_aLL, q_aTL, q_aIT, between_ok x0 x1], rfl, rfl⟩
  have c1 : (1 : Int) ≤ as.length := by omega
  have c2 : (as.length : Int) ≤ 6 := by omega
  have c3 : isA .tuple (dT as) = true := rfl
  simp [M_is_arities, b_is_arities, a_seq, a_ifS, a_B, a_op, a_ov, a_ev0, a_evv, a_evs, a_C, a_V, a_M, a_set, a_setI, a_app, a_ret, a_ex, a_skip, a_no, a_not, a_andT, a_orT, a_and, a_or, a_notV, a_if, a_par, a_call, a_forS, a_sq, a_r1, a_r2, a_en, a_zp, a_asT, a_chI, a_yes, a_lc, a_fn, okA, f_fr, bkA, rsvs, rsv, dvs, on1, on2, d_fr, d_ol, rsO, ndS, sl, putB, asT, setAll, ofO, Dy.ints1, Dy.ints2, nE, wipeE, unw, frO, q_addI, q_addL, q_addT, q_addS, q_sub, q_div, q_mod, q_pow, q_neg, q_cm, pIs, pIsn, q_isN, q_isI, q_isS, q_isT, q_isL, q_isB, q_lenL, q_lenT, pTup, pLst, q_tupL, q_tupT, q_lstL, q_lstT, q_revL, q_slL, q_slT, q_shL, q_shT, q_sqL, q_sqT, q_intI, q_max2, q_min2, q_aII, q_aBI, q_aTI, q_aTT, q_aLL, q_aTL, q_aIT, pLen_dT, seq_dT, c1, c2, c3, e1, pAll_true]
theorem pNe_int (i j : Int) : pNe (.int i) (.int j) = some (.fr (.bool (!decide (i = j)))) := by
  have h : ∀ k : Int, shp (.int k) = true := fun k => by unfold shp SeqAt.shaped; simp [PyData.canLay0, PyData.depth]
  show (if shp (.int i) = true ∧ shp (.int j) = true then some (O.fr (PyData.bool (!PyData.eqv (.int i) (.int j)))) else none) = _
  rw [if_pos ⟨h i, h j⟩]
  show some (O.fr (PyData.bool (!PyData.eqv (.int i) (.int j)))) = _
  congr 3
theorem pEq_T0 {as : List Int} (h : as ≠ []) : pEq (dT as) (.tuple []) = some (.fr (.bool false)) := by
  show (if _ then _ else _) = _
  rw [if_pos ⟨shp_T as, shp_T []⟩]
  cases as with
  | nil => exact absurd rfl h
  | cons a as => rfl
theorem node_ok {as n : List Int} {k : Nat} (h : NodeOk as k n) (hl : n.length ≤ 1000) : M_is_node [.fr (dT as), .fr (dT n), .fr (.int k)] = .ok (.fr (.bool true), [.fr (dT as), .fr (dT n), .fr (.int k)]) := by
  obtain ⟨op, ps, rfl, o0, o1, o2, o3⟩ := h
  have e1 : lcL [3] (.nm 3) fYes E1_is_node (dI ps) [some (.fr (dT as)), some (.fr (dT (op :: ps))), some (.fr (.int k)), none] [] = .ok ((dI ps).map fun _ => .bool true, [some (.fr (dT as)), some (.fr (dT (op :: ps))), some (.fr (.int k)), none]) := by
    refine lc_map (fun _ => .bool true) (dI ps) (fun d hd => ?_) (by rw [dI_len]; simp at hl; omega)
    obtain ⟨a, ha, rfl⟩ := List.mem_map.mp hd
    obtain ⟨x0, x1⟩ := o3 a ha
    exact ⟨_, .fr (.bool true), [some (.fr (dT as)), some (.fr (dT (op :: ps))), some (.fr (.int k)), some (.fr (.int a))], rfl, by simp [E1_is_node, a_seq, a_ifS, a_B, a_op, a_ov, a_ev0, a_evv, a_evs, a_C, a_V, a_M, a_set, a_setI, a_app, a_ret, a_ex, a_skip, a_no, a_not, a_andT, a_orT, a_and, a_or, a_notV, a_if, a_par, a_call, a_forS, a_sq, a_r1, a_r2, a_en, a_zp, a_asT, a_chI, a_yes, a_lc, a_fn, okA, f_fr, bkA, rsvs, rsv, dvs, on1, on2, d_fr, d_ol, rsO, ndS, sl, putB, asT, setAll, ofO, Dy.ints1, Dy.ints2, nE, wipeE, unw, frO, q_addI, q_addL, q_addT, q_addS, q_sub, q_div, q_mod, q_pow, q_neg, q_cm, pIs, pIsn, q_isN, q_isI, q_isS, q_isT, q_isL, q_isB, q_lenL, q_lenT, pTup, pLst, q_tupL, q_tupT, q_lstL, q_lstT, q_revL, q_slL, q_slT, q_shL, q_shT, q_sqL, q_sqT, q_intI, q_max2, q_min2, q_aII, q_aBI, q_aTI, q_aTT, q_aLL, q_aTL, q_aIT, between_ok x0 (show a ≤ (k : Int) - 1 by omega)], rfl, rfl⟩
  have c3 : isA .tuple (dT (op :: ps)) = true := rfl
  have c4 : pIx (dT (op :: ps)) (.int 0) = some (.fr (.int op)) := pIxT (L2.atI_nat (j := 0) rfl)
  have c5 : pIx (dT as) (.int op) = some (.fr (.int (ps.length : Int))) := pIxT (by
    unfold atI ixN dI
    rw [List.length_map, if_pos o0, if_pos o1]
    show (as.map PyData.int)[op.toNat]? = _
    rw [List.getElem?_map, o2]; rfl)
  have c6 := between_ok o0 (show op ≤ (as.length : Int) - 1 by omega)
  have c7 : ((ps.length : Int) + 1 = 1 + ps.length) = True := eq_true (by omega)
  have c8 : pSl2l (dT (op :: ps)) (.int 1) = some (.fr (.tuple (dI ps))) := by
    show some (O.fr (PyData.tuple (cutD (dI (op :: ps)) (some 1) none))) = _
    rw [show (1 : Int) = ((1 : Nat) : Int) from rfl, cutLo]; rfl
  simp [M_is_node, b_is_node, a_seq, a_ifS, a_B, a_op, a_ov, a_ev0, a_evv, a_evs, a_C, a_V, a_M, a_set, a_setI, a_app, a_ret, a_ex, a_skip, a_no, a_not, a_andT, a_orT, a_and, a_or, a_notV, a_if, a_par, a_call, a_forS, a_sq, a_r1, a_r2, a_en, a_zp, a_asT, a_chI, a_yes, a_lc, a_fn, okA, f_fr, bkA, rsvs, rsv, dvs, on1, on2, d_fr, d_ol, rsO, ndS, sl, putB, asT, setAll, ofO, Dy.ints1, Dy.ints2, nE, wipeE, unw, frO, q_addI, q_addL, q_addT, q_addS, q_sub, q_div, q_mod, q_pow, q_neg, q_cm, pIs, pIsn, q_isN, q_isI, q_isS, q_isT, q_isL, q_isB, q_lenL, q_lenT, pTup, pLst, q_tupL, q_tupT, q_lstL, q_lstT, q_revL, q_slL, q_slT, q_shL, q_shT, q_sqL, q_sqT, q_intI, q_max2, q_min2, q_aII, q_aBI, q_aTI, q_aTT, q_aLL, q_aTL, q_aIT, pLen_dT, seq_dT, c3, c4, c5, c6, pEq_T0 (as := op :: ps) (by simp), pNe_int, c8, e1, pAll_true, c7]

theorem nodeOk_len {as n : List Int} {k : Nat} (ha : ArOk as) (h : NodeOk as k n) : n.length ≤ 3 := by
  obtain ⟨op, ps, rfl, o0, o1, o2, o3⟩ := h
  have := (ha.1 _ (List.mem_of_getElem? o2)).2
  simp
  omega
theorem lay_tr : ∀ tree : List (List Int), PyData.canLayAll0 (trD tree) = true
  | [] => rfl
  | n :: t => by
    show (PyData.canLay0 (dT n) && PyData.canLayAll0 (trD t)) = true
    rw [lay_tr t, show PyData.canLay0 (dT n) = true by simpa [dT, PyData.canLay0] using lay_ints n]; rfl
theorem dep_tr : ∀ tree : List (List Int), PyData.depthAll (trD tree) ≤ 1
  | [] => Nat.zero_le _
  | n :: t => by
    show max (PyData.depth (dT n)) (PyData.depthAll (trD t)) ≤ 1
    have h1 : PyData.depth (dT n) = 1 := by simp [dT, PyData.depth, dep_ints]
    have := dep_tr t
    omega
theorem shp_tr (tree : List (List Int)) : shp (.tuple (trD tree)) = true := by
  unfold shp SeqAt.shaped
  have h1 : (PyData.tuple (trD tree)).canLay0 = true := by simpa [PyData.canLay0] using lay_tr tree
  have h2 : (PyData.tuple (trD tree)).depth ≤ 64 := by have := dep_tr tree; simp [PyData.depth]; omega
  rw [h1, decide_eq_true h2]; rfl
theorem pEq_tr {tree : List (List Int)} (h : tree ≠ []) : pEq (.tuple (trD tree)) (.tuple []) = some (.fr (.bool false)) := by
  show (if _ then _ else _) = _
  rw [if_pos ⟨shp_tr tree, shp_T []⟩]
  cases tree with
  | nil => exact absurd rfl h
  | cons a as => rfl
theorem enum_tr : ∀ (tree : List (List Int)) (k : Nat) (d : PyData), d ∈ enumD k (trD tree) → ∃ j n, tree[j]? = some n ∧ d = .tuple [.int ((k + j : Nat) : Int), dT n]
  | [], _, d, h => by simp [trD, enumD] at h
  | a :: as, k, d, h => by
    have h : d ∈ PyData.tuple [.int (k : Int), dT a] :: enumD (k + 1) (trD as) := h
    rcases List.mem_cons.mp h with rfl | h
    · exact ⟨0, a, rfl, rfl⟩
    · obtain ⟨j, b, h1, h2⟩ := enum_tr as (k + 1) d h
      exact ⟨j + 1, b, by simpa using h1, by rw [h2, show k + (j + 1) = k + 1 + j by omega]⟩
theorem writ_ok {as : List Int} {tree : List (List Int)} (ha : ArOk as) (h : WF as tree) (h0 : tree ≠ []) (hl : tree.length ≤ 1000) :
    M_is_written [.fr (dT as), .fr (.tuple (trD tree))] = .ok (.fr (.bool true), [.fr (dT as), .fr (.tuple (trD tree))]) := by
  have e1 : lcL [2, 3] (.tu [2, 3]) fYes E1_is_written (enumD 0 (trD tree)) [some (.fr (dT as)), some (.fr (.tuple (trD tree))), none, none] [] = .ok ((enumD 0 (trD tree)).map fun _ => .bool true, [some (.fr (dT as)), some (.fr (.tuple (trD tree))), none, none]) := by
    refine lc_map (fun _ => .bool true) _ (fun d hd => ?_) (by rw [enumD_len, trD_len]; omega)
    obtain ⟨j, n, hj, rfl⟩ := enum_tr tree 0 d hd
    have hn := h j n hj
    have e := node_ok hn (Nat.le_trans (nodeOk_len ha hn) (by decide))
    rw [Nat.zero_add]
    exact ⟨_, .fr (.bool true), [some (.fr (dT as)), some (.fr (.tuple (trD tree))), some (.fr (.int (j : Int))), some (.fr (dT n))], rfl, by simp [E1_is_written, a_seq, a_ifS, a_B, a_op, a_ov, a_ev0, a_evv, a_evs, a_C, a_V, a_M, a_set, a_setI, a_app, a_ret, a_ex, a_skip, a_no, a_not, a_andT, a_orT, a_and, a_or, a_notV, a_if, a_par, a_call, a_forS, a_sq, a_r1, a_r2, a_en, a_zp, a_asT, a_chI, a_yes, a_lc, a_fn, okA, f_fr, bkA, rsvs, rsv, dvs, on1, on2, d_fr, d_ol, rsO, ndS, sl, putB, asT, setAll, ofO, Dy.ints1, Dy.ints2, nE, wipeE, unw, frO, q_addI, q_addL, q_addT, q_addS, q_sub, q_div, q_mod, q_pow, q_neg, q_cm, pIs, pIsn, q_isN, q_isI, q_isS, q_isT, q_isL, q_isB, q_lenL, q_lenT, pTup, pLst, q_tupL, q_tupT, q_lstL, q_lstT, q_revL, q_slL, q_slT, q_shL, q_shT, q_sqL, q_sqT, q_intI, q_max2, q_min2, q_aII, q_aBI, q_aTI, q_aTT, q_aLL, q_aTL, q_aIT, e], rfl, rfl⟩
  simp [M_is_written, b_is_written, a_seq, a_ifS, a_B, a_op, a_ov, a_ev0, a_evv, a_evs, a_C, a_V, a_M, a_set, a_setI, a_app, a_ret, a_ex, a_skip, a_no, a_not, a_andT, a_orT, a_and, a_or, a_notV, a_if, a_par, a_call, a_forS, a_sq, a_r1, a_r2, a_en, a_zp, a_asT, a_chI, a_yes, a_lc, a_fn, okA, f_fr, bkA, rsvs, rsv, dvs, on1, on2, d_fr, d_ol, rsO, ndS, sl, putB, asT, setAll, ofO, Dy.ints1, Dy.ints2, nE, wipeE, unw, frO, q_addI, q_addL, q_addT, q_addS, q_sub, q_div, q_mod, q_pow, q_neg, q_cm, pIs, pIsn, q_isN, q_isI, q_isS, q_isT, q_isL, q_isB, q_lenL, q_lenT, pTup, pLst, q_tupL, q_tupT, q_lstL, q_lstT, q_revL, q_slL, q_slT, q_shL, q_shT, q_sqL, q_sqT, q_intI, q_max2, q_min2, q_aII, q_aBI, q_aTI, q_aTT, q_aLL, q_aTL, q_aIT, pEq_tr h0, e1, pAll_true]
theorem both_ok {as : List Int} {tree : List (List Int)} (ha : ArOk as) (h : WF as tree) (h0 : tree ≠ []) (hl : tree.length ≤ 1000) :
    M_need_both [.fr (dT as), .fr (.tuple (trD tree))] = .ok (.fr .none, [.fr (dT as), .fr (.tuple (trD tree))]) := by
  have e1 : M_need_arities [.fr (dT as)] = .ok (.fr .none, [.fr (dT as)]) := by simp [M_need_arities, b_need_arities, a_seq, a_ifS, a_B, a_op, a_ov, a_ev0, a_evv, a_evs, a_C, a_V, a_M, a_set, a_setI, a_app, a_ret, a_ex, a_skip, a_no, a_not, a_andT, a_orT, a_and, a_or, a_notV, a_if, a_par, a_call, a_forS, a_sq, a_r1, a_r2, a_en, a_zp, a_asT, a_chI, a_yes, a_lc, a_fn, okA, f_fr, bkA, rsvs, rsv, dvs, on1, on2, d_fr, d_ol, rsO, ndS, sl, putB, asT, setAll, ofO, Dy.ints1, Dy.ints2, nE, wipeE, unw, frO, q_addI, q_addL, q_addT, q_addS, q_sub, q_div, q_mod, q_pow, q_neg, q_cm, pIs, pIsn, q_isN, q_isI, q_isS, q_isT, q_isL, q_isB, q_lenL, q_lenT, pTup, pLst, q_tupL, q_tupT, q_lstL, q_lstT, q_revL, q_slL, q_slT, q_shL, q_shT, q_sqL, q_sqT, q_intI, q_max2, q_min2, q_aII, q_aBI, q_aTI, q_aTT, q_aLL, q_aTL, q_aIT, arOk_ok ha]
  have e2 : M_need_tree [.fr (dT as), .fr (.tuple (trD tree))] = .ok (.fr .none, [.fr (dT as), .fr (.tuple (trD tree))]) := by simp [M_need_tree, b_need_tree, a_seq, a_ifS, a_B, a_op, a_ov, a_ev0, a_evv, a_evs, a_C, a_V, a_M, a_set, a_setI, a_app, a_ret, a_ex, a_skip, a_no, a_not, a_andT, a_orT, a_and, a_or, a_notV, a_if, a_par, a_call, a_forS, a_sq, a_r1, a_r2, a_en, a_zp, a_asT, a_chI, a_yes, a_lc, a_fn, okA, f_fr, bkA, rsvs, rsv, dvs, on1, on2, d_fr, d_ol, rsO, ndS, sl, putB, asT, setAll, ofO, Dy.ints1, Dy.ints2, nE, wipeE, unw, frO, q_addI, q_addL, q_addT, q_addS, q_sub, q_div, q_mod, q_pow, q_neg, q_cm, pIs, pIsn, q_isN, q_isI, q_isS, q_isT, q_isL, q_isB, q_lenL, q_lenT, pTup, pLst, q_tupL, q_tupT, q_lstL, q_lstT, q_revL, q_slL, q_slT, q_shL, q_shT, q_sqL, q_sqT, q_intI, q_max2, q_min2, q_aII, q_aBI, q_aTI, q_aTT, q_aLL, q_aTL, q_aIT, writ_ok ha h h0 hl]
  simp [M_need_both, b_need_both, a_seq, a_ifS, a_B, a_op, a_ov, a_ev0, a_evv, a_evs, a_C, a_V, a_M, a_set, a_setI, a_app, a_ret, a_ex, a_skip, a_no, a_not, a_andT, a_orT, a_and, a_or, a_notV, a_if, a_par, a_call, a_forS, a_sq, a_r1, a_r2, a_en, a_zp, a_asT, a_chI, a_yes, a_lc, a_fn, okA, f_fr, bkA, rsvs, rsv, dvs, on1, on2, d_fr, d_ol, rsO, ndS, sl, putB, asT, setAll, ofO, Dy.ints1, Dy.ints2, nE, wipeE, unw, frO, q_addI, q_addL, q_addT, q_addS, q_sub, q_div, q_mod, q_pow, q_neg, q_cm, pIs, pIsn, q_isN, q_isI, q_isS, q_isT, q_isL, q_isB, q_lenL, q_lenT, pTup, pLst, q_tupL, q_tupT, q_lstL, q_lstT, q_revL, q_slL, q_slT, q_shL, q_shT, q_sqL, q_sqT, q_intI, q_max2, q_min2, q_aII, q_aBI, q_aTI, q_aTT, q_aLL, q_aTL, q_aIT, e1, e2]
/-! ### amounts and heights -/
def at0 (acc : List Int) (p : Int) : Int := acc.getD p.toNat 0
def stA (acc n : List Int) : List Int := acc ++ [1 + (n.tail.map (at0 acc)).sum]
def stH (acc n : List Int) : List Int := acc ++ [1 + maxL (0 :: n.tail.map (at0 acc))]
def am (t : List (List Int)) : List Int := t.foldl stA []
def he (t : List (List Int)) : List Int := t.foldl stH []
theorem stA_len (acc n : List Int) : (stA acc n).length = acc.length + 1 := by simp [stA]
theorem stH_len (acc n : List Int) : (stH acc n).length = acc.length + 1 := by simp [stH]
theorem fold_take {f : List Int → List Int → List Int} {t : List (List Int)} {k : Nat} {n : List Int} (h : t[k]? = some n) : (t.take (k + 1)).foldl f [] = f ((t.take k).foldl f []) n := by
  rw [List.take_add_one, h, List.foldl_append]; rfl
theorem am_len {t : List (List Int)} : ∀ k, k ≤ t.length → ((t.take k).foldl stA []).length = k
  | 0, _ => rfl
  | k + 1, h => by
    rw [fold_take (List.getElem?_eq_getElem (show k < t.length by omega))]
    rw [stA_len, am_len k (by omega)]
theorem he_len {t : List (List Int)} : ∀ k, k ≤ t.length → ((t.take k).foldl stH []).length = k
  | 0, _ => rfl
  | k + 1, h => by
    rw [fold_take (List.getElem?_eq_getElem (show k < t.length by omega))]
    rw [stH_len, he_len k (by omega)]
theorem ix_at0 {acc : List Int} {p : Int} (h0 : 0 ≤ p) (h1 : p < acc.length) : pIx (.list (dI acc)) (.int p) = some (.fr (.int (at0 acc p))) := pIxL (by
  unfold atI ixN dI
  rw [List.length_map, if_pos h0, if_pos h1]
  show (acc.map PyData.int)[p.toNat]? = _
  have hk : p.toNat < acc.length := by omega
  rw [List.getElem?_map, List.getElem?_eq_getElem hk]
  show some (PyData.int acc[p.toNat]) = _
  unfold at0
  rw [List.getD_eq_getElem?_getD, List.getElem?_eq_getElem hk]; rfl)
def atD (acc : List Int) : PyData → PyData
  | .int p => .int (at0 acc p)
  | _ => .none
theorem atD_map (acc ps : List Int) : (dI ps).map (atD acc) = dI (ps.map (at0 acc)) := by simp [dI, atD]
theorem pSum_I (xs : List Int) : pSum (.list (dI xs)) = some (.fr (.int xs.sum)) := by
  show (intsOf (dI xs)).map _ = _
  unfold dI
  rw [intsOf_map]; rfl
theorem pMax_I (x : Int) (xs : List Int) : pMax [.list (dI (x :: xs))] = some (.fr (.int (maxL (x :: xs)))) := by
  show (match intsOf (dI (x :: xs)) with | some (n :: ns) => some (O.fr (.int (maxL (n :: ns)))) | _ => none) = _
  unfold dI
  rw [intsOf_map]
theorem sl1 (op : Int) (ps : List Int) : pSl2l (dT (op :: ps)) (.int 1) = some (.fr (.tuple (dI ps))) := by
  show some (O.fr (PyData.tuple (cutD (dI (op :: ps)) (some 1) none))) = _
  rw [show (1 : Int) = ((1 : Nat) : Int) from rfl, cutLo]; rfl
theorem amounts_ok {as : List Int} {tree : List (List Int)} (ha : ArOk as) (h : WF as tree) (hl : tree.length ≤ 1000) : M_amounts [.fr (.tuple (trD tree))] = .ok (.ol (dI (am tree)), [.fr (.tuple (trD tree))]) := by
  obtain ⟨e, h1, x2, rfl⟩ := for_inv (t := .nm 2) (body := L1_amounts) (fun k e => ∃ x2, e = [some (.fr (.tuple (trD tree))), some (.ol (dI ((tree.take k).foldl stA []))), x2, none]) (trD tree) (env := [some (.fr (.tuple (trD tree))), some (.ol []), none, none]) ⟨none, rfl⟩ (fun k d e hd hP => by
    obtain ⟨x2, rfl⟩ := hP
    have hk : k < tree.length := by rw [← trD_len]; exact (List.getElem?_eq_some_iff.mp hd).1
    obtain ⟨n, hn, rfl⟩ : ∃ n, tree[k]? = some n ∧ d = dT n := by
      unfold trD at hd
      rw [List.getElem?_map, List.getElem?_eq_getElem hk] at hd
      exact ⟨_, List.getElem?_eq_getElem hk, by cases hd; rfl⟩
    obtain ⟨op, ps, rfl, o0, o1, o2, o3⟩ := h k n hn
    have hn3 := nodeOk_len ha (h k _ hn)
    let acc := (tree.take k).foldl stA []
    have al : acc.length = k := am_len k (by omega)
    have c : lcL [3] (.nm 3) fYes E1_amounts (dI ps) [some (.fr (.tuple (trD tree))), some (.ol (dI acc)), some (.fr (dT (op :: ps))), none] [] = .ok (dI (ps.map (at0 acc)), [some (.fr (.tuple (trD tree))), some (.ol (dI acc)), some (.fr (dT (op :: ps))), none]) := by
      rw [lc_map (atD acc) (dI ps) (fun d hd => ?_) (by rw [dI_len]; simp at hn3; omega), atD_map]
      obtain ⟨p, hp, rfl⟩ := List.mem_map.mp hd
      obtain ⟨x0, x1⟩ := o3 p hp
      exact ⟨_, .fr (.int (at0 acc p)), [some (.fr (.tuple (trD tree))), some (.ol (dI acc)), some (.fr (dT (op :: ps))), some (.fr (.int p))], rfl, by simp [E1_amounts, a_seq, a_ifS, a_B, a_op, a_ov, a_ev0, a_evv, a_evs, a_C, a_V, a_M, a_set, a_setI, a_app, a_ret, a_ex, a_skip, a_no, a_not, a_andT, a_orT, a_and, a_or, a_notV, a_if, a_par, a_call, a_forS, a_sq, a_r1, a_r2, a_en, a_zp, a_asT, a_chI, a_yes, a_lc, a_fn, okA, f_fr, bkA, rsvs, rsv, dvs, on1, on2, d_fr, d_ol, rsO, ndS, sl, putB, asT, setAll, ofO, Dy.ints1, Dy.ints2, nE, wipeE, unw, frO, q_addI, q_addL, q_addT, q_addS, q_sub, q_div, q_mod, q_pow, q_neg, q_cm, pIs, pIsn, q_isN, q_isI, q_isS, q_isT, q_isL, q_isB, q_lenL, q_lenT, pTup, pLst, q_tupL, q_tupT, q_lstL, q_lstT, q_revL, q_slL, q_slT, q_shL, q_shT, q_sqL, q_sqT, q_intI, q_max2, q_min2, q_aII, q_aBI, q_aTI, q_aTT, q_aLL, q_aTL, q_aIT, ix_at0 x0 (by rw [al]; exact x1)], rfl, rfl⟩
    refine ⟨_, [some (.fr (.tuple (trD tree))), some (.ol (dI (stA acc (op :: ps)))), some (.fr (dT (op :: ps))), none], rfl, ?_, _, by rw [fold_take hn]⟩
    have s1 : (dI acc).length < 1000000 := by rw [dI_len, al]; omega
    have s2 : dI (stA acc (op :: ps)) = dI acc ++ [.int (1 + (ps.map (at0 acc)).sum)] := by simp [stA, dI]
    show L1_amounts [some (.fr (.tuple (trD tree))), some (.ol (dI acc)), some (.fr (dT (op :: ps))), none] = _
    simp [L1_amounts, a_seq, a_ifS, a_B, a_op, a_ov, a_ev0, a_evv, a_evs, a_C, a_V, a_M, a_set, a_setI, a_app, a_ret, a_ex, a_skip, a_no, a_not, a_andT, a_orT, a_and, a_or, a_notV, a_if, a_par, a_call, a_forS, a_sq, a_r1, a_r2, a_en, a_zp, a_asT, a_chI, a_yes, a_lc, a_fn, okA, f_fr, bkA, rsvs, rsv, dvs, on1, on2, d_fr, d_ol, rsO, ndS, sl, putB, asT, setAll, ofO, Dy.ints1, Dy.ints2, nE, wipeE, unw, frO, q_addI, q_addL, q_addT, q_addS, q_sub, q_div, q_mod, q_pow, q_neg, q_cm, pIs, pIsn, q_isN, q_isI, q_isS, q_isT, q_isL, q_isB, q_lenL, q_lenT, pTup, pLst, q_tupL, q_tupT, q_lstL, q_lstT, q_revL, q_slL, q_slT, q_shL, q_shT, q_sqL, q_sqT, q_intI, q_max2, q_min2, q_aII, q_aBI, q_aTI, q_aTT, q_aLL, q_aTL, q_aIT, sl1, c, pSum_I, s1, s2])
  rw [trD_len, List.take_length] at h1
  simp [M_amounts, b_amounts, a_seq, a_ifS, a_B, a_op, a_ov, a_ev0, a_evv, a_evs, a_C, a_V, a_M, a_set, a_setI, a_app, a_ret, a_ex, a_skip, a_no, a_not, a_andT, a_orT, a_and, a_or, a_notV, a_if, a_par, a_call, a_forS, a_sq, a_r1, a_r2, a_en, a_zp, a_asT, a_chI, a_yes, a_lc, a_fn, okA, f_fr, bkA, rsvs, rsv, dvs, on1, on2, d_fr, d_ol, rsO, ndS, sl, putB, asT, setAll, ofO, Dy.ints1, Dy.ints2, nE, wipeE, unw, frO, q_addI, q_addL, q_addT, q_addS, q_sub, q_div, q_mod, q_pow, q_neg, q_cm, pIs, pIsn, q_isN, q_isI, q_isS, q_isT, q_isL, q_isB, q_lenL, q_lenT, pTup, pLst, q_tupL, q_tupT, q_lstL, q_lstT, q_revL, q_slL, q_slT, q_shL, q_shT, q_sqL, q_sqT, q_intI, q_max2, q_min2, q_aII, q_aBI, q_aTI, q_aTT, q_aLL, q_aTL, q_aIT, h1, am]
theorem heights_ok {as : List Int} {tree : List (List Int)} (ha : ArOk as) (h : WF as tree) (hl : tree.length ≤ 1000) : M_heights [.fr (.tuple (trD tree))] = .ok (.ol (dI (he tree)), [.fr (.tuple (trD tree))]) := by
  obtain ⟨e, h1, x2, rfl⟩ := for_inv (t := .nm 2) (body := L1_heights) (fun k e => ∃ x2, e = [some (.fr (.tuple (trD tree))), some (.ol (dI ((tree.take k).foldl stH []))), x2, none]) (trD tree) (env := [some (.fr (.tuple (trD tree))), some (.ol []), none, none]) ⟨none, rfl⟩ (fun k d e hd hP => by
    obtain ⟨x2, rfl⟩ := hP
    have hk : k < tree.length := by rw [← trD_len]; exact (List.getElem?_eq_some_iff.mp hd).1
    obtain ⟨n, hn, rfl⟩ : ∃ n, tree[k]? = some n ∧ d = dT n := by
      unfold trD at hd
      rw [List.getElem?_map, List.getElem?_eq_getElem hk] at hd
      exact ⟨_, List.getElem?_eq_getElem hk, by cases hd; rfl⟩
    obtain ⟨op, ps, rfl, o0, o1, o2, o3⟩ := h k n hn
    have hn3 := nodeOk_len ha (h k _ hn)
    let acc := (tree.take k).foldl stH []
    have al : acc.length = k := he_len k (by omega)
    have c : lcL [3] (.nm 3) fYes E1_heights (dI ps) [some (.fr (.tuple (trD tree))), some (.ol (dI acc)), some (.fr (dT (op :: ps))), none] [] = .ok (dI (ps.map (at0 acc)), [some (.fr (.tuple (trD tree))), some (.ol (dI acc)), some (.fr (dT (op :: ps))), none]) := by
      rw [lc_map (atD acc) (dI ps) (fun d hd => ?_) (by rw [dI_len]; simp at hn3; omega), atD_map]
      obtain ⟨p, hp, rfl⟩ := List.mem_map.mp hd
      obtain ⟨x0, x1⟩ := o3 p hp
      exact ⟨_, .fr (.int (at0 acc p)), [some (.fr (.tuple (trD tree))), some (.ol (dI acc)), some (.fr (dT (op :: ps))), some (.fr (.int p))], rfl, by simp [E1_heights, a_seq, a_ifS, a_B, a_op, a_ov, a_ev0, a_evv, a_evs, a_C, a_V, a_M, a_set, a_setI, a_app, a_ret, a_ex, a_skip, a_no, a_not, a_andT, a_orT, a_and, a_or, a_notV, a_if, a_par, a_call, a_forS, a_sq, a_r1, a_r2, a_en, a_zp, a_asT, a_chI, a_yes, a_lc, a_fn, okA, f_fr, bkA, rsvs, rsv, dvs, on1, on2, d_fr, d_ol, rsO, ndS, sl, putB, asT, setAll, ofO, Dy.ints1, Dy.ints2, nE, wipeE, unw, frO, q_addI, q_addL, q_addT, q_addS, q_sub, q_div, q_mod, q_pow, q_neg, q_cm, pIs, pIsn, q_isN, q_isI, q_isS, q_isT, q_isL, q_isB, q_lenL, q_lenT, pTup, pLst, q_tupL, q_tupT, q_lstL, q_lstT, q_revL, q_slL, q_slT, q_shL, q_shT, q_sqL, q_sqT, q_intI, q_max2, q_min2, q_aII, q_aBI, q_aTI, q_aTT, q_aLL, q_aTL, q_aIT, ix_at0 x0 (by rw [al]; exact x1)], rfl, rfl⟩
    refine ⟨_, [some (.fr (.tuple (trD tree))), some (.ol (dI (stH acc (op :: ps)))), some (.fr (dT (op :: ps))), none], rfl, ?_, _, by rw [fold_take hn]⟩
    have s1 : (dI acc).length < 1000000 := by rw [dI_len, al]; omega
    have s2 : dI (stH acc (op :: ps)) = dI acc ++ [.int (1 + maxL (0 :: ps.map (at0 acc)))] := by simp [stH, dI]
    have s0 : 1 + (dI (ps.map (at0 acc))).length ≤ 1000000 := by rw [dI_len, List.length_map]; simp at hn3; omega
    have pM : pMax [.list (.int 0 :: dI (ps.map (at0 acc)))] = some (.fr (.int (maxL (0 :: ps.map (at0 acc))))) := pMax_I 0 _
    show L1_heights [some (.fr (.tuple (trD tree))), some (.ol (dI acc)), some (.fr (dT (op :: ps))), none] = _
    simp [L1_heights, a_seq, a_ifS, a_B, a_op, a_ov, a_ev0, a_evv, a_evs, a_C, a_V, a_M, a_set, a_setI, a_app, a_ret, a_ex, a_skip, a_no, a_not, a_andT, a_orT, a_and, a_or, a_notV, a_if, a_par, a_call, a_forS, a_sq, a_r1, a_r2, a_en, a_zp, a_asT, a_chI, a_yes, a_lc, a_fn, okA, f_fr, bkA, rsvs, rsv, dvs, on1, on2, d_fr, d_ol, rsO, ndS, sl, putB, asT, setAll, ofO, Dy.ints1, Dy.ints2, nE, wipeE, unw, frO, q_addI, q_addL, q_addT, q_addS, q_sub, q_div, q_mod, q_pow, q_neg, q_cm, pIs, pIsn, q_isN, q_isI, q_isS, q_isT, q_isL, q_isB, q_lenL, q_lenT, pTup, pLst, q_tupL, q_tupT, q_lstL, q_lstT, q_revL, q_slL, q_slT, q_shL, q_shT, q_sqL, q_sqT, q_intI, q_max2, q_min2, q_aII, q_aBI, q_aTI, q_aTT, q_aLL, q_aTL, q_aIT, sl1, c, s0, pM, s1, s2])
  rw [trD_len, List.take_length] at h1
  simp [M_heights, b_heights, a_seq, a_ifS, a_B, a_op, a_ov, a_ev0, a_evv, a_evs, a_C, a_V, a_M, a_set, a_setI, a_app, a_ret, a_ex, a_skip, a_no, a_not, a_andT, a_orT, a_and, a_or, a_notV, a_if, a_par, a_call, a_forS, a_sq, a_r1, a_r2, a_en, a_zp, a_asT, a_chI, a_yes, a_lc, a_fn, okA, f_fr, bkA, rsvs, rsv, dvs, on1, on2, d_fr, d_ol, rsO, ndS, sl, putB, asT, setAll, ofO, Dy.ints1, Dy.ints2, nE, wipeE, unw, frO, q_addI, q_addL, q_addT, q_addS, q_sub, q_div, q_mod, q_pow, q_neg, q_cm, pIs, pIsn, q_isN, q_isI, q_isS, q_isT, q_isL, q_isB, q_lenL, q_lenT, pTup, pLst, q_tupL, q_tupT, q_lstL, q_lstT, q_revL, q_slL, q_slT, q_shL, q_shT, q_sqL, q_sqT, q_intI, q_max2, q_min2, q_aII, q_aBI, q_aTI, q_aTT, q_aLL, q_aTL, q_aIT, h1, he]

theorem atI_lastI {xs : List Int} (h : xs ≠ []) : ∃ x, x ∈ xs ∧ atI (dI xs) (-1) = some (.int x) := by
  obtain ⟨ys, y, rfl⟩ : ∃ ys y, xs = ys ++ [y] := ⟨xs.dropLast, xs.getLast h, (List.dropLast_concat_getLast h).symm⟩
  exact ⟨y, by simp, by unfold dI; rw [List.map_append]; exact L2.atI_last _ _⟩
theorem nodes_ok {as : List Int} {tree : List (List Int)} {x : Int} (ha : ArOk as) (h : WF as tree) (h0 : tree ≠ []) (hl : tree.length ≤ 1000) (hx : atI (dI (am tree)) (-1) = some (.int x)) :
    M_nodes [.fr (dT as), .fr (.tuple (trD tree))] = .ok (.fr (.int x), [.fr (dT as), .fr (.tuple (trD tree))]) := by
  simp [M_nodes, b_nodes, a_seq, a_ifS, a_B, a_op, a_ov, a_ev0, a_evv, a_evs, a_C, a_V, a_M, a_set, a_setI, a_app, a_ret, a_ex, a_skip, a_no, a_not, a_andT, a_orT, a_and, a_or, a_notV, a_if, a_par, a_call, a_forS, a_sq, a_r1, a_r2, a_en, a_zp, a_asT, a_chI, a_yes, a_lc, a_fn, okA, f_fr, bkA, rsvs, rsv, dvs, on1, on2, d_fr, d_ol, rsO, ndS, sl, putB, asT, setAll, ofO, Dy.ints1, Dy.ints2, nE, wipeE, unw, frO, q_addI, q_addL, q_addT, q_addS, q_sub, q_div, q_mod, q_pow, q_neg, q_cm, pIs, pIsn, q_isN, q_isI, q_isS, q_isT, q_isL, q_isB, q_lenL, q_lenT, pTup, pLst, q_tupL, q_tupT, q_lstL, q_lstT, q_revL, q_slL, q_slT, q_shL, q_shT, q_sqL, q_sqT, q_intI, q_max2, q_min2, q_aII, q_aBI, q_aTI, q_aTT, q_aLL, q_aTL, q_aIT, both_ok ha h h0 hl, amounts_ok ha h hl, pIxL hx]
theorem height_ok {as : List Int} {tree : List (List Int)} {x : Int} (ha : ArOk as) (h : WF as tree) (h0 : tree ≠ []) (hl : tree.length ≤ 1000) (hx : atI (dI (he tree)) (-1) = some (.int x)) :
    M_height [.fr (dT as), .fr (.tuple (trD tree))] = .ok (.fr (.int x), [.fr (dT as), .fr (.tuple (trD tree))]) := by
  simp [M_height, b_height, a_seq, a_ifS, a_B, a_op, a_ov, a_ev0, a_evv, a_evs, a_C, a_V, a_M, a_set, a_setI, a_app, a_ret, a_ex, a_skip, a_no, a_not, a_andT, a_orT, a_and, a_or, a_notV, a_if, a_par, a_call, a_forS, a_sq, a_r1, a_r2, a_en, a_zp, a_asT, a_chI, a_yes, a_lc, a_fn, okA, f_fr, bkA, rsvs, rsv, dvs, on1, on2, d_fr, d_ol, rsO, ndS, sl, putB, asT, setAll, ofO, Dy.ints1, Dy.ints2, nE, wipeE, unw, frO, q_addI, q_addL, q_addT, q_addS, q_sub, q_div, q_mod, q_pow, q_neg, q_cm, pIs, pIsn, q_isN, q_isI, q_isS, q_isT, q_isL, q_isB, q_lenL, q_lenT, pTup, pLst, q_tupL, q_tupT, q_lstL, q_lstT, q_revL, q_slL, q_slT, q_shL, q_shT, q_sqL, q_sqT, q_intI, q_max2, q_min2, q_aII, q_aBI, q_aTI, q_aTT, q_aLL, q_aTL, q_aIT, both_ok ha h h0 hl, heights_ok ha h hl, pIxL hx]

theorem due_ok {as : List Int} {tree : List (List Int)} {x y : Int} (ha : ArOk as) (h : WF as tree) (hl : tree.length ≤ 1000) (hx : atI (dI (am tree)) (-1) = some (.int x)) (hy : atI (dI (he tree)) (-1) = some (.int y)) :
    M__law_due [.fr (.tuple (trD tree))] = .ok (.ol [.int x, .int y], [.fr (.tuple (trD tree))]) := by
  obtain ⟨e, h1, x1, rfl⟩ := for_inv (t := .nm 1) (body := L1__law_due) (fun k e => ∃ x1, e = [some (.fr (.tuple (trD tree))), x1, some (.ol (dI ((tree.take k).foldl stA []))), some (.ol (dI ((tree.take k).foldl stH []))), none]) (trD tree) (env := [some (.fr (.tuple (trD tree))), none, some (.ol []), some (.ol []), none]) ⟨none, rfl⟩ (fun k d e hd hP => by
    obtain ⟨x1, rfl⟩ := hP
    have hk : k < tree.length := by rw [← trD_len]; exact (List.getElem?_eq_some_iff.mp hd).1
    obtain ⟨n, hn, rfl⟩ : ∃ n, tree[k]? = some n ∧ d = dT n := by
      unfold trD at hd
      rw [List.getElem?_map, List.getElem?_eq_getElem hk] at hd
      exact ⟨_, List.getElem?_eq_getElem hk, by cases hd; rfl⟩
    obtain ⟨op, ps, rfl, o0, o1, o2, o3⟩ := h k n hn
    have hn3 := nodeOk_len ha (h k _ hn)
    let acc := (tree.take k).foldl stA []
    let bcc := (tree.take k).foldl stH []
    have al : acc.length = k := am_len k (by omega)
    have bl : bcc.length = k := he_len k (by omega)
    have c : lcL [4] (.nm 4) fYes E1__law_due (dI ps) [some (.fr (.tuple (trD tree))), some (.fr (dT (op :: ps))), some (.ol (dI acc)), some (.ol (dI bcc)), none] [] = .ok (dI (ps.map (at0 acc)), [some (.fr (.tuple (trD tree))), some (.fr (dT (op :: ps))), some (.ol (dI acc)), some (.ol (dI bcc)), none]) := by
      rw [lc_map (atD acc) (dI ps) (fun d hd => ?_) (by rw [dI_len]; simp at hn3; omega), atD_map]
      obtain ⟨p, hp, rfl⟩ := List.mem_map.mp hd
      obtain ⟨x0, x1⟩ := o3 p hp
      exact ⟨_, .fr (.int (at0 acc p)), [some (.fr (.tuple (trD tree))), some (.fr (dT (op :: ps))), some (.ol (dI acc)), some (.ol (dI bcc)), some (.fr (.int p))], rfl, by simp [E1__law_due, a_seq, a_ifS, a_B, a_op, a_ov, a_ev0, a_evv, a_evs, a_C, a_V, a_M, a_set, a_setI, a_app, a_ret, a_ex, a_skip, a_no, a_not, a_andT, a_orT, a_and, a_or, a_notV, a_if, a_par, a_call, a_forS, a_sq, a_r1, a_r2, a_en, a_zp, a_asT, a_chI, a_yes, a_lc, a_fn, okA, f_fr, bkA, rsvs, rsv, dvs, on1, on2, d_fr, d_ol, rsO, ndS, sl, putB, asT, setAll, ofO, Dy.ints1, Dy.ints2, nE, wipeE, unw, frO, q_addI, q_addL, q_addT, q_addS, q_sub, q_div, q_mod, q_pow, q_neg, q_cm, pIs, pIsn, q_isN, q_isI, q_isS, q_isT, q_isL, q_isB, q_lenL, q_lenT, pTup, pLst, q_tupL, q_tupT, q_lstL, q_lstT, q_revL, q_slL, q_slT, q_shL, q_shT, q_sqL, q_sqT, q_intI, q_max2, q_min2, q_aII, q_aBI, q_aTI, q_aTT, q_aLL, q_aTL, q_aIT, ix_at0 x0 (by rw [al]; exact x1)], rfl, rfl⟩
    have c' : lcL [4] (.nm 4) fYes E2__law_due (dI ps) [some (.fr (.tuple (trD tree))), some (.fr (dT (op :: ps))), some (.ol (dI (stA acc (op :: ps)))), some (.ol (dI bcc)), none] [] = .ok (dI (ps.map (at0 bcc)), [some (.fr (.tuple (trD tree))), some (.fr (dT (op :: ps))), some (.ol (dI (stA acc (op :: ps)))), some (.ol (dI bcc)), none]) := by
      rw [lc_map (atD bcc) (dI ps) (fun d hd => ?_) (by rw [dI_len]; simp at hn3; omega), atD_map]
      obtain ⟨p, hp, rfl⟩ := List.mem_map.mp hd
      obtain ⟨x0, x1⟩ := o3 p hp
      exact ⟨_, .fr (.int (at0 bcc p)), [some (.fr (.tuple (trD tree))), some (.fr (dT (op :: ps))), some (.ol (dI (stA acc (op :: ps)))), some (.ol (dI bcc)), some (.fr (.int p))], rfl, by simp [E2__law_due, a_seq, a_ifS, a_B, a_op, a_ov, a_ev0, a_evv, a_evs, a_C, a_V, a_M, a_set, a_setI, a_app, a_ret, a_ex, a_skip, a_no, a_not, a_andT, a_orT, a_and, a_or, a_notV, a_if, a_par, a_call, a_forS, a_sq, a_r1, a_r2, a_en, a_zp, a_asT, a_chI, a_yes, a_lc, a_fn, okA, f_fr, bkA, rsvs, rsv, dvs, on1, on2, d_fr, d_ol, rsO, ndS, sl, putB, asT, setAll, ofO, Dy.ints1, Dy.ints2, nE, wipeE, unw, frO, q_addI, q_addL, q_addT, q_addS, q_sub, q_div, q_mod, q_pow, q_neg, q_cm, pIs, pIsn, q_isN, q_isI, q_isS, q_isT, q_isL, q_isB, q_lenL, q_lenT, pTup, pLst, q_tupL, q_tupT, q_lstL, q_lstT, q_revL, q_slL, q_slT, q_shL, q_shT, q_sqL, q_sqT, q_intI, q_max2, q_min2, q_aII, q_aBI, q_aTI, q_aTT, q_aLL, q_aTL, q_aIT, ix_at0 x0 (by rw [bl]; exact x1)], rfl, rfl⟩
    refine ⟨_, [some (.fr (.tuple (trD tree))), some (.fr (dT (op :: ps))), some (.ol (dI (stA acc (op :: ps)))), some (.ol (dI (stH bcc (op :: ps)))), none], rfl, ?_, _, by rw [fold_take hn, fold_take hn]⟩
    have s1 : (dI acc).length < 1000000 := by rw [dI_len, al]; omega
    have t1 : (dI bcc).length < 1000000 := by rw [dI_len, bl]; omega
    have s2 : dI (stA acc (op :: ps)) = dI acc ++ [.int (1 + (ps.map (at0 acc)).sum)] := by simp [stA, dI]
    have t2 : dI (stH bcc (op :: ps)) = dI bcc ++ [.int (maxL (0 :: ps.map (at0 bcc)) + 1)] := by simp [stH, dI, Int.add_comm]
    have s0 : 1 + (dI (ps.map (at0 bcc))).length ≤ 1000000 := by rw [dI_len, List.length_map]; simp at hn3; omega
    have pM : pMax [.list (.int 0 :: dI (ps.map (at0 bcc)))] = some (.fr (.int (maxL (0 :: ps.map (at0 bcc))))) := pMax_I 0 _
    show L1__law_due [some (.fr (.tuple (trD tree))), some (.fr (dT (op :: ps))), some (.ol (dI acc)), some (.ol (dI bcc)), none] = _
    rw [s2] at c' ⊢
    simp [L1__law_due, a_seq, a_ifS, a_B, a_op, a_ov, a_ev0, a_evv, a_evs, a_C, a_V, a_M, a_set, a_setI, a_app, a_ret, a_ex, a_skip, a_no, a_not, a_andT, a_orT, a_and, a_or, a_notV, a_if, a_par, a_call, a_forS, a_sq, a_r1, a_r2, a_en, a_zp, a_asT, a_chI, a_yes, a_lc, a_fn, okA, f_fr, bkA, rsvs, rsv, dvs, on1, on2, d_fr, d_ol, rsO, ndS, sl, putB, asT, setAll, ofO, Dy.ints1, Dy.ints2, nE, wipeE, unw, frO, q_addI, q_addL, q_addT, q_addS, q_sub, q_div, q_mod, q_pow, q_neg, q_cm, pIs, pIsn, q_isN, q_isI, q_isS, q_isT, q_isL, q_isB, q_lenL, q_lenT, pTup, pLst, q_tupL, q_tupT, q_lstL, q_lstT, q_revL, q_slL, q_slT, q_shL, q_shT, q_sqL, q_sqT, q_intI, q_max2, q_min2, q_aII, q_aBI, q_aTI, q_aTT, q_aLL, q_aTL, q_aIT, sl1, c, pSum_I, s1, c', s0, pM, t1, t2])
  rw [trD_len, List.take_length] at h1
  have h1 : fFor (.nm 1) L1__law_due (trD tree) [some (.fr (.tuple (trD tree))), none, some (.ol []), some (.ol []), none] = .ok (.nx, [some (.fr (.tuple (trD tree))), x1, some (.ol (dI (am tree))), some (.ol (dI (he tree))), none]) := h1
  simp [M__law_due, b__law_due, a_seq, a_ifS, a_B, a_op, a_ov, a_ev0, a_evv, a_evs, a_C, a_V, a_M, a_set, a_setI, a_app, a_ret, a_ex, a_skip, a_no, a_not, a_andT, a_orT, a_and, a_or, a_notV, a_if, a_par, a_call, a_forS, a_sq, a_r1, a_r2, a_en, a_zp, a_asT, a_chI, a_yes, a_lc, a_fn, okA, f_fr, bkA, rsvs, rsv, dvs, on1, on2, d_fr, d_ol, rsO, ndS, sl, putB, asT, setAll, ofO, Dy.ints1, Dy.ints2, nE, wipeE, unw, frO, q_addI, q_addL, q_addT, q_addS, q_sub, q_div, q_mod, q_pow, q_neg, q_cm, pIs, pIsn, q_isN, q_isI, q_isS, q_isT, q_isL, q_isB, q_lenL, q_lenT, pTup, pLst, q_tupL, q_tupT, q_lstL, q_lstT, q_revL, q_slL, q_slT, q_shL, q_shT, q_sqL, q_sqT, q_intI, q_max2, q_min2, q_aII, q_aBI, q_aTI, q_aTT, q_aLL, q_aTL, q_aIT, h1, pIxL hx, pIxL hy]
/-! ### how great they are -/
theorem at0_le {acc : List Int} {B : Int} (h : ∀ v ∈ acc, 0 ≤ v ∧ v ≤ B) (hB : 0 ≤ B) (p : Int) : 0 ≤ at0 acc p ∧ at0 acc p ≤ B := by
  unfold at0
  rw [List.getD_eq_getElem?_getD]
  cases q : acc[p.toNat]? with
  | none => exact ⟨Int.le_refl _, hB⟩
  | some v => exact h v (List.mem_of_getElem? q)

theorem pow3 : ∀ k : Nat, (1 : Int) ≤ 3 ^ k
  | 0 => by simp
  | k + 1 => by have := pow3 k; have e : (3 : Int) ^ (k + 1) = 3 ^ k * 3 := Int.pow_succ 3 k; omega
theorem am_le {as : List Int} {tree : List (List Int)} (ha : ArOk as) (h : WF as tree) : ∀ k, k ≤ tree.length → ∀ v ∈ (tree.take k).foldl stA [], 0 ≤ v ∧ v ≤ 3 ^ k
  | 0, _, v, hv => by simp at hv
  | k + 1, hk, v, hv => by
    have hlt : k < tree.length := by omega
    have hn := List.getElem?_eq_getElem hlt
    rw [fold_take hn] at hv
    have ih := am_le ha h k (by omega)
    have p1 := pow3 k
    have p2 : (3 : Int) ^ (k + 1) = 3 ^ k * 3 := Int.pow_succ 3 k
    generalize (tree.take k).foldl stA [] = acc at hv ih
    unfold stA at hv
    rcases List.mem_append.mp hv with hv | hv
    · have := ih v hv; omega
    · obtain ⟨op, ps, e, o0, o1, o2, o3⟩ := h k _ hn
      have l3 := nodeOk_len ha (h k _ hn)
      rw [e] at hv l3
      simp only [List.mem_singleton, List.tail_cons] at hv
      subst hv
      have b := fun p => at0_le ih (by omega : (0 : Int) ≤ 3 ^ k) p
      match ps, l3 with
      | [], _ => simp; omega
      | [p], _ => have := b p; simp; omega
      | [p, q], _ => have := b p; have := b q; simp; omega
      | _ :: _ :: _ :: _, l => simp at l
theorem he_le {as : List Int} {tree : List (List Int)} (ha : ArOk as) (h : WF as tree) : ∀ k, k ≤ tree.length → ∀ v ∈ (tree.take k).foldl stH [], 0 ≤ v ∧ v ≤ 3 ^ k
  | 0, _, v, hv => by simp at hv
  | k + 1, hk, v, hv => by
    have hlt : k < tree.length := by omega
    have hn := List.getElem?_eq_getElem hlt
    rw [fold_take hn] at hv
    have ih := he_le ha h k (by omega)
    have p1 := pow3 k
    have p2 : (3 : Int) ^ (k + 1) = 3 ^ k * 3 := Int.pow_succ 3 k
    generalize (tree.take k).foldl stH [] = acc at hv ih
    unfold stH at hv
    rcases List.mem_append.mp hv with hv | hv
    · have := ih v hv; omega
    · obtain ⟨op, ps, e, o0, o1, o2, o3⟩ := h k _ hn
      have l3 := nodeOk_len ha (h k _ hn)
      rw [e] at hv l3
      simp only [List.mem_singleton, List.tail_cons] at hv
      subst hv
      have b := fun p => at0_le ih (by omega : (0 : Int) ≤ 3 ^ k) p
      match ps, l3 with
      | [], _ => simp [maxL]; omega
      | [p], _ => have := b p; simp [maxL]; omega
      | [p, q], _ => have := b p; have := b q; simp [maxL]; omega
      | _ :: _ :: _ :: _, l => simp at l
/-! ### repr -/
def Sm (i : Int) : Prop := i.natAbs.log2 < 1900
theorem sm_of {i : Int} (h0 : 0 ≤ i) {n : Nat} (h : i ≤ 3 ^ n) (hn : n ≤ 1000) : Sm i := by
  unfold Sm
  refine PySem.Flt.log2_lt_of (by decide) ?_
  have h1 : (i.natAbs : Int) ≤ ((3 ^ n : Nat) : Int) := by
    rw [Int.natCast_pow]
    have : ((3 : Nat) : Int) = 3 := rfl
    rw [this]
    omega
  have h2 : i.natAbs ≤ 3 ^ n := Int.ofNat_le.mp h1
  exact Nat.lt_of_le_of_lt h2 (Nat.lt_of_le_of_lt (Nat.pow_le_pow_right (by decide) hn) (by decide +kernel))
theorem show_ints : ∀ {as : List Int}, (∀ a ∈ as, Sm a) → PyData.showableAll (dI as) = true ∧ rw8s (dI as) ≤ as.length * 1904
  | [], _ => ⟨rfl, Nat.le_refl _⟩
  | a :: as, h => by
    obtain ⟨h1, h2⟩ := show_ints (as := as) fun x hx => h x (by simp [hx])
    have ha : a.natAbs.log2 < 1900 := h a (by simp)
    refine ⟨?_, ?_⟩
    · show (PyData.showable (.int a) && PyData.showableAll (dI as)) = true
      rw [h1, show PyData.showable (.int a) = true from decide_eq_true (by omega)]; rfl
    · show a.natAbs.log2 + 2 + 2 + rw8s (dI as) ≤ _
      rw [List.length_cons, Nat.succ_mul]
      omega
theorem show_tr : ∀ {tree : List (List Int)}, (∀ n ∈ tree, n.length ≤ 3 ∧ ∀ a ∈ n, Sm a) → PyData.showableAll (trD tree) = true ∧ rw8s (trD tree) ≤ tree.length * 6000
  | [], _ => ⟨rfl, Nat.le_refl _⟩
  | n :: t, h => by
    obtain ⟨h1, h2⟩ := show_tr (tree := t) fun x hx => h x (by simp [hx])
    obtain ⟨l3, hn⟩ := h n (by simp)
    obtain ⟨g1, g2⟩ := show_ints hn
    refine ⟨?_, ?_⟩
    · show (PyData.showableAll (dI n) && PyData.showableAll (trD t)) = true
      rw [h1, g1]; rfl
    · show rw8s (dI n) + 2 + 2 + rw8s (trD t) ≤ _
      rw [List.length_cons, Nat.succ_mul]
      omega
theorem rOk_tr {tree : List (List Int)} (h : ∀ n ∈ tree, n.length ≤ 3 ∧ ∀ a ∈ n, Sm a) (hl : tree.length ≤ 1000) : rOk (.tuple (trD tree)) = true := by
  obtain ⟨h1, h2⟩ := show_tr h
  have d := dep_tr tree
  unfold rOk
  simp only [Bool.and_eq_true, decide_eq_true_eq]
  refine ⟨by simpa [PyData.canLay0] using lay_tr tree, by simpa [PyData.showable] using h1, ?_, ?_⟩
  · simp [PyData.depth]; omega
  · show rw8s (trD tree) + 2 ≤ _; omega
theorem rOk_L {as : List Int} (h : ∀ a ∈ as, Sm a) (hl : as.length ≤ 1000) : rOk (.list (dI as)) = true := by
  obtain ⟨h1, h2⟩ := show_ints h
  unfold rOk
  simp only [Bool.and_eq_true, decide_eq_true_eq]
  refine ⟨by simpa [PyData.canLay0] using lay_ints as, by simpa [PyData.showable] using h1, ?_, ?_⟩
  · simp [PyData.depth, dep_ints]
  · show rw8s (dI as) + 2 ≤ _; omega

theorem pEq_str (x : Str) : pEq (.str x) (.str x) = some (.fr (.bool true)) := by
  show some (O.fr (PyData.bool (decide (x = x)))) = _
  rw [decide_eq_true rfl]
theorem pNe_str (x : Str) : pNe (.str x) (.str x) = some (.fr (.bool false)) := by
  show some (O.fr (PyData.bool (!decide (x = x)))) = _
  rw [decide_eq_true rfl]; rfl
theorem pNe_two (a b : Int) : pNe (.list [.int a, .int b]) (.list [.int a, .int b]) = some (.fr (.bool false)) := by
  show (if shp (.list (dI [a, b])) = true ∧ shp (.list (dI [a, b])) = true then some (O.fr (PyData.bool (!PyData.eqv (.list (dI [a, b])) (.list (dI [a, b]))))) else none) = _
  rw [if_pos ⟨shp_L _, shp_L _⟩]
  show some (O.fr (PyData.bool (!(a == a && (b == b && true))))) = _
  rw [beq_self_eq_true, beq_self_eq_true]; rfl
theorem pRepr_ok {d : PyData} (h : rOk d = true) : pRepr d = some (.fr (.str d.shown)) := by unfold pRepr; rw [if_pos h]
theorem same_ok {d : PyData} (h : rOk d = true) : M__law_same [.fr d, .fr d] = .ok (.fr (.bool true), [.fr d, .fr d]) := by
  simp [M__law_same, b__law_same, a_seq, a_ifS, a_B, a_op, a_ov, a_ev0, a_evv, a_evs, a_C, a_V, a_M, a_set, a_setI, a_app, a_ret, a_ex, a_skip, a_no, a_not, a_andT, a_orT, a_and, a_or, a_notV, a_if, a_par, a_call, a_forS, a_sq, a_r1, a_r2, a_en, a_zp, a_asT, a_chI, a_yes, a_lc, a_fn, okA, f_fr, bkA, rsvs, rsv, dvs, on1, on2, d_fr, d_ol, rsO, ndS, sl, putB, asT, setAll, ofO, Dy.ints1, Dy.ints2, nE, wipeE, unw, frO, q_addI, q_addL, q_addT, q_addS, q_sub, q_div, q_mod, q_pow, q_neg, q_cm, pIs, pIsn, q_isN, q_isI, q_isS, q_isT, q_isL, q_isB, q_lenL, q_lenT, pTup, pLst, q_tupL, q_tupT, q_lstL, q_lstT, q_revL, q_slL, q_slT, q_shL, q_shT, q_sqL, q_sqT, q_intI, q_max2, q_min2, q_aII, q_aBI, q_aTI, q_aTT, q_aLL, q_aTL, q_aIT, pRepr_ok h, pEq_str]
/-! ### the tree of the law's own -/
def fullT : List (List Int) := [0] :: (List.range 99).map fun k : Nat => [1, (k : Int), (k : Int)]
def arF : List Int := [0, 2]
theorem arF_ok : ArOk arF := by unfold ArOk arF; decide
theorem fullT_wf : WF arF fullT := by
  intro k n hk
  cases k with
  | zero => cases hk; exact ⟨0, [], rfl, by decide, by decide, rfl, by simp⟩
  | succ k =>
    unfold fullT at hk
    rw [List.getElem?_cons_succ, List.getElem?_map] at hk
    cases q : (List.range 99)[k]? with
    | none => rw [q] at hk; cases hk
    | some j =>
      obtain ⟨h1, h2⟩ := List.getElem?_eq_some_iff.mp q
      rw [List.getElem_range] at h2
      subst h2
      rw [q] at hk; cases hk
      refine ⟨1, [(k : Int), (k : Int)], rfl, by decide, by decide, rfl, fun p hp => ?_⟩
      simp at hp
      subst hp
      omega
theorem fullT_am : atI (dI (am fullT)) (-1) = some (.int 1267650600228229401496703205375) := by kernel_rfl
theorem fullT_he : atI (dI (he fullT)) (-1) = some (.int 100) := by kernel_rfl

/-! ### the law -/
def sc (ns : List Int) : PyData := .list (dI ns)
/-- the law's names behind a turn of the outer loop -/
def EV (ns : List Int) (e : Dy.Env) : Prop := ∃ x2 x3 x4 x5 x6 x7 x8 x9, e = [some (.fr (sc ns)), some (.fr (.tuple (trD fullT))), x2, x3, x4, x5, x6, x7, x8, x9, none]
theorem small_of_wf {as : List Int} {tree : List (List Int)} (ha : ArOk as) (h : WF as tree) (hl : tree.length ≤ 1000) : ∀ n ∈ tree, n.length ≤ 3 ∧ ∀ a ∈ n, Sm a := fun n hn => by
  obtain ⟨k, hk⟩ := List.getElem?_of_mem hn
  have hkl : k < tree.length := (List.getElem?_eq_some_iff.mp hk).1
  have h1 := h k n hk
  refine ⟨nodeOk_len ha h1, fun a ha' => ?_⟩
  obtain ⟨op, ps, rfl, o0, o1, o2, o3⟩ := h1
  have h9 : (1000 : Int) ≤ 3 ^ 7 := by decide
  rcases List.mem_cons.mp ha' with rfl | hp
  · have := ha.2.2
    exact sm_of (n := 7) o0 (by omega) (by decide)
  · obtain ⟨p0, p1⟩ := o3 a hp
    exact sm_of (n := 7) p0 (by omega) (by decide)
theorem turn_ok {ns : List Int} {o : O} {lap : Nat} {x2 x5 x6 x7 x8 x9 : Option O} (hp : Pen o) (hlap : lap < 14) :
    ∃ o' y5 y6 y7 y8 y9, Pen o' ∧ L2_law [some (.fr (sc ns)), some (.fr (.tuple (trD fullT))), x2, some o, some (.fr (.int lap)), x5, x6, x7, x8, x9, none] = .ok (.nx, [some (.fr (sc ns)), some (.fr (.tuple (trD fullT))), x2, some o', some (.fr (.int lap)), y5, y6, y7, y8, y9, none]) := by
  obtain ⟨as, o1, p1, ha, e1⟩ := arities_ok hp
  obtain ⟨up, hup, u0, u1⟩ : ∃ up : Int, pIx (.list [.int 4, .int 12, .int 100]) (.int ((lap : Int) % 3)) = some (.fr (.int up)) ∧ 0 < up ∧ up ≤ 100 := by
    rcases (by omega : (lap : Int) % 3 = 0 ∨ (lap : Int) % 3 = 1 ∨ (lap : Int) % 3 = 2) with h | h | h <;> rw [h]
    · exact ⟨4, rfl, by decide, by decide⟩
    · exact ⟨12, rfl, by decide, by decide⟩
    · exact ⟨100, rfl, by decide, by decide⟩
  obtain ⟨tree, o2, p2, wf, t0, tl, e2⟩ := written_ok p1 ha u0 (by omega)
  have tl' : tree.length ≤ 100 := by omega
  have am0 : am tree ≠ [] := fun z => by
    have := am_len (t := tree) tree.length (Nat.le_refl _)
    rw [List.take_length] at this
    unfold am at z
    rw [z] at this
    exact t0 (List.length_eq_zero_iff.mp this.symm)
  have he0 : he tree ≠ [] := fun z => by
    have := he_len (t := tree) tree.length (Nat.le_refl _)
    rw [List.take_length] at this
    unfold he at z
    rw [z] at this
    exact t0 (List.length_eq_zero_iff.mp this.symm)
  obtain ⟨x, mx, hx⟩ := atI_lastI am0
  obtain ⟨y, my, hy⟩ := atI_lastI he0
  have bx := am_le ha wf tree.length (Nat.le_refl _) x (by rw [List.take_length]; exact mx)
  have by' := he_le ha wf tree.length (Nat.le_refl _) y (by rw [List.take_length]; exact my)
  have sx : Sm x := sm_of bx.1 bx.2 (by omega)
  have sy : Sm y := sm_of by'.1 by'.2 (by omega)
  have r1 : rOk (.tuple (trD tree)) = true := rOk_tr (small_of_wf ha wf (by omega)) (by omega)
  have r2 : rOk (.list [.int x, .int y]) = true := rOk_L (as := [x, y]) (by simp; exact ⟨sx, sy⟩) (by simp)
  have e3 := due_ok ha wf (by omega) hx hy
  have e4 := nodes_ok ha wf t0 (by omega) hx
  have e5 := height_ok ha wf t0 (by omega) hy
  have e6 := same_ok r2
  obtain ⟨e, h1, y7, rfl⟩ := for_inv (t := .nm 7) (body := L1_law) (fun k e => ∃ y7 , e = [some (.fr (sc ns)), some (.fr (.tuple (trD fullT))), x2, some o2, some (.fr (.int lap)), some (.fr (dT as)), some (.fr (.tuple (trD tree))), y7, some (.fr (.str (PyData.shown (.tuple (trD tree))))), some (if k = 0 then .ol [.int x, .int y] else .fr (.list [.int x, .int y])), none])
    (rng 0 2) (env := [some (.fr (sc ns)), some (.fr (.tuple (trD fullT))), x2, some o2, some (.fr (.int lap)), some (.fr (dT as)), some (.fr (.tuple (trD tree))), x7, some (.fr (.str (PyData.shown (.tuple (trD tree))))), some (.ol [.int x, .int y]), none]) ⟨x7, rfl⟩ (fun k d e hd hP => by
      obtain ⟨hk, rfl⟩ := rng0_at hd
      obtain ⟨y7, rfl⟩ := hP
      refine ⟨_, [some (.fr (sc ns)), some (.fr (.tuple (trD fullT))), x2, some o2, some (.fr (.int lap)), some (.fr (dT as)), some (.fr (.tuple (trD tree))), some (.fr (.int k)), some (.fr (.str (PyData.shown (.tuple (trD tree))))), some (.fr (.list [.int x, .int y])), none], rfl, ?_, some (.fr (.int k)), rfl⟩
      rcases (by omega : k = 0 ∨ k = 1) with rfl | rfl
      · simp [L1_law, a_seq, a_ifS, a_B, a_op, a_ov, a_ev0, a_evv, a_evs, a_C, a_V, a_M, a_set, a_setI, a_app, a_ret, a_ex, a_skip, a_no, a_not, a_andT, a_orT, a_and, a_or, a_notV, a_if, a_par, a_call, a_forS, a_sq, a_r1, a_r2, a_en, a_zp, a_asT, a_chI, a_yes, a_lc, a_fn, okA, f_fr, bkA, rsvs, rsv, dvs, on1, on2, d_fr, d_ol, rsO, ndS, sl, putB, asT, setAll, ofO, Dy.ints1, Dy.ints2, nE, wipeE, unw, frO, q_addI, q_addL, q_addT, q_addS, q_sub, q_div, q_mod, q_pow, q_neg, q_cm, pIs, pIsn, q_isN, q_isI, q_isS, q_isT, q_isL, q_isB, q_lenL, q_lenT, pTup, pLst, q_tupL, q_tupT, q_lstL, q_lstT, q_revL, q_slL, q_slT, q_shL, q_shT, q_sqL, q_sqT, q_intI, q_max2, q_min2, q_aII, q_aBI, q_aTI, q_aTT, q_aLL, q_aTL, q_aIT, e4, e5, e6]
      · simp [L1_law, a_seq, a_ifS, a_B, a_op, a_ov, a_ev0, a_evv, a_evs, a_C, a_V, a_M, a_set, a_setI, a_app, a_ret, a_ex, a_skip, a_no, a_not, a_andT, a_orT, a_and, a_or, a_notV, a_if, a_par, a_call, a_forS, a_sq, a_r1, a_r2, a_en, a_zp, a_asT, a_chI, a_yes, a_lc, a_fn, okA, f_fr, bkA, rsvs, rsv, dvs, on1, on2, d_fr, d_ol, rsO, ndS, sl, putB, asT, setAll, ofO, Dy.ints1, Dy.ints2, nE, wipeE, unw, frO, q_addI, q_addL, q_addT, q_addS, q_sub, q_div, q_mod, q_pow, q_neg, q_cm, pIs, pIsn, q_isN, q_isI, q_isS, q_isT, q_isL, q_isB, q_lenL, q_lenT, pTup, pLst, q_tupL, q_tupT, q_lstL, q_lstT, q_revL, q_slL, q_slT, q_shL, q_shT, q_sqL, q_sqT, q_intI, q_max2, q_min2, q_aII, q_aBI, q_aTI, q_aTT, q_aLL, q_aTL, q_aIT, e4, e5, e6])
  rw [rng_len, if_neg (by decide)] at h1
  refine ⟨o2, some (.fr (dT as)), some (.fr (.tuple (trD tree))), y7, some (.fr (.str (PyData.shown (.tuple (trD tree))))), some (.fr (.list [.int x, .int y])), p2, ?_⟩
  simp [L2_law, a_seq, a_ifS, a_B, a_op, a_ov, a_ev0, a_evv, a_evs, a_C, a_V, a_M, a_set, a_setI, a_app, a_ret, a_ex, a_skip, a_no, a_not, a_andT, a_orT, a_and, a_or, a_notV, a_if, a_par, a_call, a_forS, a_sq, a_r1, a_r2, a_en, a_zp, a_asT, a_chI, a_yes, a_lc, a_fn, okA, f_fr, bkA, rsvs, rsv, dvs, on1, on2, d_fr, d_ol, rsO, ndS, sl, putB, asT, setAll, ofO, Dy.ints1, Dy.ints2, nE, wipeE, unw, frO, q_addI, q_addL, q_addT, q_addS, q_sub, q_div, q_mod, q_pow, q_neg, q_cm, pIs, pIsn, q_isN, q_isI, q_isS, q_isT, q_isL, q_isB, q_lenL, q_lenT, pTup, pLst, q_tupL, q_tupT, q_lstL, q_lstT, q_revL, q_slL, q_slT, q_shL, q_shT, q_sqL, q_sqT, q_intI, q_max2, q_min2, q_aII, q_aBI, q_aTI, q_aTT, q_aLL, q_aTL, q_aIT, e1, hup, e2, pRepr_ok r1, e3, h1, pNe_str]
theorem outer_ok {ns : List Int} {k : Nat} {e : Dy.Env} (h : EV ns e) : ∃ e1 e2, asT (.nm 2) (.int k) e = .ok e1 ∧ L3_law e1 = .ok (.nx, e2) ∧ EV ns e2 := by
  obtain ⟨x2, x3, x4, x5, x6, x7, x8, x9, rfl⟩ := h
  obtain ⟨z, ez⟩ := cell_ok (ns := dI ns) (k := k) (fun d hd => by obtain ⟨a, _, rfl⟩ := List.mem_map.mp hd; exact ⟨a, rfl⟩)
  obtain ⟨o, hp, eo⟩ := pen_ok z
  obtain ⟨e, h1, o', y4, y5, y6, y7, y8, y9, hp', rfl⟩ := for_inv (t := .nm 4) (body := L2_law) (fun _ e => ∃ o y4 y5 y6 y7 y8 y9, Pen o ∧ e = [some (.fr (sc ns)), some (.fr (.tuple (trD fullT))), some (.fr (.int k)), some o, y4, y5, y6, y7, y8, y9, none])
    (rng 0 14) (env := [some (.fr (sc ns)), some (.fr (.tuple (trD fullT))), some (.fr (.int k)), some o, x4, x5, x6, x7, x8, x9, none]) ⟨o, x4, x5, x6, x7, x8, x9, hp, rfl⟩ (fun j d e hd hP => by
      obtain ⟨hj, rfl⟩ := rng0_at hd
      obtain ⟨o, y4, y5, y6, y7, y8, y9, hp, rfl⟩ := hP
      obtain ⟨o', z5, z6, z7, z8, z9, hp', e'⟩ := turn_ok (ns := ns) (x2 := some (.fr (.int k))) (x5 := y5) (x6 := y6) (x7 := y7) (x8 := y8) (x9 := y9) hp hj
      exact ⟨_, _, rfl, e', o', _, z5, z6, z7, z8, z9, hp', rfl⟩)
  refine ⟨_, _, rfl, ?_, some (.fr (.int k)), some o', y4, y5, y6, y7, y8, y9, rfl⟩
  have ez : M__law_cell [.fr (sc ns), .fr (.int k)] = .ok (.fr (.int z), [.fr (sc ns), .fr (.int k)]) := ez
  simp [L3_law, a_seq, a_ifS, a_B, a_op, a_ov, a_ev0, a_evv, a_evs, a_C, a_V, a_M, a_set, a_setI, a_app, a_ret, a_ex, a_skip, a_no, a_not, a_andT, a_orT, a_and, a_or, a_notV, a_if, a_par, a_call, a_forS, a_sq, a_r1, a_r2, a_en, a_zp, a_asT, a_chI, a_yes, a_lc, a_fn, okA, f_fr, bkA, rsvs, rsv, dvs, on1, on2, d_fr, d_ol, rsO, ndS, sl, putB, asT, setAll, ofO, Dy.ints1, Dy.ints2, nE, wipeE, unw, frO, q_addI, q_addL, q_addT, q_addS, q_sub, q_div, q_mod, q_pow, q_neg, q_cm, pIs, pIsn, q_isN, q_isI, q_isS, q_isT, q_isL, q_isB, q_lenL, q_lenT, pTup, pLst, q_tupL, q_tupT, q_lstL, q_lstT, q_revL, q_slL, q_slT, q_shL, q_shT, q_sqL, q_sqT, q_intI, q_max2, q_min2, q_aII, q_aBI, q_aTI, q_aTT, q_aLL, q_aTL, q_aIT, ez, eo, h1]
theorem law_true (ns : List Int) (hl : ns.length ≤ 63) (hb : ∀ z ∈ ns, PySem.Builtin.Int.intBits z ≤ 1048576) : ∃ os, M_law [.fr (.list (ns.map PyData.int))] = .ok (.fr (.bool true), os) := by
  have c : lcL [10] (.nm 10) fYes E1_law (rng 0 99) [some (.fr (sc ns)), none, none, none, none, none, none, none, none, none, none] [] = .ok ((rng 0 99).map (fun d => .tuple [.int 1, d, d]), [some (.fr (sc ns)), none, none, none, none, none, none, none, none, none, none]) := by
    refine lc_map (fun d => .tuple [.int 1, d, d]) _ (fun d hd => ?_) (by rw [rng_len]; decide)
    exact ⟨_, .fr (.tuple [.int 1, d, d]), [some (.fr (sc ns)), none, none, none, none, none, none, none, none, none, some (.fr d)], rfl, by simp [E1_law, a_seq, a_ifS, a_B, a_op, a_ov, a_ev0, a_evv, a_evs, a_C, a_V, a_M, a_set, a_setI, a_app, a_ret, a_ex, a_skip, a_no, a_not, a_andT, a_orT, a_and, a_or, a_notV, a_if, a_par, a_call, a_forS, a_sq, a_r1, a_r2, a_en, a_zp, a_asT, a_chI, a_yes, a_lc, a_fn, okA, f_fr, bkA, rsvs, rsv, dvs, on1, on2, d_fr, d_ol, rsO, ndS, sl, putB, asT, setAll, ofO, Dy.ints1, Dy.ints2, nE, wipeE, unw, frO, q_addI, q_addL, q_addT, q_addS, q_sub, q_div, q_mod, q_pow, q_neg, q_cm, pIs, pIsn, q_isN, q_isI, q_isS, q_isT, q_isL, q_isB, q_lenL, q_lenT, pTup, pLst, q_tupL, q_tupT, q_lstL, q_lstT, q_revL, q_slL, q_slT, q_shL, q_shT, q_sqL, q_sqT, q_intI, q_max2, q_min2, q_aII, q_aBI, q_aTI, q_aTT, q_aLL, q_aTL, q_aIT], rfl, rfl⟩
  have f1 : PyData.tuple [.int 0] :: (rng 0 99).map (fun d => PyData.tuple [.int 1, d, d]) = trD fullT := by
    show _ = dT [0] :: _
    simp [trD, fullT, rng, dT, dI]
  have e4 := nodes_ok arF_ok fullT_wf (by decide) (by decide) fullT_am
  have e5 := height_ok arF_ok fullT_wf (by decide) (by decide) fullT_he
  have m1 : pMul (.int 18446744073709551616) (.int 68719476736) = some (.fr (.int 1267650600228229401496703205376)) := rfl
  obtain ⟨e, h1, x2, x3, x4, x5, x6, x7, x8, x9, rfl⟩ := for_inv (t := .nm 2) (body := L3_law) (fun _ e => EV ns e) (rng 0 (max 1 (min (ns.length : Int) 3)).toNat) (env := [some (.fr (sc ns)), some (.fr (.tuple (trD fullT))), none, none, none, none, none, none, none, none, none]) ⟨_, _, _, _, _, _, _, _, rfl⟩ (fun k d e hd hP => by
    obtain ⟨_, rfl⟩ := rng0_at hd
    exact outer_ok hP)
  have hr : max 1 (min (ns.length : Int) 3) ≤ 1000000000 ∧ -1000000000 ≤ max 1 (min (ns.length : Int) 3) := ⟨by omega, by omega⟩
  have s1 : 1 + ((rng 0 99).map (fun d => PyData.tuple [.int 1, d, d])).length ≤ 1000000 := by simp [rng_len]
  have hsc : pLen (sc ns) = some (.fr (.int ns.length)) := by simp [sc, q_lenL, dI_len]
  refine ⟨[.fr (sc ns)], ?_⟩
  show M_law [.fr (sc ns)] = _
  have e4 : M_nodes [.fr (.tuple [.int 0, .int 2]), .fr (.tuple (trD fullT))] = .ok (.fr (.int 1267650600228229401496703205375), [.fr (.tuple [.int 0, .int 2]), .fr (.tuple (trD fullT))]) := e4
  have e5 : M_height [.fr (.tuple [.int 0, .int 2]), .fr (.tuple (trD fullT))] = .ok (.fr (.int 100), [.fr (.tuple [.int 0, .int 2]), .fr (.tuple (trD fullT))]) := e5
  simp only [M_law, b_law, a_fn, a_seq, a_set, a_op, a_evv, a_ev0, a_ov]
  simp [a_seq, a_ifS, a_B, a_op, a_ov, a_ev0, a_evv, a_evs, a_C, a_V, a_M, a_set, a_setI, a_app, a_ret, a_ex, a_skip, a_no, a_not, a_andT, a_orT, a_and, a_or, a_notV, a_if, a_par, a_call, a_forS, a_sq, a_r1, a_r2, a_en, a_zp, a_asT, a_chI, a_yes, a_lc, a_fn, okA, f_fr, bkA, rsvs, rsv, dvs, on1, on2, d_fr, d_ol, rsO, ndS, sl, putB, asT, setAll, ofO, Dy.ints1, Dy.ints2, nE, wipeE, unw, frO, q_addI, q_addL, q_addT, q_addS, q_sub, q_div, q_mod, q_pow, q_neg, q_cm, pIs, pIsn, q_isN, q_isI, q_isS, q_isT, q_isL, q_isB, q_lenL, q_lenT, pTup, pLst, q_tupL, q_tupT, q_lstL, q_lstT, q_revL, q_slL, q_slT, q_shL, q_shT, q_sqL, q_sqT, q_intI, q_max2, q_min2, q_aII, q_aBI, q_aTI, q_aTT, q_aLL, q_aTL, q_aIT, rng_len, c, f1, e4, e5, m1, pNe_two, hsc, hr, h1]
end K03

open PySem PySem.W PyProof.Rows
set_option maxHeartbeats 0 in
theorem PySem.Challenge.cw_codepick_k03_nodes_and_heights_holds : PySem.Challenge.rw_codepick_k03_nodes_and_heights.Holds := by
  w_on; o_law; k_head; (case hw => w_witness2)
  k_fill
  refine Dy.walkG (l := PySem.Challenge.rw_codepick_k03_nodes_and_heights) (n := 63) (k := 7) (x := "_law_script") (sp := fun K mg => Dy.spD K mg K03.M_law) rfl (by decide) rfl ⟨rfl, by decide, by decide⟩ (fun w h Y => PySem.W.kIn_of Y) ?F (fun K mg H a ns hl hb hS => let ⟨os, e⟩ := K03.law_true ns hl hb; Dy.law_ok e hS)
  case F =>
    intro w mg fa h KX G hmg
    refine' K03.all_mk KX G hmg ?a0 ?l0 ?c0 ?k0 ?a1 ?l1 ?c1 ?k1 ?a2 ?l2 ?c2 ?k2 ?a3 ?l3 ?c3 ?k3 ?a4 ?l4 ?c4 ?k4 ?a5 ?l5 ?c5 ?k5 ?a6 ?l6 ?c6 ?k6 ?a7 ?l7 ?c7 ?k7 ?a8 ?l8 ?c8 ?k8 ?a9 ?l9 ?c9 ?k9 ?a10 ?l10 ?c10 ?k10 ?a11 ?l11 ?c11 ?k11 ?a12 ?l12 ?c12 ?k12 ?a13 ?l13 ?c13 ?k13 ?a14 ?l14 ?c14 ?k14 ?a15 ?l15 ?c15 ?k15 ?a16 ?l16 ?c16 ?k16 ?a17 ?l17 ?c17 ?k17 ?a18 ?l18 ?c18 ?k18 ?a19 ?l19 ?c19 ?k19 ?z_all ?z_bool ?z_enumerate ?z_int ?z_isinstance ?z_len ?z_max ?z_min ?z_range ?z_repr ?z_sum ?z_tuple ?g_MOST_ARITY ?g_MOST_OPERATORS
    (case a0 => k_is); (case l0 => k_is); (case c0 => k_is); (case k0 => k_is); (case a1 => k_is); (case l1 => k_is); (case c1 => k_is); (case k1 => k_is); (case a2 => k_is); (case l2 => k_is); (case c2 => k_is); (case k2 => k_is); (case a3 => k_is); (case l3 => k_is); (case c3 => k_is); (case k3 => k_is); (case a4 => k_is); (case l4 => k_is); (case c4 => k_is); (case k4 => k_is); (case a5 => k_is); (case l5 => k_is); (case c5 => k_is); (case k5 => k_is); (case a6 => k_is); (case l6 => k_is); (case c6 => k_is); (case k6 => k_is); (case a7 => k_is); (case l7 => k_is); (case c7 => k_is); (case k7 => k_is); (case a8 => k_is); (case l8 => k_is); (case c8 => k_is); (case k8 => k_is); (case a9 => k_is); (case l9 => k_is); (case c9 => k_is); (case k9 => k_is); (case a10 => k_is); (case l10 => k_is); (case c10 => k_is); (case k10 => k_is); (case a11 => k_is); (case l11 => k_is); (case c11 => k_is); (case k11 => k_is); (case a12 => k_is); (case l12 => k_is); (case c12 => k_is); (case k12 => k_is); (case a13 => k_is); (case l13 => k_is); (case c13 => k_is); (case k13 => k_is); (case a14 => k_is); (case l14 => k_is); (case c14 => k_is); (case k14 => k_is); (case a15 => k_is); (case l15 => k_is); (case c15 => k_is); (case k15 => k_is); (case a16 => k_is); (case l16 => k_is); (case c16 => k_is); (case k16 => k_is); (case a17 => k_is); (case l17 => k_is); (case c17 => k_is); (case k17 => k_is); (case a18 => k_is); (case l18 => k_is); (case c18 => k_is); (case k18 => k_is); (case a19 => k_is); (case l19 => k_is); (case c19 => k_is); (case k19 => k_is); (case z_all => k_is); (case z_bool => k_is); (case z_enumerate => k_is); (case z_int => k_is); (case z_isinstance => k_is); (case z_len => k_is); (case z_max => k_is); (case z_min => k_is); (case z_range => k_is); (case z_repr => k_is); (case z_sum => k_is); (case z_tuple => k_is); (case g_MOST_ARITY => k_is); (case g_MOST_OPERATORS => k_is)

