import PyProof.Rows.All
import Wide.All
import OpenK.AllK
import Wide.FinOn
import HandS.ForMost
import HandS.IsInst
import HandS.Lambda
import HandS.EndTab
import HandS.Zip
import HandS.Star
import HandS.Exc
import HandS.Wide
import HandS.RaiseMore
import HandS.TupMul
import HandS.TupAny
import HandS.Deep
import HandS.Property
import HandS.SortInts
import HandS.WideBits
import HandS.Codes
import HandS.Style
import HandS.Zip0
import PyProof.Draws
import HandS.More
import PyProof.InstNe
import HandS.Conv
import KE.KExcInit
import HandS.ExcOwn
import HandS.TryMany
import HandS.ExcField
import PyProof.ExcBaseAll.IndexError
import PyProof.ExcBaseAll.LookupError
import PyProof.ExcBaseAll.RuntimeError
import PyProof.ExcBaseAll.OverflowError
import PyProof.ExcBaseAll.ArithmeticError
import PyProof.ExcBaseAll.ValueError
import HandS.WideMore
import PyProof.ReprReads
import PyProof.EqLayable
import HandS.List
import HandS.DictComp
import HandS.Dict
import PySem.Challenge.RW_onebetween_k08_errors_of_webs
set_option Elab.async false
set_option linter.all false
set_option maxRecDepth 100000
set_option maxHeartbeats 4000000
namespace EV
open PySem PySem.Spec PyProof.Rows L2

/-- built-in types -/
inductive TyN where
  | int | bool | str | tuple | list | dict
  deriving DecidableEq
def TyN.s : TyN → String
  | .int => "int"
  | .bool => "bool"
  | .str => "str"
  | .tuple => "tuple"
  | .list => "list"
  | .dict => "dict"
/-- plain values -/
inductive D where
  | non | bl (b : Bool) | int (i : Int) | str (x : Str) | ty (n : TyN)
  | tup (xs : List D) | lst (xs : List D) | dct (kvs : List (Key × D))
  | obj (c : Str) (fs : List (Str × D)) | ref (n : Nat)
  /-- a dict whose keys are tuples -/
  | dtu (kvs : List (List Key × D))
  /-- the error that is handled (false), a lambda that is handed in (true): in a slot alone -/
  | cur (k : Bool)

/-- live objects -/
inductive Ob where
  | lst (xs : List D) | dct (kvs : List (Key × D)) | ins (c : Str) (fs : List (Str × D))

abbrev Sto := List Ob
abbrev DEnv := List (Option D)
structure Exn where
  c : Str
  fs : List (Str × D)
inductive Out (α : Type) where
  | ok (a : α) (M : Sto) | exc (e : Exn) (M : Sto) | bad
def Out.post {α : Type} (o : Out α) (P : α → Sto → Prop) (X : Exn → Sto → Prop) : Prop := match o with
  | .ok a M => P a M
  | .exc e M => X e M
  | .bad => False
def Out.bind {α β : Type} (o : Out α) (f : α → Sto → Out β) : Out β := match o with
  | .ok a M => f a M
  | .exc e M => .exc e M
  | .bad => .bad
theorem Out.post_bind {α β : Type} {o : Out α} {f : α → Sto → Out β} {P : β → Sto → Prop} {X : Exn → Sto → Prop} (h : (o.bind f).post P X) : o.post (fun a M => (f a M).post P X) X := by
  cases o <;> exact h
theorem Out.post_imp {α : Type} {o : Out α} {P P' : α → Sto → Prop} {X X' : Exn → Sto → Prop} (h : o.post P X) (hp : ∀ a M, P a M → P' a M) (hx : ∀ e M, X e M → X' e M) : o.post P' X' := by
  cases o with
  | ok a M => exact hp _ _ h
  | exc e M => exact hx _ _ h
  | bad => exact h

def Sub (F F' : Hp) : Prop := ∀ a o, F a = some o → F' a = some o
theorem Sub.refl (F : Hp) : Sub F F := fun _ _ h => h
theorem Sub.trans {F G H : Hp} (a : Sub F G) (b : Sub G H) : Sub F H := fun x o h => b x o (a x o h)
theorem Sub.rd {F F' : Hp} (s : Sub F F') {a : Addr} {u : HO} (h : Rd F a u) : Rd F' a u := by
  rcases h with h | ⟨o, h⟩
  · exact .inl (s _ _ h)
  · exact .inr ⟨o, s _ _ h⟩
theorem Sub.sqL {K : PySem.W.Frag} {F F' : Hp} (s : Sub F F') {a : Addr} {xs : List V} (h : SqL K F a xs) : SqL K F' a xs := h.elim (fun z => .inl (s.rd z)) .inr
theorem Sub.sqT {K : PySem.W.Frag} {F F' : Hp} (s : Sub F F') {a : Addr} {xs : List V} (h : SqT K F a xs) : SqT K F' a xs := h.elim (fun z => .inl (s.rd z)) .inr
theorem Sub.tq {K : PySem.W.Frag} {F F' : Hp} (s : Sub F F') {a : Addr} {xs : List V} (h : F a = some (.tup xs)) : SqT K F' a xs := SqT.of (s _ _ h)
theorem Sub.upd {F : Hp} {p : Addr} {o : HO} (h : F p = none) : Sub F (upd F p o) := fun b x e => by rw [upd_ne (ne_of_none e h)]; exact e

/-- a list as it lies: tracked, known, or written in the module -/
def LstR (K : PySem.W.Frag) (H : Hp) (a : Addr) (vs : List V) : Prop := Rd H a (.lst vs) ∨ ∃ (its : List Value) (n : Nat), K.lookup a = some { cls := .type "list", data := .seq its.toArray n } ∧ its.length ≤ sizeLine ∧ Vals vs its
theorem LstR.sq {K : PySem.W.Frag} {H : Hp} {a : Addr} {vs : List V} (h : LstR K H a vs) : SqL K H a vs := by
  rcases h with h | ⟨its, n, h1, h2, h3⟩
  · exact .inl h
  · exact .inr ⟨_, its.toArray, n, h1, rfl, rfl, rfl, by simpa using h2, by simpa using h3⟩
theorem LstR.of {K : PySem.W.Frag} {H : Hp} {a : Addr} {vs : List V} (h : H a = some (.lst vs)) : LstR K H a vs := .inl (.inl h)
theorem Sub.lstR {K : PySem.W.Frag} {F F' : Hp} (s : Sub F F') {a : Addr} {xs : List V} (h : LstR K F a xs) : LstR K F' a xs := h.elim (fun z => .inl (s.rd z)) .inr
theorem LstR.exact_ {X : Cx} {pins : List (Addr × Obj)} {σ : L2.St} {H : Hp} {s : Shared} {a : Addr} {vs : List V} (I : Inv X pins σ H s) (h : LstR X.K H a vs) :
    ∃ (its : List Value) (n : Nat), Vals vs its ∧ s.heap.get? a = some { cls := .type "list", data := .seq its.toArray n } ∧ vs.length ≤ sizeLine := by
  rcases h with h | ⟨its, n, h1, h2, h3⟩
  · obtain ⟨z, its, n, r, e⟩ := h.ok I.hok
    exact ⟨its, n, r, e, z⟩
  · exact ⟨its, n, h3, I.kIn _ _ h1, by rw [h3.length]; exact h2⟩
/-- what the classes are -/
structure Gd where
  K : PySem.W.Frag
  mg : Str → Option Value

mutual
def Rep (G : Gd) (F : Hp) (r : List Addr) : D → V → Prop
  | .non, v => v = .non
  | .bl b, v => v = .bl b
  | .int i, v => v = .int i
  | .str x, v => v = .str x
  | .ty n, v => v = .ty n.s
  | .tup xs, v => ∃ a vs, v = .ref a ∧ F a = some (.tup vs) ∧ Reps G F r xs vs
  | .lst xs, v => ∃ a vs, v = .ref a ∧ LstR G.K F a vs ∧ Reps G F r xs vs
  | .dct kvs, v => ∃ a kws, v = .ref a ∧ F a = some (.dK kws) ∧ RepK G F r kvs kws
  | .obj c fs, v => ∃ a C dx vfs, v = .ref a ∧ G.mg c = some (.ref C) ∧ F a = some (.ins C dx vfs) ∧ RepF G F r fs vfs
  | .ref n, v => ∃ a, r[n]? = some a ∧ v = .ref a
  | .dtu kvs, v => ∃ a kws, v = .ref a ∧ F a = some (.dT kws) ∧ RepT G F r kvs kws
  | .cur _, v => False
def Reps (G : Gd) (F : Hp) (r : List Addr) : List D → List V → Prop
  | [], vs => vs = []
  | x :: xs, vs => ∃ v w, vs = v :: w ∧ Rep G F r x v ∧ Reps G F r xs w
def RepK (G : Gd) (F : Hp) (r : List Addr) : List (Key × D) → List (Key × V) → Prop
  | [], vs => vs = []
  | (k, x) :: xs, vs => ∃ v w, vs = (k, v) :: w ∧ Rep G F r x v ∧ RepK G F r xs w
def RepF (G : Gd) (F : Hp) (r : List Addr) : List (Str × D) → List (Str × V) → Prop
  | [], vs => vs = []
  | (k, x) :: xs, vs => ∃ v w, vs = (k, v) :: w ∧ Rep G F r x v ∧ RepF G F r xs w
def RepT (G : Gd) (F : Hp) (r : List Addr) : List (List Key × D) → List (List Key × V) → Prop
  | [], vs => vs = []
  | (k, x) :: xs, vs => ∃ v w, vs = (k, v) :: w ∧ Rep G F r x v ∧ RepT G F r xs w
end

theorem pre_get {r r' : List Addr} (h : r <+: r') {n : Nat} {a : Addr} (e : r[n]? = some a) : r'[n]? = some a := by
  obtain ⟨t, rfl⟩ := h
  obtain ⟨h1, h2⟩ := List.getElem?_eq_some_iff.mp e
  rw [List.getElem?_append_left h1]
  exact e

mutual
theorem Rep.mono {G : Gd} {F F' : Hp} {r r' : List Addr} (s : Sub F F') (p : r <+: r') : ∀ {d : D} {v : V}, Rep G F r d v → Rep G F' r' d v
  | .non, v, h => h
  | .bl b, v, h => h
  | .int i, v, h => h
  | .str x, v, h => h
  | .ty n, v, h => h
  | .cur _, v, h => h
  | .tup xs, v, h => by
    unfold Rep at h ⊢
    obtain ⟨a, vs, e, q, z⟩ := h
    exact ⟨a, vs, e, s _ _ q, Reps.mono s p z⟩
  | .lst xs, v, h => by
    unfold Rep at h ⊢
    obtain ⟨a, vs, e, q, z⟩ := h
    exact ⟨a, vs, e, s.lstR q, Reps.mono s p z⟩
  | .dct kvs, v, h => by
    unfold Rep at h ⊢
    obtain ⟨a, vs, e, q, z⟩ := h
    exact ⟨a, vs, e, s _ _ q, RepK.mono s p z⟩
  | .obj c fs, v, h => by
    unfold Rep at h ⊢
    obtain ⟨a, C, dx, vfs, e, m, q, z⟩ := h
    exact ⟨a, C, dx, vfs, e, m, s _ _ q, RepF.mono s p z⟩
  | .ref n, v, h => by
    unfold Rep at h ⊢
    obtain ⟨a, e, z⟩ := h
    exact ⟨a, pre_get p e, z⟩
  | .dtu kvs, v, h => by
    unfold Rep at h ⊢
    obtain ⟨a, vs, e, q, z⟩ := h
    exact ⟨a, vs, e, s _ _ q, RepT.mono s p z⟩
theorem Reps.mono {G : Gd} {F F' : Hp} {r r' : List Addr} (s : Sub F F') (p : r <+: r') : ∀ {d : List D} {v : List V}, Reps G F r d v → Reps G F' r' d v
  | [], v, h => h
  | x :: xs, vs, h => by
    unfold Reps at h ⊢
    obtain ⟨v, w, e, a, b⟩ := h
    exact ⟨v, w, e, Rep.mono s p a, Reps.mono s p b⟩
theorem RepK.mono {G : Gd} {F F' : Hp} {r r' : List Addr} (s : Sub F F') (p : r <+: r') : ∀ {d : List (Key × D)} {v : List (Key × V)}, RepK G F r d v → RepK G F' r' d v
  | [], v, h => h
  | (k, x) :: xs, vs, h => by
    unfold RepK at h ⊢
    obtain ⟨v, w, e, a, b⟩ := h
    exact ⟨v, w, e, Rep.mono s p a, RepK.mono s p b⟩
theorem RepF.mono {G : Gd} {F F' : Hp} {r r' : List Addr} (s : Sub F F') (p : r <+: r') : ∀ {d : List (Str × D)} {v : List (Str × V)}, RepF G F r d v → RepF G F' r' d v
  | [], v, h => h
  | (k, x) :: xs, vs, h => by
    unfold RepF at h ⊢
    obtain ⟨v, w, e, a, b⟩ := h
    exact ⟨v, w, e, Rep.mono s p a, RepF.mono s p b⟩
theorem RepT.mono {G : Gd} {F F' : Hp} {r r' : List Addr} (s : Sub F F') (p : r <+: r') : ∀ {d : List (List Key × D)} {v : List (List Key × V)}, RepT G F r d v → RepT G F' r' d v
  | [], v, h => h
  | (k, x) :: xs, vs, h => by
    unfold RepT at h ⊢
    obtain ⟨v, w, e, a, b⟩ := h
    exact ⟨v, w, e, Rep.mono s p a, RepT.mono s p b⟩
end

theorem Reps.length {G : Gd} {F : Hp} {r : List Addr} : ∀ {d : List D} {v : List V}, Reps G F r d v → v.length = d.length
  | [], v, h => by
    unfold Reps at h
    subst h
    rfl
  | x :: xs, vs, h => by
    unfold Reps at h
    obtain ⟨v, w, rfl, a, b⟩ := h
    rw [List.length_cons, List.length_cons, Reps.length b]
theorem Reps.get {G : Gd} {F : Hp} {r : List Addr} : ∀ {d : List D} {v : List V} {i : Nat} {x : D}, Reps G F r d v → d[i]? = some x → ∃ y, v[i]? = some y ∧ Rep G F r x y
  | [], v, i, x, h, e => by simp at e
  | y :: ys, vs, 0, x, h, e => by
    unfold Reps at h
    obtain ⟨v, w, rfl, a, b⟩ := h
    simp at e
    subst e
    exact ⟨v, rfl, a⟩
  | y :: ys, vs, i + 1, x, h, e => by
    unfold Reps at h
    obtain ⟨v, w, rfl, a, b⟩ := h
    obtain ⟨z, e1, e2⟩ := Reps.get (i := i) b (by simpa using e)
    exact ⟨z, by simpa using e1, e2⟩
theorem Reps.append {G : Gd} {F : Hp} {r : List Addr} : ∀ {d : List D} {v : List V} {d' : List D} {v' : List V}, Reps G F r d v → Reps G F r d' v' → Reps G F r (d ++ d') (v ++ v')
  | [], v, d', v', h, h' => by
    unfold Reps at h
    subst h
    exact h'
  | x :: xs, vs, d', v', h, h' => by
    unfold Reps at h
    obtain ⟨v, w, rfl, a, b⟩ := h
    show Reps G F r (x :: (xs ++ d')) (v :: (w ++ v'))
    unfold Reps
    exact ⟨v, _, rfl, a, Reps.append b h'⟩
theorem Reps.one {G : Gd} {F : Hp} {r : List Addr} {d : D} {v : V} (h : Rep G F r d v) : Reps G F r [d] [v] := by
  unfold Reps
  exact ⟨v, [], rfl, h, by unfold Reps; rfl⟩
theorem Reps.take {G : Gd} {F : Hp} {r : List Addr} : ∀ {d : List D} {v : List V} (n : Nat), Reps G F r d v → Reps G F r (d.take n) (v.take n)
  | d, v, 0, h => by unfold Reps; simp
  | [], v, n + 1, h => by
    unfold Reps at h
    subst h
    unfold Reps
    rfl
  | x :: xs, vs, n + 1, h => by
    unfold Reps at h
    obtain ⟨v, w, rfl, a, b⟩ := h
    show Reps G F r (x :: xs.take n) (v :: w.take n)
    unfold Reps
    exact ⟨v, _, rfl, a, Reps.take n b⟩
theorem Reps.drop {G : Gd} {F : Hp} {r : List Addr} : ∀ {d : List D} {v : List V} (n : Nat), Reps G F r d v → Reps G F r (d.drop n) (v.drop n)
  | d, v, 0, h => by simpa using h
  | [], v, n + 1, h => by
    unfold Reps at h
    subst h
    unfold Reps
    simp
  | x :: xs, vs, n + 1, h => by
    unfold Reps at h
    obtain ⟨v, w, rfl, a, b⟩ := h
    exact Reps.drop n b
theorem Reps.set {G : Gd} {F : Hp} {r : List Addr} {y : D} {u : V} (q : Rep G F r y u) : ∀ {d : List D} {v : List V} (n : Nat), Reps G F r d v → Reps G F r (d.set n y) (v.set n u)
  | [], v, n, h => by
    unfold Reps at h
    subst h
    unfold Reps
    simp
  | x :: xs, vs, 0, h => by
    unfold Reps at h
    obtain ⟨v, w, rfl, a, b⟩ := h
    show Reps G F r (y :: xs) (u :: w)
    unfold Reps
    exact ⟨u, w, rfl, q, b⟩
  | x :: xs, vs, n + 1, h => by
    unfold Reps at h
    obtain ⟨v, w, rfl, a, b⟩ := h
    show Reps G F r (x :: xs.set n y) (v :: w.set n u)
    unfold Reps
    exact ⟨v, _, rfl, a, Reps.set q n b⟩
theorem Reps.reverse {G : Gd} {F : Hp} {r : List Addr} : ∀ {d : List D} {v : List V}, Reps G F r d v → Reps G F r d.reverse v.reverse
  | [], v, h => by
    unfold Reps at h
    subst h
    unfold Reps
    simp
  | x :: xs, vs, h => by
    unfold Reps at h
    obtain ⟨v, w, rfl, a, b⟩ := h
    rw [List.reverse_cons, List.reverse_cons]
    exact (Reps.reverse b).append (Reps.one a)
theorem Reps.split {G : Gd} {F : Hp} {r : List Addr} : ∀ {d e : List D} {v : List V}, Reps G F r (d ++ e) v → ∃ v1 v2, v = v1 ++ v2 ∧ Reps G F r d v1 ∧ Reps G F r e v2
  | [], e, v, h => ⟨[], v, rfl, by unfold Reps; rfl, h⟩
  | x :: xs, e, vs, h => by
    have h : Reps G F r (x :: (xs ++ e)) vs := h
    unfold Reps at h
    obtain ⟨v, w, rfl, a, b⟩ := h
    obtain ⟨v1, v2, rfl, p, q⟩ := Reps.split b
    exact ⟨v :: v1, v2, rfl, by unfold Reps; exact ⟨v, v1, rfl, a, p⟩, q⟩
theorem Reps.nil {G : Gd} {F : Hp} {r : List Addr} : Reps G F r [] [] := by unfold Reps; rfl
theorem Reps.cons {G : Gd} {F : Hp} {r : List Addr} {d : D} {v : V} {ds : List D} {vs : List V} (h : Rep G F r d v) (h' : Reps G F r ds vs) : Reps G F r (d :: ds) (v :: vs) := by
  unfold Reps
  exact ⟨v, vs, rfl, h, h'⟩
theorem Reps.inv {G : Gd} {F : Hp} {r : List Addr} {d : D} {ds : List D} {vs : List V} (h : Reps G F r (d :: ds) vs) : ∃ v w, vs = v :: w ∧ Rep G F r d v ∧ Reps G F r ds w := by
  unfold Reps at h
  exact h
theorem Reps.inv0 {G : Gd} {F : Hp} {r : List Addr} {vs : List V} (h : Reps G F r [] vs) : vs = [] := by
  unfold Reps at h
  exact h
theorem Reps.inv1 {G : Gd} {F : Hp} {r : List Addr} {d : D} {vs : List V} (h : Reps G F r [d] vs) : ∃ v, vs = [v] ∧ Rep G F r d v := by
  obtain ⟨v, w, rfl, a, b⟩ := h.inv
  cases b.inv0
  exact ⟨v, rfl, a⟩
theorem Reps.inv2 {G : Gd} {F : Hp} {r : List Addr} {d e : D} {vs : List V} (h : Reps G F r [d, e] vs) : ∃ v w, vs = [v, w] ∧ Rep G F r d v ∧ Rep G F r e w := by
  obtain ⟨v, w, rfl, a, b⟩ := h.inv
  obtain ⟨u, rfl, c⟩ := b.inv1
  exact ⟨v, u, rfl, a, c⟩

/-! ### the store -/
def ObR (G : Gd) (F : Hp) (r : List Addr) (H : Hp) (a : Addr) : Ob → Prop
  | .lst xs => ∃ vs, H a = some (.lst vs) ∧ Reps G F r xs vs
  | .dct kvs => ∃ kws, H a = some (.dK kws) ∧ RepK G F r kvs kws
  | .ins c fs => ∃ C dx vfs, G.mg c = some (.ref C) ∧ H a = some (.ins C dx vfs) ∧ RepF G F r fs vfs
theorem ObR.mono {G : Gd} {F F' H H' : Hp} {r r' : List Addr} {a : Addr} {o : Ob} (s : Sub F F') (p : r <+: r') (e : ∀ u, H a = some u → H' a = some u) (h : ObR G F r H a o) : ObR G F' r' H' a o := by
  cases o with
  | lst xs => obtain ⟨vs, h1, h2⟩ := h; exact ⟨vs, e _ h1, h2.mono s p⟩
  | dct xs => obtain ⟨vs, h1, h2⟩ := h; exact ⟨vs, e _ h1, h2.mono s p⟩
  | ins c fs => obtain ⟨C, dx, vs, h0, h1, h2⟩ := h; exact ⟨C, dx, vs, h0, e _ h1, h2.mono s p⟩
theorem ObR.there {G : Gd} {F H : Hp} {r : List Addr} {a : Addr} {o : Ob} (h : ObR G F r H a o) : ∃ u, H a = some u := by
  cases o with
  | lst xs => obtain ⟨vs, h1, h2⟩ := h; exact ⟨_, h1⟩
  | dct xs => obtain ⟨vs, h1, h2⟩ := h; exact ⟨_, h1⟩
  | ins c fs => obtain ⟨C, dx, vs, h0, h1, h2⟩ := h; exact ⟨_, h1⟩

/-- the tables of code objects that lambdas may grow, each with the lambdas' name -/
class Tbl where
  T : List (Addr × Str)
  /-- what is frozen, and which objects live, from the beginning -/
  F : Hp
  r : List Addr
  /-- the error that is handled -/
  x : Addr
  /-- a lambda that was handed in, its code object -/
  f : Addr
  C : List (Addr × Str)
/-- neither a table nor a thing told by a predicate -/
def okF : HO → Bool
  | .tbl _ => false
  | .ext _ => false
  | _ => true
theorem tabs_ext {T : List (Addr × Str)} {H H' : Hp} (t : LamX.Tabs T H) (e : ∀ b o, H b = some o → okF o = false → H' b = some o) : LamX.Tabs T H' := fun p hp => by
  obtain ⟨ps, h1, h2, h3⟩ := t p hp
  refine ⟨ps, e _ _ h1 rfl, h2, fun pos cv hc => ?_⟩
  obtain ⟨c, e1, e2⟩ := h3 pos cv hc
  exact ⟨c, e1, e _ _ e2 rfl⟩
structure RsOk [Tbl] (R : Hp) : Prop where
  nr : ∀ a u, R a = some u → ∀ ps, u ≠ .tbl ps
  cd : ∀ p, p ∈ Tbl.C → R p.1 = some (LamX.CodeO p.1 p.2)
structure Aux [Tbl] (F R H : Hp) : Prop where
  nt : ∀ a u, F a = some u → okF u = true
  nr : RsOk R
  tb : LamX.Tabs Tbl.T H
section
variable [Tbl] {F R H : Hp} {p : Addr} {u u' : HO}
theorem nt_upd (h : ∀ a u, F a = some u → okF u = true) (hu : okF u = true) : ∀ a v, upd F p u a = some v → okF v = true := fun a v e => by
  by_cases q : a = p
  · subst q; rw [upd_same] at e; cases e; exact hu
  · rw [upd_ne q] at e; exact h a v e
theorem okF_ne (hu : okF u = true) : ∀ ps, u ≠ .tbl ps := fun ps z => by rw [z] at hu; cases hu
theorem okF_code (hu : okF u = true) {c : Addr} {q : Str} : u ≠ LamX.CodeO c q := fun z => by rw [z] at hu; cases hu
theorem nr_upd (h : RsOk R) (hp : R p = none) (hu : okF u = true) : RsOk (upd R p u) where
  nr := fun a v e => by
    by_cases q : a = p
    · subst q; rw [upd_same] at e; cases e; exact okF_ne hu
    · rw [upd_ne q] at e; exact h.nr a v e
  cd := fun c e => by
    rw [upd_ne (ne_of_none (h.cd c e) hp)]
    exact h.cd c e
theorem nr_re (h : RsOk (upd R p u)) (hu : okF u = true) (hu' : okF u' = true) : RsOk (upd R p u') where
  nr := fun a v e => by
    by_cases q : a = p
    · subst q; rw [upd_same] at e; cases e; exact okF_ne hu'
    · rw [upd_ne q] at e; exact h.nr a v (by rw [upd_ne q]; exact e)
  cd := fun c e => by
    have z := h.cd c e
    have n : c.1 ≠ p := fun w => by
      subst w
      rw [upd_same] at z
      exact okF_code hu (Option.some.inj z)
    rw [upd_ne n] at z ⊢
    exact z
theorem nr_un (h : RsOk (upd R p u)) (hp : R p = none) (hu : okF u = true) : RsOk R where
  nr := fun a v e => h.nr a v (by rw [upd_ne (ne_of_none e hp)]; exact e)
  cd := fun c e => by
    have z := h.cd c e
    have n : c.1 ≠ p := fun w => by
      subst w
      rw [upd_same] at z
      exact okF_code hu (Option.some.inj z)
    rw [upd_ne n] at z
    exact z
theorem tb_new (t : LamX.Tabs Tbl.T H) (hp : H p = none) : LamX.Tabs Tbl.T (upd H p u) := tabs_ext t fun b o e _ => by rw [upd_ne (ne_of_none e hp)]; exact e
theorem tb_wr (t : LamX.Tabs Tbl.T H) (hp : H p = some u') (hu : okF u' = true) : LamX.Tabs Tbl.T (upd H p u) := tabs_ext t fun b o e n => by
  rw [upd_ne (fun z => by subst z; rw [hp] at e; cases e; rw [hu] at n; cases n)]; exact e
end
/-- F frozen, r the live objects' addresses, R reserved, M the store, in the abstract heap H -/
structure StoR [Tbl] (G : Gd) (F : Hp) (r : List Addr) (R : Hp) (M : Sto) (H : Hp) : Prop where
  len : M.length = r.length
  nd : r.Nodup
  sub : Sub F H
  res : Sub R H
  fr : ∀ a, a ∈ r → F a = none
  rr : ∀ a, a ∈ r → R a = none
  fx : ∀ a o, R a = some o → F a = none
  at_ : ∀ n a o, r[n]? = some a → M[n]? = some o → ObR G F (r.take n) H a o
  ax : Aux F R H
  og : Sub Tbl.F F ∧ Tbl.r <+: r
variable [Tbl]

theorem take_pre (r : List Addr) (n : Nat) : r.take n <+: r := List.take_prefix n r
theorem StoR.get {G : Gd} {F : Hp} {r : List Addr} {R : Hp} {M : Sto} {H : Hp} (S : StoR G F r R M H) {n : Nat} {o : Ob} (e : M[n]? = some o) : ∃ a, r[n]? = some a ∧ ObR G F (r.take n) H a o := by
  obtain ⟨h1, h2⟩ := List.getElem?_eq_some_iff.mp e
  have h3 : n < r.length := by rw [← S.len]; exact h1
  exact ⟨r[n], List.getElem?_eq_getElem h3, S.at_ n _ _ (List.getElem?_eq_getElem h3) e⟩
/-- a new frozen object -/
theorem StoR.froz {G : Gd} {F : Hp} {r : List Addr} {R : Hp} {M : Sto} {H : Hp} (S : StoR G F r R M H) {p : Addr} {u : HO} (hp : H p = none) (hu : okF u = true := by rfl) : StoR G (upd F p u) r R M (upd H p u) := by
  have hF : F p = none := by
    cases q : F p with
    | none => rfl
    | some o => rw [S.sub _ _ q] at hp; cases hp
  have hR : R p = none := by
    cases q : R p with
    | none => rfl
    | some o => rw [S.res _ _ q] at hp; cases hp
  have hr : p ∉ r := fun hm => by
    obtain ⟨n, hn, e⟩ := List.getElem_of_mem hm
    have h3 : n < M.length := by rw [S.len]; exact hn
    obtain ⟨u, hu⟩ := (S.at_ n p _ (by rw [← e]; exact List.getElem?_eq_getElem hn) (List.getElem?_eq_getElem h3)).there
    rw [hp] at hu
    cases hu
  refine ⟨S.len, S.nd, fun a o e => ?_, fun a o e => ?_, fun a ha => ?_, S.rr, fun a o e => ?_, fun n a o h1 h2 => ?_, ⟨nt_upd S.ax.nt hu, S.ax.nr, tb_new S.ax.tb hp⟩, ⟨S.og.1.trans (Sub.upd hF), S.og.2⟩⟩
  · by_cases h : a = p
    · subst h
      rw [upd_same] at e ⊢
      exact e
    · rw [upd_ne h] at e ⊢
      exact S.sub _ _ e
  · by_cases h : a = p
    · subst h
      rw [hR] at e
      cases e
    · rw [upd_ne h]
      exact S.res _ _ e
  · rw [upd_ne (show a ≠ p from fun z => hr (by rw [← z]; exact ha))]
    exact S.fr a ha
  · have h : a ≠ p := fun z => by
      subst z
      rw [hR] at e
      cases e
    rw [upd_ne h]
    exact S.fx a o e
  · exact (S.at_ n a o h1 h2).mono (Sub.upd hF) (List.prefix_refl _) fun u e => by rw [upd_ne (ne_of_none e hp)]; exact e
/-- a new live object -/
theorem StoR.live {G : Gd} {F : Hp} {r : List Addr} {R : Hp} {M : Sto} {H : Hp} (S : StoR G F r R M H) {p : Addr} {u : HO} (hp : H p = none) {o : Ob} (ho : ∀ H', H' p = some u → ObR G F r H' p o) : StoR G F (r ++ [p]) R (M ++ [o]) (upd H p u) := by
  have hF : F p = none := by
    cases q : F p with
    | none => rfl
    | some o => rw [S.sub _ _ q] at hp; cases hp
  have hR : R p = none := by
    cases q : R p with
    | none => rfl
    | some o => rw [S.res _ _ q] at hp; cases hp
  have hr : p ∉ r := fun hm => by
    obtain ⟨n, hn, e⟩ := List.getElem_of_mem hm
    have h3 : n < M.length := by rw [S.len]; exact hn
    obtain ⟨u, hu⟩ := (S.at_ n p _ (by rw [← e]; exact List.getElem?_eq_getElem hn) (List.getElem?_eq_getElem h3)).there
    rw [hp] at hu
    cases hu
  refine ⟨by rw [List.length_append, List.length_append, S.len]; rfl, ?_, fun a o e => ?_, fun a o e => ?_, fun a ha => ?_, fun a ha => ?_, S.fx, fun n a o' h1 h2 => ?_, ⟨S.ax.nt, S.ax.nr, tb_new S.ax.tb hp⟩, ⟨S.og.1, S.og.2.trans (List.prefix_append _ _)⟩⟩
  · rw [List.nodup_append]
    refine ⟨S.nd, by simp, fun a ha b hb => ?_⟩
    have : b = p := by simpa using hb
    subst this
    exact fun z => hr (by rw [← z]; exact ha)
  · rw [upd_ne (ne_of_none e hF)]
    exact S.sub _ _ e
  · rw [upd_ne (ne_of_none e hR)]
    exact S.res _ _ e
  · rcases List.mem_append.mp ha with h | h
    · exact S.fr a h
    · have : a = p := by simpa using h
      subst this
      exact hF
  · rcases List.mem_append.mp ha with h | h
    · exact S.rr a h
    · have : a = p := by simpa using h
      subst this
      exact hR
  · by_cases hn : n < r.length
    · rw [List.getElem?_append_left hn] at h1
      rw [List.getElem?_append_left (by rw [S.len]; exact hn)] at h2
      rw [List.take_append_of_le_length (Nat.le_of_lt hn)]
      exact (S.at_ n a o' h1 h2).mono (Sub.refl _) (List.prefix_refl _) fun u e => by rw [upd_ne (ne_of_none e hp)]; exact e
    · have hl : n < (r ++ [p]).length := (List.getElem?_eq_some_iff.mp h1).1
      rw [List.length_append] at hl
      have hn' : n = r.length := by
        have : [p].length = 1 := rfl
        omega
      subst hn'
      rw [List.getElem?_append_right (Nat.le_refl _), Nat.sub_self] at h1
      rw [List.getElem?_append_right (by rw [S.len]; exact Nat.le_refl _), S.len, Nat.sub_self] at h2
      simp at h1 h2
      subst h1 h2
      rw [List.take_append_of_le_length (Nat.le_refl _), List.take_length]
      exact ho _ upd_same
theorem ObR.ok {G : Gd} {F H : Hp} {r : List Addr} {a : Addr} {o : Ob} (h : ObR G F r H a o) : ∃ u, H a = some u ∧ okF u = true := by
  cases o with
  | lst xs => obtain ⟨vs, h1, h2⟩ := h; exact ⟨_, h1, rfl⟩
  | dct xs => obtain ⟨vs, h1, h2⟩ := h; exact ⟨_, h1, rfl⟩
  | ins c fs => obtain ⟨C, dx, vs, h0, h1, h2⟩ := h; exact ⟨_, h1, rfl⟩
theorem StoR.okAt {G : Gd} {F : Hp} {r : List Addr} {R : Hp} {M : Sto} {H : Hp} (S : StoR G F r R M H) {n : Nat} {a : Addr} (ha : r[n]? = some a) : ∃ u, H a = some u ∧ okF u = true := by
  have hn : n < M.length := by rw [S.len]; exact (List.getElem?_eq_some_iff.mp ha).1
  exact (S.at_ n a _ ha (List.getElem?_eq_getElem hn)).ok
/-- a live object changed -/
theorem StoR.write {G : Gd} {F : Hp} {r : List Addr} {R : Hp} {M : Sto} {H : Hp} (S : StoR G F r R M H) {n : Nat} {a : Addr} (ha : r[n]? = some a) {u : HO} {o : Ob} (ho : ∀ H', H' a = some u → ObR G F (r.take n) H' a o) : StoR G F r R (M.set n o) (upd H a u) := by
  have hm : a ∈ r := List.mem_of_getElem? ha
  obtain ⟨u0, hu0, hok⟩ := S.okAt ha
  refine ⟨by rw [List.length_set]; exact S.len, S.nd, fun b o e => ?_, fun b o e => ?_, S.fr, S.rr, S.fx, fun k b o' h1 h2 => ?_, ⟨S.ax.nt, S.ax.nr, tb_wr S.ax.tb hu0 hok⟩, S.og⟩
  · rw [upd_ne (ne_of_none e (S.fr a hm))]
    exact S.sub _ _ e
  · rw [upd_ne (ne_of_none e (S.rr a hm))]
    exact S.res _ _ e
  · by_cases hk : k = n
    · subst hk
      rw [h1] at ha
      cases ha
      have hlt : k < M.length := by rw [S.len]; exact (List.getElem?_eq_some_iff.mp h1).1
      rw [List.getElem?_set_self hlt] at h2
      cases h2
      exact ho _ upd_same
    · rw [List.getElem?_set_ne (fun z => hk z.symm)] at h2
      have hb : b ≠ a := fun z => by
        subst z
        obtain ⟨l1, e1⟩ := List.getElem?_eq_some_iff.mp h1
        obtain ⟨l2, e2⟩ := List.getElem?_eq_some_iff.mp ha
        exact hk ((List.getElem_inj S.nd).mp (e1.trans e2.symm))
      exact (S.at_ k b o' h1 h2).mono (Sub.refl _) (List.prefix_refl _) fun u e => by rw [upd_ne hb]; exact e
theorem pre_take {r0 r : List Addr} {k : Nat} (p : r0 <+: r) (h : r0.length ≤ k) : r0 <+: r.take k := by
  obtain ⟨t, rfl⟩ := p
  rw [List.take_append, List.take_of_length_le h]
  exact List.prefix_append _ _
/-- what is young is dropped -/
theorem StoR.cut {G : Gd} {F : Hp} {r : List Addr} {R : Hp} {M : Sto} {H : Hp} (S : StoR G F r R M H) (k : Nat) (hk : Tbl.r.length ≤ k) : StoR G F (r.take k) R (M.take k) H := by
  refine ⟨by rw [List.length_take, List.length_take, S.len], S.nd.sublist (List.take_sublist _ _), S.sub, S.res, fun a ha => S.fr a (List.mem_of_mem_take ha), fun a ha => S.rr a (List.mem_of_mem_take ha), S.fx, fun n a o h1 h2 => ?_, S.ax, ⟨S.og.1, pre_take S.og.2 hk⟩⟩
  have hn : n < k := by
    have := (List.getElem?_eq_some_iff.mp h1).1
    rw [List.length_take] at this
    omega
  rw [List.getElem?_take_of_lt hn] at h1 h2
  have e : (r.take k).take n = r.take n := by rw [List.take_take, Nat.min_eq_left (Nat.le_of_lt hn)]
  rw [e]
  exact S.at_ n a o h1 h2

/- references below k alone -/
mutual
def below (k : Nat) : D → Bool
  | .tup xs => belows k xs
  | .lst xs => belows k xs
  | .dct kvs => belowK k kvs
  | .obj _ fs => belowF k fs
  | .ref n => decide (n < k)
  | .dtu kvs => belowT k kvs
  | _ => true
def belows (k : Nat) : List D → Bool
  | [] => true
  | x :: xs => below k x && belows k xs
def belowK (k : Nat) : List (Key × D) → Bool
  | [] => true
  | (_, x) :: xs => below k x && belowK k xs
def belowF (k : Nat) : List (Str × D) → Bool
  | [] => true
  | (_, x) :: xs => below k x && belowF k xs
def belowT (k : Nat) : List (List Key × D) → Bool
  | [] => true
  | (_, x) :: xs => below k x && belowT k xs
end
mutual
theorem Rep.cut {G : Gd} {F : Hp} {r : List Addr} {k : Nat} : ∀ {d : D} {v : V}, Rep G F r d v → below k d = true → Rep G F (r.take k) d v
  | .non, v, h, _ => h
  | .bl b, v, h, _ => h
  | .int i, v, h, _ => h
  | .str x, v, h, _ => h
  | .ty n, v, h, _ => h
  | .cur _, v, h, _ => h
  | .tup xs, v, h, b => by
    unfold Rep at h ⊢
    obtain ⟨a, vs, e, q, z⟩ := h
    exact ⟨a, vs, e, q, Reps.cut z (by unfold below at b; exact b)⟩
  | .lst xs, v, h, b => by
    unfold Rep at h ⊢
    obtain ⟨a, vs, e, q, z⟩ := h
    exact ⟨a, vs, e, q, Reps.cut z (by unfold below at b; exact b)⟩
  | .dct kvs, v, h, b => by
    unfold Rep at h ⊢
    obtain ⟨a, vs, e, q, z⟩ := h
    exact ⟨a, vs, e, q, RepK.cut z (by unfold below at b; exact b)⟩
  | .obj c fs, v, h, b => by
    unfold Rep at h ⊢
    obtain ⟨a, C, dx, vfs, e, m, q, z⟩ := h
    exact ⟨a, C, dx, vfs, e, m, q, RepF.cut z (by unfold below at b; exact b)⟩
  | .ref n, v, h, b => by
    unfold Rep at h ⊢
    obtain ⟨a, e, z⟩ := h
    unfold below at b
    exact ⟨a, by rw [List.getElem?_take_of_lt (of_decide_eq_true b)]; exact e, z⟩
  | .dtu kvs, v, h, b => by
    unfold Rep at h ⊢
    obtain ⟨a, vs, e, q, z⟩ := h
    exact ⟨a, vs, e, q, RepT.cut z (by unfold below at b; exact b)⟩
theorem Reps.cut {G : Gd} {F : Hp} {r : List Addr} {k : Nat} : ∀ {d : List D} {v : List V}, Reps G F r d v → belows k d = true → Reps G F (r.take k) d v
  | [], v, h, _ => h
  | x :: xs, vs, h, b => by
    unfold Reps at h ⊢
    unfold belows at b
    rw [Bool.and_eq_true] at b
    obtain ⟨v, w, e, p, q⟩ := h
    exact ⟨v, w, e, Rep.cut p b.1, Reps.cut q b.2⟩
theorem RepK.cut {G : Gd} {F : Hp} {r : List Addr} {k : Nat} : ∀ {d : List (Key × D)} {v : List (Key × V)}, RepK G F r d v → belowK k d = true → RepK G F (r.take k) d v
  | [], v, h, _ => h
  | (_, x) :: xs, vs, h, b => by
    unfold RepK at h ⊢
    unfold belowK at b
    rw [Bool.and_eq_true] at b
    obtain ⟨v, w, e, p, q⟩ := h
    exact ⟨v, w, e, Rep.cut p b.1, RepK.cut q b.2⟩
theorem RepF.cut {G : Gd} {F : Hp} {r : List Addr} {k : Nat} : ∀ {d : List (Str × D)} {v : List (Str × V)}, RepF G F r d v → belowF k d = true → RepF G F (r.take k) d v
  | [], v, h, _ => h
  | (_, x) :: xs, vs, h, b => by
    unfold RepF at h ⊢
    unfold belowF at b
    rw [Bool.and_eq_true] at b
    obtain ⟨v, w, e, p, q⟩ := h
    exact ⟨v, w, e, Rep.cut p b.1, RepF.cut q b.2⟩
theorem RepT.cut {G : Gd} {F : Hp} {r : List Addr} {k : Nat} : ∀ {d : List (List Key × D)} {v : List (List Key × V)}, RepT G F r d v → belowT k d = true → RepT G F (r.take k) d v
  | [], v, h, _ => h
  | (_, x) :: xs, vs, h, b => by
    unfold RepT at h ⊢
    unfold belowT at b
    rw [Bool.and_eq_true] at b
    obtain ⟨v, w, e, p, q⟩ := h
    exact ⟨v, w, e, Rep.cut p b.1, RepT.cut q b.2⟩
end
end EV
set_option maxHeartbeats 4000000
namespace EV
open PySem PySem.Spec PyProof.Rows L2
variable [Tbl]

abbrev gd (X : Cx) : Gd := ⟨X.K, X.mg⟩
def ExR (G : Gd) (F : Hp) (r : List Addr) (e : Exn) (cls : Value) (d : Option Addr) : Prop :=
  ∃ C, G.mg e.c = some (.ref C) ∧ cls = .ref C ∧ match d with
    | none => e.fs = []
    | some dx => ∃ vfs, F dx = some (.xd vfs) ∧ RepF G F r e.fs vfs
def D.isCur : D → Bool
  | .cur _ => true
  | _ => false
/-- what stands in a slot -/
def RepV (G : Gd) (F : Hp) (r : List Addr) (d : D) (v : V) : Prop := match d with
  | .cur false => v = .ref Tbl.x
  | .cur true => v = .ref Tbl.f
  | d => Rep G F r d v
theorem RepV.of {G : Gd} {F : Hp} {r : List Addr} {d : D} {v : V} (h : Rep G F r d v) : RepV G F r d v := by
  cases d <;> first | exact h | (unfold Rep at h; exact h.elim)
theorem RepV.val {G : Gd} {F : Hp} {r : List Addr} {d : D} {v : V} (h : RepV G F r d v) (k : d.isCur = false) : Rep G F r d v := by
  cases d <;> first | exact h | cases k
theorem RepV.mono {G : Gd} {F F' : Hp} {r r' : List Addr} {d : D} {v : V} (s : Sub F F') (p : r <+: r') (h : RepV G F r d v) : RepV G F' r' d v := by
  cases d <;> first | (exact Rep.mono s p (show Rep G F r _ v from h)) | skip
  rename_i k
  cases k <;> exact h
def EnvR (G : Gd) (F : Hp) (r : List Addr) (env : DEnv) (σ : L2.St) : Prop :=
  env.length = σ.length ∧ ∀ (i : Nat) (d : D), env[i]? = some (some d) → ∃ v, σ[i]? = some (some v) ∧ RepV G F r d v
theorem EnvR.mono {G : Gd} {F F' : Hp} {r r' : List Addr} {env : DEnv} {σ : L2.St} (s : Sub F F') (p : r <+: r') (h : EnvR G F r env σ) : EnvR G F' r' env σ :=
  ⟨h.1, fun i d e => let ⟨v, a, b⟩ := h.2 i d e; ⟨v, a, b.mono s p⟩⟩

abbrev Rl (α β : Type) := Gd → Hp → List Addr → α → β → Prop
abbrev RB : Rl Bool Bool := fun _ _ _ a b => a = b
abbrev EXK := Value → Option Addr → L2.St → Hp → Prop
/-- the wish behind an exception -/
def EXc (G : Gd) (F : Hp) (r : List Addr) (R : Hp) (W : EXK) (σ : L2.St) (e : Exn) (M' : Sto) : Prop :=
  ∀ F' r' H' cls d, Sub F F' → r <+: r' → StoR G F' r' R M' H' → ExR G F' r' e cls d → W cls d σ H'
def OKx {α β : Type} (Q : Rl α β) (G : Gd) (F : Hp) (r : List Addr) (R : Hp) (k : β → Hp → Prop) (a : α) (M' : Sto) : Prop :=
  ∀ F' r' H' b, Sub F F' → r <+: r' → StoR G F' r' R M' H' → Q G F' r' a b → k b H'
theorem OKx.mono {α β : Type} {Q : Rl α β} {G : Gd} {F F' : Hp} {r r' : List Addr} {R : Hp} {k : β → Hp → Prop} {a : α} {M : Sto} (s : Sub F F') (p : r <+: r') (h : OKx Q G F r R k a M) : OKx Q G F' r' R k a M :=
  fun F2 r2 H2 b s2 p2 S q => h F2 r2 H2 b (s.trans s2) (p.trans p2) S q
theorem EXc.mono {G : Gd} {F F' : Hp} {r r' : List Addr} {R : Hp} {W : EXK} {σ : L2.St} {e : Exn} {M : Sto} (s : Sub F F') (p : r <+: r') (h : EXc G F r R W σ e M) : EXc G F' r' R W σ e M :=
  fun F2 r2 H2 b d s2 p2 S q => h F2 r2 H2 b d (s.trans s2) (p.trans p2) S q

/-- the reading of a plain computation -/
def tX {α β : Type} (X : Cx) (W : EXK) (Q : Rl α β) (m : DEnv → Sto → Out α) : L2.St → Hp → (β → Hp → Prop) → Prop := fun σ H k =>
  ∃ F r R env M, EnvR (gd X) F r env σ ∧ StoR (gd X) F r R M H ∧ (m env M).post (OKx Q (gd X) F r R k) (EXc (gd X) F r R W σ)
abbrev DE := DEnv → Sto → Out D
abbrev DT := DEnv → Sto → Out Bool
abbrev DA := DEnv → Sto → Out (List D)
abbrev tD (X : Cx) (W : EXK) (m : DE) : TE := tX X W Rep m
abbrev tT (X : Cx) (W : EXK) (m : DT) : TT := tX X W RB m
abbrev tA (X : Cx) (W : EXK) (m : DA) : TA := tX X W Reps m

theorem tX.imp {α β : Type} {X : Cx} {W : EXK} {Q : Rl α β} {m : DEnv → Sto → Out α} {σ : L2.St} {H : Hp} {k k' : β → Hp → Prop} (h : tX X W Q m σ H k) (hk : ∀ b H, k b H → k' b H) : tX X W Q m σ H k' := by
  obtain ⟨F, r, R, env, M, hE, hS, hp⟩ := h
  exact ⟨F, r, R, env, M, hE, hS, Out.post_imp hp (fun a M' q F' r' H' b s p S z => hk _ _ (q F' r' H' b s p S z)) fun _ _ z => z⟩
/-- one computation behind another one -/
theorem tX.bind {α β γ : Type} {X : Cx} {W : EXK} {Q : Rl α β} {m : DEnv → Sto → Out α} {f : α → Sto → Out γ} {P : Hp → List Addr → γ → Sto → Prop} {σ : L2.St} {F H R : Hp} {r : List Addr} {env : DEnv} {M : Sto}
    (mono : ∀ F r F' r' c M, Sub F F' → r <+: r' → P F r c M → P F' r' c M) (hE : EnvR (gd X) F r env σ) (hS : StoR (gd X) F r R M H) (h : ((m env M).bind f).post (P F r) (EXc (gd X) F r R W σ)) :
    tX X W Q m σ H fun b H1 => ∃ F1 r1 M1 a, Sub F F1 ∧ r <+: r1 ∧ EnvR (gd X) F1 r1 env σ ∧ StoR (gd X) F1 r1 R M1 H1 ∧ Q (gd X) F1 r1 a b ∧ (f a M1).post (P F1 r1) (EXc (gd X) F1 r1 R W σ) := by
  refine ⟨F, r, R, env, M, hE, hS, Out.post_imp (Out.post_bind h) (fun a M1 q F' r' H' b s p S z => ?_) fun _ _ z => z⟩
  exact ⟨F', r', M1, a, s, p, hE.mono s p, S, z, Out.post_imp q (fun c M2 y => mono _ _ _ _ _ _ s p y) fun e M2 y => y.mono s p⟩
theorem OKx.mono' {α β : Type} {Q : Rl α β} {G : Gd} {R : Hp} {k : β → Hp → Prop} : ∀ (F : Hp) (r : List Addr) (F' : Hp) (r' : List Addr) (a : α) (M : Sto), Sub F F' → r <+: r' → OKx Q G F r R k a M → OKx Q G F' r' R k a M :=
  fun _ _ _ _ _ _ s p h => h.mono s p

section
variable {X : Cx} {W : EXK}
theorem PE.imp {e : Expr} {t t' : TE} (h : PE X e t) (i : ∀ σ H Q, t' σ H Q → t σ H Q) : PE X e t' := ⟨fun pins s σ H Q I q => h.run pins s σ H Q I (i _ _ _ q)⟩
theorem PT.imp {e : Expr} {t t' : TT} (h : PT X e t) (i : ∀ σ H Q, t' σ H Q → t σ H Q) : PT X e t' := ⟨fun pins s σ H Q I q => h.run pins s σ H Q I (i _ _ _ q)⟩
theorem PW.imp {e : Expr} {t t' : TT} (h : PW X e t) (i : ∀ σ H Q, t' σ H Q → t σ H Q) : PW X e t' := ⟨fun wh pins s σ H Q I q => h.run wh pins s σ H Q I (i _ _ _ q)⟩
theorem PA.imp {es : List Expr} {t t' : TA} (h : PA X es t) (i : ∀ σ H Q, t' σ H Q → t σ H Q) : PA X es t' := ⟨fun pos pins s σ H Q I q => h.run pos pins s σ H Q I (i _ _ _ q)⟩
theorem PS.imp {st : Stmt} {t t' : TS} (h : PS X st t) (i : ∀ D σ H, t' D σ H → t D σ H) : PS X st t' := ⟨fun pins s σ H D I q => h.run pins s σ H D I (i _ _ _ q)⟩
theorem PSs.imp {st : List Stmt} {t t' : TS} (h : PSs X st t) (i : ∀ D σ H, t' D σ H → t D σ H) : PSs X st t' := ⟨fun pins s σ H D I q => h.run pins s σ H D I (i _ _ _ q)⟩
end

/-! ### names, constants -/
def mVar (i : Nat) : DE := fun env M => match env[i]? with
  | some (some d) => if d.isCur = true then .bad else .ok d M
  | _ => .bad
def mK (d : D) : DE := fun _ M => .ok d M
section
variable {X : Cx} {W : EXK} {pos : Pos}
theorem tD_k {d : D} {v : V} (σ : L2.St) (H : Hp) (Q : VK) (h : tD X W (mK d) σ H Q) (hv : ∀ F r, Rep (gd X) F r d v) : Q v H := by
  obtain ⟨F, r, R, env, M, hE, hS, hp⟩ := h
  exact hp F r H v (Sub.refl _) (List.prefix_refl _) hS (hv F r)
theorem ev_var (i : Nat) {x : Str} (hN : X.N[i]? = some x := by rfl) (hv : Vis X.env.scope x := by first | exact Or.inl rfl | exact Or.inr (Or.inl rfl) | exact Or.inr (Or.inr rfl)) (hd : (x == ("__debug__" : Str)) = false := by decide)
    (hcd : (x == ("__classdict__" : Str)) = false := by decide) : PE X (.Name x pos) (tD X W (mVar i)) := by
  refine PE.imp (pe_var hN hv hd hcd) fun σ H Q h => ?_
  obtain ⟨F, r, R, env, M, hE, hS, hp⟩ := h
  unfold mVar at hp
  split at hp
  · rename_i d e
    obtain ⟨v, e1, e2⟩ := hE.2 i d e
    split at hp
    · exact hp.elim
    · rename_i k
      exact ⟨v, e1, hp F r H v (Sub.refl _) (List.prefix_refl _) hS (e2.val (by simpa using k))⟩
  · exact hp.elim
theorem rep_int (G : Gd) (F : Hp) (r : List Addr) (i : Int) (v : V) : Rep G F r (.int i) v = (v = .int i) := by unfold Rep; rfl
theorem rep_bl (G : Gd) (F : Hp) (r : List Addr) (i : Bool) (v : V) : Rep G F r (.bl i) v = (v = .bl i) := by unfold Rep; rfl
theorem rep_str (G : Gd) (F : Hp) (r : List Addr) (i : Str) (v : V) : Rep G F r (.str i) v = (v = .str i) := by unfold Rep; rfl
theorem rep_non (G : Gd) (F : Hp) (r : List Addr) (v : V) : Rep G F r .non v = (v = .non) := by unfold Rep; rfl
theorem rep_ty (G : Gd) (F : Hp) (r : List Addr) (n : TyN) (v : V) : Rep G F r (.ty n) v = (v = .ty n.s) := by unfold Rep; rfl
theorem rep_tup (G : Gd) (F : Hp) (r : List Addr) (xs : List D) (v : V) : Rep G F r (.tup xs) v = ∃ a vs, v = .ref a ∧ F a = some (.tup vs) ∧ Reps G F r xs vs := by rw [Rep]
theorem rep_lst (G : Gd) (F : Hp) (r : List Addr) (xs : List D) (v : V) : Rep G F r (.lst xs) v = ∃ a vs, v = .ref a ∧ LstR G.K F a vs ∧ Reps G F r xs vs := by rw [Rep]
theorem rep_dct (G : Gd) (F : Hp) (r : List Addr) (xs : List (Key × D)) (v : V) : Rep G F r (.dct xs) v = ∃ a vs, v = .ref a ∧ F a = some (.dK vs) ∧ RepK G F r xs vs := by rw [Rep]
theorem rep_obj (G : Gd) (F : Hp) (r : List Addr) (c : Str) (xs : List (Str × D)) (v : V) : Rep G F r (.obj c xs) v = ∃ a C dx vfs, v = .ref a ∧ G.mg c = some (.ref C) ∧ F a = some (.ins C dx vfs) ∧ RepF G F r xs vfs := by rw [Rep]
theorem rep_dtu (G : Gd) (F : Hp) (r : List Addr) (xs : List (List Key × D)) (v : V) : Rep G F r (.dtu xs) v = ∃ a vs, v = .ref a ∧ F a = some (.dT vs) ∧ RepT G F r xs vs := by rw [Rep]
theorem rep_ref (G : Gd) (F : Hp) (r : List Addr) (n : Nat) (v : V) : Rep G F r (.ref n) v = ∃ a, r[n]? = some a ∧ v = .ref a := by rw [Rep]
/-- flat values -/
inductive Flat : D → V → Prop
  | non : Flat .non .non
  | bl (b) : Flat (.bl b) (.bl b)
  | int (i) : Flat (.int i) (.int i)
  | str (x) : Flat (.str x) (.str x)
  | ty (n : TyN) : Flat (.ty n) (.ty n.s)
theorem Flat.rep {d : D} {v : V} (h : Flat d v) (G : Gd) (F : Hp) (r : List Addr) : Rep G F r d v := by
  cases h <;> (unfold Rep; rfl)
theorem ev_k {e : Expr} {d : D} {v : V} (h : PE X e (tC v)) (f : Flat d v) : PE X e (tD X W (mK d)) := by
  refine PE.imp h fun σ H Q h => ?_
  obtain ⟨F, r, R, env, M, hE, hS, hp⟩ := h
  exact hp F r H v (Sub.refl _) (List.prefix_refl _) hS (f.rep _ _ _)
theorem ev_int {i : Int} {j} : PE X (.Constant (.int i) j pos) (tD X W (mK (.int i))) := ev_k pe_int (.int i)
theorem ev_bl {b : Bool} {j} : PE X (.Constant (.bool b) j pos) (tD X W (mK (.bl b))) := ev_k pe_bl (.bl b)
theorem ev_non {j} : PE X (.Constant .none j pos) (tD X W (mK .non)) := ev_k pe_non .non
theorem ev_str {x : Str} {j} : PE X (.Constant (.str x) j pos) (tD X W (mK (.str x))) := ev_k pe_str (.str x)
/-- a constant of the module -/
theorem ev_glob {x : Str} {d : D} {v : V} {u : Value} (hg : Gl X x) (hm : X.mg x = some u) (r : RelV v u) (f : Flat d v) (hd : (x == ("__debug__" : Str)) = false := by decide) : PE X (.Name x pos) (tD X W (mK d)) := ev_k (pe_glob hg hm r hd) f
/-- a built-in type as a value -/
theorem ev_ty {x : Str} {n : TyN} (hg : Gl X x) (hm : X.mg x = none) (hv : bootBuiltins x = some (.type n.s)) (hn : x ≠ "__name__" := by decide) (hd : (x == ("__debug__" : Str)) = false := by decide) : PE X (.Name x pos) (tD X W (mK (.ty n))) :=
  ev_k (pe_bltn (v := .ty n.s) hg hm hv rfl hn hd) (.ty n)
end

/-! ### operators -/
abbrev Op2 := D → D → Sto → Out D
abbrev Op1 := D → Sto → Out D
abbrev OpL := List D → Sto → Out D
def rD2 (X : Cx) (f : Op2) : R2 := fun x y H Q => ∃ F r R M a b, StoR (gd X) F r R M H ∧ Rep (gd X) F r a x ∧ Rep (gd X) F r b y ∧ (f a b M).post (OKx Rep (gd X) F r R Q) fun _ _ => False
def rD1 (X : Cx) (f : Op1) : V → Hp → VK → Prop := fun x H Q => ∃ F r R M a, StoR (gd X) F r R M H ∧ Rep (gd X) F r a x ∧ (f a M).post (OKx Rep (gd X) F r R Q) fun _ _ => False
def rDL (X : Cx) (f : OpL) : List V → Hp → VK → Prop := fun xs H Q => ∃ F r R M as, StoR (gd X) F r R M H ∧ Reps (gd X) F r as xs ∧ (f as M).post (OKx Rep (gd X) F r R Q) fun _ _ => False
/-- an operator's rule -/
abbrev S2 (X : Cx) (py : Value → Value → Sem Value) (f : Op2) : Prop := OpR X py (rD2 X f)
abbrev S1 (X : Cx) (py : Value → Sem Value) (f : Op1) : Prop := UnR X py (rD1 X f)
abbrev SL (X : Cx) (py : Value) (f : OpL) : Prop := CallR X py (rDL X f)
/-- errors of an operator are none of ours -/
def noExc {α : Type} (o : Out α) : Out α := match o with
  | .exc _ _ => .bad
  | o => o
theorem noExc_post {α : Type} {o : Out α} {P : α → Sto → Prop} {Y : Exn → Sto → Prop} (h : (noExc o).post P Y) : o.post P fun _ _ => False := by
  cases o <;> exact h
def m2 (f : Op2) (a b : DE) : DE := fun env M => (a env M).bind fun x M1 => (b env M1).bind fun y M2 => noExc (f x y M2)
def m1 (f : Op1) (a : DE) : DE := fun env M => (a env M).bind fun x M1 => noExc (f x M1)
def mL (f : OpL) (a : DA) : DE := fun env M => (a env M).bind fun x M1 => noExc (f x M1)
section
variable {X : Cx} {W : EXK} {pos : Pos} {a b : Expr} {ma mb : DE} {es : List Expr} {mas : DA}
theorem tD_m2 {f : Op2} {σ : L2.St} {H : Hp} {Q : VK} (h : tD X W (m2 f ma mb) σ H Q) : tOp (rD2 X f) (tD X W ma) (tD X W mb) σ H Q := by
  obtain ⟨F, r, R, env, M, hE, hS, hp⟩ := h
  refine tX.imp (tX.bind OKx.mono' hE hS hp) fun x H1 ⟨F1, r1, M1, d, s1, p1, hE1, hS1, R1, hp1⟩ => ?_
  refine tX.imp (tX.bind OKx.mono' hE1 hS1 hp1) fun y H2 ⟨F2, r2, M2, d2, s2, p2, hE2, hS2, R2, hp2⟩ => ?_
  exact ⟨F2, r2, R, M2, d, d2, hS2, R1.mono s2 p2, R2, noExc_post hp2⟩
theorem ev_bin {op : Operator} {f : Op2} (ho : S2 X (binaryOp op) f) (ha : PE X a (tD X W ma)) (hb : PE X b (tD X W mb)) : PE X (.BinOp a op b pos) (tD X W (m2 f ma mb)) :=
  PE.imp (pe_op ho ha hb) fun σ H Q h => tD_m2 h
theorem ev_un {op : UnaryOp} {f : Op1} (ho : S1 X (unaryOp op) f) (ha : PE X a (tD X W ma)) : PE X (.UnaryOp op a pos) (tD X W (m1 f ma)) := by
  refine PE.imp (pe_un ho ha) fun σ H Q h => ?_
  obtain ⟨F, r, R, env, M, hE, hS, hp⟩ := h
  refine tX.imp (tX.bind OKx.mono' hE hS hp) fun x H1 ⟨F1, r1, M1, d, s1, p1, hE1, hS1, R1, hp1⟩ => ?_
  exact ⟨F1, r1, R, M1, d, hS1, R1, noExc_post hp1⟩
theorem ev_cmp {op : CmpOp} {f : Op2} (ho : S2 X (compareOp op) f) (ha : PE X a (tD X W ma)) (hb : PE X b (tD X W mb)) (hm : behindInMarks op b = false) : PE X (.Compare a [op] [b] pos) (tD X W (m2 f ma mb)) :=
  PE.imp (pe_cmpR ho ha hb hm) fun σ H Q h => tD_m2 h
/-- a test out of a value that is a bool -/
def tst (m : DE) : DT := fun env M => (m env M).bind fun x M1 => match x with
  | .bl b => .ok b M1
  | _ => .bad
theorem tT_tst {m : DE} {σ : L2.St} {H : Hp} {Q : Bool → Hp → Prop} (h : tT X W (tst m) σ H Q) : tD X W m σ H fun x H' => ∃ k, x = .bl k ∧ Q k H' := by
  obtain ⟨F, r, R, env, M, hE, hS, hp⟩ := h
  refine tX.imp (tX.bind OKx.mono' hE hS hp) fun x H1 ⟨F1, r1, M1, d, s1, p1, hE1, hS1, R1, hp1⟩ => ?_
  cases d <;> first | exact hp1.elim | skip
  rename_i b
  rw [rep_bl] at R1
  exact ⟨b, R1, hp1 F1 r1 H1 b (Sub.refl _) (List.prefix_refl _) hS1 rfl⟩
theorem evt_cmp {op : CmpOp} {f : Op2} (ho : S2 X (compareOp op) f) (ha : PE X a (tD X W ma)) (hb : PE X b (tD X W mb)) (hm : behindInMarks op b = false) : PT X (.Compare a [op] [b] pos) (tT X W (tst (m2 f ma mb))) := by
  refine PT.imp (pt_cmpR ho ha hb hm) fun σ H Q h => ?_
  exact tD_m2 (tT_tst h)
/-- a chain -/
def mCh (f g : Op2) (a b c : DE) : DE := fun env M => (a env M).bind fun x M1 => (b env M1).bind fun y M2 => (noExc (f x y M2)).bind fun z M3 => match z with
  | .bl true => (c env M3).bind fun w M4 => noExc (g y w M4)
  | .bl false => .ok (.bl false) M3
  | _ => .bad
theorem tD_mCh {c : Expr} {mc : DE} {f g : Op2} {σ : L2.St} {H : Hp} {Q : VK} (h : tD X W (mCh f g ma mb mc) σ H Q) : tChain (rD2 X f) (rD2 X g) (tD X W ma) (tD X W mb) (tD X W mc) σ H Q := by
  obtain ⟨F, r, R, env, M, hE, hS, hp⟩ := h
  refine tX.imp (tX.bind OKx.mono' hE hS hp) fun x H1 ⟨F1, r1, M1, d, s1, p1, hE1, hS1, R1, hp1⟩ => ?_
  refine tX.imp (tX.bind OKx.mono' hE1 hS1 hp1) fun y H2 ⟨F2, r2, M2, d2, s2, p2, hE2, hS2, R2, hp2⟩ => ?_
  refine ⟨F2, r2, R, M2, d, d2, hS2, R1.mono s2 p2, R2, ?_⟩
  cases e : f d d2 M2 with
  | bad => rw [e] at hp2; exact hp2.elim
  | exc _ _ => rw [e] at hp2; exact hp2.elim
  | ok z M3 =>
    rw [e] at hp2
    intro F3 r3 H3 v s3 p3 S3 R3
    cases z <;> first | exact hp2.elim | skip
    rename_i k
    rw [rep_bl] at R3
    refine ⟨k, R3, ?_⟩
    cases k with
    | false =>
      rw [if_neg (by decide)]
      exact hp2 F3 r3 H3 (.bl false) s3 p3 S3 (by rw [rep_bl])
    | true =>
      rw [if_pos rfl]
      have hp3 : (((mc env M3).bind fun w M4 => noExc (g d2 w M4))).post (OKx Rep (gd X) F3 r3 R Q) (EXc (gd X) F3 r3 R W σ) := Out.post_imp hp2 (fun c M y => y.mono s3 p3) fun e M y => y.mono s3 p3
      refine tX.imp (tX.bind OKx.mono' (hE2.mono s3 p3) S3 hp3) fun w H4 ⟨F4, r4, M4, d4, s4, p4, hE4, hS4, R4, hp4⟩ => ?_
      exact ⟨F4, r4, R, M4, d2, d4, hS4, R2.mono (s3.trans s4) (p3.trans p4), R4, noExc_post hp4⟩
theorem ev_chain {c : Expr} {mc : DE} {op op' : CmpOp} {f g : Op2} (ho : S2 X (compareOp op) f) (ho' : S2 X (compareOp op') g) (ha : PE X a (tD X W ma)) (hb : PE X b (tD X W mb)) (hc : PE X c (tD X W mc))
    (hm : lastMarks [op, op'] [b, c] = false := by with_unfolding_all rfl) : PE X (.Compare a [op, op'] [b, c] pos) (tD X W (mCh f g ma mb mc)) :=
  PE.imp (pe_chain ho ho' ha hb hc hm) fun σ H Q h => tD_mCh (c := c) h
theorem evt_chain {c : Expr} {mc : DE} {op op' : CmpOp} {f g : Op2} (ho : S2 X (compareOp op) f) (ho' : S2 X (compareOp op') g) (ha : PE X a (tD X W ma)) (hb : PE X b (tD X W mb)) (hc : PE X c (tD X W mc))
    (hm : lastMarks [op, op'] [b, c] = false := by with_unfolding_all rfl) : PT X (.Compare a [op, op'] [b, c] pos) (tT X W (tst (mCh f g ma mb mc))) :=
  PT.imp (pt_chain ho ho' ha hb hc hm) fun σ H Q h => tD_mCh (c := c) (tT_tst h)

/-! ### and, or, not, if -/
def mAnd (a b : DE) : DE := fun env M => (a env M).bind fun x M1 => match x with
  | .bl true => b env M1
  | .bl false => .ok (.bl false) M1
  | _ => .bad
def mOr (a b : DE) : DE := fun env M => (a env M).bind fun x M1 => match x with
  | .bl false => b env M1
  | .bl true => .ok (.bl true) M1
  | _ => .bad
def mNot (a : DE) : DE := fun env M => (a env M).bind fun x M1 => match x with
  | .bl b => .ok (.bl (!b)) M1
  | _ => .bad
def mIf (c : DT) (a b : DE) : DE := fun env M => (c env M).bind fun k M1 => if k = true then a env M1 else b env M1
theorem ev_one {op} (h : PE X a (tD X W ma)) : PE X (.BoolOp op [a] pos) (tD X W ma) := pe_one h
theorem ev_and {rest : List Expr} (ha : PE X a (tD X W ma)) (hb : PE X (.BoolOp .And (b :: rest) pos) (tD X W mb)) : PE X (.BoolOp .And (a :: b :: rest) pos) (tD X W (mAnd ma mb)) := by
  refine PE.imp (pe_and ha hb) fun σ H Q h => ?_
  obtain ⟨F, r, R, env, M, hE, hS, hp⟩ := h
  refine tX.imp (tX.bind OKx.mono' hE hS hp) fun x H1 ⟨F1, r1, M1, d, s1, p1, hE1, hS1, R1, hp1⟩ => ?_
  cases d <;> first | exact hp1.elim | skip
  rename_i k
  rw [rep_bl] at R1
  refine ⟨k, R1, ?_⟩
  cases k with
  | true => rw [if_pos rfl]; exact ⟨F1, r1, R, env, M1, hE1, hS1, hp1⟩
  | false => rw [if_neg (by decide)]; exact hp1 F1 r1 H1 _ (Sub.refl _) (List.prefix_refl _) hS1 (by rw [rep_bl])
theorem ev_or {rest : List Expr} (ha : PE X a (tD X W ma)) (hb : PE X (.BoolOp .Or (b :: rest) pos) (tD X W mb)) : PE X (.BoolOp .Or (a :: b :: rest) pos) (tD X W (mOr ma mb)) := by
  refine PE.imp (pe_or ha hb) fun σ H Q h => ?_
  obtain ⟨F, r, R, env, M, hE, hS, hp⟩ := h
  refine tX.imp (tX.bind OKx.mono' hE hS hp) fun x H1 ⟨F1, r1, M1, d, s1, p1, hE1, hS1, R1, hp1⟩ => ?_
  cases d <;> first | exact hp1.elim | skip
  rename_i k
  rw [rep_bl] at R1
  refine ⟨k, R1, ?_⟩
  cases k with
  | false => rw [if_neg (by decide)]; exact ⟨F1, r1, R, env, M1, hE1, hS1, hp1⟩
  | true => rw [if_pos rfl]; exact hp1 F1 r1 H1 _ (Sub.refl _) (List.prefix_refl _) hS1 (by rw [rep_bl])
theorem ev_not (ha : PE X a (tD X W ma)) : PE X (.UnaryOp .Not a pos) (tD X W (mNot ma)) := by
  refine PE.imp (pe_not ha) fun σ H Q h => ?_
  obtain ⟨F, r, R, env, M, hE, hS, hp⟩ := h
  refine tX.imp (tX.bind OKx.mono' hE hS hp) fun x H1 ⟨F1, r1, M1, d, s1, p1, hE1, hS1, R1, hp1⟩ => ?_
  cases d <;> first | exact hp1.elim | skip
  rename_i k
  rw [rep_bl] at R1
  exact ⟨k, R1, hp1 F1 r1 H1 _ (Sub.refl _) (List.prefix_refl _) hS1 (by rw [rep_bl])⟩
theorem ev_if {c : Expr} {mc : DT} (hc : PT X c (tT X W mc)) (ha : PE X a (tD X W ma)) (hb : PE X b (tD X W mb)) : PE X (.IfExp c a b pos) (tD X W (mIf mc ma mb)) := by
  refine PE.imp (pe_ifExp hc ha hb) fun σ H Q h => ?_
  obtain ⟨F, r, R, env, M, hE, hS, hp⟩ := h
  refine tX.imp (tX.bind OKx.mono' hE hS hp) fun x H1 ⟨F1, r1, M1, d, s1, p1, hE1, hS1, R1, hp1⟩ => ?_
  have R1' : d = x := R1
  subst R1'
  cases d with
  | true => rw [if_pos rfl]; exact ⟨F1, r1, R, env, M1, hE1, hS1, hp1⟩
  | false => rw [if_neg (by decide)]; exact ⟨F1, r1, R, env, M1, hE1, hS1, hp1⟩
/-! tests -/
def nAnd (a b : DT) : DT := fun env M => (a env M).bind fun k M1 => if k = true then b env M1 else .ok false M1
def nOr (a b : DT) : DT := fun env M => (a env M).bind fun k M1 => if k = true then .ok true M1 else b env M1
def nNot (a : DT) : DT := fun env M => (a env M).bind fun k M1 => .ok (!k) M1
variable {na nb : DT} {rest : List Expr}
theorem evw_and1 (ha : PT X a (tT X W na)) : PW X (.BoolOp .And [a] pos) (tT X W na) := pw_and1 ha
theorem evw_or1 (ha : PT X a (tT X W na)) : PW X (.BoolOp .Or [a] pos) (tT X W na) := pw_or1 ha
theorem evw_and (ha : PT X a (tT X W na)) (hb : PW X (.BoolOp .And (b :: rest) pos) (tT X W nb)) : PW X (.BoolOp .And (a :: b :: rest) pos) (tT X W (nAnd na nb)) := by
  refine PW.imp (pw_and ha hb) fun σ H Q h => ?_
  obtain ⟨F, r, R, env, M, hE, hS, hp⟩ := h
  refine tX.imp (tX.bind OKx.mono' hE hS hp) fun x H1 ⟨F1, r1, M1, d, s1, p1, hE1, hS1, R1, hp1⟩ => ?_
  have R1' : d = x := R1
  subst R1'
  cases d with
  | true => rw [if_pos rfl]; exact ⟨F1, r1, R, env, M1, hE1, hS1, hp1⟩
  | false => rw [if_neg (by decide)]; exact hp1 F1 r1 H1 _ (Sub.refl _) (List.prefix_refl _) hS1 rfl
theorem evw_or (ha : PT X a (tT X W na)) (hb : PW X (.BoolOp .Or (b :: rest) pos) (tT X W nb)) : PW X (.BoolOp .Or (a :: b :: rest) pos) (tT X W (nOr na nb)) := by
  refine PW.imp (pw_or ha hb) fun σ H Q h => ?_
  obtain ⟨F, r, R, env, M, hE, hS, hp⟩ := h
  refine tX.imp (tX.bind OKx.mono' hE hS hp) fun x H1 ⟨F1, r1, M1, d, s1, p1, hE1, hS1, R1, hp1⟩ => ?_
  have R1' : d = x := R1
  subst R1'
  cases d with
  | false => rw [if_neg (by decide)]; exact ⟨F1, r1, R, env, M1, hE1, hS1, hp1⟩
  | true => rw [if_pos rfl]; exact hp1 F1 r1 H1 _ (Sub.refl _) (List.prefix_refl _) hS1 rfl
theorem evt_not (ha : PT X a (tT X W na)) : PT X (.UnaryOp .Not a pos) (tT X W (nNot na)) := by
  refine PT.imp (pt_not ha) fun σ H Q h => ?_
  obtain ⟨F, r, R, env, M, hE, hS, hp⟩ := h
  refine tX.imp (tX.bind OKx.mono' hE hS hp) fun x H1 ⟨F1, r1, M1, d, s1, p1, hE1, hS1, R1, hp1⟩ => ?_
  have R1' : d = x := R1
  subst R1'
  exact hp1 F1 r1 H1 _ (Sub.refl _) (List.prefix_refl _) hS1 rfl
/-- an expression (no and, or, not, comparison) whose value is a bool, as a test -/
theorem evt_val {e : Expr} {m : DE} (h : PE X e (tD X W m)) (he : ∀ whole, isTrue e X.env whole = (do let v ← whole; standAt e.pos; holding [v] (truthy v)) := by intro _; rfl) : PT X e (tT X W (tst m)) :=
  PT.imp (pt_val h he) fun σ H Q h => tT_tst h

/-! ### lists of expressions, displays -/
def aNil : DA := fun _ M => .ok [] M
def aCons (a : DE) (as : DA) : DA := fun env M => (a env M).bind fun x M1 => (as env M1).bind fun xs M2 => .ok (x :: xs) M2
theorem eva_nil : PA X [] (tA X W aNil) := by
  refine PA.imp pa_nil fun σ H Q h => ?_
  obtain ⟨F, r, R, env, M, hE, hS, hp⟩ := h
  exact hp F r H [] (Sub.refl _) (List.prefix_refl _) hS .nil
theorem eva_cons (ha : PE X a (tD X W ma)) (hr : PA X es (tA X W mas)) (hs : starEach (a :: es) X.env = (false, eval a X.env) :: starEach es X.env := by rfl) : PA X (a :: es) (tA X W (aCons ma mas)) := by
  refine PA.imp (pa_cons ha hr hs) fun σ H Q h => ?_
  obtain ⟨F, r, R, env, M, hE, hS, hp⟩ := h
  refine tX.imp (tX.bind OKx.mono' hE hS hp) fun x H1 ⟨F1, r1, M1, d, s1, p1, hE1, hS1, R1, hp1⟩ => ?_
  refine tX.imp (tX.bind OKx.mono' hE1 hS1 hp1) fun y H2 ⟨F2, r2, M2, d2, s2, p2, hE2, hS2, R2, hp2⟩ => ?_
  exact hp2 F2 r2 H2 _ (Sub.refl _) (List.prefix_refl _) hS2 (Reps.cons (R1.mono s2 p2) R2)
/-- at most so many items in a display or text that is made -/
def lim : Nat := 1000000
theorem lim_ok {n : Nat} (h : n ≤ lim) : n ≤ sizeLine := Nat.le_trans h (by unfold lim; rw [sizeLine_eq]; decide)
def mTup (as : DA) : DE := fun env M => (as env M).bind fun xs M1 => if xs.length ≤ lim then .ok (.tup xs) M1 else .bad
def mLst (as : DA) : DE := fun env M => (as env M).bind fun xs M1 => if xs.length ≤ lim then .ok (.lst xs) M1 else .bad
/-- a list that may be changed -/
def mLstM (as : DA) : DE := fun env M => (as env M).bind fun xs M1 => if xs.length ≤ lim ∧ belows M1.length xs = true then .ok (.ref M1.length) (M1 ++ [.lst xs]) else .bad
theorem rep_new_tup {G : Gd} {F H R : Hp} {r : List Addr} {M : Sto} {xs : List D} {vs : List V} {p : Addr} (S : StoR G F r R M H) (h : Reps G F r xs vs) (hp : H p = none) :
    Sub F (upd F p (.tup vs)) ∧ StoR G (upd F p (.tup vs)) r R M (upd H p (.tup vs)) ∧ Rep G (upd F p (.tup vs)) r (.tup xs) (.ref p) := by
  have hF : F p = none := by
    cases q : F p with
    | none => rfl
    | some o => rw [S.sub _ _ q] at hp; cases hp
  refine ⟨Sub.upd hF, S.froz hp, ?_⟩
  rw [rep_tup]
  exact ⟨p, vs, rfl, upd_same, h.mono (Sub.upd hF) (List.prefix_refl _)⟩
theorem rep_new_lst {G : Gd} {F H R : Hp} {r : List Addr} {M : Sto} {xs : List D} {vs : List V} {p : Addr} (S : StoR G F r R M H) (h : Reps G F r xs vs) (hp : H p = none) :
    Sub F (upd F p (.lst vs)) ∧ StoR G (upd F p (.lst vs)) r R M (upd H p (.lst vs)) ∧ Rep G (upd F p (.lst vs)) r (.lst xs) (.ref p) := by
  have hF : F p = none := by
    cases q : F p with
    | none => rfl
    | some o => rw [S.sub _ _ q] at hp; cases hp
  refine ⟨Sub.upd hF, S.froz hp, ?_⟩
  rw [rep_lst]
  exact ⟨p, vs, rfl, LstR.of upd_same, h.mono (Sub.upd hF) (List.prefix_refl _)⟩
theorem rep_new_lstM {G : Gd} {F H R : Hp} {r : List Addr} {M : Sto} {xs : List D} {vs : List V} {p : Addr} (S : StoR G F r R M H) (h : Reps G F r xs vs) (hp : H p = none) :
    r <+: r ++ [p] ∧ StoR G F (r ++ [p]) R (M ++ [.lst xs]) (upd H p (.lst vs)) ∧ Rep G F (r ++ [p]) (.ref M.length) (.ref p) := by
  refine ⟨List.prefix_append _ _, S.live hp fun H' e => ⟨vs, e, h⟩, ?_⟩
  rw [rep_ref]
  exact ⟨p, by rw [S.len, List.getElem?_append_right (Nat.le_refl _), Nat.sub_self]; rfl, rfl⟩
theorem ev_tup {x1} (h : PA X es (tA X W mas)) : PE X (.Tuple es x1 pos) (tD X W (mTup mas)) := by
  refine PE.imp (pe_tup h) fun σ H Q h => ?_
  obtain ⟨F, r, R, env, M, hE, hS, hp⟩ := h
  refine tX.imp (tX.bind OKx.mono' hE hS hp) fun x H1 ⟨F1, r1, M1, d, s1, p1, hE1, hS1, R1, hp1⟩ => ?_
  split at hp1
  · rename_i hl
    refine ⟨by rw [R1.length]; exact lim_ok hl, fun p hpn => ?_⟩
    obtain ⟨a1, a2, a3⟩ := rep_new_tup hS1 R1 hpn
    exact hp1 _ r1 _ _ a1 (List.prefix_refl _) a2 a3
  · exact hp1.elim
theorem ev_lst (h : PA X es (tA X W mas)) : PE X (.List es pos) (tD X W (mLst mas)) := by
  refine PE.imp (pe_lst h) fun σ H Q h => ?_
  obtain ⟨F, r, R, env, M, hE, hS, hp⟩ := h
  refine tX.imp (tX.bind OKx.mono' hE hS hp) fun x H1 ⟨F1, r1, M1, d, s1, p1, hE1, hS1, R1, hp1⟩ => ?_
  split at hp1
  · rename_i hl
    refine ⟨by rw [R1.length]; exact lim_ok hl, fun p hpn => ?_⟩
    obtain ⟨a1, a2, a3⟩ := rep_new_lst hS1 R1 hpn
    exact hp1 _ r1 _ _ a1 (List.prefix_refl _) a2 a3
  · exact hp1.elim
theorem ev_lstM (h : PA X es (tA X W mas)) : PE X (.List es pos) (tD X W (mLstM mas)) := by
  refine PE.imp (pe_lst h) fun σ H Q h => ?_
  obtain ⟨F, r, R, env, M, hE, hS, hp⟩ := h
  refine tX.imp (tX.bind OKx.mono' hE hS hp) fun x H1 ⟨F1, r1, M1, d, s1, p1, hE1, hS1, R1, hp1⟩ => ?_
  split at hp1
  · rename_i hl
    refine ⟨by rw [R1.length]; exact lim_ok hl.1, fun p hpn => ?_⟩
    obtain ⟨a1, a2, a3⟩ := rep_new_lstM hS1 R1 hpn
    exact hp1 F1 _ _ _ (Sub.refl _) a1 a2 a3
  · exact hp1.elim
/-! ### subscripts, built-in calls -/
theorem ev_ix {f : Op2} (hr : IxR X (rD2 X f)) (ha : PE X a (tD X W ma)) (hb : PE X b (tD X W mb)) (hs : PlainIx b := by intro _ _; rfl) : PE X (.Subscript a b pos) (tD X W (m2 f ma mb)) :=
  PE.imp (pe_ix hr ha hb hs) fun σ H Q h => tD_m2 h
theorem tD_mL {f : OpL} {σ : L2.St} {H : Hp} {Q : VK} (h : tD X W (mL f mas) σ H Q) : tCB (rDL X f) (tA X W mas) σ H Q := by
  obtain ⟨F, r, R, env, M, hE, hS, hp⟩ := h
  refine tX.imp (tX.bind OKx.mono' hE hS hp) fun x H1 ⟨F1, r1, M1, d, s1, p1, hE1, hS1, R1, hp1⟩ => ?_
  exact ⟨F1, r1, R, M1, d, hS1, R1, noExc_post hp1⟩
variable {x : Str} {p : Pos} {id T : String} {e : Expr}
theorem ev_callB {f : OpL} (hc : SL X (.builtin id) f) (hg : Gl X x) (hm : X.mg x = none) (hv : bootBuiltins x = some (.builtin id)) (ha : PA X (e :: es) (tA X W mas)) (hn : x ≠ "__name__" := by decide) (hdb : (x == ("__debug__" : Str)) = false := by decide)
    (he : starEach (e :: es) X.env = (false, eval e X.env) :: starEach es X.env := by rfl) (hpl : (backTo pos (starEach es X.env)).any (·.1) = false := by rfl) : PE X (.Call (.Name x p) (e :: es) [] pos) (tD X W (mL f mas)) :=
  PE.imp (pe_callB hc hg hm hv ha hn hdb he hpl) fun σ H Q h => tD_mL h
theorem ev_callT {f : OpL} (hc : SL X (.type T) f) (hg : Gl X x) (hm : X.mg x = none) (hv : bootBuiltins x = some (.type T)) (ha : PA X (e :: es) (tA X W mas)) (hn : x ≠ "__name__" := by decide) (hdb : (x == ("__debug__" : Str)) = false := by decide)
    (he : starEach (e :: es) X.env = (false, eval e X.env) :: starEach es X.env := by rfl) (hpl : (backTo pos (starEach es X.env)).any (·.1) = false := by rfl) : PE X (.Call (.Name x p) (e :: es) [] pos) (tD X W (mL f mas)) :=
  PE.imp (pe_callTy hc hg hm hv ha hn hdb he hpl) fun σ H Q h => tD_mL h
end
end EV
set_option maxHeartbeats 4000000
namespace EV
open PySem PySem.Spec PyProof.Rows L2
variable [Tbl]

inductive OutS where
  | nx (env : DEnv) (M : Sto) | rt (d : D) (M : Sto) | bk (env : DEnv) (M : Sto) | ct (env : DEnv) (M : Sto) | exc (e : Exn) (env : DEnv) (M : Sto) | bad
abbrev DS := DEnv → Sto → OutS
/-- the wishes behind a statement -/
structure Wsh where
  n : DEnv → Sto → Prop
  r : D → Sto → Prop
  b : DEnv → Sto → Prop
  c : DEnv → Sto → Prop
  x : Exn → DEnv → Sto → Prop
def OutS.post (o : OutS) (w : Wsh) : Prop := match o with
  | .nx e M => w.n e M
  | .rt d M => w.r d M
  | .bk e M => w.b e M
  | .ct e M => w.c e M
  | .exc e v M => w.x e v M
  | .bad => False
def NXc (G : Gd) (F : Hp) (r : List Addr) (R : Hp) (k : L2.St → Hp → Prop) (env : DEnv) (M : Sto) : Prop :=
  ∀ F' r' H' σ', Sub F F' → r <+: r' → EnvR G F' r' env σ' → StoR G F' r' R M H' → k σ' H'
def XSc (G : Gd) (F : Hp) (r : List Addr) (R : Hp) (W : EXK) (e : Exn) (env : DEnv) (M : Sto) : Prop :=
  ∀ F' r' H' σ' cls d, Sub F F' → r <+: r' → EnvR G F' r' env σ' → StoR G F' r' R M H' → ExR G F' r' e cls d → W cls d σ' H'
theorem NXc.mono {G : Gd} {F F' : Hp} {r r' : List Addr} {R : Hp} {k : L2.St → Hp → Prop} {env : DEnv} {M : Sto} (s : Sub F F') (p : r <+: r') (h : NXc G F r R k env M) : NXc G F' r' R k env M :=
  fun F2 r2 H2 σ2 s2 p2 a b => h F2 r2 H2 σ2 (s.trans s2) (p.trans p2) a b
theorem XSc.mono {G : Gd} {F F' : Hp} {r r' : List Addr} {R : Hp} {k : EXK} {e : Exn} {env : DEnv} {M : Sto} (s : Sub F F') (p : r <+: r') (h : XSc G F r R k e env M) : XSc G F' r' R k e env M :=
  fun F2 r2 H2 σ2 c d s2 p2 a b => h F2 r2 H2 σ2 c d (s.trans s2) (p.trans p2) a b
def wsh (G : Gd) (F : Hp) (r : List Addr) (R : Hp) (W : EXK) (Dn : Ends) : Wsh :=
  ⟨NXc G F r R Dn.nx, OKx Rep G F r R Dn.rt, NXc G F r R Dn.bk, NXc G F r R Dn.ct, XSc G F r R W⟩
theorem wsh_mono {G : Gd} {F F' : Hp} {r r' : List Addr} {R : Hp} {W : EXK} {Dn : Ends} {o : OutS} (s : Sub F F') (p : r <+: r') (h : o.post (wsh G F r R W Dn)) : o.post (wsh G F' r' R W Dn) := by
  cases o with
  | nx e M => exact NXc.mono s p h
  | rt d M => exact OKx.mono s p h
  | bk e M => exact NXc.mono s p h
  | ct e M => exact NXc.mono s p h
  | exc e v M => exact XSc.mono s p h
  | bad => exact h
/-- the reading of a plain statement -/
def tS (X : Cx) (W : EXK) (m : DS) : TS := fun Dn σ H => ∃ F r R env M, EnvR (gd X) F r env σ ∧ StoR (gd X) F r R M H ∧ (m env M).post (wsh (gd X) F r R W Dn)

/-- an expression ahead of a statement -/
def Out.thenS {α : Type} (o : Out α) (env : DEnv) (f : α → Sto → OutS) : OutS := match o with
  | .ok a M => f a M
  | .exc e M => .exc e env M
  | .bad => .bad
theorem thenS_bind {α β : Type} {X : Cx} {W : EXK} {Q : Rl α β} {m : DEnv → Sto → Out α} {f : α → Sto → OutS} {Dn : Ends} {σ : L2.St} {F H R : Hp} {r : List Addr} {env : DEnv} {M : Sto}
    (hE : EnvR (gd X) F r env σ) (hS : StoR (gd X) F r R M H) (h : ((m env M).thenS env f).post (wsh (gd X) F r R W Dn)) :
    tX X W Q m σ H fun b H1 => ∃ F1 r1 M1 a, Sub F F1 ∧ r <+: r1 ∧ EnvR (gd X) F1 r1 env σ ∧ StoR (gd X) F1 r1 R M1 H1 ∧ Q (gd X) F1 r1 a b ∧ (f a M1).post (wsh (gd X) F1 r1 R W Dn) := by
  refine ⟨F, r, R, env, M, hE, hS, ?_⟩
  cases e : m env M with
  | bad => rw [e] at h; exact h
  | exc x M1 =>
    rw [e] at h
    intro F' r' H' cls d s p S z
    exact h F' r' H' σ cls d s p (hE.mono s p) S z
  | ok a M1 =>
    rw [e] at h
    intro F' r' H' b s p S z
    exact ⟨F', r', M1, a, s, p, hE.mono s p, S, z, wsh_mono s p h⟩
def sNil : DS := fun env M => .nx env M
def sSeq (a b : DS) : DS := fun env M => match a env M with
  | .nx env' M' => b env' M'
  | o => o
def sExpr (e : DE) : DS := fun env M => (e env M).thenS env fun _ M1 => .nx env M1
def sRet (e : DE) : DS := fun env M => (e env M).thenS env fun d M1 => .rt d M1
def sRetN : DS := fun _ M => .rt .non M
def sIf (c : DT) (a b : DS) : DS := fun env M => (c env M).thenS env fun k M1 => if k = true then a env M1 else b env M1
def sBreak : DS := fun env M => .bk env M
def sCont : DS := fun env M => .ct env M
def sNever : DS := fun _ _ => .bad
section
variable {X : Cx} {W : EXK} {pos : Pos} {a b : Stmt} {ms ns : DS} {sts rest : List Stmt} {e : Expr} {m : DE} {c : Expr} {mc : DT}
theorem evs_nil : PSs X [] (tS X W sNil) := by
  refine PSs.imp pss_nil fun Dn σ H h => ?_
  obtain ⟨F, r, R, env, M, hE, hS, hp⟩ := h
  exact hp F r H σ (Sub.refl _) (List.prefix_refl _) hE hS
theorem evs_cons (h1 : PS X a (tS X W ms)) (h2 : PSs X rest (tS X W ns)) : PSs X (a :: rest) (tS X W (sSeq ms ns)) := by
  refine PSs.imp (pss_cons h1 h2) fun Dn σ H h => ?_
  obtain ⟨F, r, R, env, M, hE, hS, hp⟩ := h
  refine ⟨F, r, R, env, M, hE, hS, ?_⟩
  unfold sSeq at hp
  cases e : ms env M with
  | nx env' M' =>
    rw [e] at hp
    intro F' r' H' σ' s p a b
    exact ⟨F', r', R, env', M', a, b, wsh_mono s p hp⟩
  | rt d M' => rw [e] at hp; exact hp
  | bk d M' => rw [e] at hp; exact hp
  | ct d M' => rw [e] at hp; exact hp
  | exc x d M' => rw [e] at hp; exact hp
  | bad => rw [e] at hp; exact hp
theorem evs_one (h1 : PS X a (tS X W ms)) : PSs X [a] (tS X W ms) := pss_one h1
theorem evs_expr (he : PE X e (tD X W m)) (hs : swapsWith e none pos.line X.env = pure false := by rfl) : PS X (.Expr e pos) (tS X W (sExpr m)) := by
  refine PS.imp (ps_expr he hs) fun Dn σ H h => ?_
  obtain ⟨F, r, R, env, M, hE, hS, hp⟩ := h
  refine tX.imp (thenS_bind hE hS hp) fun x H1 ⟨F1, r1, M1, d, s1, p1, hE1, hS1, R1, hp1⟩ => ?_
  exact hp1 F1 r1 H1 σ (Sub.refl _) (List.prefix_refl _) hE1 hS1
theorem evs_ret (he : PE X e (tD X W m)) : PS X (.Return (some e) pos) (tS X W (sRet m)) := by
  refine PS.imp (ps_ret he) fun Dn σ H h => ?_
  obtain ⟨F, r, R, env, M, hE, hS, hp⟩ := h
  refine tX.imp (thenS_bind hE hS hp) fun x H1 ⟨F1, r1, M1, d, s1, p1, hE1, hS1, R1, hp1⟩ => ?_
  exact hp1 F1 r1 H1 x (Sub.refl _) (List.prefix_refl _) hS1 R1
theorem evs_retN : PS X (.Return none pos) (tS X W sRetN) := by
  refine PS.imp ps_retN fun Dn σ H h => ?_
  obtain ⟨F, r, R, env, M, hE, hS, hp⟩ := h
  exact hp F r H .non (Sub.refl _) (List.prefix_refl _) hS (by rw [rep_non])
theorem evs_if (hc : PT X c (tT X W mc)) (ha : PSs X sts (tS X W ms)) (hb : PSs X rest (tS X W ns)) : PS X (.If c sts rest pos) (tS X W (sIf mc ms ns)) := by
  refine PS.imp (ps_if hc ha hb) fun Dn σ H h => ?_
  obtain ⟨F, r, R, env, M, hE, hS, hp⟩ := h
  refine tX.imp (thenS_bind hE hS hp) fun x H1 ⟨F1, r1, M1, d, s1, p1, hE1, hS1, R1, hp1⟩ => ?_
  have R1' : d = x := R1
  subst R1'
  cases d with
  | true => rw [if_pos rfl]; exact ⟨F1, r1, R, env, M1, hE1, hS1, hp1⟩
  | false => rw [if_neg (by decide)]; exact ⟨F1, r1, R, env, M1, hE1, hS1, hp1⟩
theorem evs_break : PS X (.Break pos) (tS X W sBreak) := by
  refine PS.imp ps_break fun Dn σ H h => ?_
  obtain ⟨F, r, R, env, M, hE, hS, hp⟩ := h
  exact hp F r H σ (Sub.refl _) (List.prefix_refl _) hE hS
theorem evs_cont : PS X (.Continue pos) (tS X W sCont) := by
  refine PS.imp ps_continue fun Dn σ H h => ?_
  obtain ⟨F, r, R, env, M, hE, hS, hp⟩ := h
  exact hp F r H σ (Sub.refl _) (List.prefix_refl _) hE hS
theorem evs_pass : PS X (.Pass pos) (tS X W sNil) := by
  refine PS.imp ps_pass fun Dn σ H h => ?_
  obtain ⟨F, r, R, env, M, hE, hS, hp⟩ := h
  exact hp F r H σ (Sub.refl _) (List.prefix_refl _) hE hS
theorem evs_never : PS X a (tS X W sNever) := by
  refine PS.imp ps_never fun Dn σ H h => ?_
  obtain ⟨F, r, R, env, M, hE, hS, hp⟩ := h
  exact hp
theorem evs_doc {x j pos'} : PS X (.Expr (.Constant (.str x) j pos) pos') (tS X W sNil) := by
  refine PS.imp ps_doc fun Dn σ H h => ?_
  obtain ⟨F, r, R, env, M, hE, hS, hp⟩ := h
  exact hp F r H σ (Sub.refl _) (List.prefix_refl _) hE hS
end

/-! ### targets -/
abbrev DG := D → DEnv → Sto → Option (DEnv × Sto)
def tG (X : Cx) (g : DG) : TG := fun v σ H k => ∃ F r R env M d, EnvR (gd X) F r env σ ∧ StoR (gd X) F r R M H ∧ Rep (gd X) F r d v ∧ match g d env M with
  | some (env', M') => NXc (gd X) F r R k env' M'
  | none => False
theorem PG.imp {X : Cx} {e : Expr} {t t' : TG} (h : PG X e t) (i : ∀ v σ H Q, t' v σ H Q → t v σ H Q) : PG X e t' := ⟨fun pins s σ H v u Q I r q => h.run pins s σ H v u Q I r (i _ _ _ _ q)⟩
theorem EnvR.set {G : Gd} {F : Hp} {r : List Addr} {env : DEnv} {σ : L2.St} (h : EnvR G F r env σ) {d : D} {v : V} (q : Rep G F r d v) (i : Nat) : EnvR G F r (env.set i (some d)) (σ.set i (some v)) := by
  refine ⟨by rw [List.length_set, List.length_set, h.1], fun j d' e => ?_⟩
  by_cases hj : j = i
  · subst hj
    have hl : j < env.length := by
      have := (List.getElem?_eq_some_iff.mp e).1
      rw [List.length_set] at this
      exact this
    rw [List.getElem?_set_self hl] at e
    cases e
    exact ⟨v, by rw [List.getElem?_set_self (by rw [← h.1]; exact hl)], .of q⟩
  · rw [List.getElem?_set_ne (fun z => hj z.symm)] at e
    obtain ⟨u, a, b⟩ := h.2 j d' e
    exact ⟨u, by rw [List.getElem?_set_ne (fun z => hj z.symm)]; exact a, b⟩
def gN (i : Nat) : DG := fun d env M => some (env.set i (some d), M)
/-- several plain names at once -/
def gNs (is : List Nat) : DG := fun d env M => match d with
  | .tup xs => if xs.length = is.length then some ((is.zip xs).foldl (fun e p => e.set p.1 (some p.2)) env, M) else none
  | _ => none
section
variable {X : Cx} {W : EXK} {pos : Pos}
theorem evg_name {i : Nat} {x : Str} (hN : X.N.Nodup) (hi : X.N[i]? = some x) (hx : Loc X.env.scope x) (hf : X.fn x = true ∨ X.env.scope.names.lookup x = some .local := by first | exact .inl rfl | exact .inr rfl | assumption) : PG X (.Name x pos) (tG X (gN i)) := by
  refine PG.imp (pg_name hN hi hx hf) fun v σ H Q h => ?_
  obtain ⟨F, r, R, env, M, d, hE, hS, hR, hp⟩ := h
  exact hp F r H _ (Sub.refl _) (List.prefix_refl _) (hE.set hR i) hS
/-- the slots of plain names -/
inductive Slots (X : Cx) : List Expr → List Nat → Prop
  | nil : Slots X [] []
  | cons {e : Expr} {es : List Expr} {i : Nat} {is : List Nat} (h : PG X e (gName i)) (r : Slots X es is) (hs : (assignEach (e :: es) X.env).map (·.2) = assign e X.env :: (assignEach es X.env).map (·.2)) : Slots X (e :: es) (i :: is)
theorem slot_cons {x : Str} {p : Pos} {es : List Expr} {i : Nat} {is : List Nat} (hN : X.N.Nodup) (hi : X.N[i]? = some x) (hx : Loc X.env.scope x) (r : Slots X es is) (hf : X.fn x = true ∨ X.env.scope.names.lookup x = some .local := by first | exact .inl rfl | exact .inr rfl | assumption)
    (hs : (assignEach (.Name x p :: es) X.env).map (·.2) = assign (.Name x p) X.env :: (assignEach es X.env).map (·.2) := by rfl) : Slots X (.Name x p :: es) (i :: is) := .cons (pg_name hN hi hx hf) r hs
/-- the readings of plain names -/
def gAll : List Nat → TGs
  | [] => gNil
  | i :: is => gCons (gName i) (gAll is)
theorem Slots.pgs {es : List Expr} {is : List Nat} (h : Slots X es is) : PGs X es (gAll is) := by
  induction h with
  | nil => exact pgs_nil
  | cons h r hs ih => exact pgs_cons h ih hs
theorem gAll_run {G : Gd} {F H R : Hp} {r : List Addr} {Q : L2.St → Hp → Prop} {M : Sto} (hS : StoR G F r R M H) : ∀ {is : List Nat} {xs : List D} {vs : List V} {env : DEnv} {σ : L2.St}, xs.length = is.length → Reps G F r xs vs → EnvR G F r env σ →
    NXc G F r R Q ((is.zip xs).foldl (fun e p => e.set p.1 (some p.2)) env) M → gAll is vs σ H Q
  | [], xs, vs, env, σ, hl, hr, hE, h => by
    have : xs = [] := List.eq_nil_of_length_eq_zero hl
    subst this
    cases hr.inv0
    exact ⟨rfl, h F r H σ (Sub.refl _) (List.prefix_refl _) hE hS⟩
  | i :: is, xs, vs, env, σ, hl, hr, hE, h => by
    cases xs with
    | nil => cases hl
    | cons x xs =>
      obtain ⟨v, w, rfl, a, b⟩ := hr.inv
      exact ⟨v, w, rfl, gAll_run hS (by simpa using hl) b (hE.set a i) h⟩
theorem evg_names {es : List Expr} {is : List Nat} {k : Nat} (hc : X.calm = true) (h : Slots X es is) (hn : (assignEach es X.env).length = is.length := by rfl) (hst : (assignEach es X.env).findIdx? (·.1) = none := by rfl) : PG X (.Tuple es k pos) (tG X (gNs is)) := by
  refine PG.imp (pg_tup hc h.pgs hn hst) fun v σ H Q h => ?_
  obtain ⟨F, r, R, env, M, d, hE, hS, hR, hp⟩ := h
  unfold gNs at hp
  cases d <;> first | exact hp.elim | skip
  rename_i xs
  rw [rep_tup] at hR
  obtain ⟨a, vs, e, q, z⟩ := hR
  simp only at hp
  split at hp
  · rename_i o env' M' he
    split at he
    · rename_i hl
      cases he
      refine ⟨a, vs, e, hS.sub.tq q, by rw [z.length]; exact hl, gAll_run hS hl z hE hp⟩
    · cases he
  · exact hp.elim
/-- target = value -/
def sAsg (e : DE) (g : DG) : DS := fun env M => (e env M).thenS env fun d M1 => match g d env M1 with
  | some (env', M') => .nx env' M'
  | none => .bad
theorem tG_of {g : DG} {v : V} {d : D} {σ : L2.St} {F H R : Hp} {r : List Addr} {env : DEnv} {M : Sto} {Dn : Ends} (hE : EnvR (gd X) F r env σ) (hS : StoR (gd X) F r R M H) (hR : Rep (gd X) F r d v)
    (h : (match g d env M with
      | some (env', M') => OutS.nx env' M'
      | none => .bad).post (wsh (gd X) F r R W Dn)) : tG X g v σ H Dn.nx := by
  refine ⟨F, r, R, env, M, d, hE, hS, hR, ?_⟩
  split at h
  · exact h
  · exact h
theorem evs_asg {tg e : Expr} {m : DE} {g : DG} (he : PE X e (tD X W m)) (hg : PG X tg (tG X g)) (hs : swapsWithSole [tg] e pos.line X.env = pure false := by rfl) (hw : swappedStores [tg] e X.env = pure none := by rfl)
    (h1 : (assignEach [tg] X.env).map (·.2) = [assign tg X.env] := by rfl) : PS X (.Assign [tg] e pos) (tS X W (sAsg m g)) := by
  refine PS.imp (ps_asg he hg hs hw h1) fun Dn σ H h => ?_
  obtain ⟨F, r, R, env, M, hE, hS, hp⟩ := h
  refine tX.imp (thenS_bind hE hS hp) fun x H1 ⟨F1, r1, M1, d, s1, p1, hE1, hS1, R1, hp1⟩ => ?_
  exact tG_of hE1 hS1 R1 hp1
/-- name = value -/
theorem evs_set {i : Nat} {x : Str} {e : Expr} {m : DE} {pos' : Pos} (hN : X.N.Nodup) (hi : X.N[i]? = some x) (hx : Loc X.env.scope x) (he : PE X e (tD X W m)) (hs : swapsWith e (some (.Name x pos')) pos.line X.env = pure false := by rfl) (hf : X.fn x = true ∨ X.env.scope.names.lookup x = some .local := by first | exact .inl rfl | exact .inr rfl | assumption) :
    PS X (.Assign [.Name x pos'] e pos) (tS X W (sAsg m (gN i))) := by
  refine PS.imp (ps_set hN hi hx he hs hf) fun Dn σ H h => ?_
  obtain ⟨F, r, R, env, M, hE, hS, hp⟩ := h
  refine tX.imp (thenS_bind hE hS hp) fun x H1 ⟨F1, r1, M1, d, s1, p1, hE1, hS1, R1, hp1⟩ => ?_
  exact hp1 F1 r1 H1 _ (Sub.refl _) (List.prefix_refl _) (hE1.set R1 i) hS1
/-- a, b = x, y -/
def sPar (i j : Nat) (a b : DE) : DS := fun env M => ((a env M).bind fun x M1 => (b env M1).bind fun y M2 => .ok (x, y) M2).thenS env fun p M2 => .nx ((env.set i (some p.1)).set j (some p.2)) M2
theorem evs_par {i j : Nat} {x y : Str} {a b : Expr} {ma mb : DE} {px py pt : Pos} {kt k2 pt2} (hc : X.calm = true) (hN : X.N.Nodup) (hi : X.N[i]? = some x) (hj : X.N[j]? = some y) (hij : i ≠ j)
    (hx : X.env.scope.names.lookup x = some .local) (hy : X.env.scope.names.lookup y = some .local) (ha : PE X a (tD X W ma)) (hb : PE X b (tD X W mb))
    (hw : swappedStores [.Tuple [.Name x px, .Name y py] kt pt] (.Tuple [a, b] k2 pt2) X.env = pure (some [x, y]) := by rfl)
    (hs : swapsWithSole [.Tuple [.Name x px, .Name y py] kt pt] (.Tuple [a, b] k2 pt2) pos.line X.env = pure false := by rfl) (he1 : starEach [a, b] X.env = (false, eval a X.env) :: starEach [b] X.env := by rfl) (he2 : starEach [b] X.env = (false, eval b X.env) :: starEach [] X.env := by rfl) :
    PS X (.Assign [.Tuple [.Name x px, .Name y py] kt pt] (.Tuple [a, b] k2 pt2) pos) (tS X W (sPar i j ma mb)) := by
  refine PS.imp (ps_par hc hN hi hj hij hx hy (pa_cons ha (pa_cons hb pa_nil he2) he1) hw hs) fun Dn σ H h => ?_
  obtain ⟨F, r, R, env, M, hE, hS, hp⟩ := h
  unfold sPar at hp
  -- first
  have h1 : ((ma env M).thenS env fun x M1 => ((mb env M1).thenS env fun y M2 => .nx ((env.set i (some x)).set j (some y)) M2)).post (wsh (gd X) F r R W Dn) := by
    cases ea : ma env M with
    | bad => rw [ea] at hp; exact hp
    | exc _ _ => rw [ea] at hp; exact hp
    | ok u M1 =>
      rw [ea] at hp
      show ((mb env M1).thenS env _).post _
      cases eb : mb env M1 with
      | bad =>
        have : (((Out.ok u M1).bind fun x M1 => (mb env M1).bind fun y M2 => Out.ok (x, y) M2)).thenS env (fun p M2 => OutS.nx ((env.set i (some p.1)).set j (some p.2)) M2) = .bad := by
          show (((mb env M1).bind fun y M2 => Out.ok (u, y) M2)).thenS env _ = _
          rw [eb]
          rfl
        rw [this] at hp
        exact hp
      | exc x M2 =>
        have : (((Out.ok u M1).bind fun x M1 => (mb env M1).bind fun y M2 => Out.ok (x, y) M2)).thenS env (fun p M2 => OutS.nx ((env.set i (some p.1)).set j (some p.2)) M2) = .exc x env M2 := by
          show (((mb env M1).bind fun y M2 => Out.ok (u, y) M2)).thenS env _ = _
          rw [eb]
          rfl
        rw [this] at hp
        exact hp
      | ok w M2 =>
        have : (((Out.ok u M1).bind fun x M1 => (mb env M1).bind fun y M2 => Out.ok (x, y) M2)).thenS env (fun p M2 => OutS.nx ((env.set i (some p.1)).set j (some p.2)) M2) = .nx ((env.set i (some u)).set j (some w)) M2 := by
          show (((mb env M1).bind fun y M2 => Out.ok (u, y) M2)).thenS env _ = _
          rw [eb]
          rfl
        rw [this] at hp
        exact hp
  refine tX.imp (thenS_bind hE hS h1) fun v H1 ⟨F1, r1, M1, d, s1, p1, hE1, hS1, R1, hp1⟩ => ?_
  refine tX.imp (thenS_bind hE1 hS1 hp1) fun w H2 ⟨F2, r2, M2, d2, s2, p2, hE2, hS2, R2, hp2⟩ => ?_
  exact ⟨v, w, rfl, hp2 F2 r2 H2 _ (Sub.refl _) (List.prefix_refl _) ((hE2.set (R1.mono s2 p2) i).set R2 j) hS2⟩
/-- name op= value -/
def sAug (f : Op2) (i : Nat) (e : DE) : DS := fun env M => match env[i]? with
  | some (some x) => if x.isCur = true then .bad else ((e env M).bind fun y M1 => noExc (f x y M1)).thenS env fun z M2 => .nx (env.set i (some z)) M2
  | _ => .bad
theorem bind_then {α β : Type} (o : Out α) (g : α → Sto → Out β) (env : DEnv) (f : β → Sto → OutS) : (o.bind g).thenS env f = o.thenS env fun a M => (g a M).thenS env f := by
  cases o <;> rfl
theorem noExc_then {α : Type} {o : Out α} {env : DEnv} {f : α → Sto → OutS} {w : Wsh} (h : ((noExc o).thenS env f).post w) : o.post (fun a M => (f a M).post w) fun _ _ => False := by
  cases o <;> exact h
theorem evs_aug {i : Nat} {x : Str} {e : Expr} {m : DE} {op : Operator} {f : Op2} {pos' : Pos} (hN : X.N.Nodup) (hi : X.N[i]? = some x) (hx : Loc X.env.scope x) (he : PE X e (tD X W m)) (ho : S2 X (inplaceOp op) f) (hf : X.fn x = true ∨ X.env.scope.names.lookup x = some .local := by first | exact .inl rfl | exact .inr rfl | assumption) :
    PS X (.AugAssign (.Name x pos') op e pos) (tS X W (sAug f i m)) := by
  refine PS.imp (ps_aug hN hi hx he (ti := rD2 X f) ho hf) fun Dn σ H h => ?_
  obtain ⟨F, r, R, env, M, hE, hS, hp⟩ := h
  unfold sAug at hp
  split at hp
  · rename_i d ed
    obtain ⟨v, ev, rv⟩ := hE.2 i d ed
    split at hp
    · exact hp.elim
    rename_i k
    have rv := rv.val (by simpa using k)
    rw [bind_then] at hp
    refine ⟨v, ev, tX.imp (thenS_bind hE hS hp) fun y H1 ⟨F1, r1, M1, d1, s1, p1, hE1, hS1, R1, hp1⟩ => ?_⟩
    refine ⟨F1, r1, R, M1, d, d1, hS1, rv.mono s1 p1, R1, Out.post_imp (noExc_then hp1) (fun z M2 q => ?_) fun _ _ z => z⟩
    intro F2 r2 H2 u s2 p2 S2 R2
    exact q F2 r2 H2 _ s2 p2 ((hE1.mono s2 p2).set R2 i) S2
  · exact hp.elim
/-- o[i] op= e -/
def sAugS (get : Op2) (f : Op2) (put : D → D → D → Sto → Option Sto) (o i e : DE) : DS := fun env M =>
  (o env M).thenS env fun x M1 => (i env M1).thenS env fun y M2 => (noExc (get x y M2)).thenS env fun z M3 => (e env M3).thenS env fun u M4 => (noExc (f z u M4)).thenS env fun w M5 => match put x y w M5 with
    | some M6 => .nx env M6
    | none => .bad
/-- o[i] = v, by values -/
def rD3 (X : Cx) (put : D → D → D → Sto → Option Sto) : V → V → V → Hp → (Hp → Prop) → Prop := fun o i v H Q => ∃ F r R M a b c, StoR (gd X) F r R M H ∧ Rep (gd X) F r a o ∧ Rep (gd X) F r b i ∧ Rep (gd X) F r c v ∧ match put a b c M with
  | some M' => ∀ F' r' H', Sub F F' → r <+: r' → StoR (gd X) F' r' R M' H' → Q H'
  | none => False
abbrev S3 (X : Cx) (put : D → D → D → Sto → Option Sto) : Prop := PSet X (rD3 X put)
theorem evs_augS {o i e : Expr} {mo mi m : DE} {get f : Op2} {put : D → D → D → Sto → Option Sto} {op : Operator} {tpos : Pos} (ho : PE X o (tD X W mo)) (hi : PE X i (tD X W mi)) (hg : PGet X (rD2 X get)) (he : PE X e (tD X W m)) (hp : S2 X (inplaceOp op) f) (hs : S3 X put)
    (ha : ∀ ov iv new, augStore i ov iv new = (do holding [new, ov, iv] (setItem ov iv new); release [new, ov, iv] []; pure .next) := by intros; rfl) : PS X (.AugAssign (.Subscript o i tpos) op e pos) (tS X W (sAugS get f put mo mi m)) := by
  refine PS.imp (ps_augS ho hi hg he (tip := rD2 X f) hp hs ha) fun Dn σ H h => ?_
  obtain ⟨F, r, R, env, M, hE, hS, hp⟩ := h
  refine tX.imp (thenS_bind hE hS hp) fun x H1 ⟨F1, r1, M1, d1, s1, p1, hE1, hS1, R1, hp1⟩ => ?_
  refine tX.imp (thenS_bind hE1 hS1 hp1) fun y H2 ⟨F2, r2, M2, d2, s2, p2, hE2, hS2, R2, hp2⟩ => ?_
  refine ⟨F2, r2, R, M2, d1, d2, hS2, R1.mono s2 p2, R2, Out.post_imp (noExc_then hp2) (fun z M3 q => ?_) fun _ _ z => z⟩
  intro F3 r3 H3 v3 s3 p3 hS3 R3
  refine tX.imp (thenS_bind (hE2.mono s3 p3) hS3 (wsh_mono s3 p3 q)) fun u H4 ⟨F4, r4, M4, d4, s4, p4, hE4, hS4, R4, hp4⟩ => ?_
  refine ⟨F4, r4, R, M4, z, d4, hS4, R3.mono s4 p4, R4, Out.post_imp (noExc_then hp4) (fun w M5 q5 => ?_) fun _ _ z => z⟩
  intro F5 r5 H5 v5 s5 p5 hS5 R5
  refine ⟨F5, r5, R, M5, d1, d2, w, hS5, R1.mono ((s2.trans s3).trans (s4.trans s5)) ((p2.trans p3).trans (p4.trans p5)), R2.mono (s3.trans (s4.trans s5)) (p3.trans (p4.trans p5)), R5, ?_⟩
  cases e6 : put d1 d2 w M5 with
  | none => rw [e6] at q5; exact q5.elim
  | some M6 =>
    rw [e6] at q5
    intro F' r' H' s6 p6 S6
    exact q5 F' r' H' σ (s5.trans s6) (p5.trans p6) (hE4.mono (s5.trans s6) (p5.trans p6)) S6
/-- o[i] = value -/
def gS (put : D → D → D → Sto → Option Sto) (o i : DE) : DG := fun d env M => match o env M with
  | .ok x M1 => (match i env M1 with
    | .ok y M2 => (put x y d M2).map fun M3 => (env, M3)
    | _ => none)
  | _ => none
theorem evg_sub {o i : Expr} {mo mi : DE} {put : D → D → D → Sto → Option Sto} (ho : PE X o (tD X W mo)) (hi : PE X i (tD X W mi)) (hs : S3 X put)
    (ha : ∀ v, assign (.Subscript o i pos) X.env v = (do
      let ov ← holding [v] (eval o X.env)
      let iv ← holding [v, ov] (eval i X.env)
      standAt pos
      holding [v, ov, iv] (setItem ov iv v)
      release [v, ov, iv] []) := by intro _; rfl) : PG X (.Subscript o i pos) (tG X (gS put mo mi)) := by
  refine PG.imp (pg_sub ho hi hs ha) fun v σ H Q h => ?_
  obtain ⟨F, r, R, env, M, d, hE, hS, hR, hp⟩ := h
  refine ⟨F, r, R, env, M, hE, hS, ?_⟩
  unfold gS at hp
  cases e1 : mo env M with
  | bad => simp only [e1] at hp
  | exc _ _ => simp only [e1] at hp
  | ok x M1 =>
    simp only [e1] at hp
    intro F1 r1 H1 v1 s1 p1 S1 R1
    refine ⟨F1, r1, R, env, M1, hE.mono s1 p1, S1, ?_⟩
    cases e2 : mi env M1 with
    | bad => simp only [e2] at hp
    | exc _ _ => simp only [e2] at hp
    | ok y M2 =>
      simp only [e2] at hp
      intro F2 r2 H2 v2 s2 p2 S2 R2
      refine ⟨F2, r2, R, M2, x, y, d, S2, R1.mono s2 p2, R2, hR.mono (s1.trans s2) (p1.trans p2), ?_⟩
      cases e3 : put x y d M2 with
      | none => simp only [e3, Option.map_none] at hp
      | some M3 =>
        simp only [e3, Option.map_some] at hp
        intro F' r' H' s3 p3 S3
        exact hp F' r' H' σ ((s1.trans s2).trans s3) ((p1.trans p2).trans p3) (hE.mono ((s1.trans s2).trans s3) ((p1.trans p2).trans p3)) S3
end
end EV
set_option maxHeartbeats 4000000
namespace EV
open PySem PySem.Spec PyProof.Rows L2
variable [Tbl]

theorem Wsh.imp {o : OutS} {w w' : Wsh} (h : o.post w) (hn : ∀ e M, w.n e M → w'.n e M) (hr : ∀ e M, w.r e M → w'.r e M) (hb : ∀ e M, w.b e M → w'.b e M) (hc : ∀ e M, w.c e M → w'.c e M) (hx : ∀ x e M, w.x x e M → w'.x x e M) : o.post w' := by
  cases o with
  | nx e M => exact hn _ _ h
  | rt d M => exact hr _ _ h
  | bk e M => exact hb _ _ h
  | ct e M => exact hc _ _ h
  | exc e v M => exact hx _ _ _ h
  | bad => exact h
/-! ### what is walked -/
inductive Src where
  | imm (xs : List D) | live (n : Nat)
def Src.at_ (s : Src) (M : Sto) (i : Nat) : Option (Option D) := match s with
  | .imm xs => some xs[i]?
  | .live n => match M[n]? with
    | some (.lst ys) => some ys[i]?
    | _ => none
def ItOk (G : Gd) (F : Hp) (r : List Addr) (s : Src) (J : It) : Prop := ∀ F2 r2 R M H i, Sub F F2 → r <+: r2 → StoR G F2 r2 R M H → match s.at_ M i with
  | none => True
  | some none => J.stop i H
  | some (some d) => J.go i H ∧ ∀ x H', J.yld i H x H' → ∃ F3, Sub F2 F3 ∧ StoR G F3 r2 R M H' ∧ Rep G F3 r2 d x
abbrev DI := DEnv → Sto → Out Src
abbrev tI (X : Cx) (W : EXK) (m : DI) : TI := tX X W ItOk m
theorem PI.imp {X : Cx} {tg e : Expr} {t t' : TI} (h : PI X tg e t) (i : ∀ σ H Q, t' σ H Q → t σ H Q) : PI X tg e t' := ⟨fun pins s σ H R I q => h.run pins s σ H R I (i _ _ _ q)⟩
/-! ### for -/
def forL (g : DG) (b : DS) : List D → DEnv → Sto → OutS
  | [], env, M => .nx env M
  | x :: xs, env, M => match g x env M with
    | none => .bad
    | some (env1, M1) => match b env1 M1 with
      | .nx e M' => forL g b xs e M'
      | .ct e M' => forL g b xs e M'
      | .bk e M' => .nx e M'
      | .rt d M' => .rt d M'
      | .exc x e M' => .exc x e M'
      | .bad => .bad
def forN (g : DG) (b : DS) (n : Nat) : Nat → Nat → DEnv → Sto → OutS
  | 0, _, _, _ => .bad
  | k + 1, i, env, M => match M[n]? with
    | some (.lst ys) => match ys[i]? with
      | none => .nx env M
      | some x => match g x env M with
        | none => .bad
        | some (env1, M1) => match b env1 M1 with
          | .nx e M' => forN g b n k (i + 1) e M'
          | .ct e M' => forN g b n k (i + 1) e M'
          | .bk e M' => .nx e M'
          | .rt d M' => .rt d M'
          | .exc x e M' => .exc x e M'
          | .bad => .bad
    | _ => .bad
def sFor (it : DI) (g : DG) (b : DS) : DS := fun env M => (it env M).thenS env fun s M1 => match s with
  | .imm xs => forL g b xs env M1
  | .live n => forN g b n lim 0 env M1
/-- a turn: what the loop is at i with fuel k -/
structure LoopP (s : Src) (g : DG) (b : DS) (L : Nat → Nat → DEnv → Sto → Wsh → Prop) : Prop where
  mono : ∀ i k env M w w', L i k env M w → (∀ e M, w.n e M → w'.n e M) → (∀ e M, w.r e M → w'.r e M) → (∀ x e M, w.x x e M → w'.x x e M) → L i k env M w'
  turn : ∀ i k env M w, L i k env M w → match s.at_ M i with
    | none => False
    | some none => w.n env M
    | some (some d) => ∃ k', k' < k ∧ match g d env M with
      | none => False
      | some (env1, M1) => (b env1 M1).post ⟨fun e M' => L (i + 1) k' e M' w, w.r, w.n, fun e M' => L (i + 1) k' e M' w, w.x⟩
theorem forL_imp {g : DG} {b : DS} {w w' : Wsh} (hn : ∀ e M, w.n e M → w'.n e M) (hr : ∀ e M, w.r e M → w'.r e M) (hx : ∀ x e M, w.x x e M → w'.x x e M) : ∀ {xs : List D} {env : DEnv} {M : Sto}, (forL g b xs env M).post w → (forL g b xs env M).post w'
  | [], env, M, h => hn _ _ h
  | x :: xs, env, M, h => by
    unfold forL at h ⊢
    split at h
    · exact h.elim
    · rename_i env1 M1 e1
      try simp only
      split at h
      · exact forL_imp hn hr hx h
      · exact forL_imp hn hr hx h
      · exact hn _ _ h
      · exact hr _ _ h
      · exact hx _ _ _ h
      · exact h
theorem forN_imp {g : DG} {b : DS} {n : Nat} {w w' : Wsh} (hn : ∀ e M, w.n e M → w'.n e M) (hr : ∀ e M, w.r e M → w'.r e M) (hx : ∀ x e M, w.x x e M → w'.x x e M) : ∀ {k i : Nat} {env : DEnv} {M : Sto}, (forN g b n k i env M).post w → (forN g b n k i env M).post w'
  | 0, i, env, M, h => h
  | k + 1, i, env, M, h => by
    unfold forN at h ⊢
    split at h
    · try simp only
      split at h
      · exact hn _ _ h
      · try simp only
        split at h
        · exact h.elim
        · try simp only
          split at h
          · exact forN_imp hn hr hx h
          · exact forN_imp hn hr hx h
          · exact hn _ _ h
          · exact hr _ _ h
          · exact hx _ _ _ h
          · exact h
    · exact h.elim
theorem loop_imm (xs : List D) (g : DG) (b : DS) : LoopP (.imm xs) g b fun i k env M w => i + k = xs.length ∧ (forL g b (xs.drop i) env M).post w where
  mono := fun i k env M w w' h hn hr hx => ⟨h.1, forL_imp hn hr hx h.2⟩
  turn := fun i k env M w h => by
    obtain ⟨hk, h⟩ := h
    show match some xs[i]? with
      | none => False
      | some none => w.n env M
      | some (some d) => _
    cases e : xs[i]? with
    | none =>
      have : xs.drop i = [] := List.drop_eq_nil_of_le (List.getElem?_eq_none_iff.mp e)
      rw [this] at h
      exact h
    | some d =>
      obtain ⟨hi, ed⟩ := List.getElem?_eq_some_iff.mp e
      have : xs.drop i = d :: xs.drop (i + 1) := by rw [← ed]; exact List.drop_eq_getElem_cons hi
      rw [this] at h
      refine ⟨xs.length - (i + 1), by omega, ?_⟩
      unfold forL at h
      split at h
      · exact h.elim
      · rename_i env1 M1 e1
        try simp only [e1]
        have hk' : i + 1 + (xs.length - (i + 1)) = xs.length := by omega
        split at h
        · rename_i e2; try rw [e2]; exact ⟨hk', h⟩
        · rename_i e2; try rw [e2]; exact ⟨hk', h⟩
        · rename_i e2; try rw [e2]; exact h
        · rename_i e2; try rw [e2]; exact h
        · rename_i e2; try rw [e2]; exact h
        · exact h.elim
theorem loop_live (n : Nat) (g : DG) (b : DS) : LoopP (.live n) g b fun i k env M w => (forN g b n k i env M).post w where
  mono := fun i k env M w w' h hn hr hx => forN_imp hn hr hx h
  turn := fun i k env M w h => by
    cases k with
    | zero => exact h.elim
    | succ k =>
      unfold forN at h
      unfold Src.at_
      try simp only
      split at h
      · rename_i ys e
        try rw [e]
        try simp only
        split at h
        · rename_i e2
          try rw [e2]
          exact h
        · rename_i x e2
          try rw [e2]
          try simp only
          refine ⟨k, Nat.lt_succ_self k, ?_⟩
          split at h
          · exact h.elim
          · rename_i env1 M1 e3
            try simp only [e3]
            split at h
            · rename_i e4; try rw [e4]; exact h
            · rename_i e4; try rw [e4]; exact h
            · rename_i e4; try rw [e4]; exact h
            · rename_i e4; try rw [e4]; exact h
            · rename_i e4; try rw [e4]; exact h
            · exact h.elim
      · exact h.elim
section
variable {X : Cx} {W : EXK} {pos : Pos}
theorem for_core {s : Src} {g : DG} {b : DS} {L : Nat → Nat → DEnv → Sto → Wsh → Prop} (P : LoopP s g b L) {J : It} {Dn : Ends} {σ : L2.St} {F H R : Hp} {r : List Addr} {env : DEnv} {M : Sto} {k : Nat}
    (hE : EnvR (gd X) F r env σ) (hS : StoR (gd X) F r R M H) (hJ : ItOk (gd X) F r s J) (h : L 0 k env M (wsh (gd X) F r R W Dn)) :
    ∃ Wi : Nat → Nat → L2.St → Hp → Prop, (∃ m, Wi 0 m σ H) ∧ ∀ i m σ H, Wi i m σ H →
      (J.stop i H ∧ Dn.nx σ H) ∨ (J.go i H ∧ ∃ N : L2.St → Hp → Prop, (∀ σ' H', N σ' H' → ∃ m', m' < m ∧ Wi (i + 1) m' σ' H') ∧ ∀ x H', J.yld i H x H' → tG X g x σ H' fun σ2 H2 => tS X W b { Dn with nx := N, ct := N, bk := Dn.nx } σ2 H2) := by
  have lift : ∀ {i k env M F1 F2 r1 r2}, Sub F1 F2 → r1 <+: r2 → L i k env M (wsh (gd X) F1 r1 R W Dn) → L i k env M (wsh (gd X) F2 r2 R W Dn) := fun {i k env M F1 F2 r1 r2} s p z =>
    P.mono _ _ _ _ _ _ z (fun e M q => NXc.mono s p q) (fun e M q => OKx.mono s p q) fun x e M q => XSc.mono s p q
  refine ⟨fun i m σ H => ∃ F1 r1 env M, Sub F F1 ∧ r <+: r1 ∧ EnvR (gd X) F1 r1 env σ ∧ StoR (gd X) F1 r1 R M H ∧ L i m env M (wsh (gd X) F1 r1 R W Dn), ⟨k, F, r, env, M, Sub.refl _, List.prefix_refl _, hE, hS, h⟩, ?_⟩
  rintro i m σ1 H1 ⟨F1, r1, env1, M1, s1, p1, hE1, hS1, h1⟩
  have hj := hJ F1 r1 R M1 H1 i s1 p1 hS1
  have ht := P.turn _ _ _ _ _ h1
  cases ea : s.at_ M1 i with
  | none => rw [ea] at ht; exact ht.elim
  | some od =>
    cases od with
    | none =>
      rw [ea] at ht hj
      exact .inl ⟨hj, ht F1 r1 H1 σ1 (Sub.refl _) (List.prefix_refl _) hE1 hS1⟩
    | some d =>
      rw [ea] at ht hj
      obtain ⟨k', hk', ht⟩ := ht
      refine .inr ⟨hj.1, fun σ' H' => ∃ F2 r2 env2 M2, Sub F1 F2 ∧ r1 <+: r2 ∧ EnvR (gd X) F2 r2 env2 σ' ∧ StoR (gd X) F2 r2 R M2 H' ∧ L (i + 1) k' env2 M2 (wsh (gd X) F2 r2 R W Dn), ?_, fun x H' y => ?_⟩
      · rintro σ' H' ⟨F2, r2, env2, M2, s2, p2, hE2, hS2, h2⟩
        exact ⟨k', hk', F2, r2, env2, M2, s1.trans s2, p1.trans p2, hE2, hS2, h2⟩
      · obtain ⟨F3, s3, hS3, hR3⟩ := hj.2 x H' y
        refine ⟨F3, r1, R, env1, M1, d, hE1.mono s3 (List.prefix_refl _), hS3, hR3, ?_⟩
        cases eg : g d env1 M1 with
        | none => rw [eg] at ht; exact ht
        | some p =>
          obtain ⟨env2, M2⟩ := p
          rw [eg] at ht
          intro F4 r4 H4 σ4 s4 p4 hE4 hS4
          refine ⟨F4, r4, R, env2, M2, hE4, hS4, Wsh.imp ht (fun e M q => ?_) (fun e M q => OKx.mono (s3.trans s4) p4 q) (fun e M q => NXc.mono (s3.trans s4) p4 q) (fun e M q => ?_) fun x e M q => XSc.mono (s3.trans s4) p4 q⟩
          · intro F5 r5 H5 σ5 s5 p5 hE5 hS5
            exact ⟨F5, r5, e, M, s3.trans (s4.trans s5), p4.trans p5, hE5, hS5, lift (s3.trans (s4.trans s5)) (p4.trans p5) q⟩
          · intro F5 r5 H5 σ5 s5 p5 hE5 hS5
            exact ⟨F5, r5, e, M, s3.trans (s4.trans s5), p4.trans p5, hE5, hS5, lift (s3.trans (s4.trans s5)) (p4.trans p5) q⟩
theorem evs_for {tg iter : Expr} {body : List Stmt} {it : DI} {g : DG} {b : DS} (hp : PassesOwn (model X.prog X.w) X.A X.env X.xe) (hc : X.calm = true) (hi : PI X tg iter (tI X W it)) (hg : PG X tg (tG X g)) (hb : PSs X body (tS X W b))
    (hs : ∀ x, foldedSetIterable iter X.env x = pure x := by intro _; rfl) : PS X (.For tg iter body [] pos) (tS X W (sFor it g b)) := by
  refine PS.imp (ps_for hp hc hi hg hb hs) fun Dn σ H h => ?_
  obtain ⟨F, r, R, env, M, hE, hS, hp⟩ := h
  refine tX.imp (thenS_bind hE hS hp) fun J H1 ⟨F1, r1, M1, s, s1, p1, hE1, hS1, hJ, hp1⟩ => ?_
  cases s with
  | imm xs => exact for_core (k := xs.length) (loop_imm xs g b) hE1 hS1 hJ ⟨Nat.zero_add _, hp1⟩
  | live n => exact for_core (loop_live n g b) hE1 hS1 hJ hp1
end
/-! ### while -/
def whileK (c : DT) (b : DS) : Nat → DEnv → Sto → OutS
  | 0, _, _ => .bad
  | k + 1, env, M => (c env M).thenS env fun t M1 => if t = true then (match b env M1 with
      | .nx e M' => whileK c b k e M'
      | .ct e M' => whileK c b k e M'
      | .bk e M' => .nx e M'
      | .rt d M' => .rt d M'
      | .exc x e M' => .exc x e M'
      | .bad => .bad) else .nx env M1
def sWhile (c : DT) (b : DS) : DS := whileK c b lim
theorem evs_while {X : Cx} {W : EXK} {pos : Pos} {c : Expr} {body : List Stmt} {mc : DT} {b : DS} (hp : PassesOwn (model X.prog X.w) X.A X.env X.xe) (hc : PT X c (tT X W mc)) (hb : PSs X body (tS X W b)) : PS X (.While c body [] pos) (tS X W (sWhile mc b)) := by
  refine PS.imp (ps_while hp hc hb) fun Dn σ H h => ?_
  obtain ⟨F, r, R, env, M, hE, hS, hp⟩ := h
  refine ⟨fun m σ H => ∃ F1 r1 env M, Sub F F1 ∧ r <+: r1 ∧ EnvR (gd X) F1 r1 env σ ∧ StoR (gd X) F1 r1 R M H ∧ (whileK mc b m env M).post (wsh (gd X) F1 r1 R W Dn), ⟨lim, F, r, env, M, Sub.refl _, List.prefix_refl _, hE, hS, hp⟩, ?_⟩
  rintro m σ1 H1 ⟨F1, r1, env1, M1, s1, p1, hE1, hS1, h1⟩
  cases m with
  | zero => exact h1.elim
  | succ k =>
    unfold whileK at h1
    refine tX.imp (thenS_bind hE1 hS1 h1) fun t H2 ⟨F2, r2, M2, d, s2, p2, hE2, hS2, R2, h2⟩ => ?_
    have R2' : d = t := R2
    subst R2'
    cases d with
    | false =>
      rw [if_neg (by decide)] at h2 ⊢
      exact h2 F2 r2 H2 σ1 (Sub.refl _) (List.prefix_refl _) hE2 hS2
    | true =>
      rw [if_pos rfl] at h2 ⊢
      refine ⟨fun σ' H' => ∃ F3 r3 env3 M3, Sub F2 F3 ∧ r2 <+: r3 ∧ EnvR (gd X) F3 r3 env3 σ' ∧ StoR (gd X) F3 r3 R M3 H' ∧ (whileK mc b k env3 M3).post (wsh (gd X) F3 r3 R W Dn), ?_, ?_⟩
      · rintro σ' H' ⟨F3, r3, env3, M3, s3, p3, hE3, hS3, h3⟩
        exact ⟨k, Nat.lt_succ_self k, F3, r3, env3, M3, s1.trans (s2.trans s3), p1.trans (p2.trans p3), hE3, hS3, h3⟩
      · refine ⟨F2, r2, R, env1, M2, hE2, hS2, ?_⟩
        split at h2
        · rename_i e; try rw [e]; intro F5 r5 H5 σ5 s5 p5 hE5 hS5; exact ⟨F5, r5, _, _, s5, p5, hE5, hS5, wsh_mono s5 p5 h2⟩
        · rename_i e; try rw [e]; intro F5 r5 H5 σ5 s5 p5 hE5 hS5; exact ⟨F5, r5, _, _, s5, p5, hE5, hS5, wsh_mono s5 p5 h2⟩
        · rename_i e; try rw [e]; exact h2
        · rename_i e; try rw [e]; exact h2
        · rename_i e; try rw [e]; exact h2
        · exact h2.elim
/-! ### a reserved object -/
section
variable {G : Gd} {F H R : Hp} {r : List Addr} {M : Sto} {p : Addr} {u u' : HO}
theorem StoR.notR (S : StoR G F r R M H) (hp : H p = none) : F p = none ∧ R p = none ∧ p ∉ r := by
  refine ⟨?_, ?_, fun hm => ?_⟩
  · cases q : F p with
    | none => rfl
    | some o => rw [S.sub _ _ q] at hp; cases hp
  · cases q : R p with
    | none => rfl
    | some o => rw [S.res _ _ q] at hp; cases hp
  · obtain ⟨n, hn, e⟩ := List.getElem_of_mem hm
    have h3 : n < M.length := by rw [S.len]; exact hn
    obtain ⟨u, hu⟩ := (S.at_ n p _ (by rw [← e]; exact List.getElem?_eq_getElem hn) (List.getElem?_eq_getElem h3)).there
    rw [hp] at hu
    cases hu
theorem StoR.resv (S : StoR G F r R M H) (hp : H p = none) (hu : okF u = true := by rfl) : StoR G F r (upd R p u) M (upd H p u) := by
  obtain ⟨hF, hR, hr⟩ := S.notR hp
  refine ⟨S.len, S.nd, fun a o e => ?_, fun a o e => ?_, S.fr, fun a ha => ?_, fun a o e => ?_, fun n a o h1 h2 => ?_, ⟨S.ax.nt, nr_upd S.ax.nr hR hu, tb_new S.ax.tb hp⟩, S.og⟩
  · rw [upd_ne (ne_of_none e hF)]; exact S.sub _ _ e
  · by_cases h : a = p
    · subst h; rw [upd_same] at e ⊢; exact e
    · rw [upd_ne h] at e ⊢; exact S.res _ _ e
  · rw [upd_ne (show a ≠ p from fun z => hr (by rw [← z]; exact ha))]; exact S.rr a ha
  · by_cases h : a = p
    · rw [h]; exact hF
    · rw [upd_ne h] at e; exact S.fx _ _ e
  · exact (S.at_ n a o h1 h2).mono (Sub.refl _) (List.prefix_refl _) fun u e => by rw [upd_ne (ne_of_none e hp)]; exact e
theorem StoR.resAt (S : StoR G F r (upd R p u) M H) : H p = some u ∧ F p = none ∧ p ∉ r := by
  refine ⟨S.res _ _ upd_same, S.fx _ _ upd_same, fun hm => ?_⟩
  have := S.rr p hm
  rw [upd_same] at this
  cases this
theorem StoR.rewr (S : StoR G F r (upd R p u) M H) (hu : okF u = true := by rfl) (hu' : okF u' = true := by rfl) : StoR G F r (upd R p u') M (upd H p u') := by
  obtain ⟨hH, hF, hr⟩ := S.resAt
  refine ⟨S.len, S.nd, fun a o e => ?_, fun a o e => ?_, S.fr, fun a ha => ?_, fun a o e => ?_, fun n a o h1 h2 => ?_, ⟨S.ax.nt, nr_re S.ax.nr hu hu', tb_wr S.ax.tb hH hu⟩, S.og⟩
  · rw [upd_ne (ne_of_none e hF)]; exact S.sub _ _ e
  · by_cases h : a = p
    · subst h; rw [upd_same] at e ⊢; exact e
    · rw [upd_ne h] at e ⊢; exact S.res _ _ (by rw [upd_ne h]; exact e)
  · have h : a ≠ p := fun z => hr (by rw [← z]; exact ha)
    have := S.rr a ha
    rw [upd_ne h] at this ⊢
    exact this
  · by_cases h : a = p
    · rw [h]; exact hF
    · rw [upd_ne h] at e; exact S.fx _ _ (by rw [upd_ne h]; exact e)
  · have ha : a ∈ r := List.mem_of_getElem? h1
    have h : a ≠ p := fun z => hr (by rw [← z]; exact ha)
    exact (S.at_ n a o h1 h2).mono (Sub.refl _) (List.prefix_refl _) fun u e => by rw [upd_ne h]; exact e
theorem StoR.unresF (S : StoR G F r (upd R p u) M H) (hR : R p = none) (hu : okF u = true := by rfl) : Sub F (upd F p u) ∧ StoR G (upd F p u) r R M H := by
  obtain ⟨hH, hF, hr⟩ := S.resAt
  refine ⟨Sub.upd hF, S.len, S.nd, fun a o e => ?_, fun a o e => ?_, fun a ha => ?_, fun a ha => ?_, fun a o e => ?_, fun n a o h1 h2 => ?_, ⟨nt_upd S.ax.nt hu, nr_un S.ax.nr hR hu, S.ax.tb⟩, ⟨S.og.1.trans (Sub.upd hF), S.og.2⟩⟩
  · by_cases h : a = p
    · subst h; rw [upd_same] at e; cases e; exact hH
    · rw [upd_ne h] at e; exact S.sub _ _ e
  · exact S.res _ _ (by rw [upd_ne (ne_of_none e hR)]; exact e)
  · have h : a ≠ p := fun z => hr (by rw [← z]; exact ha)
    rw [upd_ne h]; exact S.fr a ha
  · have h : a ≠ p := fun z => hr (by rw [← z]; exact ha)
    have := S.rr a ha
    rw [upd_ne h] at this
    exact this
  · have h : a ≠ p := ne_of_none e hR
    rw [upd_ne h]
    exact S.fx a o (by rw [upd_ne h]; exact e)
  · exact (S.at_ n a o h1 h2).mono (Sub.upd hF) (List.prefix_refl _) fun u e => e
theorem StoR.unresL (S : StoR G F r (upd R p u) M H) (hR : R p = none) (hu : okF u = true) {o : Ob} (ho : ∀ H', H' p = some u → ObR G F r H' p o) : StoR G F (r ++ [p]) R (M ++ [o]) H := by
  obtain ⟨hH, hF, hr⟩ := S.resAt
  refine ⟨by rw [List.length_append, List.length_append, S.len]; rfl, ?_, S.sub, fun a o e => S.res _ _ (by rw [upd_ne (ne_of_none e hR)]; exact e), fun a ha => ?_, fun a ha => ?_, fun a o e => ?_, fun n a o' h1 h2 => ?_, ⟨S.ax.nt, nr_un S.ax.nr hR hu, S.ax.tb⟩, ⟨S.og.1, S.og.2.trans (List.prefix_append _ _)⟩⟩
  · rw [List.nodup_append]
    refine ⟨S.nd, by simp, fun a ha b hb => ?_⟩
    have : b = p := by simpa using hb
    subst this
    exact fun z => hr (by rw [← z]; exact ha)
  · rcases List.mem_append.mp ha with h | h
    · exact S.fr a h
    · have : a = p := by simpa using h
      subst this
      exact hF
  · rcases List.mem_append.mp ha with h | h
    · have h' : a ≠ p := fun z => hr (by rw [← z]; exact h)
      have := S.rr a h
      rw [upd_ne h'] at this
      exact this
    · have : a = p := by simpa using h
      subst this
      exact hR
  · have h : a ≠ p := ne_of_none e hR
    exact S.fx a o (by rw [upd_ne h]; exact e)
  · by_cases hn : n < r.length
    · rw [List.getElem?_append_left hn] at h1
      rw [List.getElem?_append_left (by rw [S.len]; exact hn)] at h2
      rw [List.take_append_of_le_length (Nat.le_of_lt hn)]
      exact S.at_ n a o' h1 h2
    · have hl : n < (r ++ [p]).length := (List.getElem?_eq_some_iff.mp h1).1
      rw [List.length_append] at hl
      have hn' : n = r.length := by
        have : [p].length = 1 := rfl
        omega
      subst hn'
      rw [List.getElem?_append_right (Nat.le_refl _), Nat.sub_self] at h1
      rw [List.getElem?_append_right (by rw [S.len]; exact Nat.le_refl _), S.len, Nat.sub_self] at h2
      simp at h1 h2
      subst h1 h2
      rw [List.take_append_of_le_length (Nat.le_refl _), List.take_length]
      exact ho _ hH
end
/-! ### comprehensions -/
abbrev CG := D → DEnv → Option DEnv
def cg1 (i : Nat) : CG := fun d env => some (env.set i (some d))
def cgN (is : List Nat) : CG := fun d env => match d with
  | .tup xs => if xs.length = is.length then some ((is.zip xs).foldl (fun e p => e.set p.1 (some p.2)) env) else none
  | _ => none
def wipeD (env : DEnv) : List Nat → DEnv
  | [] => env
  | v :: vs => (wipeD env vs).set v none
theorem EnvR.unset {G : Gd} {F : Hp} {r : List Addr} {env : DEnv} {σ : L2.St} (h : EnvR G F r env σ) (i : Nat) : EnvR G F r (env.set i none) (σ.set i none) := by
  refine ⟨by rw [List.length_set, List.length_set, h.1], fun j d' e => ?_⟩
  by_cases hj : j = i
  · subst hj
    have hl : j < env.length := by
      have := (List.getElem?_eq_some_iff.mp e).1
      rw [List.length_set] at this
      exact this
    rw [List.getElem?_set_self hl] at e
    cases e
  · rw [List.getElem?_set_ne (fun z => hj z.symm)] at e
    obtain ⟨u, a, b⟩ := h.2 j d' e
    exact ⟨u, by rw [List.getElem?_set_ne (fun z => hj z.symm)]; exact a, b⟩
theorem EnvR.wipe {G : Gd} {F : Hp} {r : List Addr} {env : DEnv} {σ : L2.St} (h : EnvR G F r env σ) : ∀ vs : List Nat, EnvR G F r (wipeD env vs) (L2.wipe σ vs)
  | [] => h
  | v :: vs => (EnvR.wipe h vs).unset v
theorem set_none_comm (σ : L2.St) (i j : Nat) (x : Option V) (h : i ≠ j) : (σ.set i x).set j none = (σ.set j none).set i x := List.set_comm _ _ h
theorem wipe_set (i : Nat) (x : Option V) : ∀ (vs : List Nat) (σ : L2.St), i ∈ vs → L2.wipe (σ.set i x) vs = L2.wipe σ vs
  | [], σ, h => by simp at h
  | v :: vs, σ, h => by
    unfold L2.wipe
    by_cases hv : v = i
    · subst hv
      by_cases hm : v ∈ vs
      · rw [wipe_set v x vs σ hm]
      · have : ∀ (ws : List Nat) (τ : L2.St), v ∉ ws → L2.wipe (τ.set v x) ws = (L2.wipe τ ws).set v x := by
          intro ws
          induction ws with
          | nil => intro τ _; rfl
          | cons w ws ih =>
            intro τ hw
            unfold L2.wipe
            rw [ih τ (fun z => hw (List.mem_cons_of_mem _ z))]
            exact List.set_comm _ _ (fun z => hw (by rw [z]; exact List.mem_cons_self))
        rw [this vs σ hm, List.set_set]
    · have hm : i ∈ vs := by
        rcases List.mem_cons.mp h with z | z
        · exact absurd z.symm hv
        · exact z
      rw [wipe_set i x vs σ hm]
/-- a comprehension's target: t its reading, g the plain one -/
structure CGt (G : Gd) (vs : List Nat) (t : TG) (g : CG) : Prop where
  run : ∀ (F : Hp) (r : List Addr) (R : Hp) (M : Sto) (H : Hp) (d : D) (v : V) (env env' : DEnv) (σ : L2.St) (k : L2.St → Hp → Prop), StoR G F r R M H → Rep G F r d v → EnvR G F r env σ → g d env = some env' →
    (∀ σ', EnvR G F r env' σ' → L2.wipe σ' vs = L2.wipe σ vs → k σ' H) → t v σ H k
theorem cgt_one {G : Gd} {vs : List Nat} {i : Nat} (h : i ∈ vs) : CGt G vs (gName i) (cg1 i) := ⟨fun F r R M H d v env env' σ k S q E e hk => by
  cases e
  exact hk _ (E.set q i) (wipe_set i _ vs σ h)⟩
theorem gAll_wipe {G : Gd} {vs : List Nat} {F H : Hp} {r : List Addr} {Q : L2.St → Hp → Prop} : ∀ {is : List Nat} {xs : List D} {us : List V} {env : DEnv} {σ : L2.St}, (∀ i ∈ is, i ∈ vs) → xs.length = is.length → Reps G F r xs us → EnvR G F r env σ →
    (∀ σ', EnvR G F r ((is.zip xs).foldl (fun e p => e.set p.1 (some p.2)) env) σ' → L2.wipe σ' vs = L2.wipe σ vs → Q σ' H) → gAll is us σ H Q
  | [], xs, us, env, σ, hv, hl, hr, hE, h => by
    have : xs = [] := List.eq_nil_of_length_eq_zero hl
    subst this
    cases hr.inv0
    exact ⟨rfl, h σ hE rfl⟩
  | i :: is, xs, us, env, σ, hv, hl, hr, hE, h => by
    cases xs with
    | nil => cases hl
    | cons x xs =>
      obtain ⟨v, w, rfl, a, b⟩ := hr.inv
      refine ⟨v, w, rfl, gAll_wipe (fun j hj => hv j (List.mem_cons_of_mem _ hj)) (by simpa using hl) b (hE.set a i) fun σ' e1 e2 => h σ' e1 ?_⟩
      rw [e2, wipe_set i _ vs σ (hv i List.mem_cons_self)]
theorem cgt_tup {G : Gd} {vs is : List Nat} (h : ∀ i ∈ is, i ∈ vs) : CGt G vs (gTup G.K is.length (gAll is)) (cgN is) := ⟨fun F r R M H d v env env' σ k S q E e hk => by
  unfold cgN at e
  cases d <;> first | (cases e; done) | skip
  rename_i xs
  simp only at e
  split at e
  · rename_i hl
    cases e
    rw [rep_tup] at q
    obtain ⟨a, us, ev, z, rs⟩ := q
    exact ⟨a, us, ev, S.sub.tq z, by rw [rs.length]; exact hl, gAll_wipe h hl rs E hk⟩
  · cases e⟩
abbrev W0 : EXK := fun _ _ _ _ => False
def lcL (g : CG) (c : DT) (e : DE) (env : DEnv) : List D → Sto → Out (List D)
  | [], M => .ok [] M
  | x :: xs, M => match g x env with
    | none => .bad
    | some env1 => (noExc (c env1 M)).bind fun k M1 => if k = true then (noExc (e env1 M1)).bind fun d M2 => (lcL g c e env xs M2).bind fun ds M3 => .ok (d :: ds) M3 else lcL g c e env xs M1
def lcN (g : CG) (c : DT) (e : DE) (env : DEnv) (n : Nat) : Nat → Nat → Sto → Out (List D)
  | 0, _, _ => .bad
  | k + 1, i, M => match M[n]? with
    | some (.lst ys) => match ys[i]? with
      | none => .ok [] M
      | some x => match g x env with
        | none => .bad
        | some env1 => (noExc (c env1 M)).bind fun t M1 => if t = true then (noExc (e env1 M1)).bind fun d M2 => (lcN g c e env n k (i + 1) M2).bind fun ds M3 => .ok (d :: ds) M3 else lcN g c e env n k (i + 1) M1
    | _ => .bad
def cYes : DT := fun _ M => .ok true M
/-- what a comprehension collects -/
def mLc0 (it : DI) (vs : List Nat) (g : CG) (c : DT) (e : DE) : DA := fun env M => (it env M).bind fun s M1 => match s with
  | .imm xs => lcL g c e (wipeD env vs) xs M1
  | .live n => lcN g c e (wipeD env vs) n lim 0 M1
def toLst (xs : List D) (M : Sto) : Out D := if xs.length ≤ lim then .ok (.lst xs) M else .bad
def toLstM (xs : List D) (M : Sto) : Out D := if xs.length ≤ lim ∧ belows M.length xs = true then .ok (.ref M.length) (M ++ [.lst xs]) else .bad
def mLc (it : DI) (vs : List Nat) (g : CG) (c : DT) (e : DE) : DE := fun env M => (mLc0 it vs g c e env M).bind toLst
def mLcM (it : DI) (vs : List Nat) (g : CG) (c : DT) (e : DE) : DE := fun env M => (mLc0 it vs g c e env M).bind toLstM
/-- a comprehension's turns: L i k acc M P: what the rest comes to, acc collected -/
structure CompP (s : Src) (g : CG) (c : DT) (e : DE) (env : DEnv) (L : Nat → Nat → List D → Sto → (List D → Sto → Prop) → Prop) : Prop where
  mono : ∀ i k acc M P P', L i k acc M P → (∀ ds M, P ds M → P' ds M) → L i k acc M P'
  turn : ∀ i k acc M P, L i k acc M P → match s.at_ M i with
    | none => False
    | some none => P acc M
    | some (some d) => ∃ k', k' < k ∧ ∃ env1, g d env = some env1 ∧ (c env1 M).post (fun t M1 => if t = true then (e env1 M1).post (fun y M2 => L (i + 1) k' (acc ++ [y]) M2 P) (fun _ _ => False) else L (i + 1) k' acc M1 P) fun _ _ => False
theorem post_noExc {α : Type} {o : Out α} {P : α → Sto → Prop} {Y : Exn → Sto → Prop} (h : (noExc o).post P Y) : o.post P fun _ _ => False := noExc_post h
theorem comp_imm (xs : List D) (g : CG) (c : DT) (e : DE) (env : DEnv) (Y : Exn → Sto → Prop) : CompP (.imm xs) g c e env fun i k acc M P => i + k = xs.length ∧ (lcL g c e env (xs.drop i) M).post (fun ds M' => P (acc ++ ds) M') Y where
  mono := fun i k acc M P P' h hp => ⟨h.1, Out.post_imp h.2 (fun _ _ q => hp _ _ q) fun _ _ q => q⟩
  turn := fun i k acc M P h => by
    obtain ⟨hk, h⟩ := h
    show match some xs[i]? with
      | none => False
      | some none => P acc M
      | some (some d) => _
    cases ex : xs[i]? with
    | none =>
      have : xs.drop i = [] := List.drop_eq_nil_of_le (List.getElem?_eq_none_iff.mp ex)
      rw [this] at h
      have h' : P (acc ++ []) M := h
      rw [List.append_nil] at h'
      exact h'
    | some d =>
      obtain ⟨hi, ed⟩ := List.getElem?_eq_some_iff.mp ex
      have : xs.drop i = d :: xs.drop (i + 1) := by rw [← ed]; exact List.drop_eq_getElem_cons hi
      rw [this] at h
      refine ⟨xs.length - (i + 1), by omega, ?_⟩
      have hk' : i + 1 + (xs.length - (i + 1)) = xs.length := by omega
      unfold lcL at h
      split at h
      · exact h.elim
      · rename_i env1 e1
        refine ⟨env1, e1, Out.post_imp (post_noExc (Out.post_bind h)) (fun t M1 q => ?_) fun _ _ z => z⟩
        split at q
        · rename_i ht
          rw [if_pos ht]
          refine Out.post_imp (post_noExc (Out.post_bind q)) (fun y M2 q2 => ⟨hk', Out.post_imp (Out.post_bind q2) (fun ds M3 q3 => ?_) fun _ _ z => z⟩) fun _ _ z => z
          have q3' : P (acc ++ y :: ds) M3 := q3
          rw [List.append_assoc]
          exact q3'
        · rename_i ht
          rw [if_neg ht]
          exact ⟨hk', q⟩
theorem comp_live (n : Nat) (g : CG) (c : DT) (e : DE) (env : DEnv) (Y : Exn → Sto → Prop) : CompP (.live n) g c e env fun i k acc M P => (lcN g c e env n k i M).post (fun ds M' => P (acc ++ ds) M') Y where
  mono := fun i k acc M P P' h hp => Out.post_imp h (fun _ _ q => hp _ _ q) fun _ _ q => q
  turn := fun i k acc M P h => by
    cases k with
    | zero => exact h.elim
    | succ k =>
      unfold lcN at h
      unfold Src.at_
      try simp only
      split at h
      · rename_i ys e0
        try rw [e0]
        try simp only
        split at h
        · rename_i e2
          try rw [e2]
          have h' : P (acc ++ []) M := h
          rw [List.append_nil] at h'
          exact h'
        · rename_i x e2
          try rw [e2]
          try simp only
          refine ⟨k, Nat.lt_succ_self k, ?_⟩
          split at h
          · exact h.elim
          · rename_i env1 e1
            refine ⟨env1, e1, Out.post_imp (post_noExc (Out.post_bind h)) (fun t M1 q => ?_) fun _ _ z => z⟩
            split at q
            · rename_i ht
              rw [if_pos ht]
              refine Out.post_imp (post_noExc (Out.post_bind q)) (fun y M2 q2 => Out.post_imp (Out.post_bind q2) (fun ds M3 q3 => ?_) fun _ _ z => z) fun _ _ z => z
              have q3' : P (acc ++ y :: ds) M3 := q3
              rw [List.append_assoc]
              exact q3'
            · rename_i ht
              rw [if_neg ht]
              exact q
      · exact h.elim
section
variable {X : Cx} {W : EXK} {pos : Pos}
theorem comp_core {G : Gd} {s : Src} {vs : List Nat} {t : TG} {g : CG} {c : DT} {e : DE} {tt : TT} {te : TE} {L : Nat → Nat → List D → Sto → (List D → Sto → Prop) → Prop} {env : DEnv} (P : CompP s g c e (wipeD env vs) L) (hg : CGt G vs t g)
    (htt : ∀ σ H Q, (∃ F r R env M, EnvR G F r env σ ∧ StoR G F r R M H ∧ (c env M).post (OKx RB G F r R Q) fun _ _ => False) → tt σ H Q)
    (hte : ∀ σ H Q, (∃ F r R env M, EnvR G F r env σ ∧ StoR G F r R M H ∧ (e env M).post (OKx Rep G F r R Q) fun _ _ => False) → te σ H Q)
    {J : It} {σ : L2.St} {F H R : Hp} {r : List Addr} {M : Sto} {k : Nat} {Q : VK} {KD : List D → Sto → Prop} {A : Addr}
    (hE : EnvR G F r env σ) (hS : StoR G F r R M H) (hJ : ItOk G F r s J) (hA : H A = none) (h : L 0 k [] M KD)
    (hl : ∀ i k acc M, L i k acc M KD → acc.length ≤ lim)
    (fin : ∀ F' r' H' acc M' vs, Sub F F' → r <+: r' → StoR G F' r' (upd R A (.lst vs)) M' H' → Reps G F' r' acc vs → KD acc M' → Q (.ref A) H') :
    ∃ Wi : Nat → Nat → Hp → Prop, (∃ m, Wi 0 m (upd H A (.lst []))) ∧ ∀ i m H, Wi i m H →
      (J.stop i H ∧ Q (.ref A) H) ∨ (J.go i H ∧ ∃ Nx : Hp → Prop, (∀ H', Nx H' → ∃ m', m' < m ∧ Wi (i + 1) m' H') ∧ ∀ x H', J.yld i H x H' → t x (L2.wipe σ vs) H' fun σ2 H2 => L2.wipe σ2 vs = L2.wipe σ vs ∧ tt σ2 H2 fun b H3 =>
        if b = true then te σ2 H3 fun y H4 => ∃ acc, H4 A = some (.lst acc) ∧ acc.length < sizeLine ∧ Nx (upd H4 A (.lst (acc ++ [y]))) else Nx H3) := by
  have ww : L2.wipe (L2.wipe σ vs) vs = L2.wipe σ vs := by
    have gen : ∀ (ws us : List Nat) (τ : L2.St), (∀ w ∈ ws, w ∈ us) → L2.wipe (L2.wipe τ ws) us = L2.wipe τ us := by
      intro ws
      induction ws with
      | nil => intro us τ _; rfl
      | cons w ws ih =>
        intro us τ hw
        show L2.wipe ((L2.wipe τ ws).set w none) us = _
        rw [wipe_set w none us _ (hw w List.mem_cons_self)]
        exact ih us τ fun z hz => hw z (List.mem_cons_of_mem _ hz)
    exact gen vs vs σ fun w hw => hw
  refine ⟨fun i m H => ∃ F1 r1 acc us M, Sub F F1 ∧ r <+: r1 ∧ StoR G F1 r1 (upd R A (.lst us)) M H ∧ Reps G F1 r1 acc us ∧ L i m acc M KD, ⟨k, F, r, [], [], M, Sub.refl _, List.prefix_refl _, hS.resv hA, .nil, h⟩, ?_⟩
  rintro i m H1 ⟨F1, r1, acc, us, M1, s1, p1, hS1, hR1, h1⟩
  have hj := hJ F1 r1 _ M1 H1 i s1 p1 hS1
  have ht := P.turn _ _ _ _ _ h1
  cases ea : s.at_ M1 i with
  | none => rw [ea] at ht; exact ht.elim
  | some od =>
    cases od with
    | none =>
      rw [ea] at ht hj
      exact .inl ⟨hj, fin F1 r1 H1 acc M1 us s1 p1 hS1 hR1 ht⟩
    | some d =>
      rw [ea] at ht hj
      obtain ⟨k', hk', env1, eg, ht⟩ := ht
      refine .inr ⟨hj.1, fun H' => ∃ F2 r2 acc us M, Sub F1 F2 ∧ r1 <+: r2 ∧ StoR G F2 r2 (upd R A (.lst us)) M H' ∧ Reps G F2 r2 acc us ∧ L (i + 1) k' acc M KD, ?_, fun x H' y => ?_⟩
      · rintro H' ⟨F2, r2, acc2, us2, M2, s2, p2, hS2, hR2, h2⟩
        exact ⟨k', hk', F2, r2, acc2, us2, M2, s1.trans s2, p1.trans p2, hS2, hR2, h2⟩
      · obtain ⟨F3, s3, hS3, hR3⟩ := hj.2 x H' y
        have hE3 : EnvR G F3 r1 (wipeD env vs) (L2.wipe σ vs) := (hE.wipe vs).mono (s1.trans s3) p1
        refine hg.run F3 r1 _ M1 H' d x _ env1 _ _ hS3 hR3 hE3 eg fun σ2 hE2 hw => ⟨by rw [hw, ww], ?_⟩
        refine htt _ _ _ ⟨F3, r1, _, env1, M1, hE2, hS3, Out.post_imp ht (fun tb M2 q => ?_) fun _ _ z => z⟩
        intro F4 r4 H4 b s4 p4 hS4 hb
        have hb' : tb = b := hb
        subst hb'
        split at q
        · rename_i hb
          rw [if_pos hb]
          refine hte _ _ _ ⟨F4, r4, _, env1, M2, hE2.mono s4 p4, hS4, Out.post_imp q (fun yd M3 q3 => ?_) fun _ _ z => z⟩
          intro F5 r5 H5 yv s5 p5 hS5 hR5
          obtain ⟨hA5, _, _⟩ := hS5.resAt
          have hlen : us.length ≤ lim := by
            rw [hR1.length]
            exact hl _ _ _ _ h1
          refine ⟨us, hA5, Nat.lt_of_le_of_lt hlen (by unfold lim; rw [sizeLine_eq]; decide), F5, r5, acc ++ [yd], us ++ [yv], M3, s3.trans (s4.trans s5), p4.trans p5, hS5.rewr, (hR1.mono (s3.trans (s4.trans s5)) (p4.trans p5)).append (Reps.one hR5), q3⟩
        · rename_i hb
          rw [if_neg hb]
          exact ⟨F4, r4, acc, us, M2, s3.trans s4, p4, hS4, hR1.mono (s3.trans s4) p4, q⟩
end
end EV
set_option maxHeartbeats 4000000
namespace EV
open PySem PySem.Spec PyProof.Rows L2
variable [Tbl]

theorem bind_bind {α β γ : Type} (o : Out α) (f : α → Sto → Out β) (g : β → Sto → Out γ) : (o.bind f).bind g = o.bind fun a M => (f a M).bind g := by
  cases o <;> rfl
theorem lcL_post {g : CG} {c : DT} {e : DE} {env : DEnv} {P : List D → Sto → Prop} {Y : Exn → Sto → Prop} : ∀ {xs : List D} {M : Sto}, (lcL g c e env xs M).post P Y → (lcL g c e env xs M).post P fun _ _ => False
  | [], M, h => h
  | x :: xs, M, h => by
    unfold lcL at h ⊢
    split at h
    · exact h.elim
    · try simp only
      cases e1 : c _ M with
      | bad => rw [e1] at h; exact h.elim
      | exc _ _ => rw [e1] at h; exact h.elim
      | ok k M1 =>
        rw [e1] at h
        show Out.post (if k = true then _ else _) _ _
        have h : Out.post (if k = true then _ else _) _ _ := h
        split at h
        · rename_i hk
          rw [if_pos hk]
          cases e2 : e _ M1 with
          | bad => rw [e2] at h; exact h.elim
          | exc _ _ => rw [e2] at h; exact h.elim
          | ok d M2 =>
            rw [e2] at h
            have h : ((lcL g c e env xs M2).bind fun ds M3 => Out.ok (d :: ds) M3).post P Y := h
            show ((lcL g c e env xs M2).bind fun ds M3 => Out.ok (d :: ds) M3).post P _
            have h2 := lcL_post (Out.post_bind h)
            cases e3 : lcL g c e env xs M2 with
            | bad => rw [e3] at h2; exact h2
            | exc _ _ => rw [e3] at h2; exact h2
            | ok ds M3 => rw [e3] at h2; exact h2
        · rename_i hk
          rw [if_neg hk]
          exact lcL_post h
theorem lcN_post {g : CG} {c : DT} {e : DE} {env : DEnv} {n : Nat} {P : List D → Sto → Prop} {Y : Exn → Sto → Prop} : ∀ {k i : Nat} {M : Sto}, (lcN g c e env n k i M).post P Y → (lcN g c e env n k i M).post P fun _ _ => False
  | 0, i, M, h => h
  | k + 1, i, M, h => by
    unfold lcN at h ⊢
    split at h
    · try simp only
      split at h
      · exact h
      · try simp only
        split at h
        · exact h.elim
        · try simp only
          cases e1 : c _ M with
          | bad => rw [e1] at h; exact h.elim
          | exc _ _ => rw [e1] at h; exact h.elim
          | ok t M1 =>
            rw [e1] at h
            show Out.post (if t = true then _ else _) _ _
            have h : Out.post (if t = true then _ else _) _ _ := h
            split at h
            · rename_i hk
              rw [if_pos hk]
              cases e2 : e _ M1 with
              | bad => rw [e2] at h; exact h.elim
              | exc _ _ => rw [e2] at h; exact h.elim
              | ok d M2 =>
                rw [e2] at h
                have h : ((lcN g c e env n k (i + 1) M2).bind fun ds M3 => Out.ok (d :: ds) M3).post P Y := h
                show ((lcN g c e env n k (i + 1) M2).bind fun ds M3 => Out.ok (d :: ds) M3).post P _
                have h2 := lcN_post (Out.post_bind h)
                cases e3 : lcN g c e env n k (i + 1) M2 with
                | bad => rw [e3] at h2; exact h2
                | exc _ _ => rw [e3] at h2; exact h2
                | ok ds M3 => rw [e3] at h2; exact h2
            · rename_i hk
              rw [if_neg hk]
              exact lcN_post h
    · exact h.elim
/-- a comprehension's tail: how its list is kept -/
structure TailOk (tl : List D → Sto → Out D) : Prop where
  len : ∀ ds M P Y, (tl ds M).post P Y → ds.length ≤ lim
  fin : ∀ (G : Gd) (F : Hp) (r : List Addr) (R H : Hp) (Q : VK) (A : Addr) (ds : List D) (vs : List V) (M : Sto) (Y : Exn → Sto → Prop), R A = none → StoR G F r (upd R A (.lst vs)) M H → Reps G F r ds vs → (tl ds M).post (OKx Rep G F r R Q) Y → Q (.ref A) H
theorem toLst_ok : TailOk toLst where
  len := fun ds M P Y h => by
    unfold toLst at h
    split at h
    · assumption
    · exact h.elim
  fin := fun G F r R H Q A ds vs M Y hR S q h => by
    unfold toLst at h
    split at h
    · obtain ⟨s, S'⟩ := S.unresF hR
      exact h _ r H _ s (List.prefix_refl _) S' (by rw [rep_lst]; exact ⟨A, vs, rfl, LstR.of upd_same, q.mono s (List.prefix_refl _)⟩)
    · exact h.elim
theorem belows_cut {G : Gd} {F : Hp} {r : List Addr} {ds : List D} {vs : List V} {k : Nat} (h : Reps G F r ds vs) (b : belows k ds = true) : Reps G F (r.take k) ds vs := Reps.cut h b
theorem toLstM_ok : TailOk toLstM where
  len := fun ds M P Y h => by
    unfold toLstM at h
    split at h
    · rename_i z; exact z.1
    · exact h.elim
  fin := fun G F r R H Q A ds vs M Y hR S q h => by
    unfold toLstM at h
    split at h
    · have S' := S.unresL hR rfl (o := .lst ds) fun H' e => ⟨vs, e, q⟩
      refine h F _ H _ (Sub.refl _) (List.prefix_append _ _) S' ?_
      rw [rep_ref]
      exact ⟨A, by rw [S.len, List.getElem?_append_right (Nat.le_refl _), Nat.sub_self]; rfl, rfl⟩
    · exact h.elim
section
variable {X : Cx} {W : EXK} {pos : Pos}
theorem tD_lc {it : DI} {vs : List Nat} {t : TG} {g : CG} {c : DT} {e : DE} {tl : List D → Sto → Out D} (T : TailOk tl) (hcg : CGt (gd X) vs t g) {σ : L2.St} {H : Hp} {Q : VK}
    (h : tD X W (fun env M => (mLc0 it vs g c e env M).bind tl) σ H Q) : tLc (tI X W it) t (tT X W0 c) (tD X W0 e) vs σ H Q := by
  obtain ⟨F, r, R, env, M, hE, hS, hp⟩ := h
  have hp' : ((it env M).bind fun s M1 => (match s with
    | .imm xs => lcL g c e (wipeD env vs) xs M1
    | .live n => lcN g c e (wipeD env vs) n lim 0 M1).bind tl).post (OKx Rep (gd X) F r R Q) (EXc (gd X) F r R W σ) := by
    rw [← bind_bind]
    exact hp
  refine tX.imp (tX.bind OKx.mono' hE hS hp') fun J H1 ⟨F1, r1, M1, s, s1, p1, hE1, hS1, hJ, hp1⟩ => ?_
  intro A hA
  obtain ⟨_, hRA, _⟩ := hS1.notR hA
  have fin : ∀ F' r' H' acc M' us, Sub F1 F' → r1 <+: r' → StoR (gd X) F' r' (upd R A (.lst us)) M' H' → Reps (gd X) F' r' acc us → (tl acc M').post (OKx Rep (gd X) F1 r1 R Q) (EXc (gd X) F1 r1 R W σ) → Q (.ref A) H' := fun F' r' H' acc M' us s p S q z =>
    T.fin (gd X) F' r' R H' Q A acc us M' _ hRA S q (Out.post_imp z (fun _ _ y => y.mono s p) fun _ _ y => y)
  have htt : ∀ σ H Q, (∃ F r R env M, EnvR (gd X) F r env σ ∧ StoR (gd X) F r R M H ∧ (c env M).post (OKx RB (gd X) F r R Q) fun _ _ => False) → tT X W0 c σ H Q := fun σ H Q ⟨F, r, R, env, M, a, b, z⟩ => ⟨F, r, R, env, M, a, b, Out.post_imp z (fun _ _ y => y) fun _ _ y => y.elim⟩
  have hte : ∀ σ H Q, (∃ F r R env M, EnvR (gd X) F r env σ ∧ StoR (gd X) F r R M H ∧ (e env M).post (OKx Rep (gd X) F r R Q) fun _ _ => False) → tD X W0 e σ H Q := fun σ H Q ⟨F, r, R, env, M, a, b, z⟩ => ⟨F, r, R, env, M, a, b, Out.post_imp z (fun _ _ y => y) fun _ _ y => y.elim⟩
  cases s with
  | imm xs =>
    refine comp_core (k := xs.length) (KD := fun ds M => (tl ds M).post (OKx Rep (gd X) F1 r1 R Q) (EXc (gd X) F1 r1 R W σ)) (comp_imm xs g c e (wipeD env vs) fun _ _ => False) hcg htt hte hE1 hS1 hJ hA ⟨Nat.zero_add _, ?_⟩ (fun i k acc M z => ?_) fin
    · exact lcL_post (Out.post_bind hp1)
    · obtain ⟨_, z⟩ := z
      cases ez : lcL g c e (wipeD env vs) (xs.drop i) M with
      | bad => rw [ez] at z; exact z.elim
      | exc _ _ => rw [ez] at z; exact z.elim
      | ok ds M' =>
        rw [ez] at z
        have := T.len _ _ _ _ z
        rw [List.length_append] at this
        omega
  | live n =>
    refine comp_core (k := lim) (KD := fun ds M => (tl ds M).post (OKx Rep (gd X) F1 r1 R Q) (EXc (gd X) F1 r1 R W σ)) (comp_live n g c e (wipeD env vs) fun _ _ => False) hcg htt hte hE1 hS1 hJ hA ?_ (fun i k acc M z => ?_) fin
    · exact lcN_post (Out.post_bind hp1)
    · cases ez : lcN g c e (wipeD env vs) n k i M with
      | bad => rw [ez] at z; exact z.elim
      | exc _ _ => rw [ez] at z; exact z.elim
      | ok ds M' =>
        rw [ez] at z
        have := T.len _ _ _ _ z
        rw [List.length_append] at this
        omega
theorem ev_lc0 {elt tg iter : Expr} {ifs : List Expr} {scope : Scope} {own : List (Str × Nat)} {it : DI} {t : TG} {g : CG} {c : DT} {e : DE} {tl : List D → Sto → Out D} (T : TailOk tl) (hc : X.calm = true) (hN : X.N.Nodup) (hi : PI X tg iter (tI X W it)) (ok : BlkOk X.N X.env.scope scope own) (hcg : CGt (gd X) (own.map (·.2)) t g)
    (hg : ∀ (s : Shared) (H : Hp) (C : Addr) (cl : List (Str × Addr)) (fp : List Addr), PG (X.blk s H scope (compEnvC scope cl C X.env) fp) tg t)
    (ht : ∀ (s : Shared) (H : Hp) (C : Addr) (cl : List (Str × Addr)) (fp : List Addr), PTs (X.blk s H scope (compEnvC scope cl C X.env) fp) ifs (tT (X.blk s H scope (compEnvC scope cl C X.env) fp) W0 c))
    (he : ∀ (s : Shared) (H : Hp) (C : Addr) (cl : List (Str × Addr)) (fp : List Addr), PE (X.blk s H scope (compEnvC scope cl C X.env) fp) elt (tD (X.blk s H scope (compEnvC scope cl C X.env) fp) W0 e)) (hs : ∀ x, foldedSetIterable iter X.env x = pure x := by intro _; rfl) :
    PE X (.ListComp elt [⟨tg, iter, ifs, 0⟩] scope pos) (tD X W (fun env M => (mLc0 it (own.map (·.2)) g c e env M).bind tl)) :=
  PE.imp (pe_lc (tt := tT X W0 c) (te := tD X W0 e) hc hN hi ok hg ht he hs) fun σ H Q h => tD_lc T hcg h
/-- name = [..], the name a local, on one line -/
theorem evs_setLc0 {i : Nat} {y : Str} {py spos : Pos} {elt tg iter : Expr} {ifs : List Expr} {scope : Scope} {own : List (Str × Nat)} {it : DI} {t : TG} {g : CG} {c : DT} {e : DE} {tl : List D → Sto → Out D} (T : TailOk tl) (hc : X.calm = true) (hN : X.N.Nodup) (hy : X.N[i]? = some y) (hyl : X.env.scope.names.lookup y = some .local)
    (hsw : swapsWith (.ListComp elt [⟨tg, iter, ifs, 0⟩] scope pos) (some (.Name y py)) spos.line X.env = pure true) (hi : PI X tg iter (tI X W it)) (ok : BlkOk X.N X.env.scope scope own) (hcg : CGt (gd X) (own.map (·.2)) t g)
    (hg : ∀ (s : Shared) (H : Hp) (C : Addr) (cl : List (Str × Addr)) (fp : List Addr), PG (X.blk s H scope (compEnvC scope cl C X.env) fp) tg t)
    (ht : ∀ (s : Shared) (H : Hp) (C : Addr) (cl : List (Str × Addr)) (fp : List Addr), PTs (X.blk s H scope (compEnvC scope cl C X.env) fp) ifs (tT (X.blk s H scope (compEnvC scope cl C X.env) fp) W0 c))
    (he : ∀ (s : Shared) (H : Hp) (C : Addr) (cl : List (Str × Addr)) (fp : List Addr), PE (X.blk s H scope (compEnvC scope cl C X.env) fp) elt (tD (X.blk s H scope (compEnvC scope cl C X.env) fp) W0 e)) (hs : ∀ x, foldedSetIterable iter X.env x = pure x := by intro _; rfl) :
    PS X (.Assign [.Name y py] (.ListComp elt [⟨tg, iter, ifs, 0⟩] scope pos) spos) (tS X W (sAsg (fun env M => (mLc0 it (own.map (·.2)) g c e env M).bind tl) (gN i))) := by
  refine PS.imp (ps_setLc (tt := tT X W0 c) (te := tD X W0 e) hc hN hy hyl hsw hi ok hg ht he hs) fun Dn σ H h => ?_
  obtain ⟨F, r, R, env, M, hE, hS, hp⟩ := h
  refine tD_lc T hcg (W := W) ?_
  refine tX.imp (thenS_bind hE hS hp) fun x H1 ⟨F1, r1, M1, d, s1, p1, hE1, hS1, R1, hp1⟩ => ?_
  exact hp1 F1 r1 H1 _ (Sub.refl _) (List.prefix_refl _) (hE1.set R1 i) hS1
theorem evp_nil : PTs X [] (tT X W cYes) := by
  refine ⟨fun pins s σ H Q I h => pts_nil.run pins s σ H Q I ?_⟩
  obtain ⟨F, r, R, env, M, hE, hS, hp⟩ := h
  exact hp F r H true (Sub.refl _) (List.prefix_refl _) hS rfl
theorem evp_one {c : Expr} {m : DT} (h : PT X c (tT X W m)) : PTs X [c] (tT X W m) := pts_one h

/-! ### iterations -/
def mSeq (m : DE) : DI := fun env M => (m env M).bind fun d M1 => match d with
  | .tup xs => .ok (.imm xs) M1
  | .lst xs => .ok (.imm xs) M1
  | .ref n => match M1[n]? with
    | some (.lst _) => .ok (.live n) M1
    | _ => .bad
  | _ => .bad
theorem itOk_lst {G : Gd} {F : Hp} {r : List Addr} {a : Addr} {xs : List D} {vs : List V} (h : SqL G.K F a vs) (q : Reps G F r xs vs) (inj : ∀ H (ys : List V), SqL G.K H a vs → SqL G.K H a ys → True) : ItOk G F r (.imm xs) (Itl G.K a) := by
  intro F2 r2 R M H i s p S
  have hH : SqL G.K H a vs := (s.trans S.sub).sqL h
  show match some xs[i]? with
    | none => True
    | some none => (Itl G.K a).stop i H
    | some (some d) => _
  cases e : xs[i]? with
  | none => exact ⟨vs, hH, by rw [q.length]; exact List.getElem?_eq_none_iff.mp e⟩
  | some d =>
    obtain ⟨y, e1, e2⟩ := q.get e
    refine ⟨⟨vs, y, hH, e1⟩, fun x H' z => ?_⟩
    obtain ⟨rfl, z⟩ := z
    have := z vs hH
    rw [e1] at this
    cases this
    exact ⟨F2, Sub.refl _, S, e2.mono s p⟩
theorem itOk_tup {G : Gd} {F : Hp} {r : List Addr} {a : Addr} {xs : List D} {vs : List V} (h : SqT G.K F a vs) (q : Reps G F r xs vs) : ItOk G F r (.imm xs) (Itt G.K a) := by
  intro F2 r2 R M H i s p S
  have hH : SqT G.K H a vs := (s.trans S.sub).sqT h
  show match some xs[i]? with
    | none => True
    | some none => (Itt G.K a).stop i H
    | some (some d) => _
  cases e : xs[i]? with
  | none => exact ⟨vs, hH, by rw [q.length]; exact List.getElem?_eq_none_iff.mp e⟩
  | some d =>
    obtain ⟨y, e1, e2⟩ := q.get e
    refine ⟨⟨vs, y, hH, e1⟩, fun x H' z => ?_⟩
    obtain ⟨rfl, z⟩ := z
    have := z vs hH
    rw [e1] at this
    cases this
    exact ⟨F2, Sub.refl _, S, e2.mono s p⟩
theorem itOk_live {G : Gd} {F : Hp} {r : List Addr} {a : Addr} {n : Nat} (h : r[n]? = some a) : ItOk G F r (.live n) (Itl G.K a) := by
  intro F2 r2 R M H i s p S
  unfold Src.at_
  try simp only
  have ha : r2[n]? = some a := pre_get p h
  cases e : M[n]? with
  | none => trivial
  | some o =>
    cases o with
    | dct _ => trivial
    | ins _ _ => trivial
    | lst ys =>
      obtain ⟨vs, h1, h2⟩ := S.at_ n a _ ha e
      have hH : SqL G.K H a vs := SqL.of h1
      try simp only
      cases e2 : ys[i]? with
      | none => exact ⟨vs, hH, by rw [h2.length]; exact List.getElem?_eq_none_iff.mp e2⟩
      | some d =>
        obtain ⟨y, e3, e4⟩ := h2.get e2
        refine ⟨⟨vs, y, hH, e3⟩, fun x H' z => ?_⟩
        obtain ⟨rfl, z⟩ := z
        have := z vs hH
        rw [e3] at this
        cases this
        exact ⟨F2, Sub.refl _, S, e4.mono (Sub.refl _) (take_pre _ _)⟩
theorem PI.or {tg e : Expr} {t t' : TI} (h : PI X tg e t) (h' : PI X tg e t') : PI X tg e (fun σ H R => t σ H R ∨ t' σ H R) := ⟨fun pins s σ H R I q => q.elim (h.run pins s σ H R I) (h'.run pins s σ H R I)⟩
theorem evi_seq {tg e : Expr} {m : DE} (h : PE X e (tD X W m)) : PI X tg e (tI X W (mSeq m)) := by
  refine PI.imp (PI.or (pi_list h) (pi_tup h)) fun σ H Q hq => ?_
  obtain ⟨F, r, R, env, M, hE, hS, hp⟩ := hq
  unfold mSeq at hp
  cases em : m env M with
  | bad => rw [em] at hp; exact hp.elim
  | exc x M1 =>
    rw [em] at hp
    exact .inl ⟨F, r, R, env, M, hE, hS, by rw [em]; exact hp⟩
  | ok d M1 =>
    rw [em] at hp
    cases d with
    | tup xs =>
      refine .inr ⟨F, r, R, env, M, hE, hS, ?_⟩
      rw [em]
      intro F1 r1 H1 v s p S q
      rw [rep_tup] at q
      obtain ⟨a, vs, e1, q1, q2⟩ := q
      exact ⟨a, e1, ⟨vs, S.sub.tq q1⟩, hp F1 r1 H1 _ s p S (itOk_tup (SqT.of q1) q2)⟩
    | lst xs =>
      refine .inl ⟨F, r, R, env, M, hE, hS, ?_⟩
      rw [em]
      intro F1 r1 H1 v s p S q
      rw [rep_lst] at q
      obtain ⟨a, vs, e1, q1, q2⟩ := q
      exact ⟨a, e1, ⟨vs, (S.sub.lstR q1).sq⟩, hp F1 r1 H1 _ s p S (itOk_lst q1.sq q2 fun _ _ _ _ => trivial)⟩
    | ref n =>
      refine .inl ⟨F, r, R, env, M, hE, hS, ?_⟩
      rw [em]
      intro F1 r1 H1 v s p S q
      rw [rep_ref] at q
      obtain ⟨a, e1, e2⟩ := q
      have hp : (match M1[n]? with
        | some (.lst _) => Out.ok (Src.live n) M1
        | _ => .bad).post (OKx ItOk (gd X) F r R Q) (EXc (gd X) F r R W σ) := hp
      split at hp
      · rename_i ys e3
        obtain ⟨vs, h1, h2⟩ := S.at_ n a _ e1 e3
        exact ⟨a, e2, ⟨vs, SqL.of h1⟩, hp F1 r1 H1 _ s p S (itOk_live e1)⟩
      · exact hp.elim
    | _ => exact hp.elim
/-- the ints of a range -/
def rngD (lo : Int) (n : Nat) : List D := (List.range n).map fun (i : Nat) => .int (lo + i)
theorem rngD_get (lo : Int) (n i : Nat) : (rngD lo n)[i]? = if i < n then some (D.int (lo + i)) else none := by
  unfold rngD
  rw [List.getElem?_map]
  by_cases h : i < n
  · rw [if_pos h, List.getElem?_range h]; rfl
  · rw [if_neg h, List.getElem?_eq_none (by rw [List.length_range]; omega)]; rfl
theorem itOk_rng {G : Gd} {F : Hp} {r : List Addr} (lo : Int) (n : Nat) : ItOk G F r (.imm (rngD lo n)) (Itr lo n) := by
  intro F2 r2 R M H i s p S
  show match some (rngD lo n)[i]? with
    | none => True
    | some none => (Itr lo n).stop i H
    | some (some d) => _
  rw [rngD_get]
  by_cases h : i < n
  · rw [if_pos h]
    refine ⟨h, fun x H' z => ?_⟩
    obtain ⟨rfl, z⟩ := z
    exact ⟨F2, Sub.refl _, S, by rw [rep_int]; exact z⟩
  · rw [if_neg h]
    show n ≤ i
    omega
def big : Int := 1000000000000
def mRng1 (a : DA) : DI := fun env M => (a env M).bind fun xs M1 => match xs with
  | [.int j] => if -big ≤ j ∧ j ≤ big then .ok (.imm (rngD 0 j.toNat)) M1 else .bad
  | _ => .bad
def mRng2 (a : DA) : DI := fun env M => (a env M).bind fun xs M1 => match xs with
  | [.int i, .int j] => if -big ≤ i ∧ i ≤ big ∧ -big ≤ j ∧ j ≤ big then .ok (.imm (rngD i (j - i).toNat)) M1 else .bad
  | _ => .bad
theorem evi_range1 {tg a : Expr} {ma : DA} {p : Pos} (hg : Gl X "range") (hm : X.mg "range" = none) (ha : PA X [a] (tA X W ma)) (hs : starEach [a] X.env = [(false, eval a X.env)] := by rfl) : PI X tg (.Call (.Name "range" p) [a] [] pos) (tI X W (mRng1 ma)) := by
  refine PI.imp (pi_range1 hg hm ha hs) fun σ H Q hq => ?_
  obtain ⟨F, r, R, env, M, hE, hS, hp⟩ := hq
  refine tX.imp (tX.bind OKx.mono' hE hS hp) fun x H1 ⟨F1, r1, M1, ds, s1, p1, hE1, hS1, R1, hp1⟩ => ?_
  split at hp1
  · rename_i j
    obtain ⟨v, rfl, e⟩ := R1.inv1
    rw [rep_int] at e
    subst e
    split at hp1
    · rename_i hb
      unfold big at hb
      exact ⟨j, rfl, by omega, by omega, hp1 F1 r1 H1 _ (Sub.refl _) (List.prefix_refl _) hS1 (itOk_rng 0 _)⟩
    · exact hp1.elim
  · exact hp1.elim
theorem evi_range2 {tg a b : Expr} {ma : DA} {p : Pos} (hg : Gl X "range") (hm : X.mg "range" = none) (ha : PA X [a, b] (tA X W ma)) (hs : starEach [a, b] X.env = [(false, eval a X.env), (false, eval b X.env)] := by rfl) (hs2 : starEach [b] X.env = [(false, eval b X.env)] := by rfl) : PI X tg (.Call (.Name "range" p) [a, b] [] pos) (tI X W (mRng2 ma)) := by
  refine PI.imp (pi_range2 hg hm ha hs hs2) fun σ H Q hq => ?_
  obtain ⟨F, r, R, env, M, hE, hS, hp⟩ := hq
  refine tX.imp (tX.bind OKx.mono' hE hS hp) fun x H1 ⟨F1, r1, M1, ds, s1, p1, hE1, hS1, R1, hp1⟩ => ?_
  split at hp1
  · rename_i i j
    obtain ⟨v, w, rfl, e, e'⟩ := R1.inv2
    rw [rep_int] at e e'
    subst e e'
    split at hp1
    · rename_i hb
      unfold big at hb
      exact ⟨i, j, rfl, by omega, hp1 F1 r1 H1 _ (Sub.refl _) (List.prefix_refl _) hS1 (itOk_rng i _)⟩
    · exact hp1.elim
  · exact hp1.elim
end

/-! ### defs -/
abbrev DFn := List D → Sto → Out D
/-- what a call hands back: nothing young in it -/
def finP (k : Nat) (d : D) (M : Sto) : Out D := if below k d = true then .ok d (M.take k) else .bad
/-- every item, or none -/
def allD {α : Type} (f : α → Option α) : List α → Option (List α)
  | [] => some []
  | x :: xs => match f x with
    | none => none
    | some y => match allD f xs with
      | none => none
      | some ys => some (y :: ys)
def sndD {κ : Type} (f : D → Option D) (p : κ × D) : Option (κ × D) := match f p.2 with
  | none => none
  | some y => some (p.1, y)
/-- young objects frozen -/
def frz (M : Sto) (k : Nat) : Nat → D → Option D
  | 0, _ => none
  | f + 1, d => match d with
    | .tup xs => (allD (frz M k f) xs).map .tup
    | .lst xs => (allD (frz M k f) xs).map .lst
    | .dct kvs => (allD (sndD (frz M k f)) kvs).map .dct
    | .obj c fs => (allD (sndD (frz M k f)) fs).map (.obj c)
    | .dtu _ => none
    | .ref n => if n < k then some (.ref n) else match M[n]? with
      | some (.lst xs) => (allD (frz M k f) xs).map .lst
      | some (.dct kvs) => (allD (sndD (frz M k f)) kvs).map .dct
      | some (.ins c fs) => (allD (sndD (frz M k f)) fs).map (.obj c)
      | none => none
    | d => some d
/-- what a call hands back: young objects frozen -/
def finF (k : Nat) (d : D) (M : Sto) : Out D := match frz M k 9 d with
  | some d' => .ok d' (M.take k)
  | none => .bad
/-- what a call hands back: a young list, still to be changed, its items frozen -/
def finO (k : Nat) (d : D) (M : Sto) : Out D := match d with
  | .ref n => if n < k then .ok d (M.take k) else match M[n]? with
    | some (.lst xs) => (match allD (frz M k 8) xs with
      | some ys => if belows k ys = true then .ok (.ref k) (M.take k ++ [.lst ys]) else .bad
      | none => .bad)
    | _ => .bad
  | _ => .bad
/-- what the young objects were is frozen -/
noncomputable def fzH (F H : Hp) (l : List Addr) : Hp := fun a => open Classical in if a ∈ l then H a else F a
section
variable {G : Gd} {F H R : Hp} {r : List Addr} {M : Sto}
theorem fzH_in {l : List Addr} {a : Addr} (h : a ∈ l) : fzH F H l a = H a := by unfold fzH; rw [if_pos h]
theorem fzH_out {l : List Addr} {a : Addr} (h : a ∉ l) : fzH F H l a = F a := by unfold fzH; rw [if_neg h]
theorem StoR.fz (S : StoR G F r R M H) (k : Nat) (hk : Tbl.r.length ≤ k) {l : List Addr} (hl : ∀ a ∈ l, a ∈ r.drop k) : Sub F (fzH F H l) ∧ StoR G (fzH F H l) (r.take k) R (M.take k) H := by
  have hsub : Sub F (fzH F H l) := fun a o e => by
    rw [fzH_out]
    · exact e
    · intro hm
      have := S.fr a (List.mem_of_mem_drop (hl a hm))
      rw [e] at this
      cases this
  have C := S.cut k hk
  have apart : ∀ a, a ∈ r.take k → a ∉ l := fun a ha hm => by
    have hd := hl a hm
    have nd : (r.take k ++ r.drop k).Nodup := by rw [List.take_append_drop]; exact S.nd
    rw [List.nodup_append] at nd
    exact nd.2.2 a ha a hd rfl
  refine ⟨hsub, C.len, C.nd, fun a o e => ?_, C.res, fun a ha => ?_, C.rr, fun a o e => ?_, fun n a o h1 h2 => ?_, ⟨fun a u e => by
    by_cases hm : a ∈ l
    · rw [fzH_in hm] at e
      obtain ⟨n, hn⟩ := List.mem_iff_getElem?.mp (List.mem_of_mem_drop (hl a hm))
      obtain ⟨u0, h0, hk⟩ := S.okAt hn
      rw [h0] at e
      cases e
      exact hk
    · rw [fzH_out hm] at e; exact S.ax.nt a u e, S.ax.nr, S.ax.tb⟩, ⟨S.og.1.trans hsub, C.og.2⟩⟩
  · by_cases hm : a ∈ l
    · rw [fzH_in hm] at e; exact e
    · rw [fzH_out hm] at e; exact S.sub _ _ e
  · rw [fzH_out (apart a ha)]; exact C.fr a ha
  · have hm : a ∉ l := fun hm => by
      have := S.rr a (List.mem_of_mem_drop (hl a hm))
      rw [e] at this
      cases this
    rw [fzH_out hm]
    exact S.fx a o e
  · exact (C.at_ n a o h1 h2).mono hsub (List.prefix_refl _) fun u e => e
theorem allD_reps {f : D → Option D} {F' : Hp} {r r' : List Addr} (hf : ∀ d v d', Rep G F r d v → f d = some d' → Rep G F' r' d' v) : ∀ {xs ys : List D} {vs : List V}, Reps G F r xs vs → allD f xs = some ys → Reps G F' r' ys vs
  | [], ys, vs, h, e => by
    cases e
    cases h.inv0
    exact .nil
  | x :: xs, ys, vs, h, e => by
    unfold allD at e
    obtain ⟨v, w, rfl, a, b⟩ := h.inv
    cases e1 : f x with
    | none => rw [e1] at e; cases e
    | some y =>
      rw [e1] at e
      cases e2 : allD f xs with
      | none => rw [e2] at e; cases e
      | some zs =>
        rw [e2] at e
        cases e
        exact Reps.cons (hf _ _ _ a e1) (allD_reps hf b e2)
theorem allD_repK {f : D → Option D} {F' : Hp} {r r' : List Addr} (hf : ∀ d v d', Rep G F r d v → f d = some d' → Rep G F' r' d' v) : ∀ {xs ys : List (Key × D)} {vs : List (Key × V)}, RepK G F r xs vs → allD (sndD f) xs = some ys → RepK G F' r' ys vs
  | [], ys, vs, h, e => by
    cases e
    unfold RepK at h ⊢
    exact h
  | (k, x) :: xs, ys, vs, h, e => by
    unfold allD at e
    unfold RepK at h
    obtain ⟨v, w, rfl, a, b⟩ := h
    cases e1 : f x with
    | none => simp only [sndD, e1] at e; cases e
    | some y =>
      cases e2 : allD (sndD f) xs with
      | none => rw [e2] at e; simp only [sndD, e1] at e; cases e
      | some zs =>
        rw [e2] at e
        simp only [sndD, e1] at e
        cases e
        unfold RepK
        exact ⟨v, w, rfl, hf _ _ _ a e1, allD_repK hf b e2⟩
theorem allD_repF {f : D → Option D} {F' : Hp} {r r' : List Addr} (hf : ∀ d v d', Rep G F r d v → f d = some d' → Rep G F' r' d' v) : ∀ {xs ys : List (Str × D)} {vs : List (Str × V)}, RepF G F r xs vs → allD (sndD f) xs = some ys → RepF G F' r' ys vs
  | [], ys, vs, h, e => by
    cases e
    unfold RepF at h ⊢
    exact h
  | (k, x) :: xs, ys, vs, h, e => by
    unfold allD at e
    unfold RepF at h
    obtain ⟨v, w, rfl, a, b⟩ := h
    cases e1 : f x with
    | none => simp only [sndD, e1] at e; cases e
    | some y =>
      cases e2 : allD (sndD f) xs with
      | none => rw [e2] at e; simp only [sndD, e1] at e; cases e
      | some zs =>
        rw [e2] at e
        simp only [sndD, e1] at e
        cases e
        unfold RepF
        exact ⟨v, w, rfl, hf _ _ _ a e1, allD_repF hf b e2⟩
theorem frz_rep (S : StoR G F r R M H) (k : Nat) {F2 : Hp} (hs : Sub F F2) (hF2 : ∀ a ∈ r.drop k, F2 a = H a) : ∀ {f : Nat} {d d' : D} {v : V}, Rep G F r d v → frz M k f d = some d' → Rep G F2 (r.take k) d' v
  | 0, d, d', v, h, e => by cases e
  | f + 1, d, d', v, h, e => by
    have ih := fun d v d' => @frz_rep S k F2 hs hF2 f d d' v
    unfold frz at e
    cases d with
    | tup xs =>
      simp only at e
      obtain ⟨ys, e1, rfl⟩ := Option.map_eq_some_iff.mp e
      rw [rep_tup] at h ⊢
      obtain ⟨a, vs, ev, q, z⟩ := h
      exact ⟨a, vs, ev, hs _ _ q, allD_reps ih z e1⟩
    | lst xs =>
      simp only at e
      obtain ⟨ys, e1, rfl⟩ := Option.map_eq_some_iff.mp e
      rw [rep_lst] at h ⊢
      obtain ⟨a, vs, ev, q, z⟩ := h
      exact ⟨a, vs, ev, hs.lstR q, allD_reps ih z e1⟩
    | dct xs =>
      simp only at e
      obtain ⟨ys, e1, rfl⟩ := Option.map_eq_some_iff.mp e
      rw [rep_dct] at h ⊢
      obtain ⟨a, vs, ev, q, z⟩ := h
      exact ⟨a, vs, ev, hs _ _ q, allD_repK ih z e1⟩
    | obj c xs =>
      simp only at e
      obtain ⟨ys, e1, rfl⟩ := Option.map_eq_some_iff.mp e
      rw [rep_obj] at h ⊢
      obtain ⟨a, C, dx, vs, ev, m, q, z⟩ := h
      exact ⟨a, C, dx, vs, ev, m, hs _ _ q, allD_repF ih z e1⟩
    | ref n =>
      simp only at e
      rw [rep_ref] at h
      obtain ⟨a, ha, ev⟩ := h
      split at e
      · rename_i hn
        cases e
        rw [rep_ref]
        exact ⟨a, by rw [List.getElem?_take_of_lt hn]; exact ha, ev⟩
      · rename_i hn
        have hd : a ∈ r.drop k := by
          have : (r.drop k)[n - k]? = some a := by rw [List.getElem?_drop, show k + (n - k) = n by omega]; exact ha
          exact List.mem_of_getElem? this
        cases eo : M[n]? with
        | none => rw [eo] at e; cases e
        | some o =>
          rw [eo] at e
          have ob := S.at_ n a o ha eo
          cases o with
          | lst xs =>
            simp only at e
            obtain ⟨ys, e1, rfl⟩ := Option.map_eq_some_iff.mp e
            obtain ⟨vs, h1, h2⟩ := ob
            rw [rep_lst]
            exact ⟨a, vs, ev, LstR.of (by rw [hF2 a hd]; exact h1), allD_reps ih (h2.mono (Sub.refl _) (take_pre _ _)) e1⟩
          | dct xs =>
            simp only at e
            obtain ⟨ys, e1, rfl⟩ := Option.map_eq_some_iff.mp e
            obtain ⟨vs, h1, h2⟩ := ob
            rw [rep_dct]
            exact ⟨a, vs, ev, by rw [hF2 a hd]; exact h1, allD_repK ih (h2.mono (Sub.refl _) (take_pre _ _)) e1⟩
          | ins c xs =>
            simp only at e
            obtain ⟨ys, e1, rfl⟩ := Option.map_eq_some_iff.mp e
            obtain ⟨C, dx, vs, h0, h1, h2⟩ := ob
            rw [rep_obj]
            exact ⟨a, C, dx, vs, ev, h0, by rw [hF2 a hd]; exact h1, allD_repF ih (h2.mono (Sub.refl _) (take_pre _ _)) e1⟩
    | dtu xs => cases e
    | non => simp only at e; cases e; rw [rep_non] at h ⊢; exact h
    | bl b => simp only at e; cases e; rw [rep_bl] at h ⊢; exact h
    | int b => simp only at e; cases e; rw [rep_int] at h ⊢; exact h
    | str b => simp only at e; cases e; rw [rep_str] at h ⊢; exact h
    | ty b => simp only at e; cases e; rw [rep_ty] at h ⊢; exact h
    | cur _ => unfold Rep at h; exact h.elim
end
/-- how a call hands back -/
def FinOk (fin : Nat → D → Sto → Out D) : Prop := ∀ (G : Gd) (F : Hp) (r : List Addr) (R : Hp) (M : Sto) (H : Hp) (k : Nat) (d : D) (v : V) (P : D → Sto → Prop) (Y : Exn → Sto → Prop), Tbl.r.length ≤ k → StoR G F r R M H → Rep G F r d v → (fin k d M).post P Y →
  ∃ F2 r2 d2 M2, Sub F F2 ∧ r.take k <+: r2 ∧ StoR G F2 r2 R M2 H ∧ Rep G F2 r2 d2 v ∧ P d2 M2
theorem finP_ok : FinOk finP := fun G F r R M H k d v P Y h0 S q h => by
  unfold finP at h
  split at h
  · rename_i hb
    exact ⟨F, r.take k, d, M.take k, Sub.refl _, List.prefix_refl _, S.cut k h0, q.cut hb, h⟩
  · exact h.elim
theorem finF_ok : FinOk finF := fun G F r R M H k d v P Y h0 S q h => by
  unfold finF at h
  split at h
  · rename_i d' e
    obtain ⟨s, S'⟩ := S.fz k h0 (l := r.drop k) fun a ha => ha
    exact ⟨_, r.take k, d', M.take k, s, List.prefix_refl _, S', frz_rep S k s (fun a ha => fzH_in ha) q e, h⟩
  · exact h.elim
theorem finO_ok : FinOk finO := fun G F r R M H k d v P Y h0 S q h => by
  unfold finO at h
  cases d <;> first | exact h.elim | skip
  rename_i n
  simp only at h
  split at h
  · rename_i hn
    exact ⟨F, r.take k, .ref n, M.take k, Sub.refl _, List.prefix_refl _, S.cut k h0, q.cut (by unfold below; exact decide_eq_true hn), h⟩
  · rename_i hn
    split at h
    · rename_i xs eo
      split at h
      · rename_i ys e1
        split at h
        · rename_i hb
          rw [rep_ref] at q
          obtain ⟨a, ha, ev⟩ := q
          obtain ⟨vs, h1, h2⟩ := S.at_ n a _ ha eo
          -- all young but a frozen
          have hd : a ∈ r.drop k := by
            have : (r.drop k)[n - k]? = some a := by rw [List.getElem?_drop, show k + (n - k) = n by omega]; exact ha
            exact List.mem_of_getElem? this
          have hk : k ≤ n := by omega
          -- the items refer to what stands ahead of n
          obtain ⟨s, S'⟩ := S.fz k h0 (l := (r.take n).drop k) fun b hb => by
            rw [List.drop_take] at hb
            exact List.mem_of_mem_take hb
          have anl : a ∉ (r.take n).drop k := fun hm => by
            have hm' := List.mem_of_mem_drop hm
            obtain ⟨j, hj, ej⟩ := List.getElem_of_mem hm'
            rw [List.length_take] at hj
            have ej' : r[j]? = some a := by
              have : (r.take n)[j]? = some a := by rw [List.getElem?_eq_getElem (by rw [List.length_take]; omega), ej]
              rw [List.getElem?_take_of_lt (by omega)] at this
              exact this
            obtain ⟨l1, e1'⟩ := List.getElem?_eq_some_iff.mp ej'
            obtain ⟨l2, e2'⟩ := List.getElem?_eq_some_iff.mp ha
            have := (List.getElem_inj S.nd).mp (e1'.trans e2'.symm)
            omega
          have Sn := S.cut n (by omega)
          have hrep : Reps G (fzH F H ((r.take n).drop k)) (r.take k) ys vs := by
            have ih : ∀ d v d', Rep G F (r.take n) d v → frz M k 8 d = some d' → Rep G (fzH F H ((r.take n).drop k)) (r.take k) d' v := by
              -- references are below n
              have gen : ∀ (f : Nat) d v d', Rep G F (r.take n) d v → frz M k f d = some d' → frz (M.take n) k f d = some d' := by
                intro f
                induction f with
                | zero => intro d v d' _ e; cases e
                | succ f ih =>
                  intro d v d' q e
                  have il : ∀ {xs ys : List D} {vs : List V}, Reps G F (r.take n) xs vs → allD (frz M k f) xs = some ys → allD (frz (M.take n) k f) xs = some ys := by
                    intro xs
                    induction xs with
                    | nil => intro ys vs _ e; exact e
                    | cons x xs ihx =>
                      intro ys vs q e
                      obtain ⟨v, w, rfl, a, b⟩ := q.inv
                      unfold allD at e ⊢
                      cases e1 : frz M k f x with
                      | none => rw [e1] at e; cases e
                      | some y =>
                        rw [e1] at e
                        rw [ih _ _ _ a e1]
                        simp only at e ⊢
                        cases e2 : allD (frz M k f) xs with
                        | none => rw [e2] at e; cases e
                        | some zs =>
                          rw [e2] at e
                          rw [ihx b e2]
                          exact e
                  have iK : ∀ {xs ys : List (Key × D)} {vs : List (Key × V)}, RepK G F (r.take n) xs vs → allD (sndD (frz M k f)) xs = some ys → allD (sndD (frz (M.take n) k f)) xs = some ys := by
                    intro xs
                    induction xs with
                    | nil => intro ys vs _ e; exact e
                    | cons x xs ihx =>
                      intro ys vs q e
                      obtain ⟨kx, x⟩ := x
                      unfold RepK at q
                      obtain ⟨v, w, rfl, a, b⟩ := q
                      unfold allD at e ⊢
                      cases e1 : frz M k f x with
                      | none => simp only [sndD, e1] at e; cases e
                      | some y =>
                        have e1' := ih _ _ _ a e1
                        cases e2 : allD (sndD (frz M k f)) xs with
                        | none => rw [e2] at e; simp only [sndD, e1] at e; cases e
                        | some zs =>
                          rw [e2] at e
                          rw [ihx b e2]
                          simp only [sndD, e1] at e
                          simp only [sndD, e1']
                          exact e
                  have iF : ∀ {xs ys : List (Str × D)} {vs : List (Str × V)}, RepF G F (r.take n) xs vs → allD (sndD (frz M k f)) xs = some ys → allD (sndD (frz (M.take n) k f)) xs = some ys := by
                    intro xs
                    induction xs with
                    | nil => intro ys vs _ e; exact e
                    | cons x xs ihx =>
                      intro ys vs q e
                      obtain ⟨kx, x⟩ := x
                      unfold RepF at q
                      obtain ⟨v, w, rfl, a, b⟩ := q
                      unfold allD at e ⊢
                      cases e1 : frz M k f x with
                      | none => simp only [sndD, e1] at e; cases e
                      | some y =>
                        have e1' := ih _ _ _ a e1
                        cases e2 : allD (sndD (frz M k f)) xs with
                        | none => rw [e2] at e; simp only [sndD, e1] at e; cases e
                        | some zs =>
                          rw [e2] at e
                          rw [ihx b e2]
                          simp only [sndD, e1] at e
                          simp only [sndD, e1']
                          exact e
                  unfold frz at e ⊢
                  cases d with
                  | tup xs =>
                    simp only at e ⊢
                    rw [rep_tup] at q
                    obtain ⟨_, vs, _, _, z⟩ := q
                    obtain ⟨ys, e1, e2⟩ := Option.map_eq_some_iff.mp e
                    rw [il z e1, ← e2]
                    rfl
                  | lst xs =>
                    simp only at e ⊢
                    rw [rep_lst] at q
                    obtain ⟨_, vs, _, _, z⟩ := q
                    obtain ⟨ys, e1, e2⟩ := Option.map_eq_some_iff.mp e
                    rw [il z e1, ← e2]
                    rfl
                  | dct xs =>
                    simp only at e ⊢
                    rw [rep_dct] at q
                    obtain ⟨_, vs, _, _, z⟩ := q
                    obtain ⟨ys, e1, e2⟩ := Option.map_eq_some_iff.mp e
                    rw [iK z e1, ← e2]
                    rfl
                  | obj c xs =>
                    simp only at e ⊢
                    rw [rep_obj] at q
                    obtain ⟨_, _, _, vs, _, _, _, z⟩ := q
                    obtain ⟨ys, e1, e2⟩ := Option.map_eq_some_iff.mp e
                    rw [iF z e1, ← e2]
                    rfl
                  | ref j =>
                    simp only at e ⊢
                    rw [rep_ref] at q
                    obtain ⟨b, hb, _⟩ := q
                    have hj : j < n := by
                      have := (List.getElem?_eq_some_iff.mp hb).1
                      rw [List.length_take] at this
                      omega
                    rw [List.getElem?_take_of_lt hj] at hb
                    split at e
                    · rename_i hjk
                      rw [if_pos hjk]
                      exact e
                    · rename_i hjk
                      rw [if_neg hjk]
                      rw [List.getElem?_take_of_lt hj]
                      cases eo : M[j]? with
                      | none => rw [eo] at e; cases e
                      | some o =>
                        rw [eo] at e
                        have ob := S.at_ j b o hb eo
                        have pre : r.take j <+: r.take n := by
                          have : r.take j = (r.take n).take j := by rw [List.take_take, Nat.min_eq_left (Nat.le_of_lt hj)]
                          rw [this]
                          exact List.take_prefix _ _
                        cases o with
                        | lst xs =>
                          simp only at e ⊢
                          obtain ⟨vs, h1, h2⟩ := ob
                          obtain ⟨ys, e1, e2⟩ := Option.map_eq_some_iff.mp e
                          rw [il (h2.mono (Sub.refl _) pre) e1, ← e2]
                          rfl
                        | dct xs =>
                          simp only at e ⊢
                          obtain ⟨vs, h1, h2⟩ := ob
                          obtain ⟨ys, e1, e2⟩ := Option.map_eq_some_iff.mp e
                          rw [iK (h2.mono (Sub.refl _) pre) e1, ← e2]
                          rfl
                        | ins c xs =>
                          simp only at e ⊢
                          obtain ⟨_, _, vs, _, h1, h2⟩ := ob
                          obtain ⟨ys, e1, e2⟩ := Option.map_eq_some_iff.mp e
                          rw [iF (h2.mono (Sub.refl _) pre) e1, ← e2]
                          rfl
                  | dtu xs => cases e
                  | non => exact e
                  | bl b => exact e
                  | int b => exact e
                  | str b => exact e
                  | ty b => exact e
                  | cur _ => exact e
              intro d v d' q e
              have := frz_rep Sn k (F2 := fzH F H ((r.take n).drop k)) s (fun b hb => fzH_in hb) q (gen 8 d v d' q e)
              rw [List.take_take, Nat.min_eq_left hk] at this
              exact this
            exact allD_reps ih h2 e1
          refine ⟨_, r.take k ++ [a], D.ref k, M.take k ++ [Ob.lst ys], s, List.prefix_append _ _, ?_, ?_, h⟩
          · have hlen : (r.take k).length = k := by
              rw [List.length_take]
              have := (List.getElem?_eq_some_iff.mp ha).1
              omega
            have hr : a ∉ r.take k := fun hm => by
              have nd : (r.take k ++ r.drop k).Nodup := by rw [List.take_append_drop]; exact S.nd
              rw [List.nodup_append] at nd
              exact nd.2.2 a hm a hd rfl
            have hF : fzH F H ((r.take n).drop k) a = none := by rw [fzH_out anl]; exact S.fr a (List.mem_of_mem_drop hd)
            have hR : R a = none := S.rr a (List.mem_of_mem_drop hd)
            refine ⟨by rw [List.length_append, List.length_append, S'.len]; rfl, ?_, S'.sub, S'.res, fun b hb => ?_, fun b hb => ?_, S'.fx, fun j b o' j1 j2 => ?_, S'.ax, ⟨S'.og.1, S'.og.2.trans (List.prefix_append _ _)⟩⟩
            · rw [List.nodup_append]
              refine ⟨S'.nd, by simp, fun b hb c hc => ?_⟩
              have : c = a := by simpa using hc
              subst this
              exact fun z => hr (by rw [← z]; exact hb)
            · rcases List.mem_append.mp hb with z | z
              · exact S'.fr b z
              · have : b = a := by simpa using z
                rw [this]; exact hF
            · rcases List.mem_append.mp hb with z | z
              · exact S'.rr b z
              · have : b = a := by simpa using z
                rw [this]; exact hR
            · by_cases hj : j < (r.take k).length
              · rw [List.getElem?_append_left hj] at j1
                rw [List.getElem?_append_left (by rw [S'.len]; exact hj)] at j2
                rw [List.take_append_of_le_length (Nat.le_of_lt hj)]
                exact S'.at_ j b o' j1 j2
              · have hl : j < (r.take k ++ [a]).length := (List.getElem?_eq_some_iff.mp j1).1
                rw [List.length_append] at hl
                have hn' : j = (r.take k).length := by
                  have : [a].length = 1 := rfl
                  omega
                subst hn'
                rw [List.getElem?_append_right (Nat.le_refl _), Nat.sub_self] at j1
                rw [List.getElem?_append_right (by rw [S'.len]; exact Nat.le_refl _), S'.len, Nat.sub_self] at j2
                simp at j1 j2
                subst j1 j2
                rw [List.take_append_of_le_length (Nat.le_refl _), List.take_length]
                exact ⟨vs, h1, hrep⟩
          · rw [rep_ref]
            refine ⟨a, ?_, ev⟩
            have hlen : (r.take k).length = k := by
              rw [List.length_take]
              have := (List.getElem?_eq_some_iff.mp ha).1
              omega
            rw [List.getElem?_append_right (by omega), hlen, Nat.sub_self]
            rfl
        · exact h.elim
      · exact h.elim
    · exact h.elim
end EV
set_option maxHeartbeats 4000000
namespace EV
open PySem PySem.Spec PyProof.Rows L2
variable [Tbl]

/-- a def's promise where no repr is under way -/
structure FnG (P : Program) (w : World) (K : PySem.W.Frag) (mg : Str → Option Value) (base : Heap) (CX : CXT) (k : Nat) (f : Addr) (fd : FuncData) (ps : List Str) (sp : Sp) : Prop where
  len : ∀ vs H Q E, sp vs H Q E → vs.length = ps.length
  run : ∀ (A : Around) (outer : List Env) (s : Shared) (H : Hp) (args : Args) (us : List Value) (vs : List V) (Q : VK) (E : XK),
    Room k A → A.guards = some [] → Env0 P w K mg base A outer s H → BindsTo s fd args (ps.zip us) → Vals vs us → sp vs H Q E →
      codeAny (model P w) A (.call (.ref f) args) (CR CX outer P w H s Q E) s
section
variable {P : Program} {w : World} {K : PySem.W.Frag} {mg : Str → Option Value} {base : Heap} {CX : CXT} {f : Addr} {fd : FuncData} {ps : List Str} {sp : Sp}
theorem FnG.mono {j k : Nat} (g : FnG P w K mg base CX j f fd ps sp) (h : j ≤ k) : FnG P w K mg base CX k f fd ps sp where
  len := g.len
  run := fun A outer s H args us vs Q E hr => g.run A outer s H args us vs Q E (hr.mono h)
/-- a def by its body -/
theorem fnG_of {k : Nat} {name qual : Str} {params : Arguments} {body : List Stmt} {scope : Scope} {dV kV doc pm cdv ct oc : Value} {an od : Option Addr} {osl : Array (Option Value)} {N : List Str}
    (lk : K.lookup f = some ⟨oc, od, .func (PySem.W.fnOf name qual params body scope dV kV doc pm an cdv ct), osl⟩) (hcd : PySem.W.codeIn K cdv qual = true) (S : FnScope N ps scope) (len : ∀ vs H Q E, sp vs H Q E → vs.length = ps.length)
    (hbody : ∀ (A : Around) (outer : List Env) (s : Shared) (H : Hp) (vs : List V) (Q : VK) (E : XK), Room k (A.deeper (envOfC qual scope s.heap.objs.size f cdv)) → A.guards = some [] → sp vs H Q E →
      ∃ t, PSs (cxOf CX P w K mg base N qual scope f cdv A outer s H E) body t ∧ t { nx := fun _ H' => Q .non H', rt := Q } (start N vs) H) :
    FnG P w K mg base CX (k + 1) f (PySem.W.fnOf name qual params body scope dV kV doc pm an cdv ct) ps sp := by
  refine ⟨len, fun A outer s H args us vs Q E hr hgd e0 hb r hsp => ?_⟩
  have vlen := len _ _ _ _ hsp
  have inK : K.In s.heap := e0.mod.kin.keeps fun b o e => (e0.bs b o e).1
  have nolim : s.heap.NoLimit := e0.mod.nolimit.keeps fun b o e => (e0.bs b o e).1
  have kinds : ∀ y ∈ ps.zip us, scope.names.lookup y.1 = some .local ∨ (scope.names.lookup y.1 = some .cell ∧ ((cellsFrom (s.heap.objs.size + 1) scope.names []).lookup y.1).isSome = true) := by
    rintro ⟨n, v⟩ hy
    rcases S.par n (List.of_mem_zip hy).1 with q | q
    · exact .inl q
    · exact .inr ⟨q, PySem.W.cellsFrom_some _ _ _ (.inl q)⟩
  refine codeAny_call_function hr.depth (inK _ _ lk) rfl S.co S.gen rfl (PySem.W.codeRec_of inK hcd) (hb _ _ _ _ ?_)
  refine wpAny_newFunctionEnv_cells S.kind kinds fun env ee s1 x => ?_
  subst ee
  refine ⟨nolim.keeps x.toInCall.keep, codeAny_func ?_⟩
  obtain ⟨t, ht, hq⟩ := hbody A outer s H vs Q E (hr.deeper _) hgd hsp
  have I0 : Inv (cxOf CX P w K mg base N qual scope f cdv A outer s H E) [] (start N vs) H s1 := inv_start S hr.hd e0 vlen r x
  refine wpAny_mono (ht.run [] s1 (start N vs) H _ I0 hq) ?_ (fun e s' hs => hs)
  intro fl s' hs
  cases fl with
  | ret u => obtain ⟨v, σ', H', J, rv, q⟩ := hs; exact ⟨v, H', J.os, J.bare, J.base, J.hok, rv, q⟩
  | next => obtain ⟨σ', H', J, q⟩ := hs; exact ⟨V.non, H', J.os, J.bare, J.base, J.hok, rfl, q⟩
  | brk => obtain ⟨_, _, _, q⟩ := hs; exact q.elim
  | cont => obtain ⟨_, _, _, q⟩ := hs; exact q.elim
end

/-! ### plain defs -/
/-- an error that leaves a def -/
def excP (k : Nat) (e : Exn) (M : Sto) : Out D := match allD (sndD (frz M k 9)) e.fs with
  | some fs => .exc ⟨e.c, fs⟩ (M.take k)
  | none => .bad
/-- a def of n parameters and N names, by its body -/
def fnD (n N : Nat) (fin : Nat → D → Sto → Out D) (b : DS) : DFn := fun ds M => if ds.length = n then (match b (ds.map some ++ List.replicate (N - n) none) M with
  | .rt d M' => fin M.length d M'
  | .nx _ M' => fin M.length .non M'
  | .exc e _ M' => excP M.length e M'
  | _ => .bad) else .bad
def XCc (G : Gd) (F : Hp) (r : List Addr) (R : Hp) (E : XK) (e : Exn) (M' : Sto) : Prop := ∀ F' r' H' cls d, Sub F F' → r <+: r' → StoR G F' r' R M' H' → ExR G F' r' e cls d → E cls d H'
theorem XCc.mono {G : Gd} {F F' : Hp} {r r' : List Addr} {R : Hp} {E : XK} {e : Exn} {M : Sto} (s : Sub F F') (p : r <+: r') (h : XCc G F r R E e M) : XCc G F' r' R E e M :=
  fun F2 r2 H2 b d s2 p2 S q => h F2 r2 H2 b d (s.trans s2) (p.trans p2) S q
/-- the promise of a plain function -/
def spD (G : Gd) (n : Nat) (Fn : DFn) : Sp := fun vs H Q E => vs.length = n ∧ ∃ F r R M ds, Reps G F r ds vs ∧ StoR G F r R M H ∧ (Fn ds M).post (OKx Rep G F r R Q) (XCc G F r R E)
/-- the same where no error comes out -/
def spD0 (G : Gd) (n : Nat) (Fn : DFn) : Sp := fun vs H Q _ => vs.length = n ∧ ∃ F r R M ds, Reps G F r ds vs ∧ StoR G F r R M H ∧ (Fn ds M).post (OKx Rep G F r R Q) fun _ _ => False
theorem start_env {G : Gd} {F : Hp} {r : List Addr} {ds : List D} {vs : List V} {N : List Str} {n : Nat} (h : Reps G F r ds vs) (hl : ds.length = n) (hN : n ≤ N.length) : EnvR G F r (ds.map some ++ List.replicate (N.length - n) none) (L2.start N vs) := by
  have e1 := h.length
  unfold L2.start
  refine ⟨by rw [List.length_append, List.length_append, List.length_map, List.length_map, List.length_replicate, List.length_replicate]; omega, fun i d e => ?_⟩
  by_cases hi : i < ds.length
  · rw [List.getElem?_append_left (by rw [List.length_map]; exact hi), List.getElem?_map] at e
    obtain ⟨x, hx, e⟩ := Option.map_eq_some_iff.mp e
    cases e
    obtain ⟨y, hy, ry⟩ := h.get hx
    refine ⟨y, ?_, .of ry⟩
    rw [List.getElem?_append_left (by rw [List.length_map]; omega), List.getElem?_map, hy]
    rfl
  · rw [List.getElem?_append_right (by rw [List.length_map]; omega), List.getElem?_replicate] at e
    split at e <;> cases e
theorem post_fn {G : Gd} {F : Hp} {r : List Addr} {R : Hp} {M : Sto} {H : Hp} {n N : Nat} {fin : Nat → D → Sto → Out D} {b : DS} {ds : List D} {Q : VK} {E : XK} (hfin : FinOk fin) (S : StoR G F r R M H)
    (h : (fnD n N fin b ds M).post (OKx Rep G F r R Q) (XCc G F r R E)) :
    ds.length = n ∧ (b (ds.map some ++ List.replicate (N - n) none) M).post (wsh G F r R (fun cls d _ H => E cls d H) { nx := fun _ H' => Q .non H', rt := Q }) := by
  have hk0 : Tbl.r.length ≤ M.length := by rw [S.len]; exact S.og.2.length_le
  unfold fnD at h
  split at h
  · rename_i hn
    refine ⟨hn, ?_⟩
    have cut : ∀ {r' : List Addr}, r <+: r' → r'.take M.length = r := fun {r'} p => by
      obtain ⟨t, rfl⟩ := p
      rw [S.len, List.take_append_of_le_length (Nat.le_refl _), List.take_length]
    split at h
    · rename_i d M' e
      rw [e]
      intro F' r' H' v s p S' q
      obtain ⟨F2, r2, d2, M2, s2, p2, S2, q2, hq⟩ := hfin G F' r' R M' H' M.length d v _ _ hk0 S' q h
      rw [cut p] at p2
      exact hq F2 r2 H' v (s.trans s2) p2 S2 q2
    · rename_i env' M' e
      rw [e]
      intro F' r' H' σ' s p hE S'
      obtain ⟨F2, r2, d2, M2, s2, p2, S2, q2, hq⟩ := hfin G F' r' R M' H' M.length .non .non _ _ hk0 S' (by rw [rep_non]) h
      rw [cut p] at p2
      exact hq F2 r2 H' .non (s.trans s2) p2 S2 q2
    · rename_i x env' M' e
      rw [e]
      intro F' r' H' σ' cls d s p hE S' hx
      unfold excP at h
      split at h
      · rename_i fs ef
        obtain ⟨s2, S2⟩ := S'.fz M.length hk0 (l := r'.drop M.length) fun a ha => ha
        rw [cut p] at S2
        refine h _ r H' cls d (s.trans s2) (List.prefix_refl _) S2 ?_
        obtain ⟨C, h1, h2, h3⟩ := hx
        refine ⟨C, h1, h2, ?_⟩
        cases d with
        | none =>
          have h3 : x.fs = [] := h3
          rw [h3] at ef
          cases ef
          rfl
        | some dx =>
          obtain ⟨vfs, h4, h5⟩ := h3
          refine ⟨vfs, s2 _ _ h4, ?_⟩
          have := allD_repF (F' := fzH F' H' (r'.drop M.length)) (r' := r'.take M.length) (fun d v d' q e => frz_rep S' M.length s2 (fun a ha => fzH_in ha) q e) h5 ef
          rw [cut p] at this
          exact this
      · exact h.elim
    · exact h.elim
  · exact h.elim
section
variable {P : Program} {w : World} {K : PySem.W.Frag} {mg : Str → Option Value} {base : Heap}
/-- a def of the text that lets no error out keeps its plain promise -/
theorem fnD_ok {x qual : Str} {st : Stmt} {f : Addr} {fd : FuncData} {N ps : List Str} {k : Nat} {fin : Nat → D → Sto → Out D} {b : DS} (hfin : FinOk fin) (T : L2.Fun K x qual st f fd) (S : FnScope N ps (defScope st))
    (hb : ∀ (cdv : Value) (A : Around) (outer : List Env) (s : Shared) (H : Hp) (E : XK), Room k (A.deeper (envOfC qual (defScope st) s.heap.objs.size f cdv)) → A.guards = some [] →
      PSs (cxOf CX0 P w K mg base N qual (defScope st) f cdv A outer s H E).nox (defBody st) (tS (cxOf CX0 P w K mg base N qual (defScope st) f cdv A outer s H E).nox W0 b)) :
    FnG P w K mg base CX0 (k + 1) f fd ps (spD0 ⟨K, mg⟩ ps.length (fnD ps.length N.length fin b)) := by
  obtain ⟨oc, od, kV, doc, pm, an, cdv, ct, osl, rfl, lk, hcd⟩ := T.ex
  have hle : ps.length ≤ N.length := by
    have := congrArg List.length S.pre
    rw [List.length_take] at this
    omega
  refine fnG_of lk hcd S (fun vs H Q E h => h.1) fun A outer s H vs Q E hr hgd hsp => ?_
  refine ⟨_, (hb cdv A outer s H E hr hgd).nox, ?_⟩
  obtain ⟨_, F, r, R, M, ds, q, Sg, hp⟩ := hsp
  obtain ⟨hl, hpost⟩ := post_fn (E := fun _ _ _ => False) hfin Sg (Out.post_imp hp (fun _ _ z => z) fun _ _ z => z.elim)
  exact ⟨F, r, R, ds.map some ++ List.replicate (N.length - ps.length) none, M, start_env q hl hle, Sg, hpost⟩
/-- a def at a global name -/
structure FnAt (P : Program) (w : World) (K : PySem.W.Frag) (mg : Str → Option Value) (base : Heap) (k : Nat) (x : Str) (n : Nat) (Fn : DFn) : Prop where
  at_ : ∃ f fd ps, mg x = some (.ref f) ∧ PySem.W.keepIn K (.ref f) = true ∧ Binds K fd ps [] ∧ ps.length = n ∧ FnG P w K mg base CX0 k f fd ps (spD0 ⟨K, mg⟩ n Fn)
  ar : ∀ ds M, ds.length ≠ n → Fn ds M = .bad
theorem FnAt.mono {j k : Nat} {x : Str} {n : Nat} {Fn : DFn} (h : FnAt P w K mg base j x n Fn) (hk : j ≤ k) : FnAt P w K mg base k x n Fn :=
  let ⟨f, fd, ps, a, b, c, d, e⟩ := h.at_
  ⟨⟨f, fd, ps, a, b, c, d, e.mono hk⟩, h.ar⟩
theorem FnAt.mk' {x y qual : Str} {st : Stmt} {f : Addr} {fd : FuncData} {N ps : List Str} {k : Nat} {fin : Nat → D → Sto → Out D} {b : DS} (hfin : FinOk fin) (T : L2.Fun K y qual st f fd) (hm : mg x = some (.ref f)) (hbi : Binds K fd ps []) (S : FnScope N ps (defScope st))
    (hb : ∀ (cdv : Value) (A : Around) (outer : List Env) (s : Shared) (H : Hp) (E : XK), Room k (A.deeper (envOfC qual (defScope st) s.heap.objs.size f cdv)) → A.guards = some [] →
      PSs (cxOf CX0 P w K mg base N qual (defScope st) f cdv A outer s H E).nox (defBody st) (tS (cxOf CX0 P w K mg base N qual (defScope st) f cdv A outer s H E).nox W0 b)) : FnAt P w K mg base (k + 1) x ps.length (fnD ps.length N.length fin b) :=
  ⟨⟨f, fd, ps, hm, T.kp, hbi, rfl, fnD_ok hfin T S hb⟩, fun ds M h => by unfold fnD; rw [if_neg h]⟩
end
/-! ### calls -/
def mCall (Fn : DFn) (as : DA) : DE := fun env M => (as env M).bind fun ds M1 => noExc (Fn ds M1)
section
variable {X : Cx} {W : EXK} {pos p : Pos} {x : Str} {n k : Nat} {Fn : DFn} {e : Expr} {es : List Expr} {mas : DA}
theorem run_fnG {f : Addr} {fd : FuncData} {ps : List Str} {pins : List (Addr × Obj)} {σ : L2.St} {H : Hp} {s : Shared} {Q : VK} {us : List Value} {vs : List V} (F : FnG X.prog X.w X.K X.mg X.base CX0 k f fd ps (spD0 (gd X) n Fn)) (hr : Room k X.A) (hgd : X.A.guards = some []) (hb : Binds X.K fd ps [])
    (I : Inv X pins σ H s) (r : Vals vs us) (h : spD0 (gd X) n Fn vs H Q fun _ _ _ => False) : wpAny (model X.prog X.w) X.A (call (.ref f) us) (EP X pins σ Q) X.xe s := by
  have hl : us.length = ps.length := by rw [← r.length]; exact F.len _ _ _ _ h
  have hb' := hb s us I.kIn (by rw [List.append_nil]; exact hl)
  rw [List.append_nil] at hb'
  refine wpAny_call (codeAny_mono (F.run X.A X.stack s H ⟨us, []⟩ us vs Q _ hr hgd I.env0 hb' r h) fun res s' hq => ?_)
  cases res with
  | error e => exact False.elim hq
  | ok fl =>
    cases fl with
    | ret u => exact I.after hq
    | next => exact False.elim hq
    | brk => exact False.elim hq
    | cont => exact False.elim hq
theorem FnAt.len (F : FnAt X.prog X.w X.K X.mg X.base k x n Fn) {ds : List D} {M : Sto} {P : D → Sto → Prop} {Y : Exn → Sto → Prop} (h : (Fn ds M).post P Y) : ds.length = n := by
  by_cases hl : ds.length = n
  · exact hl
  · rw [F.ar ds M hl] at h
    exact h.elim
theorem ev_call (F : FnAt X.prog X.w X.K X.mg X.base k x n Fn) (hr : Room k X.A) (hgd : X.A.guards = some []) (hg : Gl X x) (ha : PA X (e :: es) (tA X W mas)) (hdb : (x == ("__debug__" : Str)) = false := by decide)
    (he : starEach (e :: es) X.env = (false, eval e X.env) :: starEach es X.env := by rfl) (hpl : (backTo pos (starEach es X.env)).any (·.1) = false := by rfl) :
    PE X (.Call (.Name x p) (e :: es) [] pos) (tD X W (mCall Fn mas)) := by
  obtain ⟨f, fd, ps, hm, hk, hb, hps, G⟩ := F.at_
  refine ⟨fun pins s σ H Q I h => ?_⟩
  obtain ⟨F0, r, R, env, M, hE, hS, hp⟩ := h
  refine wpAny_Call_Name_kw (ld_glob I hg hm ?_ hdb)
  refine PySem.W.callWith_K (h₀ := X.base) I.ok.mod.kin hk (thn (ha.run pos pins s σ H _ I (tX.bind OKx.mono' hE hS hp)) fun us s1 ⟨vs, H1, I1, r1, q⟩ => ⟨I1.kIn, ?_⟩) he hpl
  obtain ⟨F1, r1', M1, ds, s1', p1, hE1, hS1, R1, hp1⟩ := q
  have hps2 := noExc_post hp1
  exact run_fnG G hr hgd hb I1 r1 ⟨by rw [R1.length]; exact F.len hps2, F1, r1', R, M1, ds, R1, hS1, hps2⟩
def mCall0 (Fn : DFn) : DE := fun _ M => noExc (Fn [] M)
theorem ev_call0 (F : FnAt X.prog X.w X.K X.mg X.base k x n Fn) (hr : Room k X.A) (hgd : X.A.guards = some []) (hg : Gl X x) (hdb : (x == ("__debug__" : Str)) = false := by decide) : PE X (.Call (.Name x p) [] [] pos) (tD X W (mCall0 Fn)) := by
  obtain ⟨f, fd, ps, hm, hk, hb, hps, G⟩ := F.at_
  refine ⟨fun pins s σ H Q I h => ?_⟩
  obtain ⟨F0, r, R, env, M, hE, hS, hp⟩ := h
  refine wpAny_Call_Name_kw (ld_glob I hg hm ?_ hdb)
  have hps2 := noExc_post hp
  exact PySem.W.callWith_K0 I.kIn hk (run_fnG (us := []) (vs := []) G hr hgd hb I .nil ⟨F.len hps2, F0, r, R, M, [], .nil, hS, hps2⟩)
end
/-! ### the law's end -/
/-- what the law's def has to show -/
def spLaw (K : PySem.W.Frag) : Sp := fun vs H Q _ => ∃ (a : Addr) (ns : List Int), vs = [.ref a] ∧ LamX.Tabs Tbl.T H ∧ LstR K H a (ns.map V.int) ∧ ns.length ≤ 63 ∧ ∀ H', Q (.bl true) H'
theorem reps_ints (G : Gd) (F : Hp) (r : List Addr) : ∀ ns : List Int, Reps G F r (ns.map D.int) (ns.map V.int)
  | [] => .nil
  | n :: ns => .cons (by rw [rep_int]) (reps_ints G F r ns)
/-- the part of a heap that may be frozen -/
def okPart (H : Hp) : Hp := fun a => match H a with
  | some u => if okF u = true then some u else none
  | none => none
theorem okPart_sub (H : Hp) : Sub (okPart H) H := fun a o e => by
  unfold okPart at e
  cases q : H a with
  | none => rw [q] at e; cases e
  | some u =>
    rw [q] at e
    simp only at e
    split at e
    · cases e; rfl
    · cases e
theorem okPart_ok (H : Hp) : ∀ a u, okPart H a = some u → okF u = true := fun a u e => by
  unfold okPart at e
  cases q : H a with
  | none => rw [q] at e; cases e
  | some v =>
    rw [q] at e
    simp only at e
    split at e
    · rename_i h; cases e; exact h
    · cases e
theorem okPart_of {H : Hp} {a : Addr} {u : HO} (e : H a = some u) (h : okF u = true) : okPart H a = some u := by
  unfold okPart
  rw [e]
  simp only
  rw [if_pos h]
theorem sp_of {K : PySem.W.Frag} {mg : Str → Option Value} {Fn : DFn} (o1 : Tbl.F = fun _ => none) (o2 : Tbl.r = []) (o3 : Tbl.C = []) (h : ∀ ns : List Int, ns.length ≤ 63 → ∃ M, Fn [.lst (ns.map D.int)] [] = .ok (.bl true) M) {vs : List V} {H : Hp} {Q : VK} {E : XK} (q : spLaw K vs H Q E) : spD0 ⟨K, mg⟩ 1 Fn vs H Q E := by
  obtain ⟨a, ns, rfl, hT, hS, hl, hq⟩ := q
  obtain ⟨M, e⟩ := h ns hl
  refine ⟨rfl, okPart H, [], fun _ => none, [], [.lst (ns.map D.int)], .cons ?_ .nil, ⟨rfl, List.nodup_nil, okPart_sub H, (fun (a : Addr) (o : HO) (z : none = some o) => (by cases z)), (fun (a : Addr) (z : a ∈ []) => (by cases z)), (fun (a : Addr) (z : a ∈ []) => (by cases z)), (fun (a : Addr) (o : HO) (z : none = some o) => (by cases z)), (fun n a o z => (by simp at z)), ⟨okPart_ok H, ⟨(fun (a : Addr) (u : HO) (z : none = some u) => (by cases z)), (fun c z => by rw [o3] at z; cases z)⟩, hT⟩, ⟨(by rw [o1]; exact (fun a o (z : none = some o) => (by cases z))), (by rw [o2]; exact List.prefix_refl _)⟩⟩, ?_⟩
  · rw [rep_lst]
    refine ⟨a, _, rfl, ?_, reps_ints _ _ _ ns⟩
    rcases hS with hS | hS
    · left
      rcases hS with hS | ⟨o, hS⟩
      · exact .inl (okPart_of hS rfl)
      · exact .inr ⟨o, okPart_of hS rfl⟩
    · exact .inr hS
  · rw [e]
    intro F' r' H' v _ _ _ hv
    rw [rep_bl] at hv
    rw [hv]
    exact hq H'
/-- the tables at the law's begin: the code objects with their tables -/
structure TabsAt (K : PySem.W.Frag) (h : Heap) (cs : List (Addr × Addr)) : Prop where
  emp : ∀ p, p ∈ cs → h.get? p.2 = some { cls := .none, data := .fields #[] }
  notK : ∀ p, p ∈ cs → K.lookup p.2 = none
  hd : ∀ p, p ∈ cs → PySem.W.CodeHd h p.1 p.2
/-- the table of modules is a dict -/
def SysB (h : Heap) : Prop := ∃ o es n, h.get? sysModules = some o ∧ o.data = .dict es n
/-- every table that is tracked is one of these -/
def TblIn (cs : List (Addr × Addr)) : Prop := ∀ p ∈ Tbl.T, p.1 ∈ cs.map (·.2)
theorem law_callG {P : Program} {w : World} {K : PySem.W.Frag} {mg mb : Str → Option Value} {k : Nat} {fa a : Addr} {fd : FuncData} {x : Str} {Fn : DFn} {s₁ : Shared} {vs : List Value} {ns : List Int} {cs : List (Addr × Addr)}
    (inK : K.In s₁.heap) (hns : s₁.heap.Ns mainGlobals mg) (hb : s₁.heap.Ns builtinsNs mb) (hbb : ∀ x : Str, x ≠ "__name__" → mb x = bootBuiltins x) (hlim : s₁.heap.NoLimit) (hg : s₁.gens = #[])
    (o1 : Tbl.F = fun _ => none) (o2 : Tbl.r = []) (o3 : Tbl.C = []) (TA : TabsAt K s₁.heap cs) (hin : TblIn cs) (hsys : SysB s₁.heap) (hmod : ∃ (y : Addr) (oy : Obj), mg "__builtins__" = some (.ref y) ∧ y ≠ builtinsNs ∧ s₁.heap.get? y = some oy ∧ oy.cls = .type "module" ∧ oy.dict = some builtinsNs ∧ oy.data = .plain)
    (ha : s₁.heap.get? a = some { cls := .type "list", data := .seq vs.toArray }) (hi : IntsAre vs ns) (hl : ns.length ≤ 63) (hr : Room k callerA)
    (T : ∀ base : Heap, K.In base → base.Ns mainGlobals mg → SysB base → (∀ p, p ∈ cs → LamX.TabB base mg p.1 p.2) → FnG P w K mg base CX0 k fa fd [x] (spD0 ⟨K, mg⟩ 1 Fn)) (hbind : ∀ (s : Shared) (u : Value), BindsTo s fd ⟨[u], []⟩ [(x, u)])
    (hF : ∀ ns : List Int, ns.length ≤ 63 → ∃ M, Fn [.lst (ns.map D.int)] [] = .ok (.bl true) M) :
    codeAny (model P w) callerA (.call (.ref fa) ⟨[.ref a], []⟩) (fun r s' => r = .ok (.ret (.bool true)) ∧ OldK s₁.heap s'.heap ∧ s'.os = s₁.os ∧ AllBare s'.gens) s₁ := by
  have small : ns.length ≤ sizeLine := Nat.le_trans hl (by decide)
  have rv := vals_ints hi
  obtain ⟨ts, ets⟩ : ∃ ts : List Addr, ts = cs.map (·.2) := ⟨_, rfl⟩
  have tabO : ∀ b, b ∈ ts → s₁.heap.get? b = some { cls := .none, data := .fields #[] } := fun b hb => by
    rw [ets] at hb
    obtain ⟨p, hp, rfl⟩ := List.mem_map.mp hb
    exact TA.emp p hp
  have tabK : ∀ b, b ∈ ts → K.lookup b = none := fun b hb => by
    rw [ets] at hb
    obtain ⟨p, hp, rfl⟩ := List.mem_map.mp hb
    exact TA.notK p hp
  have aNot : a ∉ ts := fun hm => by
    have := tabO a hm
    rw [ha] at this
    have d := congrArg Obj.data (Option.some.inj this)
    exact absurd (show Data.seq vs.toArray _ = Data.fields #[] from d) (by intro z; cases z)
  -- the heap: the tables, and what H0 says of the script
  have main : ∀ H0 : Hp, (∀ b, H0 b ≠ none → b = a ∧ K.lookup a = none) → LstR K H0 a (ns.map V.int) → HOk P w H0 s₁.heap → (∀ b, H0 b = none ∨ ∃ o xs, H0 b = some (.frz o (.lst xs))) →
      codeAny (model P w) callerA (.call (.ref fa) ⟨[.ref a], []⟩) (fun r s' => r = .ok (.ret (.bool true)) ∧ OldK s₁.heap s'.heap ∧ s'.os = s₁.os ∧ AllBare s'.gens) s₁ := by
    intro H0 hA hS0 hok0 hO
    obtain ⟨H, eH⟩ : ∃ H : Hp, H = fun b => if b ∈ ts then some (HO.tbl #[]) else H0 b := ⟨_, rfl⟩
    have Hin : ∀ b, b ∈ ts → H b = some (.tbl #[]) := fun b hb => by rw [eH]; exact if_pos hb
    have Hout : ∀ b, b ∉ ts → H b = H0 b := fun b hb => by rw [eH]; exact if_neg hb
    have H0ts : ∀ b, b ∈ ts → H0 b = none := fun b hb => by
      cases q : H0 b with
      | none => rfl
      | some u =>
        obtain ⟨rfl, _⟩ := hA b (by rw [q]; simp)
        exact absurd hb aNot
    have h0H : ∀ b u, H0 b = some u → H b = some u := fun b u e => by
      rw [Hout b fun hm => by rw [H0ts b hm] at e; cases e]; exact e
    have hS : LstR K H a (ns.map V.int) := by
      rcases hS0 with (z | ⟨o, z⟩) | z
      · exact .inl (.inl (h0H _ _ z))
      · exact .inl (.inr ⟨o, h0H _ _ z⟩)
      · exact .inr z
    have hok : HOk P w H s₁.heap := fun b u e => by
      by_cases hm : b ∈ ts
      · rw [Hin b hm] at e
        cases e
        exact tabO b hm
      · rw [Hout b hm] at e
        refine (hok0 b u e).stay (fun _ _ _ q => q) (fun c q => h0H _ _ q) fun c xs q => h0H _ _ q
    have hTb : LamX.Tabs Tbl.T H := fun p hp => LamX.TabS.nil (Hin _ (by rw [ets]; exact hin p hp))
    -- what is not a list nor an empty record is not tracked
    have free : ∀ {b : Addr} {o : Obj}, s₁.heap.get? b = some o → (∀ xs n, o.data ≠ .seq xs n) → o.data ≠ .fields #[] → H b = none := by
      intro b o e n1 n2
      have hb1 : b ∉ ts := fun hm => by
        rw [tabO b hm] at e
        cases e
        exact n2 rfl
      rw [Hout b hb1]
      cases q : H0 b with
      | none => rfl
      | some u =>
        obtain ⟨rfl, _⟩ := hA b (by rw [q]; simp)
        rw [ha] at e
        cases e
        exact absurd rfl (n1 _ _)
    have dict : ∀ {b : Addr} {o : Obj} {es : Array DictEntry} {ep : Nat}, s₁.heap.get? b = some o → o.data = .dict es ep → H b = none := by
      intro b o es ep e d
      exact free e (fun xs n z => by rw [d] at z; cases z) fun z => by rw [d] at z; cases z
    have ns' : ∀ {b : Addr} {m : Str → Option Value}, s₁.heap.Ns b m → (hidT s₁.heap H).Ns b m := by
      rintro b m ⟨o, es, ep, e, d, r⟩
      exact ⟨o, es, ep, hidT_get e (dict e d), d, r⟩
    have hK : K.In (hidT s₁.heap H) := fun b o e => hidT_get (inK b o e) (by
      have hb1 : b ∉ ts := fun hm => by rw [tabK b hm] at e; cases e
      rw [Hout b hb1]
      cases q : H0 b with
      | none => rfl
      | some u =>
        obtain ⟨rfl, z⟩ := hA b (by rw [q]; simp)
        rw [z] at e
        cases e)
    have hM : Mod K mg (hidT s₁.heap H) := ⟨hK, ns' hns, ⟨mb, ns' hb, hbb⟩, let ⟨mc, h1, h2⟩ := hlim; ⟨mc, ns' h1, h2⟩⟩
    have hTB : ∀ p, p ∈ cs → LamX.TabB (hidT s₁.heap H) mg p.1 p.2 := fun p hp => by
      have hTp := TA.emp p hp
      refine ⟨?_, ?_, ?_⟩
      · obtain ⟨o, us, file, tf, flags, tg, inF, text, tt, e1, r1, r2, rest⟩ := TA.hd p hp
        refine ⟨o, us, file, tf, flags, tg, inF, text, tt, hidT_get e1 (free e1 ?_ ?_), r1, r2, rest⟩
        · intro xs n z; rw [r2] at z; cases z
        · intro z; rw [r2] at z; cases z; have r3 := rest.1; simp at r3
      · obtain ⟨y, oy, y1, y2, y3, y4, y5, y6⟩ := hmod
        refine ⟨y, oy, y1, y2, ?_, ?_, hidT_get y3 (free y3 ?_ ?_), y4, y5, y6⟩
        · rintro rfl
          obtain ⟨o, es, ep, e, d, _⟩ := hns
          rw [y3] at e
          cases e
          rw [y6] at d
          cases d
        · rintro rfl
          rw [hTp] at y3
          cases y3
          cases y6
        · intro xs n z; rw [y6] at z; cases z
        · intro z; rw [y6] at z; cases z
      · intro z
        obtain ⟨o, es, ep, e, d, _⟩ := hns
        rw [z, hTp] at e
        cases e
        cases d
    have hSB : SysB (hidT s₁.heap H) := let ⟨o, es, n, e1, e2⟩ := hsys; ⟨o, es, n, hidT_get e1 (dict e1 e2), e2⟩
    have e0 : Env0 P w K mg (hidT s₁.heap H) callerA [] s₁ H := ⟨rfl, hM, fun b o e => of_hidT e, Nat.le_of_eq (hidT_size _ _), trivial, fun b hb => (by cases hb), hok, .of_eq hg⟩
    refine codeAny_mono ((T _ hK (ns' hns) hSB hTB).run callerA [] s₁ H ⟨[.ref a], []⟩ [.ref a] [.ref a] (fun v _ => v = .bl true) (fun _ _ _ => False) hr rfl e0 (hbind s₁ (.ref a)) (.cons rfl .nil) (sp_of o1 o2 o3 hF ⟨a, ns, rfl, hTb, hS, hl, fun _ => rfl⟩)) fun res s' h => ?_
    cases res with
    | error e => exact False.elim h
    | ok fl =>
      cases fl with
      | next => exact False.elim h
      | brk => exact False.elim h
      | cont => exact False.elim h
      | ret u =>
        obtain ⟨v, H', os, bare, un, hok', r', q⟩ := h
        have q' : v = .bl true := q
        subst q'
        obtain rfl : u = Value.bool true := r'
        have same : ∀ b o, b ∉ ts → s₁.heap.get? b = some o → s'.heap.get? b = some o := fun b o hm e => by
          cases q : H b with
          | none => exact un.keep b o e q (fun z => by cases z) (by simp)
          | some u =>
            rw [Hout b hm] at q
            rcases hO b with z | ⟨ob, xs, z⟩
            · rw [q] at z; cases z
            · obtain ⟨e1, _⟩ := hok0 b _ z
              obtain ⟨e2, _⟩ := hok' b _ (un.frzs b ob _ (h0H _ _ z))
              rw [e] at e1
              cases e1
              exact e2
        have more : ∀ b, b ∈ ts → ∃ m : Array Value, s'.heap.get? b = some { cls := .none, data := .fields m } := fun b hm => by
          obtain ⟨m, z⟩ := un.tbls b #[] (Hin b hm)
          exact ⟨_, hok' b _ z⟩
        refine ⟨rfl, ⟨fun b o e => ?_, fun b o e => ?_⟩, os, bare⟩
        · by_cases hm : b ∈ ts
          · obtain ⟨m, e2⟩ := more b hm
            have e1 := tabO b hm
            rw [ets] at hm
            obtain ⟨p, hp, rfl⟩ := List.mem_map.mp hm
            rw [e1] at e
            cases e
            refine .inr (.inl ⟨((TA.hd p hp).tab e1).isCodeTable, rfl, #[], m, rfl, ?_⟩)
            rw [Array.empty_append]
            exact e2
          · exact .inl (same b o hm e)
        · by_cases hm : b ∈ ts
          · obtain ⟨m, e2⟩ := more b hm
            exact ⟨_, e2⟩
          · exact ⟨o, same b o hm e⟩
  cases hk : K.lookup a with
  | some o =>
    have e := inK a o hk
    rw [ha] at e
    cases e
    exact main (fun _ => none) (fun b z => absurd rfl z) (.inr ⟨vs, _, hk, by rw [hi.length]; exact small, rv⟩) (fun b u z => by cases (show (none : Option HO) = some u from z)) fun _ => .inl rfl
  | none =>
    refine main (fun b => if b = a then some (.frz { cls := .type "list", data := .seq vs.toArray } (.lst (ns.map V.int))) else none) (fun b z => ⟨?_, hk⟩) (.inl (.inr ⟨{ cls := .type "list", data := .seq vs.toArray }, if_pos rfl⟩)) (fun b u z => ?_) fun b => ?_
    · by_cases hb : b = a
      · exact hb
      · exact absurd (if_neg hb) z
    · by_cases hb : b = a
      · have z' := (if_pos hb).symm.trans z
        cases z'
        rw [hb]
        exact ⟨ha, by rw [List.length_map]; exact small, vs, _, rv, ha⟩
      · have z' := (if_neg hb).symm.trans z
        cases z'
    · by_cases hb : b = a
      · exact .inr ⟨_, _, if_pos hb⟩
      · exact .inl (if_neg hb)
omit [Tbl] in
/-- the goal that k_head leaves -/
theorem walkG {l : PySem.W.OpenLaw} {k : Nat} {q : Program} {loose : List Str} {XP : (Str → Option Value) → Heap → Prop} {YP : World → Heap → Prop} {d : DefRec} {K : Params → PySem.W.Frag} {x : Str} {Fn : DFn}
    (himp : importsNone q = true) (hn : l.most = some 63) (hdf : d.params.defaults = []) (hr : Room k callerA) (hY : ∀ (w : World) (h : Heap), YP w h → (K w.params).In h)
    (T : ∀ (w : World) (mg : Str → Option Value) (fa : Addr) (h : Heap), (K w.params).In h → h.Ns mainGlobals mg → mg d.name = some (.ref fa) →
      (∀ (y : Str) (e : DefRec) (c P : Addr), (recsOf q).find? (fun e => e.name == y) = some e → PySem.W.tabIn (K w.params) y = some (c, P) → PySem.W.CodeHd h c P ∧ h.get? P = some { cls := .none, data := .fields #[] }) →
      ∃ (tbl : Tbl) (cs : List (Addr × Addr)) (fd : FuncData), Tbl.F = (fun _ => none) ∧ Tbl.r = [] ∧ Tbl.C = [] ∧ TabsAt (K w.params) h cs ∧ TblIn cs ∧ (∀ (s : Shared) (u : Value), BindsTo s fd ⟨[u], []⟩ [(x, u)]) ∧ ∀ base : Heap, (K w.params).In base → base.Ns mainGlobals mg → SysB base → (∀ p, p ∈ cs → LamX.TabB base mg p.1 p.2) → FnG l.prog w (K w.params) mg base CX0 k fa fd [x] (spD0 ⟨K w.params, mg⟩ 1 Fn))
    (hF : ∀ ns : List Int, ns.length ≤ 63 → ∃ M, Fn [.lst (ns.map D.int)] [] = .ok (.bl true) M) :
    PySem.W.WalkO q loose XP YP l.row.toRowW d [] (fun f vs => PySem.call f vs) := by
  refine Att.attach_call hn hdf fun w s₀ s₁ mg mb fa o pm cd doc a vs ns G Y ho hd hcd hmg hobj hints hlen hg => ?_
  have inK := hY w _ Y
  obtain ⟨tbl, cs, fd, o1, o2, o3, TA, hin, hb, hT⟩ := T w mg fa _ inK G.T.g hmg (fun y e c P h1 h2 => PySem.W.tab_of G.T inK h1 h2)
  exact law_callG inK G.T.g G.T.b G.T.builtins G.T.nolimit hg o1 o2 o3 TA hin (let ⟨mm, ⟨o, es, n, e1, e2, _⟩, _⟩ := (G.T.seer himp).mods; ⟨o, es, n, e1, e2⟩) G.T.bmain hobj hints hlen hr hT hb hF
end EV
set_option maxHeartbeats 4000000
namespace EV
open PySem PySem.Spec PyProof.Rows L2
variable [Tbl]

/-- a wish met where one stands -/
theorem OKx.here {G : Gd} {F : Hp} {r : List Addr} {R : Hp} {Q : VK} {d : D} {M : Sto} {H : Hp} {v : V} (h : OKx Rep G F r R Q d M) (S : StoR G F r R M H) (q : Rep G F r d v) : Q v H := h F r H v (Sub.refl _) (List.prefix_refl _) S q
theorem OKx.flat {G : Gd} {F : Hp} {r : List Addr} {R : Hp} {Q : VK} {d : D} {M : Sto} {H : Hp} {v : V} (h : OKx Rep G F r R Q d M) (S : StoR G F r R M H) (q : Flat d v) : Q v H := h.here S (q.rep _ _ _)
/-- what is read as a list or a tuple: the items -/
def seqD (M : Sto) : D → Option (List D)
  | .lst xs => some xs
  | .tup xs => some xs
  | .ref n => match M[n]? with
    | some (.lst xs) => some xs
    | _ => none
  | _ => none
theorem seqD_rep {G : Gd} {F : Hp} {r : List Addr} {R : Hp} {M : Sto} {H : Hp} {d : D} {v : V} {xs : List D} (S : StoR G F r R M H) (q : Rep G F r d v) (e : seqD M d = some xs) :
    ∃ a vs, v = .ref a ∧ (SqL G.K H a vs ∨ SqT G.K H a vs) ∧ Reps G F r xs vs := by
  cases d with
  | lst ys =>
    cases e
    rw [rep_lst] at q
    obtain ⟨a, vs, e, q1, q2⟩ := q
    exact ⟨a, vs, e, .inl (S.sub.lstR q1).sq, q2⟩
  | tup ys =>
    cases e
    rw [rep_tup] at q
    obtain ⟨a, vs, e, q1, q2⟩ := q
    exact ⟨a, vs, e, .inr (S.sub.tq q1), q2⟩
  | ref n =>
    rw [rep_ref] at q
    obtain ⟨a, ha, ev⟩ := q
    unfold seqD at e
    simp only at e
    split at e
    · rename_i ys eo
      cases e
      obtain ⟨vs, h1, h2⟩ := S.at_ n a _ ha eo
      exact ⟨a, vs, ev, .inl (SqL.of h1), h2.mono (Sub.refl _) (take_pre _ _)⟩
    · cases e
  | _ => cases e
/-- a list that is read -/
def lstD (M : Sto) : D → Option (List D)
  | .lst xs => some xs
  | .ref n => match M[n]? with
    | some (.lst xs) => some xs
    | _ => none
  | _ => none
theorem lstD_rep {G : Gd} {F : Hp} {r : List Addr} {R : Hp} {M : Sto} {H : Hp} {d : D} {v : V} {xs : List D} (S : StoR G F r R M H) (q : Rep G F r d v) (e : lstD M d = some xs) :
    ∃ a vs, v = .ref a ∧ LstR G.K H a vs ∧ Reps G F r xs vs := by
  cases d with
  | lst ys =>
    cases e
    rw [rep_lst] at q
    obtain ⟨a, vs, e, q1, q2⟩ := q
    exact ⟨a, vs, e, S.sub.lstR q1, q2⟩
  | ref n =>
    rw [rep_ref] at q
    obtain ⟨a, ha, ev⟩ := q
    unfold lstD at e
    simp only at e
    split at e
    · rename_i ys eo
      cases e
      obtain ⟨vs, h1, h2⟩ := S.at_ n a _ ha eo
      exact ⟨a, vs, ev, LstR.of h1, h2.mono (Sub.refl _) (take_pre _ _)⟩
    · cases e
  | _ => cases e
/-! ### arithmetic -/
/-- ints' bounds -/
def mulOk (i j : Int) : Bool := decide (i.natAbs.log2 + j.natAbs.log2 < 1000000)
def divOk (j : Int) : Bool := decide (0 < j) && decide (j.natAbs.log2 < 9000)
def powOk (i j : Int) : Bool := decide (0 ≤ j) && decide ((i.natAbs.log2 + 1) * j.toNat ≤ 134217728)
def dSub : Op2 := fun a b M => match a, b with
  | .int i, .int j => .ok (.int (i - j)) M
  | _, _ => .bad
def dMod : Op2 := fun a b M => match a, b with
  | .int i, .int j => if 0 < j then .ok (.int (i % j)) M else .bad
  | _, _ => .bad
def dDiv : Op2 := fun a b M => match a, b with
  | .int i, .int j => if divOk j = true then .ok (.int (i / j)) M else .bad
  | _, _ => .bad
def dPow : Op2 := fun a b M => match a, b with
  | .int i, .int j => if powOk i j = true then .ok (.int (i ^ j.toNat)) M else .bad
  | _, _ => .bad
def dNeg : Op1 := fun a M => match a with
  | .int i => .ok (.int (-i)) M
  | _ => .bad
section
variable {X : Cx}
/-- a rule for two ints -/
theorem s2_int {py : Value → Value → Sem Value} {C : Int → Int → Prop} {g : Int → Int → V} {gd' : Int → Int → D} {f : Op2} (h : OpR X py (rI C g)) (hg : ∀ i j, Flat (gd' i j) (g i j))
    (hf : ∀ a b M (P : D → Sto → Prop), (f a b M).post P (fun _ _ => False) → ∃ i j, a = .int i ∧ b = .int j ∧ C i j ∧ P (gd' i j) M) : S2 X py f := by
  intro pins s σ H x y v u Q I rx ry hq
  obtain ⟨F, r, R, M, a, b, S, ra, rb, hp⟩ := hq
  obtain ⟨i, j, rfl, rfl, hc, hP⟩ := hf a b M _ hp
  rw [rep_int] at ra rb
  exact h pins s σ H x y v u Q I rx ry ⟨i, j, ra, rb, hc, hP.flat S (hg i j)⟩
theorem s2_int0 {py : Value → Value → Sem Value} {g : Int → Int → V} {gd' : Int → Int → D} {f : Op2} (h : OpR X py (rI0 g)) (hg : ∀ i j, Flat (gd' i j) (g i j))
    (hf : ∀ a b M (P : D → Sto → Prop), (f a b M).post P (fun _ _ => False) → ∃ i j, a = .int i ∧ b = .int j ∧ P (gd' i j) M) : S2 X py f := by
  intro pins s σ H x y v u Q I rx ry hq
  obtain ⟨F, r, R, M, a, b, S, ra, rb, hp⟩ := hq
  obtain ⟨i, j, rfl, rfl, hP⟩ := hf a b M _ hp
  rw [rep_int] at ra rb
  exact h pins s σ H x y v u Q I rx ry ⟨i, j, ra, rb, hP.flat S (hg i j)⟩
theorem r_sub : S2 X (binaryOp .Sub) dSub := s2_int0 (gd' := fun i j => .int (i - j)) op_sub (fun _ _ => .int _) fun a b M P h => by
  unfold dSub at h
  split at h
  · exact ⟨_, _, rfl, rfl, h⟩
  · exact h.elim
theorem ri_sub : S2 X (inplaceOp .Sub) dSub := s2_int0 (gd' := fun i j => .int (i - j)) iop_sub (fun _ _ => .int _) fun a b M P h => by
  unfold dSub at h
  split at h
  · exact ⟨_, _, rfl, rfl, h⟩
  · exact h.elim
theorem r_mod : S2 X (binaryOp .Mod) dMod := s2_int (gd' := fun i j => .int (i % j)) op_mod (fun _ _ => .int _) fun a b M P h => by
  unfold dMod at h
  split at h
  · split at h
    · exact ⟨_, _, rfl, rfl, by assumption, h⟩
    · exact h.elim
  · exact h.elim
theorem divOk_c {i j : Int} (h : divOk j = true) : CDivW i j := by
  unfold divOk at h
  rw [Bool.and_eq_true, decide_eq_true_eq, decide_eq_true_eq] at h
  exact h
theorem r_div : S2 X (binaryOp .FloorDiv) dDiv := s2_int (gd' := fun i j => .int (i / j)) op_fdivW (fun _ _ => .int _) fun a b M P h => by
  unfold dDiv at h
  split at h
  · split at h
    · rename_i hk
      exact ⟨_, _, rfl, rfl, divOk_c hk, h⟩
    · exact h.elim
  · exact h.elim
theorem op_powW : OpR X (binaryOp .Pow) (rI (fun i j => powOk i j = true) fun i j => .int (i ^ j.toNat)) := opI fun i j _ _ _ _ _ hc q => by
  unfold powOk at hc
  rw [Bool.and_eq_true, decide_eq_true_eq, decide_eq_true_eq] at hc
  refine pow_int hc.1 ?_ q
  have hb : Builtin.Int.intBits i ≤ i.natAbs.log2 + 1 := by
    unfold Builtin.Int.intBits
    split <;> omega
  have h1 : Builtin.Int.intBits i * j.toNat ≤ 134217728 := Nat.le_trans (Nat.mul_le_mul_right _ hb) hc.2
  have h2 : ((Builtin.Int.intBits i * j.toNat : Nat) : Int) ≤ ((134217728 : Nat) : Int) := Int.ofNat_le.mpr h1
  rw [Int.natCast_mul, Int.toNat_of_nonneg hc.1] at h2
  exact h2
theorem r_pow : S2 X (binaryOp .Pow) dPow := s2_int (gd' := fun i j => .int (i ^ j.toNat)) op_powW (fun _ _ => .int _) fun a b M P h => by
  unfold dPow at h
  split at h
  · split at h
    · rename_i hk
      exact ⟨_, _, rfl, rfl, hk, h⟩
    · exact h.elim
  · exact h.elim
theorem r_neg : S1 X (unaryOp .USub) dNeg := by
  intro pins s σ H x v Q I rx hq
  obtain ⟨F, r, R, M, a, S, ra, hp⟩ := hq
  unfold dNeg at hp
  split at hp
  · rw [rep_int] at ra
    exact un_neg pins s σ H x v Q I rx ⟨_, ra, OKx.flat hp S (.int _)⟩
  · exact hp.elim
/-! + and * -/
def catStr (x y : Str) : Str := x ++ y
def dAdd : Op2 := fun a b M => match a, b with
  | .int i, .int j => .ok (.int (i + j)) M
  | .str x, .str y => if x.length + y.length ≤ lim then .ok (.str (x ++ y)) M else .bad
  | .tup xs, .tup ys => if xs.length + ys.length ≤ lim then .ok (.tup (xs ++ ys)) M else .bad
  | a, b => match lstD M a, lstD M b with
    | some xs, some ys => if xs.length + ys.length ≤ lim then .ok (.lst (xs ++ ys)) M else .bad
    | _, _ => .bad
end
end EV
set_option maxHeartbeats 4000000
namespace EV
open PySem PySem.Spec PyProof.Rows L2
variable [Tbl]
section
variable {X : Cx}
/-- lists put together -/
def rCatL (K : PySem.W.Frag) : R2 := fun x y H Q => ∃ l b xs zs, x = .ref l ∧ y = .ref b ∧ LstR K H l xs ∧ LstR K H b zs ∧ xs.length + zs.length ≤ sizeLine ∧ ∀ p, H p = none → Q (.ref p) (upd H p (.lst (xs ++ zs)))
theorem op_catL : OpR X (binaryOp .Add) (rCatL X.K) := by
  intro pins s σ H x y v u Q I rx ry h
  obtain ⟨l, b, xs, zs, rfl, rfl, hl, hb, hz, q⟩ := h
  cases rx
  cases ry
  obtain ⟨its, n, r1, e1, z1⟩ := hl.exact_ I
  obtain ⟨its2, n2, r2, e2, z2⟩ := hb.exact_ I
  have l1 := r1.length
  have l2 := r2.length
  refine PySem.P.add_list e1 e2 ?_ (by rw [List.size_toArray, List.size_toArray]; omega)
  rw [show its.toArray ++ its2.toArray = (its ++ its2).toArray by simp]
  exact ⟨.ref _, _, I.lnew (t' := s.toks) (r1.append r2) (by rw [List.length_append]; exact hz), rfl, q _ I.fresh⟩
theorem r_add : S2 X (binaryOp .Add) dAdd := by
  intro pins s σ H x y v u Q I rx ry hq
  obtain ⟨F, r, R, M, a, b, S, ra, rb, hp⟩ := hq
  unfold dAdd at hp
  split at hp
  · rw [rep_int] at ra rb
    exact op_add pins s σ H x y v u Q I rx ry ⟨_, _, ra, rb, OKx.flat hp S (.int _)⟩
  · split at hp
    · rename_i hl
      rw [rep_str] at ra rb
      exact op_add_str pins s σ H x y v u Q I rx ry ⟨_, _, ra, rb, lim_ok hl, OKx.flat hp S (.str _)⟩
    · exact hp.elim
  · split at hp
    · rename_i hl
      rw [rep_tup] at ra rb
      obtain ⟨a1, vs, rfl, q1, q2⟩ := ra
      obtain ⟨a2, ws, rfl, q3, q4⟩ := rb
      refine op_catA pins s σ H _ _ v u Q I rx ry ⟨a1, a2, vs, ws, rfl, rfl, S.sub.tq q1, S.sub.tq q3, by rw [q2.length, q4.length]; exact lim_ok hl, fun z => ?_, fun z1 z2 => ?_, fun z1 z2 p hpn => ?_⟩
      · subst z
        have e0 := q2.length
        rename_i xs ys
        have : xs = [] := List.eq_nil_of_length_eq_zero e0.symm
        subst this
        exact OKx.here hp S (by rw [rep_tup]; exact ⟨a2, ws, rfl, q3, q4⟩)
      · subst z2
        have e0 := q4.length
        rename_i xs ys
        have : ys = [] := List.eq_nil_of_length_eq_zero e0.symm
        subst this
        rw [List.append_nil] at hp
        exact OKx.here hp S (by rw [rep_tup]; exact ⟨a1, vs, rfl, q1, q2⟩)
      · obtain ⟨s1, S1, R1⟩ := rep_new_tup S (q2.append q4) hpn
        exact hp _ r _ _ s1 (List.prefix_refl _) S1 R1
    · exact hp.elim
  · split at hp
    · rename_i xs ys e1 e2
      split at hp
      · rename_i hl
        obtain ⟨a1, vs, rfl, q1, q2⟩ := lstD_rep S ra e1
        obtain ⟨a2, ws, rfl, q3, q4⟩ := lstD_rep S rb e2
        refine op_catL pins s σ H _ _ v u Q I rx ry ⟨a1, a2, vs, ws, rfl, rfl, q1, q3, by rw [q2.length, q4.length]; exact lim_ok hl, fun p hpn => ?_⟩
        obtain ⟨s1, S1, R1⟩ := rep_new_lst S (q2.append q4) hpn
        exact hp _ r _ _ s1 (List.prefix_refl _) S1 R1
      · exact hp.elim
    · exact hp.elim
/-- a new list may be changed -/
def asM (f : Op2) : Op2 := fun a b M => match f a b M with
  | .ok (.lst xs) M' => if belows M'.length xs = true then .ok (.ref M'.length) (M' ++ [.lst xs]) else .bad
  | _ => .bad
/-- in place: ints and texts -/
def dIAdd : Op2 := fun a b M => match a, b with
  | .int i, .int j => .ok (.int (i + j)) M
  | .str x, .str y => if x.length + y.length ≤ lim then .ok (.str (x ++ y)) M else .bad
  | _, _ => .bad
theorem ri_add : S2 X (inplaceOp .Add) dIAdd := by
  intro pins s σ H x y v u Q I rx ry hq
  obtain ⟨F, r, R, M, a, b, S, ra, rb, hp⟩ := hq
  unfold dIAdd at hp
  split at hp
  · rw [rep_int] at ra rb
    exact iop_add pins s σ H x y v u Q I rx ry ⟨_, _, ra, rb, OKx.flat hp S (.int _)⟩
  · split at hp
    · rename_i hl
      rw [rep_str] at ra rb
      exact iop_add_str pins s σ H x y v u Q I rx ry ⟨_, _, ra, rb, lim_ok hl, OKx.flat hp S (.str _)⟩
    · exact hp.elim
  · exact hp.elim
theorem mulOk_c {i j : Int} (h : mulOk i j = true) : CMulW i j := by
  unfold mulOk at h
  have h' : i.natAbs.log2 + j.natAbs.log2 < 1000000 := of_decide_eq_true h
  exact h'
theorem op_mulO : OpR X (binaryOp .Mult) (rI (fun i j => mulOk i j = true) fun i j => .int (i * j)) := opI fun i j _ _ _ _ _ hc q => mul_int q (CMulW.ok (mulOk_c hc))
theorem iop_mulO : OpR X (inplaceOp .Mult) (rI (fun i j => mulOk i j = true) fun i j => .int (i * j)) := opI fun i j _ _ _ _ _ hc q => imul_int q (CMulW.ok (mulOk_c hc))
/-- a list so many times -/
def rRepL (K : PySem.W.Frag) : R2 := fun x y H Q => ∃ l k xs, x = .ref l ∧ y = .int k ∧ LstR K H l xs ∧ -1000000 ≤ k ∧ k ≤ 1000000 ∧ xs.length * k.toNat ≤ sizeLine ∧
  ∀ p, H p = none → Q (.ref p) (upd H p (.lst (List.replicate k.toNat xs).flatten))
theorem op_repL : OpR X (binaryOp .Mult) (rRepL X.K) := by
  intro pins s σ H x y v u Q I rx ry h
  obtain ⟨l, k, xs, rfl, rfl, hL, h1, h2, hz, q⟩ := h
  cases rx
  obtain ⟨t, rfl⟩ := ry
  obtain ⟨its, n, rv, e, z⟩ := hL.exact_ I
  have size : its.toArray.size * k.toNat ≤ sizeLine := by rw [List.size_toArray, ← rv.length]; exact hz
  have cap : ¬ its.toArray.size * k.toNat > (2 ^ 63 - 1) / 8 := Nat.not_lt.mpr (Nat.le_trans size (by decide))
  have fit : ¬ (!Builtin.List.listFitsIndex k) = true := by rw [fitsIndex_both (by omega) (by omega)]; decide
  have long : ¬ Builtin.List.listTooLong (its.toArray.size * k.toNat) = true := by rw [notLongL size]; decide
  have folded : ∀ m : Nat, List.foldl (fun a b => a ++ b) #[] (List.replicate m its.toArray) = (List.replicate m its).flatten.toArray := fun m => by simpa using foldl_rep its m []
  have new : List.foldl (fun a b => a ++ b) #[] (List.replicate (if its.toArray.isEmpty = true then 0 else k.toNat) its.toArray) = (List.replicate k.toNat its).flatten.toArray := by
    rw [folded]
    cases its with
    | nil => simp
    | cons a b => rw [if_neg (by simp)]
  have end_ : (∃ w H', Inv X pins σ H' { s with heap := s.heap.push { cls := .type "list", data := .seq (List.replicate k.toNat its).flatten.toArray } } ∧ RelV w (Value.ref s.heap.objs.size) ∧ Q w H') :=
    ⟨.ref _, _, I.lnew (t' := s.toks) (rv.rep k.toNat) (by rw [PyProof.Rows.lm_len_rep_flat, Nat.mul_comm]; exact hz), rfl, q _ I.fresh⟩
  refine wpAny_binaryOp_repeat_ref (T := "list") (U := "int") (by decide) ⟨_, e, rfl⟩ (fun s' => typeIs_int s' k t) noFill_list_mul F.fills_int_mul F.slot_int_rmul repeat_list F.slot_int_index.lookup ?_
  refine call_meets F.slot_int_rmul (typeIs_int s k t) F.entry_int_rmul (F.args_int_rmul_2 _ _) (int___rmul___int_list k t l its.toArray n) ⟨e, rfl, ⟨_, e, rfl⟩, ?_⟩
  refine call_meets F.slot_list_mul ⟨_, e, rfl⟩ F.entry_list_mul (F.args_list_mul_2 _ _) (AutoListH.list___mul___list_int_3 l its.toArray n k t fit cap long) ⟨e, ?_⟩
  rw [new]
  exact end_
def repD (k : Nat) (xs : List D) : List D := (List.replicate k xs).flatten
theorem Reps.rep {G : Gd} {F : Hp} {r : List Addr} {xs : List D} {vs : List V} (h : Reps G F r xs vs) : ∀ k : Nat, Reps G F r (repD k xs) (List.replicate k vs).flatten
  | 0 => .nil
  | k + 1 => by
    unfold repD
    rw [List.replicate_succ, List.replicate_succ, List.flatten_cons, List.flatten_cons]
    exact h.append (Reps.rep h k)
/-- a tuple taken so many times: any number of times, within the bound of a row -/
def rTimesT (K : PySem.W.Frag) : R2 := fun x y H Q => ∃ a m ws, x = .ref a ∧ y = .int m ∧ SqT K H a ws ∧ ws ≠ [] ∧ 2 ≤ m ∧ ws.length * m.toNat ≤ lim ∧ ∀ p, H p = none → Q (.ref p) (upd H p (.tup (List.replicate m.toNat ws).flatten))
theorem op_timesT : OpR X (binaryOp .Mult) (rTimesT X.K) := by
  intro pins s σ H x y v u Q I rx ry hq
  obtain ⟨a, m, ws, rfl, rfl, sq, ne, m2, wide, fin⟩ := hq
  cases rx
  obtain ⟨t, rfl⟩ := ry
  obtain ⟨its, rr, ⟨⟨cls, dd, data, sl⟩, at0, isT, n, isD⟩, fits⟩ := I.tuple sq
  simp only at isT isD
  subst isT isD
  have same : its.length = ws.length := rr.length.symm
  have wide' : ws.length * m.toNat ≤ 1000000 := wide
  have some1 : 1 ≤ ws.length := by
    rcases ws with _ | ⟨w0, ws'⟩
    · exact absurd rfl ne
    · simp only [List.length_cons]; omega
  have few : m.toNat ≤ 1000000 := Nat.le_trans (Nat.le_mul_of_pos_left _ some1) wide'
  have big2 : ((its.toArray.size : Nat) : Int) * m ≤ 1000000 := by
    have h0 : ((its.toArray.size : Nat) : Int) * m = ((ws.length * m.toNat : Nat) : Int) := by
      rw [List.size_toArray, same, Int.natCast_mul, Int.toNat_of_nonneg (by omega)]
    omega
  have no0 : its.toArray.isEmpty = false := by
    rcases its with _ | ⟨i0, its'⟩
    · simp only [List.length_nil] at same; omega
    · rfl
  have len1 : (List.replicate m.toNat its).flatten.length ≤ sizeLine := by
    rw [PyProof.Rows.lm_len_rep_flat, same, sizeLine_eq, Nat.mul_comm]; omega
  have z0 : (decide (m < -(2 ^ 63)) || decide (m ≥ 2 ^ 63)) = false := by
    simp only [Bool.or_eq_false_iff, decide_eq_false_iff_not]; omega
  have z1 : (its.toArray.isEmpty || m == 1) = false := by
    rw [no0]; exact beq_false_of_ne (by omega)
  have z2 : (decide (m ≤ 0) || its.toArray.isEmpty) = false := by
    rw [no0]; simp only [Bool.or_false, decide_eq_false_iff_not]; omega
  have z4 : Builtin.Tuple.tupleTooMany (((its.toArray.size : Nat) : Int) * m) = false := by
    have := sizeLine_eq
    exact decide_eq_false (by rw [this]; omega)
  have len2 : (List.foldl (fun x1 x2 => x1 ++ x2) #[] (List.replicate m.toNat its.toArray)).size ≤ sizeLine := by rw [size_rep, List.size_toArray]; exact len1
  have inner := tuple_mulW a its.toArray n dd sl m t z0 z1 z2 (by omega) z4 len2
  have outer := int_rmul_tuple m t a its.toArray n dd sl
  refine wpAny_binaryOp_repeat_ref (T := "tuple") (U := "int") (by decide) ⟨_, at0, rfl⟩ (fun s' => typeIs_int s' m t) noFill_tuple_mul F.fills_int_mul F.slot_int_rmul repeat_tuple F.slot_int_index.lookup
    (call_meets F.slot_int_rmul (typeIs_int s m t) F.entry_int_rmul (F.args_int_rmul_2 _ _) outer ⟨at0, rfl, ⟨_, at0, rfl⟩, ?_⟩)
  refine call_meets F.slot_tuple_mul ⟨_, at0, rfl⟩ F.entry_tuple_mul (F.args_tuple_mul_2 _ _) inner ⟨at0, ?_⟩
  rw [size_rep]
  refine ⟨.ref s.heap.objs.size, _, I.laid (t' := s.toks) (o := .tup (List.replicate m.toNat ws).flatten) (fun b ob q => Heap.get?_push_of_some _ q) (Nat.le_refl _) ⟨?_, _, rr.rep m.toNat, IsTup.new _ _⟩, rfl, fin _ (I.hok.fresh (Nat.le_refl _))⟩
  rw [PyProof.Rows.lm_len_rep_flat, sizeLine_eq, Nat.mul_comm]; omega
theorem tuple_once (l : Addr) (items : Array Value) (n : Nat) (dd : Option Addr) (sl : Array (Option Value)) (u : Tok) :
    Meets (Builtin.«tuple.__mul__» ⟨[.ref l, .int 1 u], []⟩) (fun _ R s => s.heap.get? l = some { cls := .type "tuple", dict := dd, data := .seq items n, slots := sl } ∧ R (.ok (.ret (Value.ref l))) s) :=
  .of_wp fun prog w A R s h => by
    obtain ⟨hp, g, d, tk, os⟩ := s
    obtain ⟨hl, h⟩ := h
    have f1 := AutoSeq1.idx_int
    wp_walk using wpAny_loadPart' hl
    exact ⟨_, rfl, h⟩
/-- a tuple taken once is itself -/
theorem op_onceT : OpR X (binaryOp .Mult) fun x y H Q => ∃ a ws, x = .ref a ∧ y = .int 1 ∧ SqT X.K H a ws ∧ Q (.ref a) H := by
  intro pins s σ H x y v u Q I rx ry hq
  obtain ⟨a, ws, rfl, rfl, sq, fin⟩ := hq
  cases rx
  obtain ⟨t, rfl⟩ := ry
  obtain ⟨its, rr, ⟨⟨cls, dd, data, sl⟩, at0, isT, n, isD⟩, fits⟩ := I.tuple sq
  simp only at isT isD
  subst isT isD
  refine wpAny_binaryOp_repeat_ref (T := "tuple") (U := "int") (by decide) ⟨_, at0, rfl⟩ (fun s' => typeIs_int s' 1 t) noFill_tuple_mul F.fills_int_mul F.slot_int_rmul repeat_tuple F.slot_int_index.lookup
    (call_meets F.slot_int_rmul (typeIs_int s 1 t) F.entry_int_rmul (F.args_int_rmul_2 _ _) (int_rmul_tuple 1 t a its.toArray n dd sl) ⟨at0, rfl, ⟨_, at0, rfl⟩, ?_⟩)
  refine call_meets F.slot_tuple_mul ⟨_, at0, rfl⟩ F.entry_tuple_mul (F.args_tuple_mul_2 _ _) (tuple_once a its.toArray n dd sl t) ⟨at0, ?_⟩
  exact ⟨.ref a, _, I, rfl, fin⟩
def dMul : Op2 := fun a b M => match a, b with
  | .int i, .int j => if mulOk i j = true then .ok (.int (i * j)) M else .bad
  | .lst xs, .int k => if -1000000 ≤ k ∧ k ≤ 1000000 ∧ xs.length * k.toNat ≤ lim then .ok (.lst (repD k.toNat xs)) M else .bad
  | .tup xs, .int k => if k = 1 then .ok (.tup xs) M else if 2 ≤ k ∧ xs ≠ [] ∧ xs.length * k.toNat ≤ lim then .ok (.tup (repD k.toNat xs)) M else .bad
  | _, _ => .bad
theorem r_mul : S2 X (binaryOp .Mult) dMul := by
  intro pins s σ H x y v u Q I rx ry hq
  obtain ⟨F, r, R, M, a, b, S, ra, rb, hp⟩ := hq
  unfold dMul at hp
  split at hp
  · split at hp
    · rename_i hk
      rw [rep_int] at ra rb
      exact op_mulO pins s σ H x y v u Q I rx ry ⟨_, _, ra, rb, hk, OKx.flat hp S (.int _)⟩
    · exact hp.elim
  · split at hp
    · rename_i hk
      rw [rep_int] at rb
      rw [rep_lst] at ra
      obtain ⟨a1, vs, rfl, q1, q2⟩ := ra
      refine op_repL pins s σ H _ y v u Q I rx ry ⟨a1, _, vs, rfl, rb, S.sub.lstR q1, hk.1, hk.2.1, by rw [q2.length]; exact lim_ok hk.2.2, fun p hpn => ?_⟩
      obtain ⟨s1, S1, R1⟩ := rep_new_lst S (q2.rep _) hpn
      exact hp _ r _ _ s1 (List.prefix_refl _) S1 R1
    · exact hp.elim
  · split at hp
    · rename_i hk
      subst hk
      rw [rep_int] at rb
      have ra' := ra
      rw [rep_tup] at ra'
      obtain ⟨a1, vs, rfl, q1, q2⟩ := ra'
      exact op_onceT pins s σ H _ y v u Q I rx ry ⟨a1, vs, rfl, rb, S.sub.tq q1, OKx.here hp S ra⟩
    · split at hp
      · rename_i hk
        rw [rep_int] at rb
        rw [rep_tup] at ra
        obtain ⟨a1, vs, rfl, q1, q2⟩ := ra
        refine op_timesT pins s σ H _ y v u Q I rx ry ⟨a1, _, vs, rfl, rb, S.sub.tq q1, ?_, hk.1, by rw [q2.length]; exact hk.2.2, fun p hpn => ?_⟩
        · intro z
          subst z
          exact hk.2.1 (List.eq_nil_of_length_eq_zero q2.length.symm)
        · obtain ⟨s1, S1, R1⟩ := rep_new_tup S (q2.rep _) hpn
          exact hp _ r _ _ s1 (List.prefix_refl _) S1 R1
      · exact hp.elim
  · exact hp.elim
def dIMul : Op2 := fun a b M => match a, b with
  | .int i, .int j => if mulOk i j = true then .ok (.int (i * j)) M else .bad
  | _, _ => .bad
theorem ri_mul : S2 X (inplaceOp .Mult) dIMul := s2_int (gd' := fun i j => .int (i * j)) iop_mulO (fun _ _ => .int _) fun a b M P h => by
  unfold dIMul at h
  split at h
  · split at h
    · rename_i hk
      exact ⟨_, _, rfl, rfl, hk, h⟩
    · exact h.elim
  · exact h.elim
/-! ### order -/
def dLt : Op2 := fun a b M => match a, b with
  | .int i, .int j => .ok (.bl (decide (i < j))) M
  | .str i, .str j => .ok (.bl (decide (i.cps.toList < j.cps.toList))) M
  | _, _ => .bad
def dLe : Op2 := fun a b M => match a, b with
  | .int i, .int j => .ok (.bl (decide (i ≤ j))) M
  | .str i, .str j => .ok (.bl (!decide (j.cps.toList < i.cps.toList))) M
  | _, _ => .bad
def dGt : Op2 := fun a b M => match a, b with
  | .int i, .int j => .ok (.bl (decide (j < i))) M
  | _, _ => .bad
def dGe : Op2 := fun a b M => match a, b with
  | .int i, .int j => .ok (.bl (decide (j ≤ i))) M
  | _, _ => .bad
theorem r_lt : S2 X (compareOp .Lt) dLt := by
  intro pins s σ H x y v u Q I rx ry hq
  obtain ⟨F, r, R, M, a, b, S, ra, rb, hp⟩ := hq
  unfold dLt at hp
  split at hp
  · rw [rep_int] at ra rb
    exact op_lt pins s σ H x y v u Q I rx ry ⟨_, _, ra, rb, OKx.flat hp S (.bl _)⟩
  · rw [rep_str] at ra rb
    exact op_lt_str pins s σ H x y v u Q I rx ry ⟨_, _, ra, rb, OKx.flat hp S (.bl _)⟩
  · exact hp.elim
theorem r_le : S2 X (compareOp .LtE) dLe := by
  intro pins s σ H x y v u Q I rx ry hq
  obtain ⟨F, r, R, M, a, b, S, ra, rb, hp⟩ := hq
  unfold dLe at hp
  split at hp
  · rw [rep_int] at ra rb
    exact op_le pins s σ H x y v u Q I rx ry ⟨_, _, ra, rb, OKx.flat hp S (.bl _)⟩
  · rw [rep_str] at ra rb
    exact op_le_str pins s σ H x y v u Q I rx ry ⟨_, _, ra, rb, OKx.flat hp S (.bl _)⟩
  · exact hp.elim
theorem r_gt : S2 X (compareOp .Gt) dGt := s2_int0 (gd' := fun i j => .bl (decide (j < i))) op_gt (fun _ _ => .bl _) fun a b M P h => by
  unfold dGt at h
  split at h
  · exact ⟨_, _, rfl, rfl, h⟩
  · exact h.elim
theorem r_ge : S2 X (compareOp .GtE) dGe := s2_int0 (gd' := fun i j => .bl (decide (j ≤ i))) op_ge (fun _ _ => .bl _) fun a b M P h => by
  unfold dGe at h
  split at h
  · exact ⟨_, _, rfl, rfl, h⟩
  · exact h.elim
/-! ### equality of data -/
/-- a value as data -/
def pyD (M : Sto) : Nat → D → Option PyData
  | 0, _ => none
  | f + 1, d => match d with
    | .non => some .none
    | .bl b => some (.bool b)
    | .int i => some (.int i)
    | .str x => some (.str x)
    | .tup xs => (allM (pyD M f) xs).map .tuple
    | .lst xs => (allM (pyD M f) xs).map .list
    | .ref n => match M[n]? with
      | some (.lst xs) => (allM (pyD M f) xs).map .list
      | _ => none
    | _ => none
where
  allM (g : D → Option PyData) : List D → Option (List PyData)
  | [] => some []
  | x :: xs => match g x with
    | none => none
    | some y => match allM g xs with
      | none => none
      | some ys => some (y :: ys)
theorem dpAll_of {G : Gd} {F : Hp} {r : List Addr} {H : Hp} {g : D → Option PyData} (hg : ∀ d v p, Rep G F r d v → g d = some p → Dp G.K H v p) : ∀ {xs : List D} {vs : List V} {ps : List PyData}, Reps G F r xs vs → pyD.allM g xs = some ps → DpAll G.K H vs ps
  | [], vs, ps, h, e => by
    cases e
    cases h.inv0
    exact .nil
  | x :: xs, vs, ps, h, e => by
    unfold pyD.allM at e
    obtain ⟨v, w, rfl, a, b⟩ := h.inv
    cases e1 : g x with
    | none => rw [e1] at e; cases e
    | some y =>
      rw [e1] at e
      cases e2 : pyD.allM g xs with
      | none => rw [e2] at e; cases e
      | some ys =>
        rw [e2] at e
        cases e
        exact .cons (hg _ _ _ a e1) (dpAll_of hg b e2)
theorem dp_of {G : Gd} {F : Hp} {r : List Addr} {R : Hp} {M : Sto} {H : Hp} (S : StoR G F r R M H) : ∀ {f : Nat} {d : D} {v : V} {p : PyData}, Rep G F r d v → pyD M f d = some p → Dp G.K H v p
  | 0, d, v, p, h, e => by cases e
  | f + 1, d, v, p, h, e => by
    have ih := fun d v p => @dp_of G F r R M H S f d v p
    unfold pyD at e
    cases d with
    | non => simp only at e; cases e; rw [rep_non] at h; subst h; exact .non
    | bl b => simp only at e; cases e; rw [rep_bl] at h; subst h; exact .bl b
    | int b => simp only at e; cases e; rw [rep_int] at h; subst h; exact .int b
    | str b => simp only at e; cases e; rw [rep_str] at h; subst h; exact .str b
    | tup xs =>
      simp only at e
      obtain ⟨ps, e1, rfl⟩ := Option.map_eq_some_iff.mp e
      rw [rep_tup] at h
      obtain ⟨a, vs, rfl, q, z⟩ := h
      exact .tup (S.sub.tq q) (dpAll_of ih z e1)
    | lst xs =>
      simp only at e
      obtain ⟨ps, e1, rfl⟩ := Option.map_eq_some_iff.mp e
      rw [rep_lst] at h
      obtain ⟨a, vs, rfl, q, z⟩ := h
      exact .lst (S.sub.lstR q).sq (dpAll_of ih z e1)
    | ref n =>
      simp only at e
      rw [rep_ref] at h
      obtain ⟨a, ha, rfl⟩ := h
      split at e
      · rename_i xs eo
        obtain ⟨ps, e1, rfl⟩ := Option.map_eq_some_iff.mp e
        obtain ⟨vs, h1, h2⟩ := S.at_ n a _ ha eo
        exact .lst (SqL.of h1) (dpAll_of ih (h2.mono (Sub.refl _) (take_pre _ _)) e1)
      · cases e
    | ty _ => cases e
    | dtu _ => cases e
    | dct _ => cases e
    | obj _ _ => cases e
    | cur _ => cases e
def eqD (M : Sto) (a b : D) : Option Bool := match a, b with
  | .int i, .int j => some (decide (i = j))
  | .str i, .str j => some (decide (i = j))
  | .bl i, .bl j => some (decide (i = j))
  | a, b => match pyD M 12 a, pyD M 12 b with
    | some p, some q => if SeqAt.shaped p = true ∧ SeqAt.shaped q = true then some (PyData.eqv p q) else none
    | _, _ => none
def dEq : Op2 := fun a b M => match eqD M a b with
  | some k => .ok (.bl k) M
  | none => .bad
def dNe : Op2 := fun a b M => match eqD M a b with
  | some k => .ok (.bl (!k)) M
  | none => .bad
theorem eqD_scal {M : Sto} {a b : D} {k : Bool} (h : eqD M a b = some k) {G : Gd} {F : Hp} {r : List Addr} {R : Hp} {H : Hp} {x y : V} (S : StoR G F r R M H) (ra : Rep G F r a x) (rb : Rep G F r b y) :
    (L2.scal x y = true ∧ k = decide (x = y)) ∨ ∃ p q, Dp G.K H x p ∧ Dp G.K H y q ∧ SeqAt.shaped p = true ∧ SeqAt.shaped q = true ∧ k = PyData.eqv p q := by
  unfold eqD at h
  split at h
  · cases h
    rw [rep_int] at ra rb
    subst ra rb
    exact .inl ⟨rfl, by simp⟩
  · cases h
    rw [rep_str] at ra rb
    subst ra rb
    exact .inl ⟨rfl, by simp⟩
  · cases h
    rw [rep_bl] at ra rb
    subst ra rb
    exact .inl ⟨rfl, by simp⟩
  · split at h
    · rename_i p q e1 e2
      split at h
      · rename_i hs
        cases h
        exact .inr ⟨p, q, dp_of S ra e1, dp_of S rb e2, hs.1, hs.2, rfl⟩
      · cases h
    · cases h
theorem r_eq (hu : X.A.units + 64 < cLine) : S2 X (compareOp .Eq) dEq := by
  intro pins s σ H x y v u Q I rx ry hq
  obtain ⟨F, r, R, M, a, b, S, ra, rb, hp⟩ := hq
  unfold dEq at hp
  split at hp
  · rename_i k e
    have hQ := OKx.flat hp S (.bl k)
    rcases eqD_scal e S ra rb with ⟨h1, h2⟩ | ⟨p, q, h1, h2, h3, h4, h5⟩
    · exact op_eq pins s σ H x y v u Q I rx ry ⟨h1, by rw [← h2]; exact hQ⟩
    · exact op_eqD hu pins s σ H x y v u Q I rx ry ⟨p, q, h1, h2, h3, h4, by rw [← h5]; exact hQ⟩
  · exact hp.elim
theorem r_ne (hu : X.A.units + 64 < cLine) : S2 X (compareOp .NotEq) dNe := by
  intro pins s σ H x y v u Q I rx ry hq
  obtain ⟨F, r, R, M, a, b, S, ra, rb, hp⟩ := hq
  unfold dNe at hp
  split at hp
  · rename_i k e
    have hQ := OKx.flat hp S (.bl (!k))
    rcases eqD_scal e S ra rb with ⟨h1, h2⟩ | ⟨p, q, h1, h2, h3, h4, h5⟩
    · exact op_ne pins s σ H x y v u Q I rx ry ⟨h1, by rw [← h2]; exact hQ⟩
    · exact op_neD hu pins s σ H x y v u Q I rx ry ⟨p, q, h1, h2, h3, h4, by rw [← h5]; exact hQ⟩
  · exact hp.elim
/-- x is None, x is not None -/
def isNon : D → Bool
  | .non => true
  | _ => false
theorem isNon_rep {G : Gd} {F : Hp} {r : List Addr} {d : D} {v : V} (h : Rep G F r d v) : decide (v = .non) = isNon d := by
  cases d with
  | non => rw [rep_non] at h; subst h; rfl
  | bl b => rw [rep_bl] at h; subst h; rfl
  | int b => rw [rep_int] at h; subst h; rfl
  | str b => rw [rep_str] at h; subst h; rfl
  | ty b => rw [rep_ty] at h; subst h; rfl
  | cur _ => unfold Rep at h; exact h.elim
  | tup _ => rw [rep_tup] at h; obtain ⟨a, _, rfl, _⟩ := h; rfl
  | lst _ => rw [rep_lst] at h; obtain ⟨a, _, rfl, _⟩ := h; rfl
  | dct _ => rw [rep_dct] at h; obtain ⟨a, _, rfl, _⟩ := h; rfl
  | dtu _ => rw [rep_dtu] at h; obtain ⟨a, _, rfl, _⟩ := h; rfl
  | obj _ _ => rw [rep_obj] at h; obtain ⟨a, _, _, _, rfl, _⟩ := h; rfl
  | ref _ => rw [rep_ref] at h; obtain ⟨a, _, rfl⟩ := h; rfl
def dIs : Op2 := fun a b M => match b with
  | .non => .ok (.bl (isNon a)) M
  | _ => .bad
def dIsNot : Op2 := fun a b M => match b with
  | .non => .ok (.bl (!isNon a)) M
  | _ => .bad
theorem r_is : S2 X (compareOp .Is) dIs := by
  intro pins s σ H x y v u Q I rx ry hq
  obtain ⟨F, r, R, M, a, b, S, ra, rb, hp⟩ := hq
  unfold dIs at hp
  split at hp
  · rw [rep_non] at rb
    have := OKx.flat hp S (.bl (isNon a))
    exact op_isN pins s σ H x y v u Q I rx ry ⟨rb, by rw [isNon_rep ra]; exact this⟩
  · exact hp.elim
theorem r_isnot : S2 X (compareOp .IsNot) dIsNot := by
  intro pins s σ H x y v u Q I rx ry hq
  obtain ⟨F, r, R, M, a, b, S, ra, rb, hp⟩ := hq
  unfold dIsNot at hp
  split at hp
  · rw [rep_non] at rb
    have := OKx.flat hp S (.bl (!isNon a))
    exact op_notN pins s σ H x y v u Q I rx ry ⟨rb, by rw [isNon_rep ra]; exact this⟩
  · exact hp.elim
end
end EV
set_option maxHeartbeats 4000000
namespace EV
open PySem PySem.Spec PyProof.Rows L2
variable [Tbl]
/-! ### isinstance -/
/-- the types of plain values -/
inductive TyV where
  | non | ty (n : TyN)
def TyV.s : TyV → String
  | .non => "NoneType"
  | .ty n => n.s
def tyOf (M : Sto) : D → Option TyV
  | .non => some .non
  | .bl _ => some (.ty .bool)
  | .int _ => some (.ty .int)
  | .str _ => some (.ty .str)
  | .tup _ => some (.ty .tuple)
  | .lst _ => some (.ty .list)
  | .dct _ => some (.ty .dict)
  | .ref n => match M[n]? with
    | some (.lst _) => some (.ty .list)
    | some (.dct _) => some (.ty .dict)
    | _ => none
  | _ => none
def isB (t : TyV) (n : TyN) : Bool := match t with
  | .non => false
  | .ty m => decide (m = n) || (decide (m = .bool) && decide (n = .int))
theorem isB_ok (K : PySem.W.Frag) (t : TyV) (n : TyN) : PySem.W.kitOne K (.type t.s) (.type n.s) = some (isB t n) := by
  have h : kitB t.s n.s = some (isB t n) := by
    cases t with
    | non => cases n <;> decide +kernel
    | ty m => cases m <;> cases n <;> decide +kernel
  exact kit_ty h
theorem tyOf_x {G : Gd} {F : Hp} {r : List Addr} {R : Hp} {M : Sto} {H : Hp} {d : D} {v : V} {t : TyV} (S : StoR G F r R M H) (q : Rep G F r d v) (e : tyOf M d = some t) : TyX G.K H v (.type t.s) := by
  cases d with
  | non => cases e; rw [rep_non] at q; subst q; exact .base .non
  | bl b => cases e; rw [rep_bl] at q; subst q; exact .base (.bl b)
  | int b => cases e; rw [rep_int] at q; subst q; exact .base (.int b)
  | str b => cases e; rw [rep_str] at q; subst q; exact .base (.str b)
  | ty _ => cases e
  | dtu _ => cases e
  | obj _ _ => cases e
  | cur _ => cases e
  | tup _ =>
    cases e
    rw [rep_tup] at q
    obtain ⟨a, vs, rfl, h, _⟩ := q
    rcases (S.sub.tq h : SqT G.K H _ _) with z | ⟨o, its, n, h1, h2, _⟩
    · rcases z with z | ⟨o, z⟩
      · exact .base (.tup z)
      · exact .fTuple z
    · exact .kTuple h1 h2
  | lst _ =>
    cases e
    rw [rep_lst] at q
    obtain ⟨a, vs, rfl, h, _⟩ := q
    rcases S.sub.lstR h with z | ⟨its, n, h1, _⟩
    · rcases z with z | ⟨o, z⟩
      · exact .base (.lst z)
      · exact .base (.frz z)
    · exact .kList h1 rfl
  | dct _ =>
    cases e
    rw [rep_dct] at q
    obtain ⟨a, vs, rfl, h, _⟩ := q
    exact .base (.dK (S.sub _ _ h))
  | ref n =>
    rw [rep_ref] at q
    obtain ⟨a, ha, rfl⟩ := q
    unfold tyOf at e
    simp only at e
    split at e
    · rename_i eo
      cases e
      obtain ⟨vs, h1, _⟩ := S.at_ n a _ ha eo
      exact .base (.lst h1)
    · rename_i eo
      cases e
      obtain ⟨vs, h1, _⟩ := S.at_ n a _ ha eo
      exact .base (.dK h1)
    · cases e
def dIsi : OpL := fun xs M => match xs with
  | [x, .ty n] => match tyOf M x with
    | some t => .ok (.bl (isB t n)) M
    | none => .bad
  | _ => .bad
section
variable {X : Cx}
theorem r_isi : SL X (.builtin "isinstance") dIsi := by
  intro pins s σ H xs us Q I rv hq
  obtain ⟨F, r, R, M, as, S, ra, hp⟩ := hq
  unfold dIsi at hp
  split at hp
  · rename_i x n
    split at hp
    · rename_i t e
      obtain ⟨v, w, rfl, q1, q2⟩ := ra.inv2
      rw [rep_ty] at q2
      subst q2
      exact call_isi pins s σ H _ us Q I rv ⟨v, .ty n.s, .type t.s, .type n.s, isB t n, rfl, .ty n.s, tyOf_x S q1 e, isB_ok _ t n, OKx.flat hp S (.bl _)⟩
    · exact hp.elim
  · exact hp.elim
/-! ### len, abs, max, min, int, str, repr -/
def dLen : OpL := fun xs M => match xs with
  | [.str x] => if x.length ≤ lim then .ok (.int x.length) M else .bad
  | [x] => match seqD M x with
    | some ys => .ok (.int ys.length) M
    | none => .bad
  | _ => .bad
theorem r_len : SL X (.builtin "len") dLen := by
  intro pins s σ H xs us Q I rv hq
  obtain ⟨F, r, R, M, as, S, ra, hp⟩ := hq
  unfold dLen at hp
  split at hp
  · rename_i x
    split at hp
    · rename_i hl
      obtain ⟨v, rfl, q1⟩ := ra.inv1
      rw [rep_str] at q1
      subst q1
      exact call_len pins s σ H _ us Q I rv ⟨.str x, x.length, rfl, ⟨lim_ok hl, rfl⟩, OKx.flat hp S (.int _)⟩
    · exact hp.elim
  · rename_i x _
    split at hp
    · rename_i ys e
      obtain ⟨v, rfl, q1⟩ := ra.inv1
      obtain ⟨a, vs, rfl, q2, q3⟩ := seqD_rep S q1 e
      have hQ := OKx.flat hp S (.int _)
      rw [← q3.length] at hQ
      refine call_len pins s σ H _ us Q I rv ⟨.ref a, vs.length, rfl, ?_, hQ⟩
      rcases q2 with z | z
      · exact .inl ⟨vs, z, rfl⟩
      · exact .inr ⟨vs, z, rfl⟩
    · exact hp.elim
  · exact hp.elim
/-- a rule for one int -/
def dAbs : OpL := fun xs M => match xs with
  | [.int i] => .ok (.int (if i < 0 then -i else i)) M
  | _ => .bad
theorem r_abs : SL X (.builtin "abs") dAbs := by
  intro pins s σ H xs us Q I rv hq
  obtain ⟨F, r, R, M, as, S, ra, hp⟩ := hq
  unfold dAbs at hp
  split at hp
  · rename_i i
    obtain ⟨v, rfl, q1⟩ := ra.inv1
    rw [rep_int] at q1
    subst q1
    exact call_abs pins s σ H _ us Q I rv ⟨i, rfl, OKx.flat hp S (.int _)⟩
  · exact hp.elim
def dMax2 : OpL := fun xs M => match xs with
  | [.int i, .int j] => .ok (.int (if j > i then j else i)) M
  | _ => .bad
def dMin2 : OpL := fun xs M => match xs with
  | [.int i, .int j] => .ok (.int (if j < i then j else i)) M
  | _ => .bad
theorem r_max2 (hc : X.calm = true) : SL X (.builtin "max") dMax2 := by
  intro pins s σ H xs us Q I rv hq
  obtain ⟨F, r, R, M, as, S, ra, hp⟩ := hq
  unfold dMax2 at hp
  split at hp
  · rename_i i j
    obtain ⟨v, w, rfl, q1, q2⟩ := ra.inv2
    rw [rep_int] at q1 q2
    subst q1 q2
    exact call_max2 hc pins s σ H _ us Q I rv ⟨i, j, rfl, OKx.flat hp S (.int _)⟩
  · exact hp.elim
theorem r_min2 (hc : X.calm = true) : SL X (.builtin "min") dMin2 := by
  intro pins s σ H xs us Q I rv hq
  obtain ⟨F, r, R, M, as, S, ra, hp⟩ := hq
  unfold dMin2 at hp
  split at hp
  · rename_i i j
    obtain ⟨v, w, rfl, q1, q2⟩ := ra.inv2
    rw [rep_int] at q1 q2
    subst q1 q2
    exact call_min2 hc pins s σ H _ us Q I rv ⟨i, j, rfl, OKx.flat hp S (.int _)⟩
  · exact hp.elim
def dInt : OpL := fun xs M => match xs with
  | [.int i] => .ok (.int i) M
  | [.bl b] => .ok (.int (if b = true then 1 else 0)) M
  | _ => .bad
theorem r_int : SL X (.type "int") dInt := by
  intro pins s σ H xs us Q I rv hq
  obtain ⟨F, r, R, M, as, S, ra, hp⟩ := hq
  unfold dInt at hp
  split at hp
  · rename_i i
    obtain ⟨v, rfl, q1⟩ := ra.inv1
    rw [rep_int] at q1
    subst q1
    exact call_int1 pins s σ H _ us Q I rv (.inl ⟨i, rfl, OKx.flat hp S (.int _)⟩)
  · rename_i b
    obtain ⟨v, rfl, q1⟩ := ra.inv1
    rw [rep_bl] at q1
    subst q1
    exact call_int1 pins s σ H _ us Q I rv (.inr ⟨b, rfl, OKx.flat hp S (.int _)⟩)
  · exact hp.elim
def dStr : OpL := fun xs M => match xs with
  | [.int i] => if i.natAbs.log2 < 1920 then .ok (.str (toString i)) M else .bad
  | [.str x] => .ok (.str x) M
  | _ => .bad
theorem r_str : SL X (.type "str") dStr := by
  intro pins s σ H xs us Q I rv hq
  obtain ⟨F, r, R, M, as, S, ra, hp⟩ := hq
  unfold dStr at hp
  split at hp
  · rename_i i
    split at hp
    · rename_i hl
      obtain ⟨v, rfl, q1⟩ := ra.inv1
      rw [rep_int] at q1
      subst q1
      exact call_str_int pins s σ H _ us Q I rv ⟨i, rfl, hl, OKx.flat hp S (.str _)⟩
    · exact hp.elim
  · rename_i x
    obtain ⟨v, rfl, q1⟩ := ra.inv1
    rw [rep_str] at q1
    subst q1
    exact SkE.call_str_str pins s σ H _ us Q I rv ⟨x, rfl, OKx.flat hp S (.str _)⟩
  · exact hp.elim
/-- repr of data -/
def dRepr : OpL := fun xs M => match xs with
  | [x] => match pyD M 12 x with
    | some p => if p.showable = true ∧ p.canLay0 = true ∧ p.depth ≤ 40 ∧ p.shown.length ≤ lim then .ok (.str p.shown) M else .bad
    | none => .bad
  | _ => .bad
theorem r_repr (hg : X.A.guards = some []) (hu : X.A.units + 64 < cLine) : SL X (.builtin "repr") dRepr := by
  intro pins s σ H xs us Q I rv hq
  obtain ⟨F, r, R, M, as, S, ra, hp⟩ := hq
  unfold dRepr at hp
  split at hp
  · rename_i x
    split at hp
    · rename_i p e
      split at hp
      · rename_i hk
        obtain ⟨hsh, hcl, hdp, hln⟩ := hk
        obtain ⟨v, rfl, q1⟩ := ra.inv1
        obtain ⟨u, rfl, rx⟩ := vals1 rv
        have hQ := OKx.flat hp S (.str _)
        obtain ⟨bs, hr⟩ := Dp.reads I p v u (dp_of S q1 e) rx
        have fin : ∀ (h' : Heap) (tk : Tok) (t : Nat), (∀ b o, s.heap.get? b = some o → h'.get? b = some o) → EP X pins σ Q (.str p.shown tk) { s with heap := h', toks := t } := fun h' tk t hk => ⟨.str p.shown, H, I.kept (t' := t) hk, ⟨_, rfl⟩, hQ⟩
        have fin0 : ∀ (tk : Tok) (t : Nat), EP X pins σ Q (.str p.shown tk) { s with toks := t } := fun tk t => fin s.heap tk t fun _ _ z => z
        cases hr with
        | none => exact PySem.P.repr_of_none (fin0 _ _)
        | bool b => exact PySem.P.repr_of_bool (fin0 _ _)
        | int i t => exact PySem.P.repr_of_int (of_decide_eq_true hsh) (fin0 _ _)
        | str y t => exact PySem.P.repr_of_str (fin0 _ _) (lim_ok hln)
        | list h1 h2 h3 h4 => exact repr_of_reads' (Reads.list h1 h2 h3 h4) hsh (PyData.noDict_hsm (PyData.hasDict_of_canLay _ hcl)) hg (by omega) (fun _ _ z => z) (fun h' u tk hk => fin h' u tk hk) (lim_ok hln)
        | tuple h1 h2 h3 h4 => exact repr_of_reads' (Reads.tuple h1 h2 h3 h4) hsh (PyData.noDict_hsm (PyData.hasDict_of_canLay _ hcl)) hg (by omega) (fun _ _ z => z) (fun h' u tk hk => fin h' u tk hk) (lim_ok hln)
        | dict _ _ _ _ _ => cases hcl
      · exact hp.elim
    · exact hp.elim
  · exact hp.elim
/-! ### subscripts, in -/
/-- an index's place -/
def atD (xs : List D) (i : Int) : Option D := if 0 ≤ i then xs[i.toNat]? else if -(xs.length : Int) ≤ i then xs[(i + xs.length).toNat]? else none
theorem atD_rep {G : Gd} {F : Hp} {r : List Addr} {xs : List D} {vs : List V} {i : Int} {d : D} (h : Reps G F r xs vs) (e : atD xs i = some d) : ∃ v, L2.atI vs i = some v ∧ Rep G F r d v := by
  unfold atD at e
  have hl := h.length
  unfold L2.atI L2.ixN
  split at e
  · rename_i h0
    obtain ⟨v, e1, e2⟩ := h.get e
    refine ⟨v, ?_, e2⟩
    have hlt : i.toNat < vs.length := (List.getElem?_eq_some_iff.mp e1).1
    rw [if_pos h0, if_pos (by omega)]
    exact e1
  · rename_i h0
    split at e
    · rename_i h1
      obtain ⟨v, e1, e2⟩ := h.get e
      refine ⟨v, ?_, e2⟩
      rw [if_neg h0, if_pos (by omega)]
      show vs[(i + vs.length).toNat]? = some v
      rw [hl]
      exact e1
    · cases e
def dIx : Op2 := fun a b M => match b with
  | .int i => (match a with
    | .str z => (match (if z.length ≤ lim then L2.atI z.cps.toList i else none) with
      | some c => .ok (.str ⟨#[c]⟩) M
      | none => .bad)
    | a => match seqD M a with
      | some xs => (match atD xs i with
        | some d => .ok d M
        | none => .bad)
      | none => .bad)
  | _ => .bad
theorem r_ix : IxR X (rD2 X dIx) := by
  intro value slice pins s σ H x y v u Q I rx ry hq hs
  obtain ⟨F, r, R, M, a, b, S, ra, rb, hp⟩ := hq
  unfold dIx at hp
  split at hp
  · rename_i i
    rw [rep_int] at rb
    split at hp
    · rename_i z
      rw [rep_str] at ra
      split at hp
      · rename_i c e
        split at e
        · rename_i hl
          exact ix_str value slice pins s σ H x y v u Q I rx ry ⟨z, i, c, ra, rb, lim_ok hl, e, OKx.flat hp S (.str _)⟩ hs
        · cases e
      · exact hp.elim
    · split at hp
      · rename_i xs e
        split at hp
        · rename_i d e2
          obtain ⟨p, vs, rfl, q2, q3⟩ := seqD_rep S ra e
          obtain ⟨w, e3, e4⟩ := atD_rep q3 e2
          rcases q2 with z | z
          · exact ix_list value slice pins s σ H _ y v u Q I rx ry ⟨p, vs, i, w, rfl, rb, z, e3, OKx.here hp S e4⟩ hs
          · exact ix_tup value slice pins s σ H _ y v u Q I rx ry ⟨p, vs, i, w, rfl, rb, z, e3, OKx.here hp S e4⟩ hs
        · exact hp.elim
      · exact hp.elim
  · exact hp.elim
def inStr (x y : Str) : Bool := !(Builtin.Str.occurrences y x 0 y.length 1).isEmpty
def anyEq (M : Sto) (x : D) : List D → Option Bool
  | [] => some false
  | y :: ys => match eqD M y x with
    | some true => some true
    | some false => anyEq M x ys
    | none => none
/-- x in y: texts; data in lists and tuples -/
def inD (M : Sto) (a b : D) : Option Bool := match a, b with
  | .str x, .str y => some (inStr x y)
  | a, b => match b with
    | .tup ys => (match pyD M 12 a, pyD M 12 (.tup ys) with
      | some p, some (.tuple qs) => if SeqAt.shaped p = true ∧ SeqAt.shaped (.tuple qs) = true then some (qs.any fun z => PyData.eqv z p) else none
      | _, _ => none)
    | b => (match pyD M 12 a, pyD M 12 b with
      | some p, some (.list qs) => if SeqAt.shaped p = true ∧ SeqAt.shaped (.list qs) = true then some (qs.any fun z => PyData.eqv z p) else none
      | _, _ => none)
def dInS : Op2 := fun a b M => match a, b with
  | .str x, .str y => .ok (.bl (inStr x y)) M
  | _, _ => .bad
def dNotInS : Op2 := fun a b M => match a, b with
  | .str x, .str y => .ok (.bl (!inStr x y)) M
  | _, _ => .bad
theorem r_inS : S2 X (compareOp .In) dInS := by
  intro pins s σ H x y v u Q I rx ry hq
  obtain ⟨F, r, R, M, a, b, S, ra, rb, hp⟩ := hq
  unfold dInS at hp
  split at hp
  · rw [rep_str] at ra rb
    exact op_in_str pins s σ H x y v u Q I rx ry ⟨_, _, ra, rb, OKx.flat hp S (.bl _)⟩
  · exact hp.elim
theorem r_notInS : S2 X (compareOp .NotIn) dNotInS := by
  intro pins s σ H x y v u Q I rx ry hq
  obtain ⟨F, r, R, M, a, b, S, ra, rb, hp⟩ := hq
  unfold dNotInS at hp
  split at hp
  · rw [rep_str] at ra rb
    exact op_notIn_str pins s σ H x y v u Q I rx ry ⟨_, _, ra, rb, OKx.flat hp S (.bl _)⟩
  · exact hp.elim
/-! ### an item stored -/
def setAt (xs : List D) (i : Int) (v : D) : Option (List D) := if 0 ≤ i ∧ i < xs.length then some (xs.set i.toNat v) else if i < 0 ∧ -(xs.length : Int) ≤ i then some (xs.set (i + xs.length).toNat v) else none
def putL (o i v : D) (M : Sto) : Option Sto := match o, i with
  | .ref n, .int k => (match M[n]? with
    | some (.lst xs) => (match setAt xs k v with
      | some ys => if below n v = true then some (M.set n (.lst ys)) else none
      | none => none)
    | _ => none)
  | _, _ => none
theorem s_putL : S3 X putL := by
  intro pins s σ H o i v ov iv u Q I ro ri rv hq
  obtain ⟨F, r, R, M, a, b, c, S, ra, rb, rc, hp⟩ := hq
  split at hp
  · rename_i M' em
    unfold putL at em
    split at em
    · rename_i n k
      split at em
      · rename_i xs eo
        split at em
        · rename_i ys es
          split at em
          · rename_i hb
            cases em
            rw [rep_ref] at ra
            rw [rep_int] at rb
            obtain ⟨p, hpn, rfl⟩ := ra
            obtain ⟨vs, h1, h2⟩ := S.at_ n p _ hpn eo
            have hl := h2.length
            have hx : ∃ j, L2.ixN vs.length k = some j ∧ ys = xs.set j c := by
              unfold setAt at es
              unfold L2.ixN
              split at es
              · rename_i z
                cases es
                exact ⟨k.toNat, by rw [if_pos z.1, if_pos (by omega)], rfl⟩
              · split at es
                · rename_i z
                  cases es
                  refine ⟨(k + xs.length).toNat, ?_, rfl⟩
                  rw [if_neg (by omega), if_pos (by omega), hl]
                · cases es
            obtain ⟨j, hj, rfl⟩ := hx
            refine set_list pins s σ H _ i v ov iv u Q I ro ri rv ⟨p, vs, k, j, rfl, rb, h1, hj, ?_⟩
            refine hp F r _ (Sub.refl _) (List.prefix_refl _) (S.write hpn fun H' e => ⟨_, e, Reps.set (rc.cut hb) j h2⟩)
          · cases em
        · cases em
      · cases em
    · cases em
  · exact hp.elim
end
end EV
set_option maxHeartbeats 4000000
namespace EV
open PySem PySem.Spec PyProof.Rows L2
variable [Tbl]
/-- a def as it stands in the module -/
def DefAt (K : PySem.W.Frag) (mg : Str → Option Value) (x : Str) (st : Stmt) (ps : List Str) : Prop := ∃ f fd, L2.Fun K x x st f fd ∧ mg x = some (.ref f) ∧ Binds K fd ps []
/-- the same under another name -/
def DefAs (K : PySem.W.Frag) (mg : Str → Option Value) (x y : Str) (st : Stmt) (ps : List Str) : Prop := ∃ f fd, L2.Fun K y y st f fd ∧ mg x = some (.ref f) ∧ Binds K fd ps []
theorem bt_int : bootBuiltins "int" = some (.type "int") := PyProof.Rows.boot_int
theorem bt_bool : bootBuiltins "bool" = some (.type "bool") := PyProof.Rows.boot_bool
theorem bt_str : bootBuiltins "str" = some (.type "str") := PyProof.Rows.boot_str
theorem bt_tuple : bootBuiltins "tuple" = some (.type "tuple") := PyProof.Rows.boot_tuple
theorem bt_list : bootBuiltins "list" = some (.type "list") := PyProof.Rows.boot_list
theorem bt_dict : bootBuiltins "dict" = some (.type "dict") := PyProof.Rows.boot_dict
theorem bt_set : bootBuiltins "set" = some (.type "set") := PyProof.Rows.boot_set
theorem bb_len : bootBuiltins "len" = some (.builtin "len") := PySem.boot_len
theorem bb_abs : bootBuiltins "abs" = some (.builtin "abs") := by decide +kernel
theorem bb_max : bootBuiltins "max" = some (.builtin "max") := PyProof.Rows.boot_max
theorem bb_min : bootBuiltins "min" = some (.builtin "min") := PyProof.Rows.boot_min
theorem bb_repr : bootBuiltins "repr" = some (.builtin "repr") := PyProof.Rows.boot_repr
theorem bb_isinstance : bootBuiltins "isinstance" = some (.builtin "isinstance") := PyProof.Rows.boot_isinstance
theorem bb_sorted : bootBuiltins "sorted" = some (.builtin "sorted") := PyProof.Rows.boot_sorted
theorem bb_sum : bootBuiltins "sum" = some (.builtin "sum") := PyProof.Rows.boot_sum
theorem bb_all : bootBuiltins "all" = some (.builtin "all") := by decide +kernel
theorem bb_any : bootBuiltins "any" = some (.builtin "any") := by decide +kernel
theorem bb_divmod : bootBuiltins "divmod" = some (.builtin "divmod") := PyProof.Rows.boot_divmod
section
variable {X : Cx} {W : EXK} {pos : Pos}
theorem ev_gint {x : Str} {i : Int} (hg : Gl X x) (h : ∃ t, X.mg x = some (.int i t)) (hd : (x == ("__debug__" : Str)) = false := by decide) : PE X (.Name x pos) (tD X W (mK (.int i))) := by
  obtain ⟨t, hm⟩ := h
  exact ev_glob (v := .int i) hg hm ⟨t, rfl⟩ (.int i) hd
theorem ev_gstr {x : Str} {i : Str} (hg : Gl X x) (h : ∃ t, X.mg x = some (.str i t)) (hd : (x == ("__debug__" : Str)) = false := by decide) : PE X (.Name x pos) (tD X W (mK (.str i))) := by
  obtain ⟨t, hm⟩ := h
  exact ev_glob (v := .str i) hg hm ⟨t, rfl⟩ (.str i) hd
end
/-- what was reserved is forgotten -/
theorem StoR.unres {G : Gd} {F H R : Hp} {r : List Addr} {M : Sto} {p : Addr} {u : HO} (S : StoR G F r (upd R p u) M H) (hR : R p = none) (hu : okF u = true := by rfl) : StoR G F r R M H := by
  refine ⟨S.len, S.nd, S.sub, fun a o e => S.res _ _ (by rw [upd_ne (ne_of_none e hR)]; exact e), S.fr, fun a ha => ?_, fun a o e => S.fx a o (by rw [upd_ne (ne_of_none e hR)]; exact e), S.at_, ⟨S.ax.nt, nr_un S.ax.nr hR hu, S.ax.tb⟩, S.og⟩
  have := S.rr a ha
  by_cases h : a = p
  · rw [h]; exact hR
  · rw [upd_ne h] at this; exact this
/-! ### dict displays -/
abbrev DP := DEnv → Sto → Out (List (D × D))
def pNil : DP := fun _ M => .ok [] M
def pCons (k v : DE) (r : DP) : DP := fun env M => (k env M).bind fun x M1 => (v env M1).bind fun y M2 => (r env M2).bind fun ps M3 => .ok ((x, y) :: ps) M3
def keyD : D → Option Key
  | .int i => some (.inl i)
  | .str x => some (.inr x)
  | _ => none
def keysD : List (D × D) → Option (List (Key × D))
  | [] => some []
  | (k, v) :: r => match keyD k with
    | none => none
    | some k' => match keysD r with
      | none => none
      | some r' => some ((k', v) :: r')
def putKD (kvs : List (Key × D)) (k : Key) (v : D) : List (Key × D) := if kvs.any (fun kv => decide (kv.1 = k)) then kvs.map (fun kv => if kv.1 = k then (kv.1, v) else kv) else kvs ++ [(k, v)]
def mergeD (kvs : List (Key × D)) (more : List (Key × D)) : List (Key × D) := more.foldl (fun acc kv => putKD acc kv.1 kv.2) kvs
def mDct (ps : DP) : DE := fun env M => (ps env M).bind fun qs M1 => match keysD qs with
  | some kvs => if kvs.length ≤ 15 then .ok (.dct (mergeD [] kvs)) M1 else .bad
  | none => .bad
def mDct0 : DE := fun _ M => .ok (.dct []) M
abbrev RPs : Rl (List (D × D)) (List (V × V)) := fun G F r ds vs => Reps G F r (ds.map (·.1)) (vs.map (·.1)) ∧ Reps G F r (ds.map (·.2)) (vs.map (·.2))
structure PD (X : Cx) (W : EXK) (pos : Pos) (keys : List (Option Expr)) (values : List Expr) (trs : List (TE × TE)) (m : DP) : Prop where
  pps : PPs X pos keys values trs
  run : ∀ σ H Q, tX X W RPs m σ H Q → tPairs trs σ H Q
section
variable {X : Cx} {W : EXK} {pos : Pos}
theorem evd_nil : PD X W pos [] [] [] pNil := ⟨pps_nil, fun σ H Q h => by
  obtain ⟨F, r, R, env, M, hE, hS, hp⟩ := h
  exact hp F r H [] (Sub.refl _) (List.prefix_refl _) hS ⟨.nil, .nil⟩⟩
theorem evd_cons {k v : Expr} {ks : List (Option Expr)} {vs : List Expr} {mk mv : DE} {trs : List (TE × TE)} {m : DP} (hk : PE X k (tD X W mk)) (hv : PE X v (tD X W mv)) (hr : PD X W pos ks vs trs m) : PD X W pos (some k :: ks) (v :: vs) ((tD X W mk, tD X W mv) :: trs) (pCons mk mv m) :=
  ⟨pps_cons hk hv hr.pps, fun σ H Q h => by
    obtain ⟨F, r, R, env, M, hE, hS, hp⟩ := h
    refine tX.imp (tX.bind OKx.mono' hE hS hp) fun x H1 ⟨F1, r1, M1, d, s1, p1, hE1, hS1, R1, hp1⟩ => ?_
    refine tX.imp (tX.bind OKx.mono' hE1 hS1 hp1) fun y H2 ⟨F2, r2, M2, d2, s2, p2, hE2, hS2, R2, hp2⟩ => ?_
    refine hr.run σ H2 _ (tX.imp (tX.bind OKx.mono' hE2 hS2 hp2) fun ps H3 ⟨F3, r3, M3, d3, s3, p3, hE3, hS3, R3, hp3⟩ => ?_)
    exact hp3 F3 r3 H3 _ (Sub.refl _) (List.prefix_refl _) hS3 ⟨.cons (R1.mono (s2.trans s3) (p2.trans p3)) R3.1, .cons (R2.mono s3 p3) R3.2⟩⟩
theorem RepK.nil {G : Gd} {F : Hp} {r : List Addr} : RepK G F r [] [] := by unfold RepK; rfl
theorem RepK.cons {G : Gd} {F : Hp} {r : List Addr} {k : Key} {d : D} {v : V} {ds : List (Key × D)} {vs : List (Key × V)} (h : Rep G F r d v) (h' : RepK G F r ds vs) : RepK G F r ((k, d) :: ds) ((k, v) :: vs) := by
  unfold RepK
  exact ⟨v, vs, rfl, h, h'⟩
theorem RepK.append {G : Gd} {F : Hp} {r : List Addr} : ∀ {d : List (Key × D)} {v : List (Key × V)} {d' : List (Key × D)} {v' : List (Key × V)}, RepK G F r d v → RepK G F r d' v' → RepK G F r (d ++ d') (v ++ v')
  | [], v, d', v', h, h' => by
    unfold RepK at h
    subst h
    exact h'
  | (k, x) :: xs, vs, d', v', h, h' => by
    unfold RepK at h
    obtain ⟨v, w, rfl, a, b⟩ := h
    exact RepK.cons a (RepK.append b h')
theorem RepK.any {G : Gd} {F : Hp} {r : List Addr} (k : Key) : ∀ {d : List (Key × D)} {v : List (Key × V)}, RepK G F r d v → (v.any fun kv => decide (kv.1 = k)) = d.any fun kv => decide (kv.1 = k)
  | [], v, h => by
    unfold RepK at h
    subst h
    rfl
  | (k', x) :: xs, vs, h => by
    unfold RepK at h
    obtain ⟨v, w, rfl, a, b⟩ := h
    rw [List.any_cons, List.any_cons, RepK.any k b]
theorem RepK.repl {G : Gd} {F : Hp} {r : List Addr} {k : Key} {y : D} {u : V} (q : Rep G F r y u) : ∀ {d : List (Key × D)} {v : List (Key × V)}, RepK G F r d v → RepK G F r (d.map fun kv => if kv.1 = k then (kv.1, y) else kv) (v.map fun kv => if kv.1 = k then (kv.1, u) else kv)
  | [], v, h => by
    unfold RepK at h
    subst h
    exact RepK.nil
  | (k', x) :: xs, vs, h => by
    unfold RepK at h
    obtain ⟨w, ws, rfl, a, b⟩ := h
    rw [List.map_cons, List.map_cons]
    by_cases hk : k' = k
    · rw [if_pos hk, if_pos hk]
      exact RepK.cons q (RepK.repl q b)
    · rw [if_neg hk, if_neg hk]
      exact RepK.cons a (RepK.repl q b)
theorem RepK.put {G : Gd} {F : Hp} {r : List Addr} {k : Key} {y : D} {u : V} (q : Rep G F r y u) {d : List (Key × D)} {v : List (Key × V)} (h : RepK G F r d v) : RepK G F r (putKD d k y) (putK v k u) := by
  unfold putKD putK
  rw [h.any k]
  split
  · exact h.repl q
  · exact h.append (RepK.cons q RepK.nil)
theorem RepK.merge {G : Gd} {F : Hp} {r : List Addr} : ∀ {more : List (Key × D)} {mv : List (Key × V)} {d : List (Key × D)} {v : List (Key × V)}, RepK G F r more mv → RepK G F r d v → RepK G F r (mergeD d more) (mergeK v mv)
  | [], mv, d, v, h, h' => by
    unfold RepK at h
    subst h
    exact h'
  | (k, x) :: xs, mv, d, v, h, h' => by
    unfold RepK at h
    obtain ⟨w, ws, rfl, a, b⟩ := h
    show RepK G F r (mergeD (putKD d k x) xs) (mergeK (putK v k w) ws)
    exact RepK.merge b (h'.put a)
theorem keysD_rep {G : Gd} {F : Hp} {r : List Addr} : ∀ {qs : List (D × D)} {ps : List (V × V)} {kvs : List (Key × D)}, RPs G F r qs ps → keysD qs = some kvs → ∃ kws : List (Key × V), ps = kws.map (fun kv => (kV kv.1, kv.2)) ∧ RepK G F r kvs kws ∧ kws.length = kvs.length
  | [], ps, kvs, h, e => by
    cases e
    have := h.1.length
    have : ps = [] := List.eq_nil_of_length_eq_zero (by simpa using this)
    subst this
    exact ⟨[], rfl, RepK.nil, rfl⟩
  | (k, x) :: qs, ps, kvs, h, e => by
    cases ps with
    | nil =>
      have := h.1.length
      simp at this
    | cons p ps =>
      obtain ⟨pk, pv⟩ := p
      unfold keysD at e
      obtain ⟨v, w, e1, a1, b1⟩ := Reps.inv (show Reps G F r (k :: qs.map (·.1)) (pk :: ps.map (·.1)) from h.1)
      obtain ⟨v2, w2, e2, a2, b2⟩ := Reps.inv (show Reps G F r (x :: qs.map (·.2)) (pv :: ps.map (·.2)) from h.2)
      cases e1
      cases e2
      cases ek : keyD k with
      | none => rw [ek] at e; cases e
      | some k' =>
        rw [ek] at e
        cases er : keysD qs with
        | none => rw [er] at e; cases e
        | some r' =>
          rw [er] at e
          cases e
          obtain ⟨kws, z1, z2, z3⟩ := keysD_rep (qs := qs) (ps := ps) ⟨b1, b2⟩ er
          refine ⟨(k', pv) :: kws, ?_, RepK.cons a2 z2, by rw [List.length_cons, List.length_cons, z3]⟩
          rw [List.map_cons, ← z1]
          have : pk = kV k' := by
            unfold keyD at ek
            split at ek
            · cases ek
              rw [rep_int] at a1
              exact a1
            · cases ek
              rw [rep_str] at a1
              exact a1
            · cases ek
          rw [this]
theorem ev_dct {keys : List (Option Expr)} {values : List Expr} {trs : List (TE × TE)} {m : DP} (h : PD X W pos keys values trs m) (hall : keys.all (·.isSome) = true := by rfl) (hl : keys.length = values.length := by rfl) (h0 : keys ≠ [] := by simp) (h15 : keys.length ≤ 15 := by decide) :
    PE X (.Dict keys values pos) (tD X W (mDct m)) := by
  refine PE.imp (pe_disp h.pps hall hl h0 h15) fun σ H Q hq => ?_
  obtain ⟨F, r, R, env, M, hE, hS, hp⟩ := hq
  intro p hpn
  obtain ⟨hF, hR, hr⟩ := hS.notR hpn
  have S1 := hS.resv (u := .dK []) hpn
  have hp' : ((m env M).bind fun qs M1 => match keysD qs with
    | some kvs => if kvs.length ≤ 15 then Out.ok (D.dct (mergeD [] kvs)) M1 else .bad
    | none => .bad).post (fun d M' => OKx Rep (gd X) F r R Q d M') (EXc (gd X) F r R W σ) := hp
  refine h.run σ _ _ ⟨F, r, upd R p (.dK []), env, M, hE, S1, Out.post_imp (Out.post_bind hp') (fun qs M1 q => ?_) fun e M1 q => ?_⟩
  · intro F2 r2 H2 ps s2 p2 S2 R2
    split at q
    · rename_i kvs ek
      split at q
      · rename_i h15
        obtain ⟨kws, z1, z2, z3⟩ := keysD_rep R2 ek
        obtain ⟨hH, _, _⟩ := S2.resAt
        refine ⟨hH, kws, z1, by rw [z3]; exact h15, ?_⟩
        have S3 := S2.rewr (u' := .dK (mergeK [] kws))
        obtain ⟨s4, S4⟩ := S3.unresF hR
        refine q _ r2 _ _ (s2.trans s4) p2 S4 ?_
        rw [rep_dct]
        exact ⟨p, _, rfl, upd_same, (RepK.merge z2 RepK.nil).mono s4 (List.prefix_refl _)⟩
      · exact q.elim
    · exact q.elim
  · intro F2 r2 H2 cls d s2 p2 S2 hx
    exact q F2 r2 H2 cls d s2 p2 (S2.unres hR) hx
theorem ev_dnew : PE X (.Dict [] [] pos) (tD X W mDct0) := by
  refine PE.imp pe_dnewK fun σ H Q hq => ?_
  obtain ⟨F, r, R, env, M, hE, hS, hp⟩ := hq
  intro p hpn
  obtain ⟨hF, hR, hr⟩ := hS.notR hpn
  exact hp _ r _ _ (Sub.upd hF) (List.prefix_refl _) (hS.froz hpn) (by rw [rep_dct]; exact ⟨p, [], rfl, upd_same, RepK.nil⟩)
end
end EV
set_option maxHeartbeats 4000000
/-! plain evaluation -/
namespace EV
open PySem PySem.Spec PyProof.Rows L2
theorem Out.bind_ok {α β : Type} (a : α) (M : Sto) (f : α → Sto → Out β) : (Out.ok a M).bind f = f a M := rfl
theorem Out.then_ok {α : Type} (a : α) (M : Sto) (env : DEnv) (f : α → Sto → OutS) : (Out.ok a M).thenS env f = f a M := rfl
theorem noExc_ok {α : Type} (a : α) (M : Sto) : noExc (Out.ok a M) = .ok a M := rfl
theorem take_set_len (M : Sto) (n : Nat) (x : Ob) : (M.set n x).take M.length = M.set n x := by
  have : (M.set n x).length = M.length := List.length_set
  rw [← this]
  exact List.take_length
theorem take_app_len (M N : Sto) : (M ++ N).take M.length = M := List.take_left
theorem get_app_len (M : Sto) (x : Ob) : (M ++ [x])[M.length]? = some x := by simp
end EV
set_option maxHeartbeats 4000000
/-! what a plain evaluation must reach -/
namespace EV
open PySem PySem.Spec PyProof.Rows L2
def wp {α : Type} (o : Out α) (P : α → Sto → Prop) : Prop := match o with
  | .ok a M => P a M
  | _ => False
def ws (o : OutS) (N : DEnv → Sto → Prop) (R : D → Sto → Prop) (B C : DEnv → Sto → Prop) : Prop := match o with
  | .nx e M => N e M
  | .rt d M => R d M
  | .bk e M => B e M
  | .ct e M => C e M
  | _ => False
theorem wp_ok {α : Type} {a : α} {M : Sto} {P : α → Sto → Prop} (h : P a M) : wp (.ok a M) P := h
theorem wp_mono {α : Type} {o : Out α} {P Q : α → Sto → Prop} (h : wp o P) (k : ∀ a M, P a M → Q a M) : wp o Q := by
  cases o with
  | ok a M => exact k a M h
  | exc e M => exact h.elim
  | bad => exact h.elim
theorem wp_eq {α : Type} {o : Out α} {P : α → Sto → Prop} (h : wp o P) : ∃ a M, o = .ok a M ∧ P a M := by
  cases o with
  | ok a M => exact ⟨a, M, rfl, h⟩
  | exc e M => exact h.elim
  | bad => exact h.elim
theorem wp_of_eq {α : Type} {o : Out α} {a : α} {M : Sto} {P : α → Sto → Prop} (h : o = .ok a M) (k : P a M) : wp o P := by
  subst h; exact k
theorem ws_mono {o : OutS} {N N' : DEnv → Sto → Prop} {R R' : D → Sto → Prop} {B C B' C' : DEnv → Sto → Prop} (h : ws o N R B C) (hn : ∀ e M, N e M → N' e M) (hr : ∀ e M, R e M → R' e M) (hb : ∀ e M, B e M → B' e M) (hc : ∀ e M, C e M → C' e M) : ws o N' R' B' C' := by
  cases o with
  | nx e M => exact hn _ _ h
  | rt e M => exact hr _ _ h
  | bk e M => exact hb _ _ h
  | ct e M => exact hc _ _ h
  | exc x e M => exact h.elim
  | bad => exact h.elim
theorem wp_bind {α β : Type} {o : Out α} {f : α → Sto → Out β} {P : β → Sto → Prop} (h : wp o fun a M => wp (f a M) P) : wp (o.bind f) P := by
  cases o with
  | ok a M => exact h
  | exc e M => exact h.elim
  | bad => exact h.elim
theorem wp_no {α : Type} {o : Out α} {P : α → Sto → Prop} (h : wp o P) : wp (noExc o) P := by
  cases o with
  | ok a M => exact h
  | exc e M => exact h.elim
  | bad => exact h.elim
theorem ws_then {α : Type} {o : Out α} {env : DEnv} {f : α → Sto → OutS} {N : DEnv → Sto → Prop} {R : D → Sto → Prop} {B C : DEnv → Sto → Prop} (h : wp o fun a M => ws (f a M) N R B C) : ws (o.thenS env f) N R B C := by
  cases o with
  | ok a M => exact h
  | exc e M => exact h.elim
  | bad => exact h.elim
section
variable {env : DEnv} {M : Sto} {P : D → Sto → Prop} {PT : Bool → Sto → Prop} {PA : List D → Sto → Prop} {N : DEnv → Sto → Prop} {R : D → Sto → Prop} {B C : DEnv → Sto → Prop}
theorem cur_ty {M : Sto} {x : D} {t : TyV} (h : tyOf M x = some t) : x.isCur = false := by
  cases x <;> first | rfl | cases h
theorem wp_var {i : Nat} {d : D} (h : env[i]? = some (some d)) (k : P d M) (hc : d.isCur = false := by first | with_unfolding_all rfl | assumption) : wp (mVar i env M) P := by
  unfold mVar; rw [h]; simp only [hc, Bool.false_eq_true, if_false]; exact k
theorem wp_k {d : D} (k : P d M) : wp (mK d env M) P := k
theorem wp_m2 {f : Op2} {a b : DE} (h : wp (a env M) fun x M1 => wp (b env M1) fun y M2 => wp (f x y M2) P) : wp (m2 f a b env M) P :=
  wp_bind (wp_mono h fun _ _ h => wp_bind (wp_mono h fun _ _ h => wp_no h))
theorem wp_m1 {f : Op1} {a : DE} (h : wp (a env M) fun x M1 => wp (f x M1) P) : wp (m1 f a env M) P :=
  wp_bind (wp_mono h fun _ _ h => wp_no h)
theorem wp_mL {f : OpL} {a : DA} (h : wp (a env M) fun x M1 => wp (f x M1) P) : wp (mL f a env M) P :=
  wp_bind (wp_mono h fun _ _ h => wp_no h)
theorem wp_call {f : DFn} {a : DA} (h : wp (a env M) fun x M1 => wp (f x M1) P) : wp (mCall f a env M) P :=
  wp_bind (wp_mono h fun _ _ h => wp_no h)
theorem wp_call0 {f : DFn} (h : wp (f [] M) P) : wp (mCall0 f env M) P := wp_no h
theorem wp_nil (k : PA [] M) : wp (aNil env M) PA := k
theorem wp_cons {a : DE} {as : DA} (h : wp (a env M) fun x M1 => wp (as env M1) fun xs M2 => PA (x :: xs) M2) : wp (aCons a as env M) PA :=
  wp_bind (wp_mono h fun _ _ h => wp_bind (wp_mono h fun _ _ h => h))
theorem wp_tst {m : DE} (h : wp (m env M) fun x M1 => ∃ b, x = .bl b ∧ PT b M1) : wp (tst m env M) PT :=
  wp_bind (wp_mono h fun x M1 h => by obtain ⟨b, rfl, h⟩ := h; exact h)
theorem wp_ch {f g : Op2} {a b c : DE} (h : wp (a env M) fun x M1 => wp (b env M1) fun y M2 => wp (f x y M2) fun z M3 => ∃ k, z = .bl k ∧ ((k = false → P (.bl false) M3) ∧ (k = true → wp (c env M3) fun u M4 => wp (g y u M4) P))) : wp (mCh f g a b c env M) P := by
  unfold mCh
  refine wp_bind (wp_mono h fun x M1 h => wp_bind (wp_mono h fun y M2 h => wp_bind (wp_no (wp_mono h fun z M3 h => ?_))))
  obtain ⟨k, rfl, h1, h2⟩ := h
  cases k
  · exact h1 rfl
  · exact wp_bind (wp_mono (h2 rfl) fun _ _ h => wp_no h)
theorem wp_and {a b : DE} (h : wp (a env M) fun x M1 => ∃ k, x = .bl k ∧ ((k = false → P (.bl false) M1) ∧ (k = true → wp (b env M1) P))) : wp (mAnd a b env M) P := by
  unfold mAnd
  refine wp_bind (wp_mono h fun x M1 h => ?_)
  obtain ⟨k, rfl, h1, h2⟩ := h
  cases k
  · exact h1 rfl
  · exact h2 rfl
theorem wp_or {a b : DE} (h : wp (a env M) fun x M1 => ∃ k, x = .bl k ∧ ((k = true → P (.bl true) M1) ∧ (k = false → wp (b env M1) P))) : wp (mOr a b env M) P := by
  unfold mOr
  refine wp_bind (wp_mono h fun x M1 h => ?_)
  obtain ⟨k, rfl, h1, h2⟩ := h
  cases k
  · exact h2 rfl
  · exact h1 rfl
theorem wp_not {a : DE} (h : wp (a env M) fun x M1 => ∃ k, x = .bl k ∧ P (.bl !k) M1) : wp (mNot a env M) P := by
  unfold mNot
  refine wp_bind (wp_mono h fun x M1 h => ?_)
  obtain ⟨k, rfl, h⟩ := h
  exact h
theorem wp_if {c : DT} {a b : DE} (h : wp (c env M) fun k M1 => (k = true → wp (a env M1) P) ∧ (k = false → wp (b env M1) P)) : wp (mIf c a b env M) P := by
  unfold mIf
  refine wp_bind (wp_mono h fun k M1 h => ?_)
  cases k
  · exact h.2 rfl
  · exact h.1 rfl
theorem wp_tup {as : DA} (h : wp (as env M) fun xs M1 => xs.length ≤ lim ∧ P (.tup xs) M1) : wp (mTup as env M) P := by
  unfold mTup
  refine wp_bind (wp_mono h fun xs M1 h => ?_)
  rw [if_pos h.1]; exact h.2
theorem wp_lst {as : DA} (h : wp (as env M) fun xs M1 => xs.length ≤ lim ∧ P (.lst xs) M1) : wp (mLst as env M) P := by
  unfold mLst
  refine wp_bind (wp_mono h fun xs M1 h => ?_)
  rw [if_pos h.1]; exact h.2
theorem wp_lstM {as : DA} (h : wp (as env M) fun xs M1 => (xs.length ≤ lim ∧ belows M1.length xs = true) ∧ P (.ref M1.length) (M1 ++ [.lst xs])) : wp (mLstM as env M) P := by
  unfold mLstM
  refine wp_bind (wp_mono h fun xs M1 h => ?_)
  rw [if_pos h.1]; exact h.2
theorem ws_nil (k : N env M) : ws (sNil env M) N R B C := k
theorem ws_seq {a b : DS} (h : ws (a env M) (fun e M1 => ws (b e M1) N R B C) R B C) : ws (sSeq a b env M) N R B C := by
  unfold sSeq
  cases ha : a env M with
  | nx e M1 => rw [ha] at h; exact h
  | rt d M1 => rw [ha] at h; exact h
  | bk e M1 => rw [ha] at h; exact h
  | ct e M1 => rw [ha] at h; exact h
  | exc x e M1 => rw [ha] at h; exact h.elim
  | bad => rw [ha] at h; exact h.elim
theorem ws_expr {e : DE} (h : wp (e env M) fun _ M1 => N env M1) : ws (sExpr e env M) N R B C := ws_then h
theorem ws_ret {e : DE} (h : wp (e env M) R) : ws (sRet e env M) N R B C := ws_then h
theorem ws_retN (k : R .non M) : ws (sRetN env M) N R B C := k
theorem ws_break (k : B env M) : ws (sBreak env M) N R B C := k
theorem ws_cont (k : C env M) : ws (sCont env M) N R B C := k
theorem ws_if {c : DT} {a b : DS} (h : wp (c env M) fun k M1 => (k = true → ws (a env M1) N R B C) ∧ (k = false → ws (b env M1) N R B C)) : ws (sIf c a b env M) N R B C := by
  refine ws_then (wp_mono h fun k M1 h => ?_)
  cases k
  · exact h.2 rfl
  · exact h.1 rfl
theorem ws_asg {e : DE} {g : DG} (h : wp (e env M) fun d M1 => ∃ p, g d env M1 = some p ∧ N p.1 p.2) : ws (sAsg e g env M) N R B C := by
  refine ws_then (wp_mono h fun d M1 h => ?_)
  obtain ⟨p, hp, h⟩ := h
  rw [hp]; exact h
theorem ws_set {e : DE} {i : Nat} (h : wp (e env M) fun d M1 => N (env.set i (some d)) M1) : ws (sAsg e (gN i) env M) N R B C :=
  ws_asg (wp_mono h fun d M1 h => ⟨_, rfl, h⟩)
theorem ws_put {e : DE} {put : D → D → D → Sto → Option Sto} {o i : DE} (h : wp (e env M) fun d M1 => wp (o env M1) fun x M2 => wp (i env M2) fun y M3 => ∃ M4, put x y d M3 = some M4 ∧ N env M4) : ws (sAsg e (gS put o i) env M) N R B C := by
  refine ws_asg (wp_mono h fun d M1 h => ?_)
  obtain ⟨x, M2, ho, h⟩ := wp_eq h
  obtain ⟨y, M3, hi, M4, hp, h⟩ := wp_eq h
  refine ⟨(env, M4), ?_, h⟩
  simp only [gS, ho, hi, hp, Option.map_some]
theorem ws_par {a b : DE} {i j : Nat} (h : wp (a env M) fun x M1 => wp (b env M1) fun y M2 => N ((env.set i (some x)).set j (some y)) M2) : ws (sPar i j a b env M) N R B C := by
  refine ws_then (wp_bind (wp_mono h fun x M1 h => wp_bind (wp_mono h fun y M2 h => h)))
theorem wp_rng1 {a : DA} {PS : Src → Sto → Prop} (h : wp (a env M) fun xs M1 => ∃ n, xs = [.int n] ∧ (-big ≤ n ∧ n ≤ big) ∧ PS (.imm (rngD 0 n.toNat)) M1) : wp (mRng1 a env M) PS := by
  unfold mRng1
  refine wp_bind (wp_mono h fun xs M1 h => ?_)
  obtain ⟨n, rfl, hn, h⟩ := h
  show wp (if -big ≤ n ∧ n ≤ big then Out.ok (Src.imm (rngD 0 n.toNat)) M1 else Out.bad) PS
  rw [if_pos hn]; exact h
end
theorem wp_fn {n N : Nat} {fin : Nat → D → Sto → Out D} {b : DS} {ds : List D} {M : Sto} {P : D → Sto → Prop} (hn : ds.length = n)
    (h : ws (b (ds.map some ++ List.replicate (N - n) none) M) (fun _ M' => wp (fin M.length .non M') P) (fun d M' => wp (fin M.length d M') P) (fun _ _ => False) fun _ _ => False) : wp (fnD n N fin b ds M) P := by
  unfold fnD
  rw [if_pos hn]
  cases ha : b (ds.map some ++ List.replicate (N - n) none) M with
  | nx e M1 => rw [ha] at h; exact h
  | rt d M1 => rw [ha] at h; exact h
  | bk e M1 => rw [ha] at h; exact h.elim
  | ct e M1 => rw [ha] at h; exact h.elim
  | exc x e M1 => rw [ha] at h; exact h.elim
  | bad => rw [ha] at h; exact h.elim
theorem wp_finP {k : Nat} {d : D} {M : Sto} {P : D → Sto → Prop} (hb : below k d = true) (hl : M.length = k) (h : P d M) : wp (finP k d M) P := by
  unfold finP
  rw [if_pos hb, ← hl, List.take_length]; exact h
theorem wp_finP' {k : Nat} {d : D} {M : Sto} {P : D → Sto → Prop} (hb : below k d = true) (h : P d (M.take k)) : wp (finP k d M) P := by
  unfold finP
  rw [if_pos hb]; exact h
/-- a loop over a fixed row -/
theorem ws_for {it : DI} {g : DG} {b : DS} {env : DEnv} {M : Sto} {N : DEnv → Sto → Prop} {R : D → Sto → Prop} {B C : DEnv → Sto → Prop} (I : List D → DEnv → Sto → Prop)
    (h0 : wp (it env M) fun s M1 => ∃ xs, s = .imm xs ∧ I xs env M1)
    (hend : ∀ e M, I [] e M → N e M)
    (hstep : ∀ x xs e M, I (x :: xs) e M → ∃ p, g x e M = some p ∧ ws (b p.1 p.2) (I xs) R N (I xs)) : ws (sFor it g b env M) N R B C := by
  refine ws_then (wp_mono h0 fun s M1 h => ?_)
  obtain ⟨xs, rfl, hI⟩ := h
  show ws (forL g b xs env M1) N R B C
  clear h0
  revert env M1 hI
  induction xs with
  | nil => intro env M1 hI; exact hend _ _ hI
  | cons x xs ih =>
    intro env M1 hI
    obtain ⟨p, hp, h⟩ := hstep _ _ _ _ hI
    unfold forL
    rw [hp]
    show ws (match b p.1 p.2 with
      | .nx e M' => forL g b xs e M'
      | .ct e M' => forL g b xs e M'
      | .bk e M' => .nx e M'
      | .rt d M' => .rt d M'
      | .exc x e M' => .exc x e M'
      | .bad => .bad) N R B C
    cases hb : b p.1 p.2 with
    | nx e M2 => rw [hb] at h; exact ih _ h
    | ct e M2 => rw [hb] at h; exact ih _ h
    | rt d M2 => rw [hb] at h; exact h
    | bk e M2 => rw [hb] at h; exact h
    | exc x e M2 => rw [hb] at h; exact h.elim
    | bad => rw [hb] at h; exact h.elim
/-! operators at whole numbers and texts -/
section
variable {M : Sto} {P : D → Sto → Prop}
theorem wd_add {i j : Int} (h : P (.int (i + j)) M) : wp (dAdd (.int i) (.int j) M) P := h
theorem wd_adds {x y : Str} (hl : x.length + y.length ≤ lim) (h : P (.str (x ++ y)) M) : wp (dAdd (.str x) (.str y) M) P := by
  unfold dAdd; simp only [hl, if_true]; exact h
theorem wd_sub {i j : Int} (h : P (.int (i - j)) M) : wp (dSub (.int i) (.int j) M) P := h
theorem lg_lt {n k : Nat} (h : n < 2 ^ k) (hk : 0 < k) : n.log2 < k := by
  by_cases h0 : n = 0
  · subst h0; rw [show Nat.log2 0 = 0 from by decide]; exact hk
  · exact (Nat.log2_lt h0).2 h
theorem mulOk_of {i j : Int} (hi : i.natAbs < 2 ^ 1000) (hj : j.natAbs < 2 ^ 1000) : mulOk i j = true := by
  have h1 := lg_lt hi (by decide)
  have h2 := lg_lt hj (by decide)
  unfold mulOk
  rw [decide_eq_true_eq]; omega
theorem wd_mul {i j : Int} (hk : mulOk i j = true) (h : P (.int (i * j)) M) : wp (dMul (.int i) (.int j) M) P := by
  unfold dMul; simp only [hk, if_true]; exact h
theorem wd_mod {i j : Int} (hk : 0 < j) (h : P (.int (i % j)) M) : wp (dMod (.int i) (.int j) M) P := by
  unfold dMod; simp only [hk, if_true]; exact h
theorem divOk_of {j : Int} (h0 : 0 < j) (h : j.natAbs < 2 ^ 1000) : divOk j = true := by
  have h1 := lg_lt h (by decide)
  unfold divOk
  rw [Bool.and_eq_true, decide_eq_true_eq, decide_eq_true_eq]
  exact ⟨h0, by omega⟩
theorem wd_div {i j : Int} (hk : divOk j = true) (h : P (.int (i / j)) M) : wp (dDiv (.int i) (.int j) M) P := by
  unfold dDiv; simp only [hk, if_true]; exact h
theorem wd_pow {i j : Int} (hk : powOk i j = true) (h : P (.int (i ^ j.toNat)) M) : wp (dPow (.int i) (.int j) M) P := by
  unfold dPow; simp only [hk, if_true]; exact h
theorem wd_neg {i : Int} (h : P (.int (-i)) M) : wp (dNeg (.int i) M) P := h
theorem wd_lt {i j : Int} (h : P (.bl (decide (i < j))) M) : wp (dLt (.int i) (.int j) M) P := h
theorem wd_le {i j : Int} (h : P (.bl (decide (i ≤ j))) M) : wp (dLe (.int i) (.int j) M) P := h
theorem wd_gt {i j : Int} (h : P (.bl (decide (j < i))) M) : wp (dGt (.int i) (.int j) M) P := h
theorem wd_ge {i j : Int} (h : P (.bl (decide (j ≤ i))) M) : wp (dGe (.int i) (.int j) M) P := h
theorem wd_eq {a b : D} {k : Bool} (hk : eqD M a b = some k) (h : P (.bl k) M) : wp (dEq a b M) P := by
  unfold dEq; rw [hk]; exact h
theorem wd_ne {a b : D} {k : Bool} (hk : eqD M a b = some k) (h : P (.bl !k) M) : wp (dNe a b M) P := by
  unfold dNe; rw [hk]; exact h
theorem wd_int {i : Int} (h : P (.int i) M) : wp (dInt [.int i] M) P := h
theorem wd_intb {b : Bool} (h : P (.int (if b = true then 1 else 0)) M) : wp (dInt [.bl b] M) P := h
theorem wd_abs {i : Int} (h : P (.int i.natAbs) M) : wp (dAbs [.int i] M) P := by
  have e : (if i < 0 then -i else i) = (i.natAbs : Int) := by split <;> omega
  show P (.int (if i < 0 then -i else i)) M
  rw [e]; exact h
theorem wd_max2 {i j : Int} (h : P (.int (if j > i then j else i)) M) : wp (dMax2 [.int i, .int j] M) P := h
theorem wd_min2 {i j : Int} (h : P (.int (if j < i then j else i)) M) : wp (dMin2 [.int i, .int j] M) P := h
theorem wd_len {d : D} {xs : List D} (hs : seqD M d = some xs) (h : P (.int xs.length) M) : wp (dLen [d] M) P := by
  cases d <;> first | (simp only [dLen, hs]; exact h) | simp only [seqD, reduceCtorEq] at hs
theorem wd_lens {x : Str} (hx : x.length ≤ lim) (h : P (.int x.length) M) : wp (dLen [.str x] M) P := by
  simp only [dLen, hx, if_true]; exact h
theorem wd_isi {d : D} {n : TyN} {t : TyV} (ht : tyOf M d = some t) (h : P (.bl (isB t n)) M) : wp (dIsi [d, .ty n] M) P := by
  simp only [dIsi, ht]; exact h
theorem wd_ix {d : D} {xs : List D} {i : Int} {x : D} (hs : seqD M d = some xs) (hx : atD xs i = some x) (h : P x M) : wp (dIx d (.int i) M) P := by
  cases d <;> first | (simp only [dIx, hs, hx]; exact h) | simp only [seqD, reduceCtorEq] at hs
theorem wd_inS {x y : Str} (h : P (.bl (inStr x y)) M) : wp (dInS (.str x) (.str y) M) P := h
theorem wd_str {i : Int} (hi : i.natAbs.log2 < 1920) (h : P (.str (toString i)) M) : wp (dStr [.int i] M) P := by
  simp only [dStr, hi, if_true]; exact h
end
end EV
set_option maxHeartbeats 4000000
/-! own classes: attributes, making, methods, properties -/
namespace EV
open PySem PySem.Spec PyProof.Rows L2
variable [Tbl]
/-- an attribute name of an own class that no class has -/
def FldAt (K : PySem.W.Frag) (mg : Str → Option Value) (c f : Str) : Prop := ∃ C, mg c = some (.ref C) ∧ Cls K C ∧ NoAttr K C f
def insD (M : Sto) (c : Str) : D → Option (List (Str × D))
  | .obj c' fs => if c' = c then some fs else none
  | .ref n => match M[n]? with
    | some (.ins c' fs) => if c' = c then some fs else none
    | _ => none
  | _ => none
theorem insD_rep {G : Gd} {F H R : Hp} {r : List Addr} {M : Sto} {c : Str} {d : D} {v : V} {fs : List (Str × D)} (S : StoR G F r R M H) (q : Rep G F r d v) (e : insD M c d = some fs) :
    ∃ a C dx vfs, v = .ref a ∧ G.mg c = some (.ref C) ∧ H a = some (.ins C dx vfs) ∧ RepF G F r fs vfs := by
  cases d <;> try (simp only [insD, reduceCtorEq] at e)
  · rename_i c' gs
    split at e
    · rename_i hc
      cases e
      subst hc
      unfold Rep at q
      obtain ⟨a, C, dx, vfs, h1, h2, h3, h4⟩ := q
      exact ⟨a, C, dx, vfs, h1, h2, S.sub _ _ h3, h4⟩
    · cases e
  · rename_i n
    unfold Rep at q
    obtain ⟨a, h1, h2⟩ := q
    cases hM : M[n]? with
    | none => rw [hM] at e; cases e
    | some o =>
      rw [hM] at e
      cases o with
      | lst xs => cases e
      | dct xs => cases e
      | ins c' gs =>
        dsimp only at e
        split at e
        · rename_i hc
          cases e
          subst hc
          obtain ⟨a', h3, h4⟩ := S.get hM
          rw [h1] at h3
          cases h3
          obtain ⟨C, dx, vfs, g1, g2, g3⟩ := h4
          exact ⟨a, C, dx, vfs, h2, g1, g2, g3.mono (Sub.refl _) (take_pre r n)⟩
        · cases e
theorem RepF.nil {G : Gd} {F : Hp} {r : List Addr} : RepF G F r [] [] := by unfold RepF; rfl
theorem RepF.look {G : Gd} {F : Hp} {r : List Addr} {f : Str} : ∀ {d : List (Str × D)} {v : List (Str × V)} {x : D}, RepF G F r d v → d.lookup f = some x → ∃ y, v.lookup f = some y ∧ Rep G F r x y
  | [], v, x, h, e => by cases e
  | (k, z) :: ds, v, x, h, e => by
    unfold RepF at h
    obtain ⟨u, w, rfl, h1, h2⟩ := h
    rw [List.lookup_cons] at e ⊢
    cases hk : f == k with
    | true => rw [hk] at e; cases e; exact ⟨u, rfl, h1⟩
    | false => rw [hk] at e; exact RepF.look h2 e
theorem RepF.length {G : Gd} {F : Hp} {r : List Addr} : ∀ {d : List (Str × D)} {v : List (Str × V)}, RepF G F r d v → v.length = d.length
  | [], v, h => by unfold RepF at h; subst h; rfl
  | (k, z) :: ds, v, h => by
    unfold RepF at h
    obtain ⟨u, w, rfl, h1, h2⟩ := h
    rw [List.length_cons, List.length_cons, RepF.length h2]
/-- an attribute put in -/
def putFD (f : Str) (y : D) : List (Str × D) → List (Str × D)
  | [] => [(f, y)]
  | (g, x) :: r => if g = f then (g, y) :: r else (g, x) :: putFD f y r
theorem RepF.put {G : Gd} {F : Hp} {r : List Addr} {f : Str} {y : D} {u : V} (q : Rep G F r y u) : ∀ {d : List (Str × D)} {v : List (Str × V)}, RepF G F r d v → RepF G F r (putFD f y d) (putF f u v)
  | [], v, h => by
    unfold RepF at h
    subst h
    show RepF G F r [(f, y)] [(f, u)]
    unfold RepF
    exact ⟨u, [], rfl, q, RepF.nil⟩
  | (k, z) :: ds, v, h => by
    unfold RepF at h
    obtain ⟨x, w, rfl, h1, h2⟩ := h
    unfold putFD putF
    by_cases hk : k = f
    · rw [if_pos hk, if_pos hk]
      unfold RepF
      exact ⟨u, w, rfl, q, h2⟩
    · rw [if_neg hk, if_neg hk]
      unfold RepF
      exact ⟨x, _, rfl, h1, RepF.put q h2⟩
theorem RepF.none {G : Gd} {F : Hp} {r : List Addr} {f : Str} : ∀ {d : List (Str × D)} {v : List (Str × V)}, RepF G F r d v → d.lookup f = Option.none → v.lookup f = Option.none
  | [], v, h, e => by unfold RepF at h; subst h; rfl
  | (k, z) :: ds, v, h, e => by
    unfold RepF at h
    obtain ⟨u, w, rfl, h1, h2⟩ := h
    rw [List.lookup_cons] at e ⊢
    cases hk : f == k with
    | true => rw [hk] at e; cases e
    | false => rw [hk] at e; exact RepF.none h2 e
/-- o.f -/
def mFld (c f : Str) (o : DE) : DE := fun env M => (o env M).bind fun d M1 => match insD M1 c d with
  | some fs => (match fs.lookup f with
    | some v => .ok v M1
    | none => .bad)
  | none => .bad
section
variable {X : Cx} {W : EXK} {pos apos : Pos} {o e : Expr} {es : List Expr} {mo m : DE} {mas : DA} {c f : Str}
theorem ev_fld (hf : FldAt X.K X.mg c f) (ho : PE X o (tD X W mo)) (hb : attributeBase o f X.env (eval o X.env) = eval o X.env := by rfl) : PE X (.Attribute o f pos) (tD X W (mFld c f mo)) := by
  refine PE.imp (pe_fld ho hb) fun σ H Q h => ?_
  obtain ⟨F, r, R, env, M, hE, hS, hp⟩ := h
  refine tX.imp (tX.bind OKx.mono' hE hS hp) fun x H1 ⟨F1, r1, M1, d, s1, p1, hE1, hS1, R1, hp1⟩ => ?_
  cases e1 : insD M1 c d with
  | none => rw [e1] at hp1; exact hp1.elim
  | some fs =>
    rw [e1] at hp1
    cases e2 : fs.lookup f with
    | none => simp only [e2] at hp1; exact hp1.elim
    | some v =>
      simp only [e2] at hp1
      obtain ⟨a, C, dx, vfs, rfl, hC, hH, hF⟩ := insD_rep hS1 R1 e1
      obtain ⟨y, hy, Ry⟩ := hF.look e2
      obtain ⟨C', g1, g2, g3⟩ := hf
      have : C' = C := by
        have := g1.symm.trans hC
        cases this
        rfl
      subst this
      exact ⟨a, C', dx, vfs, y, rfl, hH, g2, g3, hy, OKx.here hp1 hS1 Ry⟩
/-- o.f = value, o a live object -/
def sFldD (c f : Str) (e o : DE) : DS := fun env M => (e env M).thenS env fun y M1 => (o env M1).thenS env fun d M2 => match d with
  | .ref n => (match M2[n]? with
    | some (.ins c' fs) => if c' = c ∧ fs.length < 1000 ∧ below n y = true then .nx env (M2.set n (.ins c (putFD f y fs))) else .bad
    | _ => .bad)
  | _ => .bad
theorem evs_fld {pos' : Pos} (hf : FldAt X.K X.mg c f) (he : PE X e (tD X W m)) (ho : PE X o (tD X W mo)) (hs : swapsWith e (some (.Attribute o f pos')) pos.line X.env = pure false := by rfl) :
    PS X (.Assign [.Attribute o f pos'] e pos) (tS X W (sFldD c f m mo)) := by
  refine PS.imp (ps_fld ho he hs) fun Dn σ H h => ?_
  obtain ⟨F, r, R, env, M, hE, hS, hp⟩ := h
  refine tX.imp (thenS_bind hE hS hp) fun y H1 ⟨F1, r1, M1, dy, s1, p1, hE1, hS1, R1, hp1⟩ => ?_
  refine tX.imp (thenS_bind hE1 hS1 hp1) fun x H2 ⟨F2, r2, M2, d, s2, p2, hE2, hS2, R2, hp2⟩ => ?_
  cases d <;> try exact hp2.elim
  rename_i n
  dsimp only at hp2
  cases hM : M2[n]? with
  | none => rw [hM] at hp2; exact hp2.elim
  | some ob =>
    rw [hM] at hp2
    cases ob with
    | lst xs => exact hp2.elim
    | dct xs => exact hp2.elim
    | ins c' fs =>
      dsimp only at hp2
      split at hp2
      · rename_i hc
        obtain ⟨rfl, hl, hb⟩ := hc
        unfold Rep at R2
        obtain ⟨a, h1, rfl⟩ := R2
        obtain ⟨a', h3, C, dx, vfs, g1, g2, g3⟩ := hS2.get hM
        rw [h1] at h3
        cases h3
        obtain ⟨C', k1, k2, k3⟩ := hf
        have : C' = C := by
          have := k1.symm.trans g1
          cases this
          rfl
        subst this
        refine ⟨a, C', dx, vfs, rfl, g2, k2, k3, by rw [g3.length]; exact hl, ?_⟩
        have Ry : Rep (gd X) F2 (r2.take n) dy y := Rep.cut (R1.mono s2 p2) hb
        have S3 := hS2.write (n := n) h1 (u := .ins C' dx (putF f y vfs)) (o := .ins c' (putFD f dy fs)) fun H' hH' => ⟨C', dx, _, k1, hH', RepF.put Ry g3⟩
        exact hp2 F2 r2 _ σ (Sub.refl _) (List.prefix_refl _) hE2 S3
      · exact hp2.elim
end
end EV
set_option maxHeartbeats 4000000
/-! own classes: making, methods, properties -/
namespace EV
open PySem PySem.Spec PyProof.Rows L2
variable [Tbl]
/-- the def of a class under a name -/
structure MetAt (P : Program) (w : World) (K : PySem.W.Frag) (mg : Str → Option Value) (base : Heap) (k : Nat) (c m : Str) (n : Nat) (Fn : DFn) : Prop where
  at_ : ∃ C f fd ps, mg c = some (.ref C) ∧ Cls K C ∧ Meth K C m f ∧ Binds K fd ps [] ∧ ps.length = n ∧ FnG P w K mg base CX0 k f fd ps (spD0 ⟨K, mg⟩ n Fn)
  ar : ∀ ds M, ds.length ≠ n → Fn ds M = .bad
/-- the def that makes an instance -/
structure NewAt (P : Program) (w : World) (K : PySem.W.Frag) (mg : Str → Option Value) (base : Heap) (k : Nat) (c : Str) (n : Nat) (Fn : DFn) : Prop where
  at_ : ∃ C f fd ps, mg c = some (.ref C) ∧ Mk K C f ∧ Binds K fd ps [] ∧ ps.length = n ∧ FnG P w K mg base CX0 k f fd ps (spD0 ⟨K, mg⟩ n Fn)
  ar : ∀ ds M, ds.length ≠ n → Fn ds M = .bad
/-- a property -/
structure PrpAt (P : Program) (w : World) (K : PySem.W.Frag) (mg : Str → Option Value) (base : Heap) (k : Nat) (c f : Str) (Fn : DFn) : Prop where
  at_ : ∃ C p g fd ps, mg c = some (.ref C) ∧ Cls K C ∧ PropOf K C f p g ∧ Binds K fd ps [] ∧ ps.length = 1 ∧ FnG P w K mg base CX0 k g fd ps (spD0 ⟨K, mg⟩ 1 Fn)
theorem len_of {n : Nat} {Fn : DFn} (ar : ∀ ds M, ds.length ≠ n → Fn ds M = .bad) {ds : List D} {M : Sto} {P : D → Sto → Prop} {Y : Exn → Sto → Prop} (h : (Fn ds M).post P Y) : ds.length = n := by
  by_cases hl : ds.length = n
  · exact hl
  · rw [ar ds M hl] at h
    exact h.elim
def mMeth (c m : Str) (Fn : DFn) (o : DE) (as : DA) : DE := fun env M => (o env M).bind fun d M1 => match insD M1 c d with
  | some fs => if (fs.lookup m).isNone = true then (as env M1).bind fun ds M2 => noExc (Fn (d :: ds) M2) else .bad
  | none => .bad
def mPrp (c : Str) (Fn : DFn) (o : DE) : DE := fun env M => (o env M).bind fun d M1 => match insD M1 c d with
  | some fs => noExc (Fn [d] M1)
  | none => .bad
def mNew (c : Str) (Fn : DFn) (as : DA) : DE := fun env M => (as env M).bind fun ds M1 => (noExc (Fn (.ref M1.length :: ds) (M1 ++ [.ins c []]))).bind fun d M2 => match d with
  | .non => finF M1.length (.ref M1.length) M2
  | _ => .bad
section
variable {X : Cx} {W : EXK} {pos apos p : Pos} {o e : Expr} {es : List Expr} {mo me : DE} {mas : DA} {c m f : Str} {k n : Nat} {Fn : DFn}
theorem ev_meth {pl : Sem Bool} (F : MetAt X.prog X.w X.K X.mg X.base k c m n Fn) (hr : Room k X.A) (hgd : X.A.guards = some []) (ho : PE X o (tD X W mo)) (ha : PA X (e :: es) (tA X W mas))
    (hst : starEach (e :: es) X.env = (false, eval e X.env) :: starEach es X.env := by rfl) (hpl : (backTo pos (starEach es X.env)).any (·.1) = false := by rfl)
    (ht : eval (.Call (.Attribute o m apos) (e :: es) [] pos) X.env = (do
      let obj ← eval o X.env
      standAt apos.atName
      let (g, fst) ← holding [obj] (getMethod obj m pl)
      callWith pos g fst (backTo pos (starEach (e :: es) X.env)) (backToKw pos (keywordEach [] X.env))) := by rfl) :
    PE X (.Call (.Attribute o m apos) (e :: es) [] pos) (tD X W (mMeth c m Fn mo mas)) := by
  obtain ⟨C, g, fd, ps, hC, hcl, hme, hb, hps, G⟩ := F.at_
  refine ⟨fun pins s σ H Q I h => ?_⟩
  obtain ⟨F0, r, R, env, M, hE, hS, hp⟩ := h
  refine PySem.W.methodCall_KW (pl := pl) (thn (ho.run pins s σ H _ I (tX.bind OKx.mono' hE hS hp)) fun u s1 ⟨x, H1, I1, rx, q⟩ => ?_) ht
  obtain ⟨F1, r1, M1, d, s1', p1, hE1, hS1, R1, hp1⟩ := q
  cases e1 : insD M1 c d with
  | none => rw [e1] at hp1; exact hp1.elim
  | some fs =>
    rw [e1] at hp1
    dsimp only at hp1
    split at hp1
    · rename_i hno
      rw [Option.isNone_iff_eq_none] at hno
      obtain ⟨a, C', dx, vfs, rfl, hC', hH, hF⟩ := insD_rep hS1 R1 e1
      have : C' = C := by
        have := hC'.symm.trans hC
        cases this
        rfl
      subst this
      obtain rfl : u = Value.ref a := rx
      refine getmeth_ok I1 hH hcl hme (hF.none hno) ?_
      refine PySem.W.callWith_K (first := [.ref a]) (h₀ := X.base) I.ok.mod.kin hme.kp (thn (ha.run pos pins s1 σ H1 _ I1 (tX.bind OKx.mono' hE1 hS1 hp1)) fun us s2 ⟨vs, H2, I2, r2, q2⟩ => ⟨I2.kIn, ?_⟩) hst hpl
      obtain ⟨F2, r2', M2, ds, s2', p2, hE2, hS2, R2, hp2⟩ := q2
      have hps2 := noExc_post hp2
      exact run_fnG (us := .ref a :: us) (vs := .ref a :: vs) G hr hgd hb I2 (.cons rfl r2) ⟨by rw [List.length_cons, R2.length]; exact len_of F.ar hps2, F2, r2', R, M2, d :: ds, .cons (R1.mono s2' p2) R2, hS2, hps2⟩
    · exact hp1.elim
theorem ev_meth0 {pl : Sem Bool} (F : MetAt X.prog X.w X.K X.mg X.base k c m n Fn) (hr : Room k X.A) (hgd : X.A.guards = some []) (ho : PE X o (tD X W mo))
    (ht : eval (.Call (.Attribute o m apos) [] [] pos) X.env = (do
      let obj ← eval o X.env
      standAt apos.atName
      let (g, fst) ← holding [obj] (getMethod obj m pl)
      callWith pos g fst (backTo pos (starEach [] X.env)) (backToKw pos (keywordEach [] X.env))) := by rfl) :
    PE X (.Call (.Attribute o m apos) [] [] pos) (tD X W (mMeth c m Fn mo aNil)) := by
  obtain ⟨C, g, fd, ps, hC, hcl, hme, hb, hps, G⟩ := F.at_
  refine ⟨fun pins s σ H Q I h => ?_⟩
  obtain ⟨F0, r, R, env, M, hE, hS, hp⟩ := h
  refine PySem.W.methodCall_KW (pl := pl) (thn (ho.run pins s σ H _ I (tX.bind OKx.mono' hE hS hp)) fun u s1 ⟨x, H1, I1, rx, q⟩ => ?_) ht
  obtain ⟨F1, r1, M1, d, s1', p1, hE1, hS1, R1, hp1⟩ := q
  cases e1 : insD M1 c d with
  | none => rw [e1] at hp1; exact hp1.elim
  | some fs =>
    rw [e1] at hp1
    dsimp only at hp1
    split at hp1
    · rename_i hno
      rw [Option.isNone_iff_eq_none] at hno
      obtain ⟨a, C', dx, vfs, rfl, hC', hH, hF⟩ := insD_rep hS1 R1 e1
      have : C' = C := by
        have := hC'.symm.trans hC
        cases this
        rfl
      subst this
      obtain rfl : u = Value.ref a := rx
      refine getmeth_ok I1 hH hcl hme (hF.none hno) ?_
      have hps2 := noExc_post (o := Fn [d] M1) hp1
      exact PySem.W.callWith_K0 (first := [.ref a]) I1.kIn hme.kp (run_fnG (us := [.ref a]) (vs := [.ref a]) G hr hgd hb I1 (.cons rfl .nil) ⟨len_of F.ar hps2, F1, r1, R, M1, [d], .one R1, hS1, hps2⟩)
    · exact hp1.elim
theorem run_makeG {C g : Addr} {fd : FuncData} {ps : List Str} {pins : List (Addr × Obj)} {σ : L2.St} {H : Hp} {s : Shared} {Q : VK} {us : List Value} {vs : List V} (Mm : Mk X.K C g) (F : FnG X.prog X.w X.K X.mg X.base CX0 k g fd ps (spD0 (gd X) n Fn)) (hr : Room (k + 1) X.A) (hgd : X.A.guards = some []) (hb : Binds X.K fd ps [])
    (I : Inv X pins σ H s) (r : Vals vs us)
    (h : ∀ x dx, H x = none → H dx = none → dx ≠ x → spD0 (gd X) n Fn (.ref x :: vs) (upd (upd H dx (.own x)) x (.ins C dx [])) (fun v H2 => v = .non ∧ Q (.ref x) H2) fun _ _ _ => False) :
    wpAny (model X.prog X.w) X.A (call (.ref C) us) (EP X pins σ Q) X.xe s := by
  have hq := h (s.heap.objs.size + 1) s.heap.objs.size (I.hok.fresh (Nat.le_succ _)) (I.hok.fresh (Nat.le_refl _)) (Nat.ne_of_lt (Nat.lt_succ_self _))
  have J := Inv.made (C := C) I
  have r2 : Vals (V.ref (s.heap.objs.size + 1) :: vs) (Value.ref (s.heap.objs.size + 1) :: us) := .cons rfl r
  have hl : (Value.ref (s.heap.objs.size + 1) :: us).length = ps.length := by
    rw [← r2.length]
    exact F.len _ _ _ _ hq
  have hb' := hb _ (Value.ref (s.heap.objs.size + 1) :: us) J.kIn (by rw [List.append_nil]; exact hl)
  rw [List.append_nil] at hb'
  refine wpAny_call (make_map (f := g) I.kIn Mm.makes Mm.init (beq_iff_eq.mp Mm.fn) (codeAny_mono (F.run _ X.stack _ _ ⟨Value.ref (s.heap.objs.size + 1) :: us, []⟩ (Value.ref (s.heap.objs.size + 1) :: us) _ _ (fun _ _ _ => False) (hr.make C us []) hgd
    (J.env0.make C us []) hb' r2 hq) fun res s' hq' => ?_))
  cases res with
  | error e => exact False.elim hq'
  | ok fl =>
    cases fl with
    | ret u =>
      obtain ⟨v, H', I3, rv, ev, q3⟩ := J.after hq'
      subst ev
      exact ⟨rv, V.ref (s.heap.objs.size + 1), H', I3, rfl, q3⟩
    | next => exact False.elim hq'
    | brk => exact False.elim hq'
    | cont => exact False.elim hq'
/-- what a maker's plain promise gives -/
theorem new_sp {F0 H1 : Hp} {r0 : List Addr} {R : Hp} {M1 : Sto} {ds : List D} {vs : List V} {C : Addr} {Q : VK} (hn : ∀ {ds : List D} {M : Sto} {P : D → Sto → Prop} {Y : Exn → Sto → Prop}, (Fn ds M).post P Y → ds.length = n) (hC : X.mg c = some (.ref C)) (hS : StoR (gd X) F0 r0 R M1 H1) (hR : Reps (gd X) F0 r0 ds vs) {Y : Exn → Sto → Prop}
    (hp : ((noExc (Fn (.ref M1.length :: ds) (M1 ++ [.ins c []]))).bind fun d M2 => match d with
      | .non => finF M1.length (.ref M1.length) M2
      | _ => .bad).post (OKx Rep (gd X) F0 r0 R Q) Y) (x dx : Addr) (hx : H1 x = none) (hdx : H1 dx = none) (hne : dx ≠ x) :
    spD0 (gd X) n Fn (.ref x :: vs) (upd (upd H1 dx (.own x)) x (.ins C dx [])) (fun v H2 => v = .non ∧ Q (.ref x) H2) fun _ _ _ => False := by
  have hb := noExc_post (Out.post_bind hp)
  have S1 := hS.froz (p := dx) (u := .own x) hdx
  have sub1 : Sub F0 (upd F0 dx (.own x)) := fun a o e => by
    rw [upd_ne (ne_of_none (hS.sub _ _ e) hdx)]; exact e
  have S2 := S1.live (p := x) (u := .ins C dx []) (by rw [upd_ne (Ne.symm hne)]; exact hx) (o := .ins c []) fun H' hH' => ⟨C, dx, [], hC, hH', RepF.nil⟩
  refine ⟨by rw [List.length_cons, hR.length]; exact hn hb, _, _, R, _, .ref M1.length :: ds, .cons ?_ (hR.mono sub1 (List.prefix_append ..)), S2, Out.post_imp hb (fun d M2 q => ?_) fun _ _ z => z⟩
  · unfold Rep
    exact ⟨x, by rw [hS.len, List.getElem?_append_right (Nat.le_refl _), Nat.sub_self]; rfl, rfl⟩
  · intro F' r' H' v s p S z
    cases d <;> try exact q.elim
    rw [rep_non] at z
    refine ⟨z, ?_⟩
    have hrx : Rep (gd X) F' r' (.ref M1.length) (.ref x) := by
      unfold Rep
      refine ⟨x, pre_get p ?_, rfl⟩
      rw [hS.len, List.getElem?_append_right (Nat.le_refl _), Nat.sub_self]; rfl
    obtain ⟨F2, r2, d2, M3, s2, p2, S3, R3, h3⟩ := finF_ok (gd X) F' r' R M2 H' M1.length _ _ _ _ (by rw [hS.len]; exact hS.og.2.length_le) S hrx q
    refine h3 F2 r2 H' _ (sub1.trans (s.trans s2)) ?_ S3 R3
    refine List.IsPrefix.trans ?_ p2
    obtain ⟨t, ht⟩ := p
    rw [← ht, hS.len, List.append_assoc, List.take_append_of_le_length (Nat.le_refl _), List.take_length]
    exact List.prefix_refl _
theorem ev_new (N : NewAt X.prog X.w X.K X.mg X.base k c n Fn) (hr : Room (k + 1) X.A) (hgd : X.A.guards = some []) (hg : Gl X c) (ha : PA X (e :: es) (tA X W mas)) (hdb : (c == ("__debug__" : Str)) = false := by decide)
    (he : starEach (e :: es) X.env = (false, eval e X.env) :: starEach es X.env := by rfl) (hpl : (backTo pos (starEach es X.env)).any (·.1) = false := by rfl) :
    PE X (.Call (.Name c p) (e :: es) [] pos) (tD X W (mNew c Fn mas)) := by
  obtain ⟨C, f, fd, ps, hC, hmk, hb, hps, G⟩ := N.at_
  refine ⟨fun pins s σ H Q I h => ?_⟩
  obtain ⟨F0, r, R, env, M, hE, hS, hp⟩ := h
  refine wpAny_Call_Name_kw (ld_glob I hg hC ?_ hdb)
  refine PySem.W.callWith_K (h₀ := X.base) I.ok.mod.kin hmk.kp (thn (ha.run pos pins s σ H _ I (tX.bind OKx.mono' hE hS hp)) fun us s1 ⟨vs, H1, I1, r1, q⟩ => ⟨I1.kIn, ?_⟩) he hpl
  obtain ⟨F1, r1', M1, ds, s1', p1, hE1, hS1, R1, hp1⟩ := q
  exact run_makeG hmk G hr hgd hb I1 r1 (new_sp (len_of N.ar) hC hS1 R1 hp1)
theorem ev_new0 (N : NewAt X.prog X.w X.K X.mg X.base k c n Fn) (hr : Room (k + 1) X.A) (hgd : X.A.guards = some []) (hg : Gl X c) (hdb : (c == ("__debug__" : Str)) = false := by decide) :
    PE X (.Call (.Name c p) [] [] pos) (tD X W (mNew c Fn aNil)) := by
  obtain ⟨C, f, fd, ps, hC, hmk, hb, hps, G⟩ := N.at_
  refine ⟨fun pins s σ H Q I h => ?_⟩
  obtain ⟨F0, r, R, env, M, hE, hS, hp⟩ := h
  refine wpAny_Call_Name_kw (ld_glob I hg hC ?_ hdb)
  exact PySem.W.callWith_K0 I.kIn hmk.kp (run_makeG (us := []) (vs := []) hmk G hr hgd hb I .nil (new_sp (len_of N.ar) hC hS .nil hp))
/-- a property read -/
theorem ev_prp (P : PrpAt X.prog X.w X.K X.mg X.base k c f Fn) (hr : Room (k + 1) X.A) (hgd : X.A.guards = some []) (ho : PE X o (tD X W mo)) (hb : attributeBase o f X.env (eval o X.env) = eval o X.env := by rfl) : PE X (.Attribute o f pos) (tD X W (mPrp c Fn mo)) := by
  obtain ⟨C, p, g, fd, ps, hC, hcl, hpr, hbi, hps, G⟩ := P.at_
  refine ⟨fun pins s σ H Q I h => ?_⟩
  obtain ⟨F0, r, R, env, M, hE, hS, hp⟩ := h
  refine attr_of hb (thn (ho.run pins s σ H _ I (tX.bind OKx.mono' hE hS hp)) fun u s1 ⟨x, H1, I1, rx, q⟩ => ?_)
  obtain ⟨F1, r1, M1, d, s1', p1, hE1, hS1, R1, hp1⟩ := q
  cases e1 : insD M1 c d with
  | none => rw [e1] at hp1; exact hp1.elim
  | some fs =>
    rw [e1] at hp1
    obtain ⟨a, C', dx, vfs, rfl, hC', hH, hF⟩ := insD_rep hS1 R1 e1
    have : C' = C := by
      have := hC'.symm.trans hC
      cases this
      rfl
    subst this
    obtain rfl : u = Value.ref a := rx
    have hps2 := noExc_post (o := Fn [d] M1) hp1
    obtain ⟨mA, O, _, _, _, _⟩ := ins_get I1.hok hH
    obtain ⟨od, J, _⟩ := O.look
    obtain ⟨rest, hrec⟩ := hpr.rec_
    have I2 := I1.tok (s1.toks + 1)
    have hb' := hbi { s1 with toks := s1.toks + 1 } [.ref a] I2.kIn (by rw [List.append_nil, hps]; rfl)
    rw [List.append_nil] at hb'
    have hc : (PySem.W.clsIn X.K C').isSome = true := by
      obtain ⟨cd, hc, _⟩ := PySem.W.any_some hcl.hd
      rw [hc]; rfl
    refine PySem.W.get_bind I1.kIn J (PySem.W.plainGet_of (hcl.get f)).1 (PySem.W.findObj_data hc hpr.at_ hpr.get hpr.tak) (PySem.W.plainGet_of (hcl.get f)).2 (wpAny_call (PySem.W.prop_get (s := { s1 with toks := s1.toks + 1 }) I1.kIn hrec ?_))
    refine codeAny_mono (G.run X.A.in1 X.stack { s1 with toks := s1.toks + 1 } H1 ⟨[.ref a], []⟩ [.ref a] [.ref a] Q (fun _ _ _ => False) hr.in1 hgd I2.env0.in1 hb' (.cons rfl .nil) ⟨rfl, F1, r1, R, M1, [d], .one R1, hS1, hps2⟩) fun res s' hq => ?_
    cases res with
    | error er => exact False.elim hq
    | ok fl =>
      cases fl with
      | ret u =>
        obtain ⟨v, H', I3, rv, q3⟩ := I2.after hq
        show wpAny _ _ (handedOut u) _ _ _
        rw [PySem.W.handedOut_of (handed_of rv)]
        exact wpAny_pure ⟨v, H', I3, rv, q3⟩
      | next => exact False.elim hq
      | brk => exact False.elim hq
      | cont => exact False.elim hq
end
end EV
set_option maxHeartbeats 4000000
/-! tuple(), list(), sorted(), sum(), all(), any(), divmod() -/
namespace EV
open PySem PySem.Spec PyProof.Rows L2
variable [Tbl]
theorem TailOk.new {tl : List D → Sto → Out D} (T : TailOk tl) {G : Gd} {F : Hp} {r : List Addr} {R H : Hp} {Q : VK} {p : Addr} {ds : List D} {vs : List V} {M : Sto} {Y : Exn → Sto → Prop} (S : StoR G F r R M H) (q : Reps G F r ds vs) (h : (tl ds M).post (OKx Rep G F r R Q) Y) (hp : H p = none) : Q (.ref p) (upd H p (.lst vs)) :=
  T.fin G F r R _ Q p ds vs M Y (S.notR hp).2.1 (S.resv hp) q h
section
variable {X : Cx}
/-- tuple(x) of a list or a tuple -/
def dTupOf : OpL := fun xs M => match xs with
  | [x] => match seqD M x with
    | some ys => if ys.length ≤ lim then .ok (.tup ys) M else .bad
    | none => .bad
  | _ => .bad
theorem r_tupOf : SL X (.type "tuple") dTupOf := by
  intro pins s σ H xs us Q I rv hq
  obtain ⟨F, r, R, M, as, S, ra, hp⟩ := hq
  unfold dTupOf at hp
  split at hp
  · rename_i x
    split at hp
    · rename_i ys e
      split at hp
      · obtain ⟨v, rfl, q1⟩ := ra.inv1
        have go : lstD M x = some ys → wpAny (model X.prog X.w) X.A (PySem.call (.type "tuple") us) (EP X pins σ Q) X.xe s := by
          intro e'
          obtain ⟨a, vs, rfl, q2, q3⟩ := lstD_rep S q1 e'
          refine call_tuple_of pins s σ H _ us Q I rv ⟨a, vs, rfl, .inl ⟨q2.sq, fun l hl => ?_⟩⟩
          obtain ⟨a1, a2, a3⟩ := rep_new_tup S q3 hl
          exact hp _ r _ _ a1 (List.prefix_refl _) a2 a3
        cases x with
        | tup zs =>
          cases e
          have q1' := q1
          rw [rep_tup] at q1
          obtain ⟨a, vs, rfl, q2, q3⟩ := q1
          exact call_tuple_of pins s σ H _ us Q I rv ⟨a, vs, rfl, .inr ⟨S.sub.tq q2, hp.here S q1'⟩⟩
        | lst zs => exact go e
        | ref n => exact go e
        | _ => cases e
      · exact hp.elim
    · exact hp.elim
  · exact hp.elim
/-- list(x) of a list or a tuple -/
def dListOf (tl : List D → Sto → Out D) : OpL := fun xs M => match xs with
  | [x] => match seqD M x with
    | some ys => tl ys M
    | none => .bad
  | _ => .bad
theorem r_listOf {tl : List D → Sto → Out D} (T : TailOk tl) : SL X (.type "list") (dListOf tl) := by
  intro pins s σ H xs us Q I rv hq
  obtain ⟨F, r, R, M, as, S, ra, hp⟩ := hq
  unfold dListOf at hp
  split at hp
  · rename_i x
    split at hp
    · rename_i ys e
      obtain ⟨v, rfl, q1⟩ := ra.inv1
      obtain ⟨a, vs, rfl, q2, q3⟩ := seqD_rep S q1 e
      exact call_list_of pins s σ H _ us Q I rv ⟨a, vs, rfl, q2, fun l hl => T.new S q3 hp hl⟩
    · exact hp.elim
  · exact hp.elim
/-- ints all -/
def intsD : List D → Option (List Int)
  | [] => some []
  | .int i :: xs => (intsD xs).map (i :: ·)
  | _ => none
theorem intsD_rep {G : Gd} {F : Hp} {r : List Addr} : ∀ {xs : List D} {vs : List V} {ns : List Int}, Reps G F r xs vs → intsD xs = some ns → vs = ns.map V.int
  | [], vs, ns, h, e => by cases e; exact h.inv0
  | x :: xs, vs, ns, h, e => by
    obtain ⟨v, w, rfl, h1, h2⟩ := h.inv
    cases x <;> try (simp only [intsD, reduceCtorEq] at e)
    rw [Option.map_eq_some_iff] at e
    obtain ⟨ms, e1, rfl⟩ := e
    rw [rep_int] at h1
    rw [h1, intsD_rep h2 e1]
    rfl
/-- truths all -/
def blsD : List D → Option (List Bool)
  | [] => some []
  | .bl i :: xs => (blsD xs).map (i :: ·)
  | _ => none
theorem blsD_rep {G : Gd} {F : Hp} {r : List Addr} : ∀ {xs : List D} {vs : List V} {ns : List Bool}, Reps G F r xs vs → blsD xs = some ns → vs = ns.map V.bl
  | [], vs, ns, h, e => by cases e; exact h.inv0
  | x :: xs, vs, ns, h, e => by
    obtain ⟨v, w, rfl, h1, h2⟩ := h.inv
    cases x <;> try (simp only [blsD, reduceCtorEq] at e)
    rw [Option.map_eq_some_iff] at e
    obtain ⟨ms, e1, rfl⟩ := e
    rw [rep_bl] at h1
    rw [h1, blsD_rep h2 e1]
    rfl
/-- put in its place -/
def insI (x : Int) : List Int → List Int
  | [] => [x]
  | y :: ys => if x ≤ y then x :: y :: ys else y :: insI x ys
def sortI : List Int → List Int
  | [] => []
  | x :: xs => insI x (sortI xs)
theorem insI_perm (x : Int) : ∀ ys : List Int, (insI x ys).Perm (x :: ys)
  | [] => .refl _
  | y :: ys => by
    unfold insI
    split
    · exact .refl _
    · exact ((insI_perm x ys).cons y).trans (.swap x y ys)
theorem sortI_perm : ∀ xs : List Int, (sortI xs).Perm xs
  | [] => .refl _
  | x :: xs => (insI_perm x _).trans ((sortI_perm xs).cons x)
theorem insI_sorted (x : Int) : ∀ ys : List Int, ys.Pairwise (· ≤ ·) → (insI x ys).Pairwise (· ≤ ·)
  | [], _ => List.pairwise_singleton ..
  | y :: ys, h => by
    unfold insI
    rw [List.pairwise_cons] at h
    split
    · rename_i hxy
      refine List.pairwise_cons.2 ⟨fun z hz => ?_, List.pairwise_cons.2 h⟩
      rcases List.mem_cons.1 hz with rfl | hz
      · exact hxy
      · exact Int.le_trans hxy (h.1 z hz)
    · rename_i hxy
      refine List.pairwise_cons.2 ⟨fun z hz => ?_, insI_sorted x ys h.2⟩
      rcases List.mem_cons.1 ((insI_perm x ys).mem_iff.1 hz) with rfl | hz
      · omega
      · exact h.1 z hz
theorem sortI_sorted : ∀ xs : List Int, (sortI xs).Pairwise (· ≤ ·)
  | [] => .nil
  | x :: xs => insI_sorted x _ (sortI_sorted xs)
theorem sortI_eq {xs ys : List Int} (h : ys.Perm xs) (s : ys.Pairwise (· ≤ ·)) : ys = sortI xs :=
  List.Perm.eq_of_pairwise (fun a b _ _ h1 h2 => Int.le_antisymm h1 h2) s (sortI_sorted xs) (h.trans (sortI_perm xs).symm)
/-- sorted(x), a list of ints -/
def dSortI (tl : List D → Sto → Out D) : OpL := fun xs M => match xs with
  | [x] => match lstD M x with
    | some ys => (match intsD ys with
      | some ns => tl ((sortI ns).map D.int) M
      | none => .bad)
    | none => .bad
  | _ => .bad
theorem r_sortI {tl : List D → Sto → Out D} (T : TailOk tl) : SL X (.builtin "sorted") (dSortI tl) := by
  intro pins s σ H xs us Q I rv hq
  obtain ⟨F, r, R, M, as, S, ra, hp⟩ := hq
  unfold dSortI at hp
  split at hp
  · rename_i x
    split at hp
    · rename_i ys e
      split at hp
      · rename_i ns e2
        obtain ⟨v, rfl, q1⟩ := ra.inv1
        obtain ⟨a, vs, rfl, q2, q3⟩ := lstD_rep S q1 e
        rw [intsD_rep q3 e2] at q2
        refine cr_sortedI pins s σ H _ us Q I rv ⟨a, ns, rfl, q2.sq, fun ns' p h1 h2 h3 => ?_⟩
        rw [sortI_eq h1 h2]
        exact T.new S (reps_ints _ _ _ _) hp h3
      · exact hp.elim
    · exact hp.elim
  · exact hp.elim
/-- sum(x), a list of ints -/
def dSum : OpL := fun xs M => match xs with
  | [x] => match lstD M x with
    | some ys => (match intsD ys with
      | some ns => .ok (.int ns.sum) M
      | none => .bad)
    | none => .bad
  | _ => .bad
theorem r_sum (hc : X.calm = true) : SL X (.builtin "sum") dSum := by
  intro pins s σ H xs us Q I rv hq
  obtain ⟨F, r, R, M, as, S, ra, hp⟩ := hq
  unfold dSum at hp
  split at hp
  · rename_i x
    split at hp
    · rename_i ys e
      split at hp
      · rename_i ns e2
        obtain ⟨v, rfl, q1⟩ := ra.inv1
        obtain ⟨a, vs, rfl, q2, q3⟩ := lstD_rep S q1 e
        rw [intsD_rep q3 e2] at q2
        exact cr_sum hc pins s σ H _ us Q I rv ⟨a, ns, rfl, q2.sq, OKx.flat hp S (.int _)⟩
      · exact hp.elim
    · exact hp.elim
  · exact hp.elim
/-- all(x), any(x), a list of truths -/
def dAll : OpL := fun xs M => match xs with
  | [x] => match lstD M x with
    | some ys => (match blsD ys with
      | some ns => .ok (.bl (ns.all id)) M
      | none => .bad)
    | none => .bad
  | _ => .bad
def dAny : OpL := fun xs M => match xs with
  | [x] => match lstD M x with
    | some ys => (match blsD ys with
      | some ns => .ok (.bl (ns.any id)) M
      | none => .bad)
    | none => .bad
  | _ => .bad
theorem r_all (hc : X.calm = true) : SL X (.builtin "all") dAll := by
  intro pins s σ H xs us Q I rv hq
  obtain ⟨F, r, R, M, as, S, ra, hp⟩ := hq
  unfold dAll at hp
  split at hp
  · rename_i x
    split at hp
    · rename_i ys e
      split at hp
      · rename_i ns e2
        obtain ⟨v, rfl, q1⟩ := ra.inv1
        obtain ⟨a, vs, rfl, q2, q3⟩ := lstD_rep S q1 e
        rw [blsD_rep q3 e2] at q2
        exact cr_all hc pins s σ H _ us Q I rv ⟨a, ns, rfl, q2.sq, OKx.flat hp S (.bl _)⟩
      · exact hp.elim
    · exact hp.elim
  · exact hp.elim
theorem r_any (hc : X.calm = true) : SL X (.builtin "any") dAny := by
  intro pins s σ H xs us Q I rv hq
  obtain ⟨F, r, R, M, as, S, ra, hp⟩ := hq
  unfold dAny at hp
  split at hp
  · rename_i x
    split at hp
    · rename_i ys e
      split at hp
      · rename_i ns e2
        obtain ⟨v, rfl, q1⟩ := ra.inv1
        obtain ⟨a, vs, rfl, q2, q3⟩ := lstD_rep S q1 e
        rw [blsD_rep q3 e2] at q2
        exact cr_any hc pins s σ H _ us Q I rv ⟨a, ns, rfl, q2.sq, OKx.flat hp S (.bl _)⟩
      · exact hp.elim
    · exact hp.elim
  · exact hp.elim
/-- divmod(a, b) -/
def dDivm : OpL := fun xs M => match xs with
  | [.int i, .int j] => if divOk j = true then .ok (.tup [.int (i / j), .int (i % j)]) M else .bad
  | _ => .bad
theorem r_divm : SL X (.builtin "divmod") dDivm := by
  intro pins s σ H xs us Q I rv hq
  obtain ⟨F, r, R, M, as, S, ra, hp⟩ := hq
  unfold dDivm at hp
  split at hp
  · rename_i i j
    split at hp
    · rename_i hk
      obtain ⟨v, w, rfl, q1, q2⟩ := ra.inv2
      rw [rep_int] at q1 q2
      subst q1 q2
      refine call_divmodW pins s σ H _ us Q I rv ⟨i, j, rfl, ⟨(divOk_c (i := i) hk).1, PyProof.noPylong_of_log2 (divOk_c (i := i) hk).2⟩, fun p hl => ?_⟩
      obtain ⟨a1, a2, a3⟩ := rep_new_tup S (xs := [.int (i / j), .int (i % j)]) (vs := [.int (i / j), .int (i % j)]) (reps_ints _ _ _ [i / j, i % j]) hl
      exact hp _ r _ _ a1 (List.prefix_refl _) a2 a3
    · exact hp.elim
  · exact hp.elim
end
end EV
set_option maxHeartbeats 4000000
/-! methods of lists, slices of tuples -/
namespace EV
open PySem PySem.Spec PyProof.Rows L2
variable [Tbl]
abbrev OpM := D → List D → Sto → Out D
def rDM (X : Cx) (f : OpM) : V → List V → Hp → VK → Prop := fun x vs H Q => ∃ F r R M a bs, StoR (gd X) F r R M H ∧ Rep (gd X) F r a x ∧ Reps (gd X) F r bs vs ∧ (f a bs M).post (OKx Rep (gd X) F r R Q) fun _ _ => False
def mLm (f : OpM) (o : DE) (as : DA) : DE := fun env M => (o env M).bind fun d M1 => if (lstD M1 d).isSome = true then (as env M1).bind fun ys M2 => noExc (f d ys M2) else .bad
theorem lstD_ty {X : Cx} {F H R : Hp} {r : List Addr} {M : Sto} {d : D} {v : V} (S : StoR (gd X) F r R M H) (q : Rep (gd X) F r d v) (h : (lstD M d).isSome = true) : tyV X.K "list" v H := by
  rw [Option.isSome_iff_exists] at h
  obtain ⟨xs, e⟩ := h
  obtain ⟨a, vs, rfl, q2, _⟩ := lstD_rep S q e
  exact .inl ⟨rfl, vs, q2.sq⟩
section
variable {X : Cx} {W : EXK} {o e : Expr} {es : List Expr} {mo : DE} {mas : DA} {name : Str} {apos cpos : Pos} {id : String} {f : OpM}
theorem ev_lm (slot : Slot "list" name id) (hty : typeOf (.builtin id) = pure (.type "method_descriptor")) (hm : MtR X id (rDM X f)) (ho : PE X o (tD X W mo)) (ha : PA X (e :: es) (tA X W mas))
    (hbase : attributeBase o name X.env (eval o X.env) = eval o X.env := by rfl)
    (hfew : ((backTo cpos (starEach (e :: es) X.env)).all (fun x => !x.1) && (backToKw cpos (keywordEach [] X.env)).all (fun x => x.1.isSome) && decide ((e :: es).length + ([] : List Keyword).length + (if ([] : List Keyword).isEmpty then 0 else 1) < 30)) = true := by rfl)
    (hline : (apos.endLine == cpos.line) = true := by rfl) (hs : starEach (e :: es) X.env = (false, eval e X.env) :: starEach es X.env := by rfl) (hplain : (backTo cpos (starEach es X.env)).any (·.1) = false := by rfl) :
    PE X (.Call (.Attribute o name apos) (e :: es) [] cpos) (tD X W (mLm f mo mas)) := by
  refine PE.imp (pe_bm PySem.F.plainAttrs_list slot hty hm ho ha hbase hfew hline hs hplain) fun σ H Q h => ?_
  obtain ⟨F, r, R, env, M, hE, hS, hp⟩ := h
  refine tX.imp (tX.bind OKx.mono' hE hS hp) fun x H1 ⟨F1, r1, M1, d, s1, p1, hE1, hS1, R1, hp1⟩ => ?_
  split at hp1
  · rename_i hl
    refine ⟨lstD_ty hS1 R1 hl, tX.imp (tX.bind OKx.mono' hE1 hS1 hp1) fun ys H2 ⟨F2, r2, M2, ds, s2, p2, hE2, hS2, R2, hp2⟩ => ?_⟩
    exact ⟨F2, r2, R, M2, d, ds, hS2, R1.mono s2 p2, R2, noExc_post hp2⟩
  · exact hp1.elim
theorem ev_lm0 (slot : Slot "list" name id) (hty : typeOf (.builtin id) = pure (.type "method_descriptor")) (hm : MtR X id (rDM X f)) (ho : PE X o (tD X W mo))
    (hbase : attributeBase o name X.env (eval o X.env) = eval o X.env := by rfl) (hline : (apos.endLine == cpos.line) = true := by rfl) :
    PE X (.Call (.Attribute o name apos) [] [] cpos) (tD X W (mLm f mo aNil)) := by
  refine PE.imp (pe_bm0 PySem.F.plainAttrs_list slot hty hm ho hbase hline) fun σ H Q h => ?_
  obtain ⟨F, r, R, env, M, hE, hS, hp⟩ := h
  refine tX.imp (tX.bind OKx.mono' hE hS hp) fun x H1 ⟨F1, r1, M1, d, s1, p1, hE1, hS1, R1, hp1⟩ => ?_
  split at hp1
  · rename_i hl
    exact ⟨lstD_ty hS1 R1 hl, F1, r1, R, M1, d, [], hS1, R1, .nil, noExc_post (o := f d [] M1) hp1⟩
  · exact hp1.elim
/-- a live list: where it stands and its items -/
def livD (M : Sto) : D → Option (Nat × List D)
  | .ref n => match M[n]? with
    | some (.lst xs) => some (n, xs)
    | _ => none
  | _ => none
theorem livD_rep {G : Gd} {F H R : Hp} {r : List Addr} {M : Sto} {d : D} {v : V} {n : Nat} {xs : List D} (S : StoR G F r R M H) (q : Rep G F r d v) (e : livD M d = some (n, xs)) :
    ∃ a vs, v = .ref a ∧ r[n]? = some a ∧ H a = some (.lst vs) ∧ Reps G F (r.take n) xs vs := by
  cases d <;> try (simp only [livD, reduceCtorEq] at e)
  rename_i m
  rw [rep_ref] at q
  obtain ⟨a, ha, rfl⟩ := q
  split at e
  · rename_i ys eo
    cases e
    obtain ⟨vs, h1, h2⟩ := S.at_ _ a _ ha eo
    exact ⟨a, vs, rfl, ha, h1, h2⟩
  · cases e
/-- x.append(y) -/
def dApp : OpM := fun d ys M => match livD M d, ys with
  | some (n, xs), [y] => if xs.length < lim ∧ below n y = true then .ok .non (M.set n (.lst (xs ++ [y]))) else .bad
  | _, _ => .bad
theorem m_app : MtR X "list.append" (rDM X dApp) := by
  intro pins s σ H x vs v us Q I rx rv h
  obtain ⟨F, r, R, M, d, ys, S, q1, q2, hp⟩ := h
  unfold dApp at hp
  split at hp
  · rename_i n xs y e
    split at hp
    · rename_i hb
      obtain ⟨a, ws, rfl, h1, h2, h3⟩ := livD_rep S q1 e
      obtain ⟨u, rfl, q3⟩ := q2.inv1
      have hl : ws.length < sizeLine := by rw [h3.length]; exact Nat.lt_of_lt_of_le hb.1 (lim_ok (Nat.le_refl _))
      refine mt_append pins s σ H _ _ v us Q I rx rv ⟨a, ws, u, rfl, rfl, h2, hl, ?_⟩
      have S3 := S.write (n := n) h1 (u := .lst (ws ++ [u])) (o := .lst (xs ++ [y])) fun H' hH' => ⟨_, hH', h3.append (.one (Rep.cut q3 hb.2))⟩
      exact hp F r _ .non (Sub.refl _) (List.prefix_refl _) S3 (by rw [rep_non])
    · exact hp.elim
  · exact hp.elim
/-- x.pop(i) -/
def dPopA : OpM := fun d ys M => match livD M d, ys with
  | some (n, xs), [.int i] => if -big ≤ i ∧ i ≤ big then (match seqIndex? i xs.length with
    | some k => (match xs[k]? with
      | some y => .ok y (M.set n (.lst (xs.eraseIdx k)))
      | none => .bad)
    | none => .bad) else .bad
  | _, _ => .bad
theorem Reps.erase {G : Gd} {F : Hp} {r : List Addr} {d : List D} {v : List V} (n : Nat) (h : Reps G F r d v) : Reps G F r (d.eraseIdx n) (v.eraseIdx n) := by
  rw [List.eraseIdx_eq_take_drop_succ, List.eraseIdx_eq_take_drop_succ]
  exact (h.take n).append (h.drop (n + 1))
theorem m_popA : MtR X "list.pop" (rDM X dPopA) := by
  intro pins s σ H x vs v us Q I rx rv h
  obtain ⟨F, r, R, M, d, ys, S, q1, q2, hp⟩ := h
  unfold dPopA at hp
  split at hp
  · rename_i n xs i e
    split at hp
    · rename_i hb
      split at hp
      · rename_i k ek
        split at hp
        · rename_i y ey
          obtain ⟨a, ws, rfl, h1, h2, h3⟩ := livD_rep S q1 e
          obtain ⟨u, rfl, q3⟩ := q2.inv1
          rw [rep_int] at q3
          subst q3
          obtain ⟨z, hz, q4⟩ := h3.get ey
          unfold big at hb
          refine mt_popAt pins s σ H _ _ v us Q I rx rv ⟨a, ws, i, k, z, rfl, rfl, h2, by omega, by omega, by rw [h3.length]; exact ek, hz, ?_⟩
          have S3 := S.write (n := n) h1 (u := .lst (ws.eraseIdx k)) (o := .lst (xs.eraseIdx k)) fun H' hH' => ⟨_, hH', h3.erase k⟩
          exact hp F r _ _ (Sub.refl _) (List.prefix_refl _) S3 (q4.mono (Sub.refl _) (take_pre _ _))
        · exact hp.elim
      · exact hp.elim
    · exact hp.elim
  · exact hp.elim
/-- x.extend(y), two live lists -/
def dExt : OpM := fun d ys M => match livD M d, ys with
  | some (n, xs), [y] => (match livD M y with
    | some (_, zs) => if xs.length + zs.length ≤ lim ∧ belows n zs = true then .ok .non (M.set n (.lst (xs ++ zs))) else .bad
    | none => .bad)
  | _, _ => .bad
theorem m_ext : MtR X "list.extend" (rDM X dExt) := by
  intro pins s σ H x vs v us Q I rx rv h
  obtain ⟨F, r, R, M, d, ys, S, q1, q2, hp⟩ := h
  unfold dExt at hp
  split at hp
  · rename_i n xs y e
    split at hp
    · rename_i n2 zs e2
      split at hp
      · rename_i hb
        obtain ⟨a, ws, rfl, h1, h2, h3⟩ := livD_rep S q1 e
        obtain ⟨u, rfl, q3⟩ := q2.inv1
        obtain ⟨b, ts, rfl, g1, g2, g3⟩ := livD_rep S q3 e2
        refine mt_extend pins s σ H _ _ v us Q I rx rv ⟨a, b, ws, ts, rfl, rfl, h2, g2, by rw [h3.length, g3.length]; exact lim_ok hb.1, ?_⟩
        have g4 : Reps (gd X) F (r.take n) zs ts := Reps.cut (g3.mono (Sub.refl _) (take_pre _ _)) hb.2
        have S3 := S.write (n := n) h1 (u := .lst (ws ++ ts)) (o := .lst (xs ++ zs)) fun H' hH' => ⟨_, hH', h3.append g4⟩
        exact hp F r _ .non (Sub.refl _) (List.prefix_refl _) S3 (by rw [rep_non])
      · exact hp.elim
    · exact hp.elim
  · exact hp.elim
end
end EV
set_option maxHeartbeats 4000000
/-! slices -/
namespace EV
open PySem PySem.Spec PyProof.Rows L2
variable [Tbl]
abbrev DO := DEnv → Sto → Out (Option Int)
abbrev RO : Rl (Option Int) (Option Int) := fun _ _ _ a b => a = b
def oNone : DO := fun _ M => .ok none M
def oSome (m : DE) : DO := fun env M => (m env M).bind fun d M1 => match d with
  | .int i => .ok (some i) M1
  | _ => .bad
abbrev OpS := D → Option Int → Option Int → Sto → Out D
def mSl (f : OpS) (m : DE) (lo hi : DO) : DE := fun env M => (m env M).bind fun d M1 => (lo env M1).bind fun l M2 => (hi env M2).bind fun u M3 => noExc (f d l u M3)
def rDSl (X : Cx) (f : OpS) : V → Option Int → Option Int → Hp → VK → Prop := fun x lo hi H Q => ∃ F r R M a, StoR (gd X) F r R M H ∧ Rep (gd X) F r a x ∧ (f a lo hi M).post (OKx Rep (gd X) F r R Q) fun _ _ => False
section
variable {X : Cx} {W : EXK} {e a : Expr} {m : DE} {lo hi : Option Expr} {ml mh : DO} {f : OpS} {pos p2 : Pos}
theorem evo_none : PO X none (tX X W RO oNone) := ⟨fun pins s σ H Q I h => po_none.run pins s σ H Q I (by
  obtain ⟨F, r, R, env, M, hE, hS, hp⟩ := h
  exact hp F r H none (Sub.refl _) (List.prefix_refl _) hS rfl)⟩
theorem evo_some (he : PE X e (tD X W m)) : PO X (some e) (tX X W RO (oSome m)) := ⟨fun pins s σ H Q I h => (po_some he).run pins s σ H Q I (by
  obtain ⟨F, r, R, env, M, hE, hS, hp⟩ := h
  refine tX.imp (tX.bind OKx.mono' hE hS hp) fun x H1 ⟨F1, r1, M1, d, s1, p1, hE1, hS1, R1, hp1⟩ => ?_
  cases d <;> try exact hp1.elim
  rename_i i
  rw [rep_int] at R1
  exact ⟨i, R1, hp1 F1 r1 H1 (some i) (Sub.refl _) (List.prefix_refl _) hS1 rfl⟩)⟩
theorem ev_sl (hf : SlR X (rDSl X f)) (he : PE X e (tD X W m)) (hl : PO X lo (tX X W RO ml)) (hu : PO X hi (tX X W RO mh)) : PE X (.Subscript e (.Slice lo hi none p2) pos) (tD X W (mSl f m ml mh)) := by
  refine PE.imp (pe_slice hf he hl hu) fun σ H Q h => ?_
  obtain ⟨F, r, R, env, M, hE, hS, hp⟩ := h
  refine tX.imp (tX.bind OKx.mono' hE hS hp) fun x H1 ⟨F1, r1, M1, d, s1, p1, hE1, hS1, R1, hp1⟩ => ?_
  refine tX.imp (tX.bind OKx.mono' hE1 hS1 hp1) fun l H2 ⟨F2, r2, M2, l', s2, p2, hE2, hS2, R2, hp2⟩ => ?_
  refine tX.imp (tX.bind OKx.mono' hE2 hS2 hp2) fun u H3 ⟨F3, r3, M3, u', s3, p3, hE3, hS3, R3, hp3⟩ => ?_
  have R2' : l' = l := R2
  have R3' : u' = u := R3
  subst R2' R3'
  exact ⟨F3, r3, R, M3, d, hS3, R1.mono (s2.trans s3) (p2.trans p3), noExc_post hp3⟩
def cutD (xs : List D) (lo hi : Option Int) : List D := (xs.drop (HT.sIx xs.length 0 lo)).take (HT.sIx xs.length xs.length hi - HT.sIx xs.length 0 lo)
theorem Reps.cutV {G : Gd} {F : Hp} {r : List Addr} {xs : List D} {vs : List V} (h : Reps G F r xs vs) (lo hi : Option Int) : Reps G F r (cutD xs lo hi) (cutV vs lo hi) := by
  unfold cutD L2.cutV
  rw [h.length]
  exact (h.drop _).take _
/-- x[lo:hi] -/
def dSl (tl : List D → Sto → Out D) : OpS := fun a lo hi M => match a with
  | .str z => if z.length ≤ lim then .ok (.str (Txt.slice z lo hi)) M else .bad
  | .tup xs => .ok (.tup (cutD xs lo hi)) M
  | a => match lstD M a with
    | some xs => tl (cutD xs lo hi) M
    | none => .bad
theorem r_sl {tl : List D → Sto → Out D} (T : TailOk tl) : SlR X (rDSl X (dSl tl)) := by
  intro pins s σ H x v vl vu lo hi sl Q I rx hs pl pu h
  obtain ⟨F, r, R, M, d, S, q1, hp⟩ := h
  unfold dSl at hp
  split at hp
  · rename_i z
    split at hp
    · rename_i hl
      rw [rep_str] at q1
      subst q1
      exact C8.sl_txt pins s σ H _ v vl vu lo hi sl Q I rx hs pl pu ⟨z, rfl, lim_ok hl, OKx.flat hp S (.str _)⟩
    · exact hp.elim
  · rename_i xs
    have q1' := q1
    rw [rep_tup] at q1
    obtain ⟨a, vs, rfl, q2, q3⟩ := q1
    refine sl_tupA pins s σ H _ v vl vu lo hi sl Q I rx hs pl pu ⟨a, vs, rfl, S.sub.tq q2, fun hw => ?_, fun _ p hpn => ?_⟩
    · have e : cutD xs lo hi = xs := by
        rw [q3.length] at hw
        unfold cutD
        rw [hw.1, hw.2, List.drop_zero, Nat.sub_zero, List.take_length]
      rw [e] at hp
      exact hp.here S q1'
    · obtain ⟨a1, a2, a3⟩ := rep_new_tup S (q3.cutV lo hi) hpn
      exact hp _ r _ _ a1 (List.prefix_refl _) a2 a3
  · split at hp
    · rename_i xs e
      obtain ⟨a, vs, rfl, q2, q3⟩ := lstD_rep S q1 e
      exact sl_list pins s σ H _ v vl vu lo hi sl Q I rx hs pl pu ⟨a, vs, rfl, q2.sq, fun p hpn => T.new S (q3.cutV lo hi) hp hpn⟩
    · exact hp.elim
/-- x[::-1] of a list -/
def mRevL (tl : List D → Sto → Out D) (m : DE) : DE := fun env M => (m env M).bind fun d M1 => match lstD M1 d with
  | some xs => tl xs.reverse M1
  | none => .bad
theorem ev_revL {W : EXK} {tl : List D → Sto → Out D} (T : TailOk tl) {k : Nat} {p1 p3 : Pos} (he : PE X e (tD X W m)) : PE X (.Subscript e (.Slice none none (some (.UnaryOp .USub (.Constant (.int 1) k p1) p2)) p3) pos) (tD X W (mRevL tl m)) := by
  refine PE.imp (pe_revL he) fun σ H Q h => ?_
  obtain ⟨F, r, R, env, M, hE, hS, hp⟩ := h
  refine tX.imp (tX.bind OKx.mono' hE hS hp) fun x H1 ⟨F1, r1, M1, d, s1, p1, hE1, hS1, R1, hp1⟩ => ?_
  split at hp1
  · rename_i xs e
    obtain ⟨a, vs, rfl, q2, q3⟩ := lstD_rep hS1 R1 e
    exact ⟨a, vs, rfl, q2.sq, fun p hpn => T.new hS1 q3.reverse hp1 hpn⟩
  · exact hp1.elim
end
end EV
set_option maxHeartbeats 4000000
/-! enumerate of a tuple -/
namespace EV
open PySem PySem.Spec PyProof.Rows L2
variable [Tbl]
open PySem.AutoSeq1 (wpAny_loadPart')
theorem meets_enumT (l : Addr) (items : Array Value) (n : Nat) (dct : Option Addr) (sl : Array (Option Value)) :
    Meets (Builtin.«enumerate.__new__» ⟨[.type "enumerate", .ref l], []⟩) (fun _ R s => s.heap.get? l = some { cls := .type "tuple", dict := dct, data := .seq items n, slots := sl } ∧
      R (.ok (.ret (.ref (s.heap.push { cls := .type "tuple_iterator", data := .fields #[.ref l, .int 0 0] }).objs.size)))
        { s with heap := (s.heap.push { cls := .type "tuple_iterator", data := .fields #[.ref l, .int 0 0] }).push { cls := .type "enumerate", data := .fields #[.none, .bool false, .ref s.heap.objs.size, rawInt 0, .none, .none] } }) :=
  .of_wp fun prog w A R s h => by
    obtain ⟨hp, g, d, tk, os⟩ := s
    obtain ⟨hl, h⟩ := h
    have hsub := PySem.sub_enumerate
    have hL : Heap.IsTuple (Shared.heap ⟨hp, g, d, tk, os⟩) l items := ⟨_, hl, rfl, n, rfl⟩
    wp_walk using wpAny_loadPart' hl
    refine wpAny_stack_any fun st => wpAny_pure ?_
    split
    · rename_i c _ _ _ _ _
      cases (c == Value.type "enumerate") <;> (wp_walk using wpAny_loadPart' hl, wpAny_pyIter_tuple hL; exact ⟨_, rfl, h⟩)
    · wp_walk using wpAny_loadPart' hl, wpAny_pyIter_tuple hL
      exact ⟨_, rfl, h⟩
theorem call_enumT {prog : Program} {w : World} {A : Around} {E : Value → Shared → Prop} {s : Shared} {l : Addr} {items : Array Value} {Q : Value → Shared → Prop} (hL : s.heap.IsTuple l items)
    (h : ∀ h', PySem.IsEnum h' (s.heap.objs.size + 1) s.heap.objs.size 0 .none → h'.IsTupleIter s.heap.objs.size l 0 → h'.objs.size = s.heap.objs.size + 2 → (∀ b o, s.heap.get? b = some o → h'.get? b = some o) → Q (.ref (s.heap.objs.size + 1)) { s with heap := h' }) :
    wpAny (model prog w) A (PySem.call (.type "enumerate") [.ref l]) Q E s := by
  obtain ⟨⟨c, dct, dt, sl⟩, hl, hc, n, hd⟩ := hL
  replace hc : c = .type "tuple" := hc
  replace hd : dt = .seq items n := hd
  subst hc hd
  refine PySem.callType_new PySem.F.called_enumerate (by decide) (PySem.F.typeCall_enumerate_1 _) (PySem.F.newCall_enumerate_1 _) (fun obj => PySem.F.args_object_init_2 obj _) PySem.F.entry_enumerate_new (meets_enumT l items n dct sl) ⟨hl, ?_⟩
  have hz : (s.heap.push { cls := .type "tuple_iterator", data := .fields #[.ref l, .int 0 0] }).objs.size = s.heap.objs.size + 1 := Heap.size_push ..
  show _ ∧ _
  rw [hz]
  have he : PySem.IsEnum ((s.heap.push { cls := .type "tuple_iterator", data := .fields #[.ref l, .int 0 0] }).push { cls := .type "enumerate", data := .fields #[.none, .bool false, .ref s.heap.objs.size, rawInt 0, .none, .none] }) (s.heap.objs.size + 1) s.heap.objs.size 0 .none := by
    have := Heap.get?_push_size (s.heap.push { cls := .type "tuple_iterator", data := .fields #[.ref l, .int 0 0] }) (o := { cls := .type "enumerate", data := .fields #[.none, .bool false, .ref s.heap.objs.size, rawInt 0, .none, .none] }) rfl
    rw [hz] at this
    exact this
  exact ⟨⟨_, he, rfl⟩, h _ he ⟨_, Heap.get?_push_of_some _ (Heap.get?_push_size _ rfl), rfl, rfl⟩ (by rw [Heap.size_push, hz]) fun b o x => Heap.get?_push_of_some _ (Heap.get?_push_of_some _ x)⟩
theorem drawsT {prog : Program} {w : World} {A : Around} (hh : A.handled = none) (it l : Addr) (hne : l ≠ it) (items : Array Value) :
    PySem.Draws prog w A it [it, l] items.size (fun i v => items[i]? = some v) (fun i h => h.IsTupleIter it l i ∧ h.IsTuple l items) where
  live := fun _ _ st => let ⟨o, ho, _⟩ := st.1; ⟨o, ho⟩
  frame := fun _ _ _ st hk => ⟨let ⟨o, ho, z⟩ := st.1; ⟨o, hk it (by simp) o ho, z⟩, let ⟨o, ho, z⟩ := st.2; ⟨o, hk l (by simp) o ho, z⟩⟩
  item := fun i s Q E hi st hQ => by
    refine RZ.nextOf_tuple_item st.1 st.2 (x := items[i]) (by simp [hi]) fun h' hit' hs' => ?_
    exact hQ _ h' s.toks (by simp [hi]) ⟨hit', st.2.extBut hs'.extBut hne⟩ hs'
  done := fun s Q E st hE => RZ.nextOf_tuple_end hh st.1 st.2 (by simp) hE
/-- the tuple at a, each item in a new pair -/
def IteT (K : PySem.W.Frag) (a : Addr) : It :=
  ⟨fun i H => ∃ (xs : List V) (x : V), SqT K H a xs ∧ xs[i]? = some x, fun i H v H' => ∃ T x, v = .ref T ∧ H T = none ∧ H' = upd H T (.tup [.int (i : Nat), x]) ∧ ∀ xs, SqT K H a xs → xs[i]? = some x, fun i H => ∃ xs : List V, SqT K H a xs ∧ xs.length ≤ i⟩
theorem turn_enumT {P : Program} {w : World} {K : PySem.W.Frag} {elts : List Expr} {kk : Nat} {tpos : Pos} (a e it : Addr) :
    Turn P w K (.Tuple elts kk tpos) (IteT K a) [e, it] e (fun i h => (∃ old, PySem.IsEnum h e it ((i : Nat) : Int) old) ∧ h.IsTupleIter it a i ∧ e ≠ it ∧ e ≠ a ∧ a ≠ it) where
  mem := by simp
  obj := fun i h st b hb => by
    obtain ⟨⟨old, he⟩, ⟨o, ho, hc, hd⟩, _⟩ := st
    have e' : b = e ∨ b = it := by simpa using hb
    rcases e' with z | z
    · rw [z]; exact ⟨_, he, fun v q => nomatch q⟩
    · rw [z]; exact ⟨o, ho, fun v q => by rw [hd] at q; cases q⟩
  keep := fun i h h' st k => let ⟨⟨old, he⟩, hi, hne⟩ := st; ⟨⟨old, k e (by simp) _ he⟩, (let ⟨o, ho, z⟩ := hi; ⟨o, k it (by simp) o ho, z⟩), hne⟩
  item := by
    intro X hP hw hK hc i pins s σ H E I hf st hg
    subst hP hw hK
    obtain ⟨⟨old, he⟩, hit, hne, hea, hai⟩ := st
    obtain ⟨xs, x, hq, hx⟩ := hg
    obtain ⟨its, rv, p, hz⟩ := I.tuple hq
    obtain ⟨u, hu, ru⟩ := rv.get hx
    have hel : e < s.heap.objs.size := Heap.lt_size he
    have hil : it < s.heap.objs.size := by obtain ⟨_, q, _⟩ := hit; exact Heap.lt_size q
    have hu2 : its.toArray[i]? = some u := by simpa using hu
    have hlt : i < its.toArray.size := by
      rw [List.size_toArray]
      exact (List.getElem?_eq_some_iff.1 hu).1
    refine PySem.wpAny_pyNext_enum_itemD (drawsT (prog := X.prog) (w := X.w) (A := X.A.in1) (show X.A.in1.handled = none from I.ok.hd hc) it a hai its.toArray) he ⟨hit, p⟩ hlt hne (by simp [hne, hea]) fun y h' tk hy ho hst' hT hsz hk => ?_
    have eyu : y = u := by
      have := hy.symm.trans hu2
      cases this
      rfl
    subst eyu
    refine ⟨_, rfl, PySem.wpAny_letOwnedTupleGo_enum (s := { s with heap := h', toks := tk + 1 }) ho fun h'' he' sb => ?_⟩
    have hT2 : h''.get? s.heap.objs.size = some { cls := .type "tuple", data := .seq #[.int i tk, y] } := (sb.2 _ (Nat.ne_of_gt hel)).trans hT
    have new : ObjOk X.prog X.w (upd H s.heap.objs.size (.tup [.int (i : Nat), x])) h'' s.heap.objs.size (.tup [.int (i : Nat), x]) :=
      ⟨by show 2 ≤ sizeLine; decide, [.int i tk, y], .cons ⟨_, rfl⟩ (.cons ru .nil), ⟨_, hT2, rfl, _, rfl⟩⟩
    have I1 : Inv X pins σ (upd H s.heap.objs.size (.tup [.int (i : Nat), x])) { s with heap := h'', toks := tk + 1 } :=
      I.turnedNew (ch := [e, it]) (fun b ob hb q => (sb.2 b (fun z => hb (by simp [z]))).trans (hk b ob (fun z => hb (by simp [z])) (fun z => hb (by simp [z])) q)) hf (Nat.le_refl _) new
    have hit' : h''.IsTupleIter it a (i + 1) := let ⟨o, hoo, z⟩ := hst'.1; ⟨o, (sb.2 it (Ne.symm hne)).trans hoo, z⟩
    refine ⟨.ref s.heap.objs.size, _, I1, rfl, ⟨_, x, rfl, I.hok.fresh (Nat.le_refl _), rfl, fun ys hy => by rw [I.tuple_inj hy hq]; exact hx⟩, ⟨⟨y, ?_⟩, hit', hne, hea, hai⟩, fun b hb => ?_⟩
    · have e1 : ((i + 1 : Nat) : Int) = (i : Int) + 1 := by omega
      rw [e1]
      exact he'
    · have hb' : b < s.heap.objs.size := by
        have e' : b = e ∨ b = it := by simpa using hb
        rcases e' with z | z
        · rw [z]; exact hel
        · rw [z]; exact hil
      rw [upd_ne (Nat.ne_of_lt hb')]
      exact (hf b hb).1
  done := by
    intro X hP hw hK hc i pins s σ H E I hf st hg
    subst hP hw hK
    obtain ⟨⟨old, he⟩, hit, hne, hea, hai⟩ := st
    obtain ⟨xs, hq, hx⟩ := hg
    obtain ⟨its, rv, p, hz⟩ := I.tuple hq
    obtain ⟨f0, f1, f2, f3, f4, f5⟩ := hf it (by simp)
    have hl := rv.length
    have hT : s.TypeIs (.ref e) "enumerate" := ⟨_, he, rfl⟩
    unfold pyNext
    refine wpAny_bind (PySem.wpAny_attempt (PySem.wpAny_callSpecial?_slot (name := Str.ofString "__next__") hT PySem.F.slot_enumerate_next (PySem.wpAny_call_entry PySem.F.slot_enumerate_next hT PySem.F.entry_enumerate_next ?_ (PySem.F.args_enumerate_next_1 _))))
    show wpAny _ _ (field (.ref e) 2 >>= _) _ _ _
    refine wpAny_bind (PySem.wpAny_field he rfl (x := .ref it) rfl ?_)
    refine wpAny_bind (RZ.nextOf_tuple_end (I.ok.hd hc) hit p (by simp; omega) fun h' x he' hx' => ?_)
    obtain ⟨o, ho, hcc⟩ := hx'
    refine wpAny_bind (PySem.wpAny_isInstance (T := "StopIteration") (b := true) ⟨o, ho, hcc⟩ PySem.isSubtype_stop ?_)
    exact wpAny_pure ⟨rfl, I.turned (t' := s.toks) (fun q o hb z => he' q o hb z) f0 f1 f3 f4 f5⟩
  self := fun A i s Q E st h => let ⟨⟨_, he⟩, _⟩ := st; PySem.wpAny_pyIter_enum he h
def iEnumT (K : PySem.W.Frag) (ta : TA) : TI := fun σ H R => ta σ H fun vs H1 => ∃ a xs, vs = [.ref a] ∧ SqT K H1 a xs ∧ R (IteT K a) H1
theorem pi_enumT {X : Cx} {e : Expr} {ta : TA} {p pos tpos : Pos} {elts : List Expr} {kk : Nat} (hg : Gl X "enumerate") (hm : X.mg "enumerate" = none) (ha : PA X [e] ta) (hs : starEach [e] X.env = [(false, eval e X.env)] := by rfl) :
    PI X (.Tuple elts kk tpos) (.Call (.Name "enumerate" p) [e] [] pos) (iEnumT X.K ta) := by
  refine ⟨fun pins s σ H R I h => ?_⟩
  refine Call_ (ld_blt I hg hm boot_enumerate (PyProof.Rows.callWith_type1 (thn (ha.run pos pins s σ H _ I h) fun us s1 ⟨vs, H1, I1, r1, q1⟩ => ?_) hs rfl))
  obtain ⟨a, xs, ex, hq, q⟩ := q1
  subst ex
  cases r1 with
  | cons r rr =>
    cases rr
    cases r
    obtain ⟨its, rv, p', hz⟩ := I1.tuple hq
    have hal : a < s1.heap.objs.size := by obtain ⟨_, z, _⟩ := p'; exact Heap.lt_size z
    refine call_enumT p' fun h' he hit hsz hk => PySem.wpAny_pyIter_enum he ?_
    have I2 : Inv X pins σ H1 { s1 with heap := h' } := I1.kept (t' := s1.toks) hk
    refine ⟨s1.heap.objs.size + 1, [s1.heap.objs.size + 1, s1.heap.objs.size], _, _, H1, rfl, I2, turn_enumT a (s1.heap.objs.size + 1) s1.heap.objs.size, ⟨⟨.none, he⟩, hit, Nat.succ_ne_self _, Nat.ne_of_gt (Nat.lt_succ_of_lt hal), Nat.ne_of_lt hal⟩, fun b hb => ?_, q⟩
    have e' : b = s1.heap.objs.size + 1 ∨ b = s1.heap.objs.size := by simpa using hb
    have hle : s1.heap.objs.size ≤ b := by
      rcases e' with z | z
      · rw [z]; exact Nat.le_add_right _ _
      · rw [z]; exact Nat.le_refl _
    exact I1.fpOk hle (I1.hok.fresh hle)
end EV
set_option maxHeartbeats 4000000
/-! enumerate, zip as rows -/
namespace EV
open PySem PySem.Spec PyProof.Rows L2
variable [Tbl]
def enumD (i : Nat) : List D → List D
  | [] => []
  | x :: xs => .tup [.int (i : Int), x] :: enumD (i + 1) xs
theorem enumD_get : ∀ (xs : List D) (k i : Nat), (enumD k xs)[i]? = xs[i]?.map fun x => D.tup [.int ((k + i : Nat) : Int), x]
  | [], k, i => by simp [enumD]
  | x :: xs, k, 0 => by simp [enumD]
  | x :: xs, k, i + 1 => by
    rw [enumD, List.getElem?_cons_succ, List.getElem?_cons_succ, enumD_get xs (k + 1) i]
    congr 3
    funext y
    congr 4
    omega
def zipD : List D → List D → List D
  | x :: xs, y :: ys => .tup [x, y] :: zipD xs ys
  | _, _ => []
theorem zipD_some {xs : List D} : ∀ {ys : List D} {i : Nat} {d : D}, (zipD xs ys)[i]? = some d → ∃ x y, d = .tup [x, y] ∧ xs[i]? = some x ∧ ys[i]? = some y := by
  induction xs with
  | nil => intro ys i d h; cases ys <;> simp [zipD] at h
  | cons x xs ih =>
    intro ys i d h
    cases ys with
    | nil => simp [zipD] at h
    | cons y ys =>
      cases i with
      | zero =>
        rw [zipD, List.getElem?_cons_zero] at h
        cases h
        exact ⟨x, y, rfl, rfl, rfl⟩
      | succ i =>
        rw [zipD, List.getElem?_cons_succ] at h
        exact ih h
theorem zipD_none {xs : List D} : ∀ {ys : List D} {i : Nat}, (zipD xs ys)[i]? = none → xs.length ≤ i ∨ ys.length ≤ i := by
  induction xs with
  | nil => intro ys i h; exact .inl (Nat.zero_le _)
  | cons x xs ih =>
    intro ys i h
    cases ys with
    | nil => exact .inr (Nat.zero_le _)
    | cons y ys =>
      cases i with
      | zero => rw [zipD, List.getElem?_cons_zero] at h; cases h
      | succ i =>
        rw [zipD, List.getElem?_cons_succ] at h
        rcases ih h with z | z
        · exact .inl (Nat.succ_le_succ z)
        · exact .inr (Nat.succ_le_succ z)
theorem pair_rep {G : Gd} {F : Hp} {r : List Addr} {x y : D} {v w : V} (a : Rep G F r x v) (b : Rep G F r y w) : Reps G F r [x, y] [v, w] := .cons a (.cons b .nil)
section
variable {G : Gd} {F : Hp} {r : List Addr}
theorem itOk_enumT {a : Addr} {xs : List D} {vs : List V} (hs : SqT G.K F a vs) (h : Reps G F r xs vs) : ItOk G F r (.imm (enumD 0 xs)) (IteT G.K a) := by
  intro F2 r2 R M H i s p S
  show match (some (enumD 0 xs)[i]? : Option (Option D)) with
    | none => True
    | some none => (IteT G.K a).stop i H
    | some (some d) => (IteT G.K a).go i H ∧ ∀ x H', (IteT G.K a).yld i H x H' → ∃ F3, Sub F2 F3 ∧ StoR G F3 r2 R M H' ∧ Rep G F3 r2 d x
  have hH : SqT G.K H a vs := (s.trans S.sub).sqT hs
  rw [enumD_get]
  cases e : xs[i]? with
  | none =>
    refine ⟨vs, hH, ?_⟩
    rw [h.length]
    exact List.getElem?_eq_none_iff.1 e
  | some d =>
    obtain ⟨v, hv, q⟩ := h.get e
    refine ⟨⟨vs, v, hH, hv⟩, fun x H' z => ?_⟩
    obtain ⟨T, y, rfl, hT, rfl, hy⟩ := z
    have ey : y = v := by
      have := (hy vs hH).symm.trans hv
      cases this
      rfl
    subst ey
    obtain ⟨a1, a2, a3⟩ := rep_new_tup S (pair_rep (x := .int ((0 + i : Nat) : Int)) (v := .int ((i : Nat) : Int)) (by rw [rep_int, Nat.zero_add]) (q.mono s p)) hT
    exact ⟨_, a1, a2, a3⟩
theorem itOk_zipT {a b : Addr} {xs ys : List D} {vs ws : List V} (hs : SqT G.K F a vs) (h : Reps G F r xs vs) (hs' : SqT G.K F b ws) (h' : Reps G F r ys ws) : ItOk G F r (.imm (zipD xs ys)) (RZ.ItzT G.K a b) := by
  intro F2 r2 R M H i s p S
  show match (some (zipD xs ys)[i]? : Option (Option D)) with
    | none => True
    | some none => (RZ.ItzT G.K a b).stop i H
    | some (some d) => (RZ.ItzT G.K a b).go i H ∧ ∀ x H', (RZ.ItzT G.K a b).yld i H x H' → ∃ F3, Sub F2 F3 ∧ StoR G F3 r2 R M H' ∧ Rep G F3 r2 d x
  have hH : SqT G.K H a vs := (s.trans S.sub).sqT hs
  have hH' : SqT G.K H b ws := (s.trans S.sub).sqT hs'
  cases e : (zipD xs ys)[i]? with
  | none =>
    refine ⟨vs, ws, hH, hH', ?_⟩
    rw [h.length, h'.length]
    exact zipD_none e
  | some d =>
    obtain ⟨x, y, rfl, ex, ey⟩ := zipD_some e
    obtain ⟨v, hv, q⟩ := h.get ex
    obtain ⟨w, hw, q'⟩ := h'.get ey
    refine ⟨⟨vs, ws, v, w, hH, hH', hv, hw⟩, fun x H' z => ?_⟩
    obtain ⟨T, x1, y1, rfl, hT, rfl, hx, hy⟩ := z
    have e1 : x1 = v := by
      have := (hx vs hH).symm.trans hv
      cases this
      rfl
    have e2 : y1 = w := by
      have := (hy ws hH').symm.trans hw
      cases this
      rfl
    subst e1 e2
    obtain ⟨a1, a2, a3⟩ := rep_new_tup S (pair_rep (q.mono s p) (q'.mono s p)) hT
    exact ⟨_, a1, a2, a3⟩
end
section
variable {X : Cx} {W : EXK} {e e2 : Expr} {mas : DA} {p pos tpos : Pos} {elts : List Expr} {kk : Nat}
/-- enumerate(x), a tuple -/
def mEnumT (as : DA) : DI := fun env M => (as env M).bind fun xs M1 => match xs with
  | [.tup ys] => .ok (.imm (enumD 0 ys)) M1
  | _ => .bad
theorem evi_enumT (hg : Gl X "enumerate") (hm : X.mg "enumerate" = none) (ha : PA X [e] (tA X W mas)) (hs : starEach [e] X.env = [(false, eval e X.env)] := by rfl) : PI X (.Tuple elts kk tpos) (.Call (.Name "enumerate" p) [e] [] pos) (tI X W (mEnumT mas)) := by
  refine PI.imp (pi_enumT hg hm ha hs) fun σ H Q h => ?_
  obtain ⟨F, r, R, env, M, hE, hS, hp⟩ := h
  refine tX.imp (tX.bind OKx.mono' hE hS hp) fun xs H1 ⟨F1, r1, M1, ds, s1, p1, hE1, hS1, R1, hp1⟩ => ?_
  split at hp1
  · rename_i ys
    obtain ⟨v, rfl, q⟩ := R1.inv1
    rw [rep_tup] at q
    obtain ⟨a, vs, rfl, q1, q2⟩ := q
    exact ⟨a, vs, rfl, hS1.sub.tq q1, hp1 F1 r1 H1 _ (Sub.refl _) (List.prefix_refl _) hS1 (itOk_enumT (SqT.of q1) q2)⟩
  · exact hp1.elim
/-- zip(x, y), two tuples -/
def mZipT (as : DA) : DI := fun env M => (as env M).bind fun xs M1 => match xs with
  | [.tup ys, .tup zs] => .ok (.imm (zipD ys zs)) M1
  | _ => .bad
theorem evi_zipT (hg : Gl X "zip") (hm : X.mg "zip" = none) (ha : PA X [e, e2] (tA X W mas)) (hs : starEach [e, e2] X.env = (false, eval e X.env) :: starEach [e2] X.env := by rfl) (hpl : (backTo pos (starEach [e2] X.env)).any (·.1) = false := by rfl) :
    PI X (.Tuple elts kk tpos) (.Call (.Name "zip" p) [e, e2] [] pos) (tI X W (mZipT mas)) := by
  refine PI.imp (RZ.pi_zipA hg hm ha hs hpl) fun σ H Q h => ?_
  obtain ⟨F, r, R, env, M, hE, hS, hp⟩ := h
  refine tX.imp (tX.bind OKx.mono' hE hS hp) fun xs H1 ⟨F1, r1, M1, ds, s1, p1, hE1, hS1, R1, hp1⟩ => ?_
  split at hp1
  · rename_i ys zs
    obtain ⟨v, w, rfl, q, q'⟩ := R1.inv2
    rw [rep_tup] at q q'
    obtain ⟨a, vs, rfl, q1, q2⟩ := q
    obtain ⟨b, ws, rfl, q3, q4⟩ := q'
    exact ⟨a, b, vs, ws, rfl, .inr ⟨hS1.sub.tq q1, hS1.sub.tq q3, hp1 F1 r1 H1 _ (Sub.refl _) (List.prefix_refl _) hS1 (itOk_zipT (SqT.of q1) q2 (SqT.of q3) q4)⟩⟩
  · exact hp1.elim
end
end EV
set_option maxHeartbeats 4000000
/-! own classes: len(x), x[i], y in x -/
namespace EV
open PySem PySem.Spec PyProof.Rows L2
variable [Tbl]
section
variable {X : Cx} {W : EXK} {c : Str} {k n : Nat} {Fn : DFn}
/-- a def of the text below a built-in -/
theorem run_dun {A1 : Around} {f : Addr} {fd : FuncData} {ps : List Str} {pins : List (Addr × Obj)} {σ : L2.St} {H : Hp} {s : Shared} {Q : VK} {us : List Value} {vs : List V} (F : FnG X.prog X.w X.K X.mg X.base CX0 k f fd ps (spD0 (gd X) n Fn)) (hr : Room k A1) (hgd : A1.guards = some []) (e0 : Env0 X.prog X.w X.K X.mg X.base A1 X.stack s H) (hb : Binds X.K fd ps [])
    (I : Inv X pins σ H s) (r : Vals vs us) (h : spD0 (gd X) n Fn vs H Q fun _ _ _ => False) : wpAny (model X.prog X.w) A1 (PySem.call (.ref f) us) (EP X pins σ Q) X.xe s := by
  have hl : us.length = ps.length := by rw [← r.length]; exact F.len _ _ _ _ h
  have hb' := hb s us I.kIn (by rw [List.append_nil]; exact hl)
  rw [List.append_nil] at hb'
  refine wpAny_call (codeAny_mono (F.run A1 X.stack s H ⟨us, []⟩ us vs Q _ hr hgd e0 hb' r h) fun res s' hq => ?_)
  cases res with
  | error e => exact False.elim hq
  | ok fl =>
    cases fl with
    | ret u => exact I.after hq
    | next => exact False.elim hq
    | brk => exact False.elim hq
    | cont => exact False.elim hq
/-- len(x): through the own __len__, or a built-in's -/
def dLenO (c : Str) (Fn : DFn) : OpL := fun xs M => match xs with
  | [d] => (match insD M c d with
    | some _ => (noExc (Fn [d] M)).bind fun r M' => match r with
      | .int i => if 0 ≤ i ∧ i ≤ big then .ok (.int i) M' else .bad
      | _ => .bad
    | none => dLen [d] M)
  | _ => .bad
theorem r_lenO (N : MetAt X.prog X.w X.K X.mg X.base k c "__len__" 1 Fn) (hr : Room (k + 1) X.A) (hgd : X.A.guards = some []) : SL X (.builtin "len") (dLenO c Fn) := by
  intro pins s σ H xs us Q I rv hq
  obtain ⟨F, r, R, M, as, S, ra, hp⟩ := hq
  unfold dLenO at hp
  split at hp
  · rename_i d
    cases e : insD M c d with
    | none =>
      rw [e] at hp
      exact r_len pins s σ H xs us Q I rv ⟨F, r, R, M, _, S, ra, hp⟩
    | some fs =>
      rw [e] at hp
      obtain ⟨C, g, fd, ps, hC, hcl, hme, hb, hps, G⟩ := N.at_
      obtain ⟨v, rfl, q1⟩ := ra.inv1
      obtain ⟨a, C', dx, vfs, rfl, hC', hH, hF⟩ := insD_rep S q1 e
      have : C' = C := by
        have := hC'.symm.trans hC
        cases this
        rfl
      subst this
      obtain ⟨mA, O, _⟩ := ins_get I.hok hH
      obtain ⟨od, J, _⟩ := O.look
      obtain ⟨m, hFr⟩ := I.fr
      rw [Vals.ref1 rv]
      have hps2 := noExc_post (Out.post_bind hp)
      refine PySem.W.len_K hFr I.ok.mod.kin J hme.at_ hme.fn (wpAny_mono (run_dun (Q := fun v H' => ∃ i : Int, v = .int i ∧ (0 ≤ i ∧ i ≤ big) ∧ Q (.int i) H') G hr.in1 hgd I.env0.in1 hb I (vs := [.ref a]) (.cons (show RelV (.ref a) (.ref a) from rfl) .nil) ⟨rfl, F, r, R, M, [d], .one q1, S, Out.post_imp hps2 (fun x M' z => ?_) fun _ _ z => z⟩) (fun u s' z => ?_) fun _ _ z => z)
      · intro F' r' H' b s1 p1 S1 q2
        cases x <;> try exact z.elim
        rename_i i
        rw [rep_int] at q2
        dsimp only at z
        by_cases hb2 : 0 ≤ i ∧ i ≤ big
        · rw [if_pos hb2] at z
          exact ⟨i, q2, hb2, z F' r' H' _ s1 p1 S1 (by rw [rep_int])⟩
        · rw [if_neg hb2] at z
          exact z.elim
      · obtain ⟨v, H', I', rr, i, rfl, hb2, hQ⟩ := z
        obtain ⟨t, rfl⟩ := rr
        unfold big at hb2
        refine ⟨by omega, ?_⟩
        first
          | exact ⟨.int i, H', I'.tok _, ⟨_, rfl⟩, hQ⟩
          | exact fun _ => ⟨.int i, H', I'.tok _, ⟨_, rfl⟩, hQ⟩
  · exact hp.elim
/-- the def behind x[i] of an own class -/
structure ItmAt (P : Program) (w : World) (K : PySem.W.Frag) (mg : Str → Option Value) (base : Heap) (k : Nat) (c : Str) (Fn : DFn) : Prop where
  at_ : ∃ C f fd ps, mg c = some (.ref C) ∧ Meth K C "__getitem__" f ∧ PySem.W.fnIn K f = true ∧ Binds K fd ps [] ∧ ps.length = 2 ∧ FnG P w K mg base CX0 k f fd ps (spD0 ⟨K, mg⟩ 2 Fn)
/-- x[i]: through the own __getitem__ -/
def mIxO (c : Str) (Fn : DFn) (a b : DE) : DE := fun env M => (a env M).bind fun d M1 => (b env M1).bind fun i M2 => match insD M2 c d with
  | some _ => noExc (Fn [d, i] M2)
  | none => .bad
theorem ev_ixO {a b : Expr} {ma mb : DE} {pos : Pos} (N : ItmAt X.prog X.w X.K X.mg X.base k c Fn) (hr : Room (k + 1) X.A) (hgd : X.A.guards = some []) (ha : PE X a (tD X W ma)) (hb : PE X b (tD X W mb))
    (hsl : ∀ (x : Addr) (i : Value), subscripted b true (.ref x) i = runValue (.builtin "lifetime.subscript" ⟨[.ref x, i], []⟩) := by intros; with_unfolding_all rfl) : PE X (.Subscript a b pos) (tD X W (mIxO c Fn ma mb)) := by
  refine ⟨fun pins s σ H Q I h => ?_⟩
  obtain ⟨F0, r, R, env, M, hE, hS, hp⟩ := h
  refine Subscript_ (thn (ha.run pins s σ H _ I (tX.bind OKx.mono' hE hS hp)) fun v s1 ⟨x, H1, I1, rx, q⟩ => ?_)
  obtain ⟨F1, r1, M1, d, s1', p1, hE1, hS1, R1, hp1⟩ := q
  refine thn (hb.run pins s1 σ H1 _ I1 (tX.bind OKx.mono' hE1 hS1 hp1)) fun u s2 ⟨y, H2, I2, ry, q2⟩ => ?_
  obtain ⟨F2, r2, M2, i, s2', p2, hE2, hS2, R2, hp2⟩ := q2
  cases e : insD M2 c d with
  | none => rw [e] at hp2; exact hp2.elim
  | some fs =>
    rw [e] at hp2
    obtain ⟨C, g, fd, ps, hC, hme, hfi, hbi, hps, G⟩ := N.at_
    have R1' := R1.mono s2' p2
    obtain ⟨z, C', dx, vfs, rfl, hC', hH, hF⟩ := insD_rep hS2 R1' e
    have : C' = C := by
      have := hC'.symm.trans hC
      cases this
      rfl
    subst this
    obtain rfl : v = Value.ref z := rx
    obtain ⟨mA, O, _⟩ := ins_get I2.hok hH
    obtain ⟨od, J, _⟩ := O.look
    obtain ⟨m, hFr⟩ := I2.fr
    have hps2 := noExc_post (o := Fn [d, i] M2) hp2
    refine PySem.W.sub_K hFr I2.ok.mod.kin J hme.at_ hfi hme.fn (run_dun G hr.in1 hgd I2.env0.in1 hbi I2 (vs := [.ref z, y]) (.cons (show RelV (.ref z) (.ref z) from rfl) (.cons ry .nil)) ⟨rfl, F2, r2, R, M2, [d, i], .cons R1' (.cons R2 .nil), hS2, hps2⟩) (hsl z u)
/-- y in x: through the own __contains__ -/
def dInO (c : Str) (Fn : DFn) : Op2 := fun a b M => match insD M c b with
  | some _ => (noExc (Fn [b, a] M)).bind fun r M' => match r with
    | .bl k => .ok (.bl k) M'
    | _ => .bad
  | none => .bad
theorem r_inO (N : MetAt X.prog X.w X.K X.mg X.base k c "__contains__" 2 Fn) (hr : Room k X.A) (hgd : X.A.guards = some []) : S2 X (compareOp .In) (dInO c Fn) := by
  intro pins s σ H x y v u Q I rx ry hq
  obtain ⟨F, r, R, M, a, b, S, q1, q2, hp⟩ := hq
  unfold dInO at hp
  cases e : insD M c b with
  | none => rw [e] at hp; exact hp.elim
  | some fs =>
    rw [e] at hp
    obtain ⟨C, g, fd, ps, hC, hcl, hme, hb, hps, G⟩ := N.at_
    obtain ⟨z, C', dx, vfs, rfl, hC', hH, hF⟩ := insD_rep S q2 e
    have : C' = C := by
      have := hC'.symm.trans hC
      cases this
      rfl
    subst this
    obtain rfl : u = Value.ref z := ry
    obtain ⟨mA, O, _⟩ := ins_get I.hok hH
    obtain ⟨od, J, _⟩ := O.look
    obtain ⟨m, hFr⟩ := I.fr
    have hps2 := noExc_post (Out.post_bind hp)
    refine PySem.W.in_K hFr I.ok.mod.kin J hme.at_ hme.fn (wpAny_mono (run_dun (Q := fun v H' => ∃ i : Bool, v = .bl i ∧ Q (.bl i) H') G hr hgd I.env0 hb I (vs := [.ref z, x]) (.cons (show RelV (.ref z) (.ref z) from rfl) (.cons rx .nil)) ⟨rfl, F, r, R, M, [b, a], .cons q2 (.cons q1 .nil), S, Out.post_imp hps2 (fun w M' t => ?_) fun _ _ t => t⟩) (fun u s' t => ?_) fun _ _ t => t)
    · intro F' r' H' b s1 p1 S1 q3
      cases w <;> try exact t.elim
      rw [rep_bl] at q3
      exact ⟨_, q3, t F' r' H' _ s1 p1 S1 (by rw [rep_bl])⟩
    · obtain ⟨v, H', I', rr, i, rfl, hQ⟩ := t
      obtain rfl : u = Value.bool i := rr
      exact wpAny_pure ⟨.bl i, H', I', rfl, hQ⟩
end
end EV
set_option maxHeartbeats 4000000
/-! own classes: x == y -/
namespace EV
open PySem PySem.Spec PyProof.Rows L2
variable [Tbl]
section
variable {X : Cx} {W : EXK} {c : Str} {k n : Nat} {Fn : DFn}
/-- x == y of an own class: through the own __eq__, or as in EV8 -/
def dEqO (c : Str) (Fn : DFn) : Op2 := fun a b M => match insD M c a with
  | some _ => (match insD M c b with
    | some _ => (noExc (Fn [a, b] M)).bind fun r M' => match r with
      | .bl k => .ok (.bl k) M'
      | _ => .bad
    | none => .bad)
  | none => dEq a b M
theorem r_eqO (N : MetAt X.prog X.w X.K X.mg X.base k c "__eq__" 2 Fn) (hr : Room k X.A) (hgd : X.A.guards = some []) : S2 X (compareOp .Eq) (dEqO c Fn) := by
  intro pins s σ H x y v u Q I rx ry hq
  obtain ⟨F, r, R, M, a, b, S, q1, q2, hp⟩ := hq
  unfold dEqO at hp
  cases e : insD M c a with
  | none =>
    rw [e] at hp
    exact r_eq hr.units pins s σ H x y v u Q I rx ry ⟨F, r, R, M, a, b, S, q1, q2, hp⟩
  | some fs =>
    rw [e] at hp
    dsimp only at hp
    cases e2 : insD M c b with
    | none => rw [e2] at hp; exact hp.elim
    | some gs =>
      rw [e2] at hp
      obtain ⟨C, g, fd, ps, hC, hcl, hme, hb, hps, G⟩ := N.at_
      obtain ⟨z, C', dx, vfs, rfl, hC', hH, hF⟩ := insD_rep S q1 e
      obtain ⟨z2, C2, dx2, vfs2, rfl, hC2, hH2, hF2⟩ := insD_rep S q2 e2
      have : C' = C := by
        have := hC'.symm.trans hC
        cases this
        rfl
      subst this
      have : C2 = C' := by
        have := hC2.symm.trans hC'
        cases this
        rfl
      subst this
      obtain rfl : v = Value.ref z := rx
      obtain rfl : u = Value.ref z2 := ry
      obtain ⟨mA, O, _⟩ := ins_get I.hok hH
      obtain ⟨od, J, _⟩ := O.look
      obtain ⟨mB, O2, _⟩ := ins_get I.hok hH2
      obtain ⟨od2, J2, _⟩ := O2.look
      obtain ⟨m, hFr⟩ := I.fr
      have hps2 := noExc_post (Out.post_bind hp)
      show wpAny (model X.prog X.w) X.A (richCompare .Eq (.ref z) (.ref z2)) (EP X pins σ Q) X.xe s
      refine PySem.W.cmp_K (op := .Eq) (tb := .ref C2) hr.units0 hFr I.ok.mod.kin J J2.type (by simp [PySem.W.notFirst]) hme.at_ hme.fn (wpAny_mono (run_dun (Q := fun v H' => ∃ i : Bool, v = .bl i ∧ Q (.bl i) H') G hr hgd I.env0 hb I (vs := [.ref z, .ref z2]) (.cons (show RelV (.ref z) (.ref z) from rfl) (.cons (show RelV (.ref z2) (.ref z2) from rfl) .nil)) ⟨rfl, F, r, R, M, [a, b], .cons q1 (.cons q2 .nil), S, Out.post_imp hps2 (fun w M' t => ?_) fun _ _ t => t⟩) (fun u s' t => ?_) fun _ _ t => t)
      · intro F' r' H' b s1 p1 S1 q3
        cases w <;> try exact t.elim
        rw [rep_bl] at q3
        exact ⟨_, q3, t F' r' H' _ s1 p1 S1 (by rw [rep_bl])⟩
      · obtain ⟨v, H', I', rr, i, rfl, hQ⟩ := t
        obtain rfl : u = Value.bool i := rr
        exact ⟨.bl i, H', I', rfl, hQ⟩
end
end EV
set_option maxHeartbeats 4000000
/-! own classes: x != y through the own __eq__ -/
namespace EV
open PySem PySem.Spec PyProof.Rows L2
variable [Tbl]
section
variable {prog : Program} {w : World} {A : Around} {E : Value → Shared → Prop} {s : Shared} {K : PySem.W.Frag} {x C f : Addr} {ox : Obj} {od : Option Obj} {b : Value}
theorem entry_neK (hu : A.units < cLine) (X : K.In s.heap) (I : PySem.W.InstAt s.heap x ox C od) (hs : PySem.W.findIn K (.ref C) "__eq__" = some (some (.ref f))) (hf : PySem.W.isFn K (.ref f) = true) {Q : Fin → Shared → Prop}
    (h : wpAny (model prog w) A (PySem.call (.ref f) [.ref x, b]) (fun v s' => ∃ k, v = .bool k ∧ Q (.done (.ret (.bool (!k)))) s') E s) :
    wpAny (model prog w) A (Builtin.«object.__ne__» ⟨[.ref x, b], []⟩) Q E s := by
  unfold Builtin.«object.__ne__»
  repeat (first
    | with_reducible refine PySem.wpAny_cRoomFor hu ?_
    | (refine wpAny_bind (m := callSpecialIfBound? (.ref x) (Str.ofString "__eq__") [b])
        (PySem.W.ifBound_K X I hs hf (wpAny_mono h (fun r s' hr => by
          obtain ⟨k, rfl, hq⟩ := hr
          repeat (first | exact hq | exact wpAny_pure hq | exact PySem.wpAny_truthy_bool hq | (refine wpAny_bind (m := truthy (.bool _)) (PySem.wpAny_truthy_bool ?_)) | wp_step)) fun _ _ e => e)))
    | wp_step)
theorem ifBound_neK {args : List Value} {Q : Option Value → Shared → Prop} (X : K.In s.heap) (I : PySem.W.InstAt s.heap x ox C od) (hs : PySem.W.findIn K (.ref C) "__ne__" = some (some (.builtin "object.__ne__")))
    (h : wpAny (model prog w) A (PySem.call (.builtin "object.__ne__") (.ref x :: args)) (fun v => Q (some v)) E s) : wpAny (model prog w) A (callSpecialIfBound? (.ref x) "__ne__" args) Q E s := by
  simp only [callSpecialIfBound?, bindSpecialIfBound?]
  refine PySem.wpAny_holding (wpAny_bind (wpAny_bind (wpAny_bind (I.type.here ((PySem.W.looks_findIn X hs).here ?_)))))
  refine wpAny_bind (PySem.wpAny_askSetting (PySem.wpAny_ite ?_))
  have fin : wpAny (model prog w) A (PySem.call (.builtin "object.__ne__") ([.ref x] ++ args) >>= fun v => pure (some v)) Q E s := wpAny_bind (wpAny_mono h (fun v s' h' => wpAny_pure h') fun _ _ h' => h')
  split
  · exact wpAny_bind (wpAny_of_eq (PySem.F.cmp_object.ne.bind _) (wpAny_pure (by exact fin)))
  · exact PySem.wpAny_tryCatch (wpAny_bind (wpAny_of_eq (PySem.F.cmp_object.ne.bind _) (wpAny_pure (by exact fin))))
theorem cmp_neK {tb : Value} {Q : Value → Shared → Prop} (hu : A.units + 1 < cLine) (X : K.In s.heap) (I : PySem.W.InstAt s.heap x ox C od) (hb : PySem.W.Looks (model prog w) s.heap (typeOf b) tb) (hn : PySem.W.notFirst K C tb = true)
    (hs : PySem.W.findIn K (.ref C) "__eq__" = some (some (.ref f))) (hf : PySem.W.isFn K (.ref f) = true) (hne : PySem.W.findIn K (.ref C) "__ne__" = some (some (.builtin "object.__ne__"))) (hm : PySem.W.mroIn K C (.type "object") = some true)
    (h : wpAny (model prog w) A.in1 (PySem.call (.ref f) [.ref x, b]) (fun v s' => ∃ k, v = .bool k ∧ Q (.bool (!k)) s') E s) : wpAny (model prog w) A (richCompare .NotEq (.ref x) b) Q E s := by
  have one : wpAny (model prog w) A (tryCompare (.ref x) "__ne__" b) (fun r s' => ∃ v, r = some v ∧ Q v s') E s := by
    unfold tryCompare
    refine wpAny_bind (ifBound_neK X I hne (wpAny_call (codeAny_call_builtin PySem.F.cmp_object.ne.plain PySem.F.cmpEntry_ne (PySem.W.check_slot PySem.F.cmpKind_ne PySem.F.cmpSplit_ne (I.type.andThen (PySem.W.looks_mroIn X hm)) (PySem.F.cmpArgs_ne _ _) (entry_neK (A := A.in1) hu X I hs hf (wpAny_mono h (fun v s' hv => ?_) fun _ _ e => e))))))
    obtain ⟨k, rfl, hq⟩ := hv
    first
      | exact ⟨k, rfl, wpAny_pure ⟨_, rfl, hq⟩⟩
      | exact ⟨k, rfl, wpAny_pure (wpAny_pure ⟨_, rfl, hq⟩)⟩
      | exact ⟨k, rfl, _, rfl, hq⟩
  unfold richCompare
  simp only [PySem.oneThing_ref]
  refine PySem.wpAny_holding (wpAny_bind (PySem.wpAny_cRoomFor (Nat.lt_of_succ_lt hu) ?_))
  rw [PySem.cmpInfo_NotEq]
  dsimp only
  refine wpAny_bind (I.type.here (wpAny_bind (hb.here ?_)))
  split
  · rename_i q
    have e : PySem.W.subIn K tb (.ref C) = some false := by
      rcases Bool.or_eq_true_iff.mp hn with e | e
      · rw [beq_iff_eq.mp e] at q; simp at q
      · exact beq_iff_eq.mp e
    refine wpAny_bind ((PySem.W.looks_subIn X e).here ?_)
    simp only [Bool.false_eq_true, if_false]
    refine wpAny_bind (wpAny_mono one (fun r s' z => ?_) fun _ _ e => e)
    obtain ⟨v, rfl, hq⟩ := z
    exact wpAny_pure hq
  · refine wpAny_bind (wpAny_pure ?_)
    simp only [Bool.false_eq_true, if_false]
    refine wpAny_bind (wpAny_mono one (fun r s' z => ?_) fun _ _ e => e)
    obtain ⟨v, rfl, hq⟩ := z
    exact wpAny_pure hq
end
/-- an own class with an own __eq__ and object's __ne__ -/
def NeAt (K : PySem.W.Frag) (mg : Str → Option Value) (c : Str) : Prop := ∃ C, mg c = some (.ref C) ∧ PySem.W.findIn K (.ref C) "__ne__" = some (some (.builtin "object.__ne__")) ∧ PySem.W.mroIn K C (.type "object") = some true
section
variable {X : Cx} {W : EXK} {c : Str} {k n : Nat} {Fn : DFn}
/-- x != y of an own class -/
def dNeO (c : Str) (Fn : DFn) : Op2 := fun a b M => match insD M c a with
  | some _ => (match insD M c b with
    | some _ => (noExc (Fn [a, b] M)).bind fun r M' => match r with
      | .bl k => .ok (.bl !k) M'
      | _ => .bad
    | none => .bad)
  | none => dNe a b M
theorem r_neO (N : MetAt X.prog X.w X.K X.mg X.base k c "__eq__" 2 Fn) (hN : NeAt X.K X.mg c) (hr : Room (k + 1) X.A) (hgd : X.A.guards = some []) : S2 X (compareOp .NotEq) (dNeO c Fn) := by
  intro pins s σ H x y v u Q I rx ry hq
  obtain ⟨F, r, R, M, a, b, S, q1, q2, hp⟩ := hq
  unfold dNeO at hp
  cases e : insD M c a with
  | none =>
    rw [e] at hp
    exact r_ne hr.units pins s σ H x y v u Q I rx ry ⟨F, r, R, M, a, b, S, q1, q2, hp⟩
  | some fs =>
    rw [e] at hp
    dsimp only at hp
    cases e2 : insD M c b with
    | none => rw [e2] at hp; exact hp.elim
    | some gs =>
      rw [e2] at hp
      obtain ⟨C, g, fd, ps, hC, hcl, hme, hb, hps, G⟩ := N.at_
      obtain ⟨C3, h31, h32, h33⟩ := hN
      obtain ⟨z, C', dx, vfs, rfl, hC', hH, hF⟩ := insD_rep S q1 e
      obtain ⟨z2, C2, dx2, vfs2, rfl, hC2, hH2, hF2⟩ := insD_rep S q2 e2
      have e4 : C' = C := by
        have := hC'.symm.trans hC
        cases this
        rfl
      subst e4
      have e5 : C2 = C' := by
        have := hC2.symm.trans hC'
        cases this
        rfl
      subst e5
      have e6 : C3 = C2 := by
        have := h31.symm.trans hC'
        cases this
        rfl
      subst e6
      obtain rfl : v = Value.ref z := rx
      obtain rfl : u = Value.ref z2 := ry
      obtain ⟨mA, O, _⟩ := ins_get I.hok hH
      obtain ⟨od, J, _⟩ := O.look
      obtain ⟨mB, O2, _⟩ := ins_get I.hok hH2
      obtain ⟨od2, J2, _⟩ := O2.look
      have hps2 := noExc_post (Out.post_bind hp)
      have hun := hr.units
      show wpAny (model X.prog X.w) X.A (richCompare .NotEq (.ref z) (.ref z2)) (EP X pins σ Q) X.xe s
      refine cmp_neK (tb := .ref C3) (by omega) I.kIn J J2.type (by simp [PySem.W.notFirst]) hme.at_ hme.fn h32 h33 (wpAny_mono (run_dun (Q := fun v H' => ∃ i : Bool, v = .bl i ∧ Q (.bl !i) H') G hr.in1 hgd I.env0.in1 hb I (vs := [.ref z, .ref z2]) (.cons (show RelV (.ref z) (.ref z) from rfl) (.cons (show RelV (.ref z2) (.ref z2) from rfl) .nil)) ⟨rfl, F, r, R, M, [a, b], .cons q1 (.cons q2 .nil), S, Out.post_imp hps2 (fun w M' t => ?_) fun _ _ t => t⟩) (fun u s' t => ?_) fun _ _ t => t)
      · intro F' r' H' b s1 p1 S1 q3
        cases w <;> try exact t.elim
        rw [rep_bl] at q3
        exact ⟨_, q3, t F' r' H' _ s1 p1 S1 (by rw [rep_bl])⟩
      · obtain ⟨v, H', I', rr, i, rfl, hQ⟩ := t
        obtain rfl : u = Value.bool i := rr
        exact ⟨i, rfl, .bl !i, H', I', rfl, hQ⟩
end
end EV
set_option maxHeartbeats 4000000
/-! isinstance with an own class -/
namespace EV
open PySem PySem.Spec PyProof.Rows L2
variable [Tbl]
def ClsIs (K : PySem.W.Frag) (mg : Str → Option Value) (c : Str) : Prop := ∃ C, mg c = some (.ref C) ∧ (PySem.W.clsIn K C).isSome = true ∧ PySem.W.typeIn K (.ref C) = some (.type "type") ∧ Cls K C ∧ PySem.W.findIn K (.ref C) "__class__" = some (some (.builtin "object.__class__")) ∧
  PySem.W.specialIn K (.builtin "object.__class__") "__get__" = some (some (.builtin "getset_descriptor.__get__")) ∧ PySem.W.takesIn K (.builtin "object.__class__") = some true ∧ PySem.W.mroIn K C (.type "object") = some true
theorem not_own {K : PySem.W.Frag} {C : Addr} (t : TyV) (h1 : (PySem.W.clsIn K C).isSome = true) (h2 : PySem.W.typeIn K (.ref C) = some (.type "type")) : PySem.W.kitOne K (.type t.s) (.ref C) = some false := by
  have e : PySem.W.subIn K (.type t.s) (.ref C) = some false := by
    have em : ∃ l, PySem.fastBuiltinMro t.s = some l ∧ l.contains (.ref C) = false := by
      cases t with
      | non => exact ⟨[.type "NoneType", .type "object"], by decide +kernel, by simp⟩
      | ty n =>
        cases n
        · exact ⟨[.type "int", .type "object"], by decide +kernel, by simp⟩
        · exact ⟨[.type "bool", .type "int", .type "object"], by decide +kernel, by simp⟩
        · exact ⟨[.type "str", .type "object"], by decide +kernel, by simp⟩
        · exact ⟨[.type "tuple", .type "object"], by decide +kernel, by simp⟩
        · exact ⟨[.type "list", .type "object"], by decide +kernel, by simp⟩
        · exact ⟨[.type "dict", .type "object"], by decide +kernel, by simp⟩
    obtain ⟨l, e1, e2⟩ := em
    show (PySem.fastBuiltinMro t.s).map (·.contains (.ref C)) = some false
    rw [e1, Option.map_some, e2]
  unfold PySem.W.kitOne
  rw [if_neg (by simp)]
  unfold PySem.W.kitCls
  dsimp only
  rw [if_pos (by rw [h1, h2]; simp), e]
def mIsC (c : Str) (m : DE) : DE := fun env M => (m env M).bind fun d M1 => match insD M1 c d with
  | some _ => .ok (.bl true) M1
  | none => match tyOf M1 d with
    | some _ => .ok (.bl false) M1
    | none => .bad
section
variable {X : Cx} {W : EXK} {e : Expr} {m : DE} {c : Str} {p p2 pos : Pos}
theorem ev_isC (hC : ClsIs X.K X.mg c) (hg : Gl X "isinstance") (hm : X.mg "isinstance" = none) (hg2 : Gl X c) (he : PE X e (tD X W m)) (hd : (c == ("__debug__" : Str)) = false := by decide)
    (hs : starEach [e, .Name c p2] X.env = (false, eval e X.env) :: starEach [.Name c p2] X.env := by rfl) (hpl : (backTo pos (starEach [.Name c p2] X.env)).any (·.1) = false := by rfl) (hs2 : starEach [.Name c p2] X.env = (false, eval (.Name c p2) X.env) :: starEach [] X.env := by rfl) :
    PE X (.Call (.Name "isinstance" p) [e, .Name c p2] [] pos) (tD X W (mIsC c m)) := by
  obtain ⟨C, h1, h2, h3, h4, h5, h6, h7, h8⟩ := hC
  have ha : PA X [e, .Name c p2] (tCons (tD X W m) (tCons (tC (.ref C)) tNil)) := pa_cons he (pa_cons (pe_glob (v := .ref C) hg2 h1 rfl hd) pa_nil (hs := hs2)) (hs := hs)
  refine PE.imp (pe_callB call_isi hg hm bb_isinstance ha (by decide) (by decide) hs hpl) fun σ H Q h => ?_
  obtain ⟨F, r, R, env, M, hE, hS, hp⟩ := h
  refine tX.imp (tX.bind OKx.mono' hE hS hp) fun x H1 ⟨F1, r1, M1, d, s1, p1, hE1, hS1, R1, hp1⟩ => ?_
  show rIsi X.K [x, .ref C] H1 Q
  cases e1 : insD M1 c d with
  | some fs =>
    rw [e1] at hp1
    obtain ⟨a, C', dx, vfs, rfl, hC', hH, hF⟩ := insD_rep hS1 R1 e1
    have : C' = C := by
      have := hC'.symm.trans h1
      cases this
      rfl
    subst this
    refine ⟨.ref a, .ref C', .ref C', .ref C', true, rfl, .own C', .base (.ins hH h4 h5 h6 h7 h8), ?_, OKx.flat hp1 hS1 (.bl _)⟩
    unfold PySem.W.kitOne
    rw [if_pos (by simp)]
  | none =>
    rw [e1] at hp1
    dsimp only at hp1
    cases e2 : tyOf M1 d with
    | none => rw [e2] at hp1; exact hp1.elim
    | some t =>
      rw [e2] at hp1
      exact ⟨x, .ref C, .type t.s, .ref C, false, rfl, .own C, tyOf_x hS1 R1 e2, not_own t h2 h3, OKx.flat hp1 hS1 (.bl _)⟩
end
end EV
set_option maxHeartbeats 4000000
/-! the defs of own classes as the top has written them -/
namespace EV
open PySem PySem.Spec PyProof.Rows L2
variable [Tbl]
def MDef (K : PySem.W.Frag) (mg : Str → Option Value) (c m qual : Str) (st : Stmt) (ps : List Str) : Prop := ∃ C f fd, mg c = some (.ref C) ∧ Cls K C ∧ Meth K C m f ∧ PySem.W.fnIn K f = true ∧ L2.Fun K m qual st f fd ∧ Binds K fd ps []
def NDef (K : PySem.W.Frag) (mg : Str → Option Value) (c qual : Str) (st : Stmt) (ps : List Str) : Prop := ∃ C f fd, mg c = some (.ref C) ∧ Mk K C f ∧ L2.Fun K "__init__" qual st f fd ∧ Binds K fd ps []
def PDef (K : PySem.W.Frag) (mg : Str → Option Value) (c m qual : Str) (st : Stmt) (ps : List Str) : Prop := ∃ C p g fd, mg c = some (.ref C) ∧ Cls K C ∧ PropOf K C m p g ∧ L2.Fun K m qual st g fd ∧ Binds K fd ps []
section
variable {P : Program} {w : World} {K : PySem.W.Frag} {mg : Str → Option Value} {base : Heap} {c m qual : Str} {st : Stmt} {N ps : List Str} {k : Nat} {fin : Nat → D → Sto → Out D} {b : DS}
theorem MetAt.mk' (hfin : FinOk fin) (T : MDef K mg c m qual st ps) (S : FnScope N ps (defScope st))
    (hb : ∀ (f : Addr) (cdv : Value) (A : Around) (outer : List Env) (s : Shared) (H : Hp) (E : XK), Room k (A.deeper (envOfC qual (defScope st) s.heap.objs.size f cdv)) → A.guards = some [] →
      PSs (cxOf CX0 P w K mg base N qual (defScope st) f cdv A outer s H E).nox (defBody st) (tS (cxOf CX0 P w K mg base N qual (defScope st) f cdv A outer s H E).nox W0 b)) : MetAt P w K mg base (k + 1) c m ps.length (fnD ps.length N.length fin b) := by
  obtain ⟨C, f, fd, h1, h2, h3, h4, h5, h6⟩ := T
  exact ⟨⟨C, f, fd, ps, h1, h2, h3, h6, rfl, fnD_ok hfin h5 S (hb f)⟩, fun ds M h => by unfold fnD; rw [if_neg h]⟩
theorem MetAt.mono {j : Nat} {n : Nat} {Fn : DFn} (h : MetAt P w K mg base j c m n Fn) (hk : j ≤ k) : MetAt P w K mg base k c m n Fn :=
  let ⟨C, f, fd, ps, a, b, c, d, e, g⟩ := h.at_
  ⟨⟨C, f, fd, ps, a, b, c, d, e, g.mono hk⟩, h.ar⟩
theorem NewAt.mk' (hfin : FinOk fin) (T : NDef K mg c qual st ps) (S : FnScope N ps (defScope st))
    (hb : ∀ (f : Addr) (cdv : Value) (A : Around) (outer : List Env) (s : Shared) (H : Hp) (E : XK), Room k (A.deeper (envOfC qual (defScope st) s.heap.objs.size f cdv)) → A.guards = some [] →
      PSs (cxOf CX0 P w K mg base N qual (defScope st) f cdv A outer s H E).nox (defBody st) (tS (cxOf CX0 P w K mg base N qual (defScope st) f cdv A outer s H E).nox W0 b)) : NewAt P w K mg base (k + 1) c ps.length (fnD ps.length N.length fin b) := by
  obtain ⟨C, f, fd, h1, h2, h5, h6⟩ := T
  exact ⟨⟨C, f, fd, ps, h1, h2, h6, rfl, fnD_ok hfin h5 S (hb f)⟩, fun ds M h => by unfold fnD; rw [if_neg h]⟩
theorem NewAt.mono {j : Nat} {n : Nat} {Fn : DFn} (h : NewAt P w K mg base j c n Fn) (hk : j ≤ k) : NewAt P w K mg base k c n Fn :=
  let ⟨C, f, fd, ps, a, b, d, e, g⟩ := h.at_
  ⟨⟨C, f, fd, ps, a, b, d, e, g.mono hk⟩, h.ar⟩
theorem PrpAt.mk' (hfin : FinOk fin) (T : PDef K mg c m qual st ps) (hp : ps.length = 1) (S : FnScope N ps (defScope st))
    (hb : ∀ (f : Addr) (cdv : Value) (A : Around) (outer : List Env) (s : Shared) (H : Hp) (E : XK), Room k (A.deeper (envOfC qual (defScope st) s.heap.objs.size f cdv)) → A.guards = some [] →
      PSs (cxOf CX0 P w K mg base N qual (defScope st) f cdv A outer s H E).nox (defBody st) (tS (cxOf CX0 P w K mg base N qual (defScope st) f cdv A outer s H E).nox W0 b)) : PrpAt P w K mg base (k + 1) c m (fnD ps.length N.length fin b) := by
  obtain ⟨C, p, g, fd, h1, h2, h3, h5, h6⟩ := T
  have := fnD_ok (P := P) (w := w) (base := base) hfin h5 S (hb g)
  refine ⟨⟨C, p, g, fd, ps, h1, h2, h3, h6, hp, ?_⟩⟩
  rw [hp] at this ⊢
  exact this
theorem PrpAt.mono {j : Nat} {Fn : DFn} (h : PrpAt P w K mg base j c m Fn) (hk : j ≤ k) : PrpAt P w K mg base k c m Fn :=
  let ⟨C, p, g, fd, ps, a, b, d, e, l, z⟩ := h.at_
  ⟨⟨C, p, g, fd, ps, a, b, d, e, l, z.mono hk⟩⟩
theorem ItmAt.mk' (hfin : FinOk fin) (T : MDef K mg c "__getitem__" qual st ps) (hp : ps.length = 2) (S : FnScope N ps (defScope st))
    (hb : ∀ (f : Addr) (cdv : Value) (A : Around) (outer : List Env) (s : Shared) (H : Hp) (E : XK), Room k (A.deeper (envOfC qual (defScope st) s.heap.objs.size f cdv)) → A.guards = some [] →
      PSs (cxOf CX0 P w K mg base N qual (defScope st) f cdv A outer s H E).nox (defBody st) (tS (cxOf CX0 P w K mg base N qual (defScope st) f cdv A outer s H E).nox W0 b)) : ItmAt P w K mg base (k + 1) c (fnD ps.length N.length fin b) := by
  obtain ⟨C, f, fd, h1, h2, h3, h4, h5, h6⟩ := T
  have := fnD_ok (P := P) (w := w) (base := base) hfin h5 S (hb f)
  refine ⟨⟨C, f, fd, ps, h1, h3, h4, h6, hp, ?_⟩⟩
  rw [hp] at this ⊢
  exact this
theorem ItmAt.mono {j : Nat} {Fn : DFn} (h : ItmAt P w K mg base j c Fn) (hk : j ≤ k) : ItmAt P w K mg base k c Fn :=
  let ⟨C, f, fd, ps, a, b, d, e, l, z⟩ := h.at_
  ⟨⟨C, f, fd, ps, a, b, d, e, l, z.mono hk⟩⟩
end
end EV
set_option maxHeartbeats 4000000
/-! list(range(..)), tuple(range(..)) -/
namespace EV
open PySem PySem.Spec PyProof.Rows L2
variable [Tbl]
theorem rg_reps (G : Gd) (F : Hp) (r : List Addr) (a b : Int) : Reps G F r (rngD a (b - a).toNat) (rgV a b) := by
  have e1 : rngD a (b - a).toNat = ((List.range (b - a).toNat).map fun (i : Nat) => a + (i : Int)).map D.int := by
    unfold rngD; rw [List.map_map]; rfl
  have e2 : rgV a b = ((List.range (b - a).toNat).map fun (i : Nat) => a + (i : Int)).map V.int := by
    unfold rgV; rw [List.map_map]; rfl
  rw [e1, e2]
  exact reps_ints _ _ _ _
def toTup (xs : List D) (M : Sto) : Out D := .ok (.tup xs) M
def mRg1 (tl : List D → Sto → Out D) (m : DE) : DE := fun env M => (m env M).bind fun d M1 => match d with
  | .int n => if -1000000 ≤ n ∧ n ≤ 1000000 then tl (rngD 0 (n - 0).toNat) M1 else .bad
  | _ => .bad
def mRg2 (tl : List D → Sto → Out D) (m m' : DE) : DE := fun env M => (m env M).bind fun d M1 => (m' env M1).bind fun d' M2 => match d, d' with
  | .int a, .int b => if -1000000 ≤ a ∧ a ≤ 1000000 ∧ -1000000 ≤ b ∧ b ≤ 1000000 then tl (rngD a (b - a).toNat) M2 else .bad
  | _, _ => .bad
section
variable {X : Cx} {W : EXK} {e e' : Expr} {m m' : DE} {p p2 pos pos2 : Pos} {tl : List D → Sto → Out D}
theorem ev_listRg1 (T : TailOk tl) (hc : X.calm = true) (hg : Gl X "list") (hm : X.mg "list" = none) (hg2 : Gl X "range") (hm2 : X.mg "range" = none) (he : PE X e (tD X W m))
    (na : starEach [e] X.env = (false, eval e X.env) :: starEach [] X.env := by rfl) (na2 : starEach [.Call (.Name "range" p2) [e] [] pos2] X.env = (false, eval (.Call (.Name "range" p2) [e] [] pos2) X.env) :: starEach [] X.env := by rfl) :
    PE X (.Call (.Name "list" p) [.Call (.Name "range" p2) [e] [] pos2] [] pos) (tD X W (mRg1 tl m)) := by
  refine PE.imp (pe_listRg hc hg hm (prg_1 hg2 hm2 he na) na2) fun σ H Q h => ?_
  obtain ⟨F, r, R, env, M, hE, hS, hp⟩ := h
  refine tX.imp (tX.bind OKx.mono' hE hS hp) fun x H1 ⟨F1, r1, M1, d, s1, p1, hE1, hS1, R1, hp1⟩ => ?_
  cases d <;> try exact hp1.elim
  rename_i n
  rw [rep_int] at R1
  dsimp only at hp1
  split at hp1
  · rename_i hb
    exact ⟨n, R1, ⟨by omega, by omega, by omega, by omega, by omega⟩, fun q hq => T.new hS1 (rg_reps _ _ _ 0 n) hp1 hq⟩
  · exact hp1.elim
theorem ev_listRg2 (T : TailOk tl) (hc : X.calm = true) (hg : Gl X "list") (hm : X.mg "list" = none) (hg2 : Gl X "range") (hm2 : X.mg "range" = none) (he : PE X e (tD X W m)) (he' : PE X e' (tD X W m'))
    (na : starEach [e, e'] X.env = (false, eval e X.env) :: starEach [e'] X.env := by rfl) (nb : starEach [e'] X.env = (false, eval e' X.env) :: starEach [] X.env := by rfl) (hp0 : (backTo pos2 (starEach [e'] X.env)).any (·.1) = false := by rfl) (na2 : starEach [.Call (.Name "range" p2) [e, e'] [] pos2] X.env = (false, eval (.Call (.Name "range" p2) [e, e'] [] pos2) X.env) :: starEach [] X.env := by rfl) :
    PE X (.Call (.Name "list" p) [.Call (.Name "range" p2) [e, e'] [] pos2] [] pos) (tD X W (mRg2 tl m m')) := by
  refine PE.imp (pe_listRg hc hg hm (prg_2 hg2 hm2 he he' na nb (hp := hp0)) na2) fun σ H Q h => ?_
  obtain ⟨F, r, R, env, M, hE, hS, hp⟩ := h
  refine tX.imp (tX.bind OKx.mono' hE hS hp) fun x H1 ⟨F1, r1, M1, d, s1, p1, hE1, hS1, R1, hp1⟩ => ?_
  refine tX.imp (tX.bind OKx.mono' hE1 hS1 hp1) fun y H2 ⟨F2, r2, M2, d', s2, p2, hE2, hS2, R2, hp2⟩ => ?_
  cases d <;> try exact hp2.elim
  cases d' <;> try exact hp2.elim
  · rename_i a _ b
    rw [rep_int] at R1 R2
    dsimp only at hp2
    split at hp2
    · rename_i hb
      exact ⟨a, b, R1, R2, ⟨by omega, by omega, by omega, by omega, by omega⟩, fun q hq => T.new hS2 (rg_reps _ _ _ a b) hp2 hq⟩
    · exact hp2.elim
theorem ev_tupRg1 (hc : X.calm = true) (hg : Gl X "tuple") (hm : X.mg "tuple" = none) (hg2 : Gl X "range") (hm2 : X.mg "range" = none) (he : PE X e (tD X W m))
    (na : starEach [e] X.env = (false, eval e X.env) :: starEach [] X.env := by rfl) (na2 : starEach [.Call (.Name "range" p2) [e] [] pos2] X.env = (false, eval (.Call (.Name "range" p2) [e] [] pos2) X.env) :: starEach [] X.env := by rfl) :
    PE X (.Call (.Name "tuple" p) [.Call (.Name "range" p2) [e] [] pos2] [] pos) (tD X W (mRg1 toTup m)) := by
  refine PE.imp (pe_tupRg hc hg hm (prg_1 hg2 hm2 he na) na2) fun σ H Q h => ?_
  obtain ⟨F, r, R, env, M, hE, hS, hp⟩ := h
  refine tX.imp (tX.bind OKx.mono' hE hS hp) fun x H1 ⟨F1, r1, M1, d, s1, p1, hE1, hS1, R1, hp1⟩ => ?_
  cases d <;> try exact hp1.elim
  rename_i n
  rw [rep_int] at R1
  dsimp only at hp1
  split at hp1
  · rename_i hb
    refine ⟨n, R1, ⟨by omega, by omega, by omega, by omega, by omega⟩, fun q hq => ?_⟩
    obtain ⟨a1, a2, a3⟩ := rep_new_tup hS1 (rg_reps _ _ _ 0 n) hq
    exact hp1 _ r1 _ _ a1 (List.prefix_refl _) a2 a3
  · exact hp1.elim
theorem ev_tupRg2 (hc : X.calm = true) (hg : Gl X "tuple") (hm : X.mg "tuple" = none) (hg2 : Gl X "range") (hm2 : X.mg "range" = none) (he : PE X e (tD X W m)) (he' : PE X e' (tD X W m'))
    (na : starEach [e, e'] X.env = (false, eval e X.env) :: starEach [e'] X.env := by rfl) (nb : starEach [e'] X.env = (false, eval e' X.env) :: starEach [] X.env := by rfl) (hp0 : (backTo pos2 (starEach [e'] X.env)).any (·.1) = false := by rfl) (na2 : starEach [.Call (.Name "range" p2) [e, e'] [] pos2] X.env = (false, eval (.Call (.Name "range" p2) [e, e'] [] pos2) X.env) :: starEach [] X.env := by rfl) :
    PE X (.Call (.Name "tuple" p) [.Call (.Name "range" p2) [e, e'] [] pos2] [] pos) (tD X W (mRg2 toTup m m')) := by
  refine PE.imp (pe_tupRg hc hg hm (prg_2 hg2 hm2 he he' na nb (hp := hp0)) na2) fun σ H Q h => ?_
  obtain ⟨F, r, R, env, M, hE, hS, hp⟩ := h
  refine tX.imp (tX.bind OKx.mono' hE hS hp) fun x H1 ⟨F1, r1, M1, d, s1, p1, hE1, hS1, R1, hp1⟩ => ?_
  refine tX.imp (tX.bind OKx.mono' hE1 hS1 hp1) fun y H2 ⟨F2, r2, M2, d', s2, p2, hE2, hS2, R2, hp2⟩ => ?_
  cases d <;> try exact hp2.elim
  cases d' <;> try exact hp2.elim
  · rename_i a _ b
    rw [rep_int] at R1 R2
    dsimp only at hp2
    split at hp2
    · rename_i hb
      refine ⟨a, b, R1, R2, ⟨by omega, by omega, by omega, by omega, by omega⟩, fun q hq => ?_⟩
      obtain ⟨a1, a2, a3⟩ := rep_new_tup hS2 (rg_reps _ _ _ a b) hq
      exact hp2 _ r2 _ _ a1 (List.prefix_refl _) a2 a3
    · exact hp2.elim
/-- flat values all -/
def flatD : D → Bool
  | .non => true
  | .bl _ => true
  | .int _ => true
  | .str _ => true
  | _ => false
def eqFD (y x : D) : Bool := match y, x with
  | .non, .non => true
  | .bl a, .bl b => decide (a = b)
  | .int a, .int b => decide (a = b)
  | .str a, .str b => decide (a = b)
  | _, _ => false
end
end EV
set_option maxHeartbeats 4000000
/-! membership in rows of flat values -/
namespace EV
open PySem PySem.Spec PyProof.Rows L2
variable [Tbl]
def flatOf : D → Option V
  | .non => some .non
  | .bl b => some (.bl b)
  | .int i => some (.int i)
  | .str x => some (.str x)
  | _ => none
theorem flatOf_rep {G : Gd} {F : Hp} {r : List Addr} {d : D} {v w : V} (q : Rep G F r d v) (e : flatOf d = some w) : v = w ∧ flatV w = true := by
  cases d <;> try (simp only [flatOf, reduceCtorEq] at e)
  · cases e; rw [rep_non] at q; exact ⟨q, rfl⟩
  · cases e; rw [rep_bl] at q; exact ⟨q, rfl⟩
  · cases e; rw [rep_int] at q; exact ⟨q, rfl⟩
  · cases e; rw [rep_str] at q; exact ⟨q, rfl⟩
def flatsOf : List D → Option (List V)
  | [] => some []
  | x :: xs => match flatOf x with
    | none => none
    | some v => (flatsOf xs).map (v :: ·)
theorem flatsOf_rep {G : Gd} {F : Hp} {r : List Addr} : ∀ {ds : List D} {vs ws : List V}, Reps G F r ds vs → flatsOf ds = some ws → vs = ws ∧ ws.all flatV = true
  | [], vs, ws, q, e => by cases e; exact ⟨q.inv0, rfl⟩
  | d :: ds, vs, ws, q, e => by
    obtain ⟨v, vs', rfl, h1, h2⟩ := q.inv
    unfold flatsOf at e
    cases e1 : flatOf d with
    | none => rw [e1] at e; cases e
    | some w =>
      rw [e1] at e
      dsimp only at e
      rw [Option.map_eq_some_iff] at e
      obtain ⟨ws', e2, rfl⟩ := e
      obtain ⟨rfl, f1⟩ := flatOf_rep h1 e1
      obtain ⟨rfl, f2⟩ := flatsOf_rep h2 e2
      exact ⟨rfl, by rw [List.all_cons, f1, f2]; rfl⟩
/-- x in y, y not in x: a text in a text, a flat value in a row of flat values -/
def dInF (neg : Bool) : Op2 := fun a b M => match a, b with
  | .str x, .str y => .ok (.bl (if neg then !inStr x y else inStr x y)) M
  | a, b => match seqD M b with
    | some xs => (match flatOf a, flatsOf xs with
      | some v, some vs => .ok (.bl (if neg then !inV v vs else inV v vs)) M
      | _, _ => .bad)
    | none => .bad
section
variable {X : Cx}
theorem inF_core {neg : Bool} {pins : List (Addr × Obj)} {s : Shared} {σ : L2.St} {H : Hp} {x y : V} {Q : VK} (I : Inv X pins σ H s) (hq : rD2 X (dInF neg) x y H Q) :
    (∃ i j, x = .str i ∧ y = .str j ∧ Q (.bl (if neg then !inStr i j else inStr i j)) H) ∨ rIn X.K neg x y H Q := by
  obtain ⟨F, r, R, M, a, b, S, q1, q2, hp⟩ := hq
  unfold dInF at hp
  split at hp
  · rw [rep_str] at q1 q2
    exact .inl ⟨_, _, q1, q2, OKx.flat hp S (.bl _)⟩
  · split at hp
    · rename_i xs e
      split at hp
      · rename_i v vs e1 e2
        obtain ⟨p, ws, rfl, h1, h2⟩ := seqD_rep S q2 e
        obtain ⟨rfl, f1⟩ := flatOf_rep q1 e1
        obtain ⟨rfl, f2⟩ := flatsOf_rep h2 e2
        exact .inr ⟨p, _, rfl, h1, f1, f2, OKx.flat hp S (.bl _)⟩
      · exact hp.elim
    · exact hp.elim
theorem r_inF : S2 X (compareOp .In) (dInF false) := by
  intro pins s σ H x y v u Q I rx ry hq
  rcases inF_core I hq with h | h
  · obtain ⟨i, j, rfl, rfl, h⟩ := h
    exact op_in_str pins s σ H _ _ v u Q I rx ry ⟨i, j, rfl, rfl, h⟩
  · exact op_in_seq pins s σ H x y v u Q I rx ry h
theorem r_notInF : S2 X (compareOp .NotIn) (dInF true) := by
  intro pins s σ H x y v u Q I rx ry hq
  rcases inF_core I hq with h | h
  · obtain ⟨i, j, rfl, rfl, h⟩ := h
    exact op_notin_str pins s σ H _ _ v u Q I rx ry ⟨i, j, rfl, rfl, h⟩
  · exact op_notIn_seq pins s σ H x y v u Q I rx ry h
end
end EV
set_option maxHeartbeats 4000000
/-! own errors: class X(Base): def __init__(self, f): self.f = f -/
namespace EV
open PySem PySem.Spec PyProof.Rows L2
namespace Er
open PySem.W
def iA (f : Str) (p1 p2 : Pos) : Arguments := { posonlyargs := [], args := [{ arg := "self", annotation := none, pos := p1 }, { arg := f, annotation := none, pos := p2 }], vararg := none, kwonlyargs := [], kw_defaults := [], kwarg := none, defaults := [] }
def iB (f : Str) (q1 q2 q3 q4 : Pos) : List Stmt := [.Assign [.Attribute (.Name "self" q1) f q2] (.Name f q3) q4]
def iS (f : Str) : Scope := { kind := .function, names := [(PySem.Str.ofString "self", .local), (f, .local)], isGenerator := false, isCoroutine := false, more := [] }
/-- the built-in base of an own error -/
structure Base where
  B : String
  nw : String
  ini : String
  bm : List Value
structure BaseOk (b : Base) : Prop where
  F : ExcBaseFacts b.B b.nw b.ini b.bm
  SF : StoreFacts b.B b.bm "object.__setattr__" "object"
abbrev bValue : Base := ⟨"ValueError", "ValueError.__new__", "ValueError.__init__", [.type "ValueError", .type "Exception", .type "BaseException", .type "object"]⟩
abbrev bIndex : Base := ⟨"IndexError", "IndexError.__new__", "IndexError.__init__", [.type "IndexError", .type "LookupError", .type "Exception", .type "BaseException", .type "object"]⟩
abbrev bLookup : Base := ⟨"LookupError", "LookupError.__new__", "LookupError.__init__", [.type "LookupError", .type "Exception", .type "BaseException", .type "object"]⟩
abbrev bRuntime : Base := ⟨"RuntimeError", "RuntimeError.__new__", "RuntimeError.__init__", [.type "RuntimeError", .type "Exception", .type "BaseException", .type "object"]⟩
abbrev bOverflow : Base := ⟨"OverflowError", "OverflowError.__new__", "OverflowError.__init__", [.type "OverflowError", .type "ArithmeticError", .type "Exception", .type "BaseException", .type "object"]⟩
abbrev bArithmetic : Base := ⟨"ArithmeticError", "ArithmeticError.__new__", "ArithmeticError.__init__", [.type "ArithmeticError", .type "Exception", .type "BaseException", .type "object"]⟩
theorem okValue : BaseOk bValue := ⟨PySem.F.excBase_ValueError, PySem.F.store_ValueError⟩
theorem okIndex : BaseOk bIndex := ⟨PySem.F.excBase_IndexError, PySem.F.store_IndexError⟩
theorem okLookup : BaseOk bLookup := ⟨PySem.F.excBase_LookupError, PySem.F.store_LookupError⟩
theorem okRuntime : BaseOk bRuntime := ⟨PySem.F.excBase_RuntimeError, PySem.F.store_RuntimeError⟩
theorem okOverflow : BaseOk bOverflow := ⟨PySem.F.excBase_OverflowError, PySem.F.store_OverflowError⟩
theorem okArithmetic : BaseOk bArithmetic := ⟨PySem.F.excBase_ArithmeticError, PySem.F.store_ArithmeticError⟩
/-- the parameter's name is found -/
def BindF (f : Str) : Prop := ∀ (qn : Str) (doc pm : Value) (an : Option Addr) (cdv ct : Value) (p1 p2 q1 q2 q3 q4 : Pos) (x v : Value), bindArgs (fnOf "__init__" qn (iA f p1 p2) (iB f q1 q2 q3 q4) (iS f) .none .none doc pm an cdv ct) ⟨[x, v], []⟩ = pure [(PySem.Str.ofString "self", x), (f, v)]
/-- what the top has written of the class c, its one field f -/
structure Txt (K : Frag) (mg : Str → Option Value) (c f : Str) (b : Base) (C fI : Addr) : Prop where
  bs : BaseOk b
  ne : (f == ("self" : Str)) = false
  bd : BindF f
  nd : (f == ("__debug__" : Str)) = false
  gC : mg c = some (.ref C)
  ini : excInitIn K C b.bm b.nw = true
  ovr : excOver K C b.bm = true
  sa : findIn K (.ref C) "__setattr__" = some (some (.builtin "object.__setattr__"))
  ga : findIn K (.ref C) "__getattribute__" = some (some (.builtin "BaseException.__getattribute__"))
  gg : findIn K (.ref C) "__getattr__" = some none
  noN : findIn K (.ref C) f = some none
  iC : findIn K (.ref C) "__init__" = some (some (.ref fI))
  tC : typeIn K (.ref fI) = some (.type "function")
  kC : keepIn K (.ref C) = true
  exC : subIn K (.ref C) (.type "BaseException") = some true
  tyC : typeIn K (.ref C) = some (.type "type")
  hdC : hasDictIn K C = true
  fn : ∃ (qn : Str) (oc : Value) (od : Option Addr) (doc pm : Value) (an : Option Addr) (cdv ct : Value) (osl : Array (Option Value)) (p1 p2 q1 q2 q3 q4 : Pos),
    K.lookup fI = some ⟨oc, od, .func (fnOf "__init__" qn (iA f p1 p2) (iB f q1 q2 q3 q4) (iS f) .none .none doc pm an cdv ct), osl⟩ ∧ codeIn K cdv qn = true
theorem lk_self (f : Str) : List.lookup ("self" : Str) (iS f).names = some NameKind.local := rfl
theorem lk_f {f : Str} (h : (f == ("self" : Str)) = false) : List.lookup f (iS f).names = some NameKind.local := by
  show List.lookup f [(("self" : Str), NameKind.local), (f, NameKind.local)] = _
  rw [List.lookup_cons, h]
  simp [List.lookup]
theorem one_ok (v : Value) : [v].length ≤ sizeLine := by
  rw [sizeLine_eq]
  show 1 ≤ _
  decide
/-- the one store of __init__ -/
theorem osa1 {prog : Program} {w : World} {A : Around} {R : Result → Shared → Prop} {s : Shared} {K : Frag} {C x t0 : Addr} {b : Base} {f : Str} {tk : Tok} {v : Value} (bs : BaseOk b) (inK : K.In s.heap) (ov : excOver K C b.bm = true) (no : findIn K (.ref C) f = some none) (hd : hasDictIn K C = true)
    (hx : s.heap.get? x = some (excObj C t0 none .none))
    (hq : ∀ h' tk' dx, (∀ y o, y ≠ x → s.heap.get? y = some o → h'.get? y = some o) → s.heap.objs.size ≤ dx → dx ≠ x → h'.get? x = some (excObj C t0 (some dx) .none) → h'.Ns1 dx (fun y => if y = f then some v else none) → R (.ok (.ret .none)) { s with heap := h', toks := tk' }) :
    codeAny (model prog w) A (.call (.builtin "object.__setattr__") ⟨[.ref x, .str f tk, v], []⟩) R s := by
  have tk1 : takerIn K C f = some none := by
    unfold takerIn
    rw [no]
    rfl
  obtain ⟨hp, g, d, t, os⟩ := s
  refine osa_openX (od := none) bs.SF inK ⟨hx, rfl, rfl, trivial⟩ ov tk1 fun _ => ?_
  obtain ⟨cd, hc, hcd⟩ := any_some hd
  have hne : x ≠ hp.objs.size := Nat.ne_of_lt (Heap.lt_size hx)
  have hx1 : (hp.push (dictOf [] 0)).get? x = some (excObj C t0 none .none) := Heap.get?_push_of_some _ hx
  have atD : ((hp.push (dictOf [] 0)).update x fun o => { o with dict := some hp.objs.size }).get? hp.objs.size = some (dictOf [] 0) := by
    rw [Heap.get?_update_other _ _ hne]
    exact Heap.get?_push_at rfl rfl
  have atX : ((hp.push (dictOf [] 0)).update x fun o => { o with dict := some hp.objs.size }).get? x = some (excObj C t0 (some hp.objs.size) .none) := Heap.get?_update_self _ hx1 rfl
  refine wpAny_bind (wpAny_pure (wpAny_bind (instanceDict_exc hx (looks_clsIn inK hc) hcd ?_)))
  refine HandSPX.store_in_new ⟨_, #[], _, atD, rfl, fun e he => absurd he (by simp), fun _ => rfl⟩ fun h2 tk2 hn hs => ?_
  refine hq h2 tk2 hp.objs.size (fun y o hy ho => ?_) (Nat.le_refl _) (Ne.symm hne) ?_ hn
  · rw [hs.2 y (Nat.ne_of_lt (Heap.lt_size ho)), Heap.get?_update_other _ _ (Ne.symm hy)]
    exact Heap.get?_push_of_some _ ho
  · rw [hs.2 x hne]
    exact atX
/-- what __init__ leaves of the fresh error at x -/
structure Left (h h' : Heap) (x C dx t1 : Addr) (f : Str) (v : Value) : Prop where
  keep : ∀ b o, b ≠ x → h.get? b = some o → h'.get? b = some o
  obj : h'.get? x = some (excObj C t1 (some dx) .none)
  big : h.objs.size ≤ dx
  ne : dx ≠ x
  ns : h'.Ns1 dx (fun y => if y = f then some v else none)
structure Made (h h' : Heap) (e C d : Addr) (f : Str) (v : Value) : Prop where
  keep : ∀ b o, h.get? b = some o → h'.get? b = some o
  new : h.objs.size ≤ e
  obj : ∃ oe vs, h'.get? e = some oe ∧ oe.cls = .ref C ∧ oe.dict = some d ∧ oe.data = .fields vs ∧ vs[1]? = some .none
  big : h.objs.size ≤ d
  ne : d ≠ e
  ns : h'.Ns1 d (fun y => if y = f then some v else none)
theorem ld {M : Model} {s : Shared} {name : Str} {scope : Scope} {L a : Addr} {cd : Value} {m : Str → Option Value} {x : Str} {pos : Pos} {v : Value} {Q : Value → Shared → Prop} {A : Around} {E : Value → Shared → Prop} (hn : s.heap.Ns L m) (hv : m x = some v) (h : Q v s)
    (hk : scope.kind = .function) (hl : (envOfC name scope L a cd).kindOf x = some .local) (hd : (x == ("__debug__" : Str)) = false) :
    wpAny M A (eval (.Name x pos) (envOfC name scope L a cd)) Q E s := wpAny_Name (wpAny_loadName_local hk hl hn hv h) hd
section
variable {prog : Program} {w : World} {A : Around} {E : Value → Shared → Prop} {R : Result → Shared → Prop} {s : Shared} {K : Frag} {mg : Str → Option Value} {c f : Str} {b : Base} {C fI : Addr}
theorem run_init (T : Txt K mg c f b C fI) {x t0 : Addr} {v : Value} (inK : K.In s.heap) (hlim : s.heap.NoLimit) (hx : s.heap.get? x = some (excObj C t0 none .none)) (hroom : A.depth < recursionLimit)
    (hq : ∀ h' tk dx, Left s.heap h' x C dx t0 f v → R (.ok (.ret .none)) { s with heap := h', toks := tk }) :
    codeAny (model prog w) A (.call (.ref fI) ⟨[.ref x, v], []⟩) R s := by
  obtain ⟨qn, oc, od, doc, pm, an, cdv, ct, osl, p1, p2, q1, q2, q3, q4, ho, hcd⟩ := T.fn
  have fs : f ≠ ("self" : Str) := by
    intro z
    have := T.ne
    rw [z] at this
    exact absurd this (by decide)
  refine Att.call_fn (binds := [("self", .ref x), (f, v)]) inK hlim ho hcd hroom (BindsTo.of_eq (T.bd _ _ _ _ _ _ _ _ _ _ _ _ _ _)) ?_ (fun s1 IC => ?_) rfl rfl rfl
  · rw [List.all_cons, List.all_cons, List.all_nil, lk_self, lk_f T.ne]
    rfl
  obtain ⟨h1, tk1, rfl⟩ := IC.toInCall.same
  have k : ∀ y o, s.heap.get? y = some o → h1.get? y = some o := IC.toInCall.keep
  have hn := IC.toInCall.ns
  have kS : (envOfC qn (iS f) s.heap.objs.size fI cdv).kindOf "self" = some .local := lk_self f
  have kF : (envOfC qn (iS f) s.heap.objs.size fI cdv).kindOf f = some .local := lk_f T.ne
  have mS : bindL (envOfC qn (iS f) s.heap.objs.size fI cdv).kindOf [("self", Value.ref x), (f, v)] (fun _ => none) "self" = some (.ref x) := by
    unfold bindL
    rw [if_pos kS]
    unfold bindL
    rw [if_pos kF]
    unfold bindL
    show (if ("self" : Str) = f then some v else if ("self" : Str) = "self" then some (Value.ref x) else none) = _
    rw [if_neg (Ne.symm fs), if_pos rfl]
  have mF : bindL (envOfC qn (iS f) s.heap.objs.size fI cdv).kindOf [("self", Value.ref x), (f, v)] (fun _ => none) f = some v := by
    unfold bindL
    rw [if_pos kS]
    unfold bindL
    rw [if_pos kF]
    unfold bindL
    show (if f = f then some v else _) = _
    rw [if_pos rfl]
  have inK1 := inK.keeps k
  have hx1 := k _ _ hx
  show wpAny _ _ (execs _ _) _ _ _
  refine wpAny_execs_cons (plainObj_wpAny_Assign_Attribute (ld hn mF ?_ rfl kF T.nd) (by rfl))
  refine ld hn mS ?_ rfl kS (by decide)
  refine set_plain inK1 (ox := excObj C t0 none .none) (od := none) ⟨hx1, rfl, rfl, trivial⟩ T.sa ?_
  refine osa1 T.bs inK1 T.ovr T.noN T.hdC hx1 fun h3 tk3 dx k3 dn dne hx3 hn3 => ?_
  show wpAny _ _ (execs _ _) _ _ _
  have z : s.heap.objs.size < h1.objs.size := hn.lt
  exact wpAny_execs_nil (hq h3 tk3 dx ⟨fun y o hy e => k3 y o hy (k y o e), hx3, Nat.le_of_lt (Nat.lt_of_lt_of_le z dn), dne, hn3⟩)
theorem run_made (T : Txt K mg c f b C fI) {v : Value} (inK : K.In s.heap) (hlim : s.heap.NoLimit) (hroom : A.depth + 1 < recursionLimit)
    (hq : ∀ h' tk e d, Made s.heap h' e C d f v → R (.ok (.ret (.ref e))) { s with heap := h', toks := tk }) :
    codeAny (model prog w) A (.call (.ref C) ⟨[v], []⟩) R s := by
  obtain ⟨nm, N, qn, bb, bm, hdct, sn, sub, ab, col, dd, k0, k1, k2, k3, k5, hC, hT⟩ := excInit_of inK T.ini
  obtain ⟨hp, g, dr, tk, os⟩ := s
  have k : ∀ y o, hp.get? y = some o → ((hp.push (kdv_tup [v])).push (HandSPX.excO C hp.objs.size)).get? y = some o := fun y o e => Heap.get?_push_of_some _ (Heap.get?_push_of_some _ e)
  have hget : ((hp.push (kdv_tup [v])).push (HandSPX.excO C hp.objs.size)).get? (hp.objs.size + 1) = some (HandSPX.excO C hp.objs.size) := by heap_get
  refine HandSPX.call_own T.bs.F hT hC (looks_findIn inK T.iC) (fun self => bind_fn inK self T.tC) (one_ok v) ?_
  refine run_init (s := ⟨(hp.push (kdv_tup [v])).push (HandSPX.excO C hp.objs.size), g, dr, tk, os⟩) T (inK.keeps k) (hlim.keeps k) hget hroom fun h2 tk2 dx L => ?_
  have z : hp.objs.size + 1 + 1 ≤ dx := by
    have := L.big
    simpa only [Heap.size_push] using this
  exact ⟨rfl, hq h2 tk2 (hp.objs.size + 1) dx ⟨fun y o e => L.keep y o (Nat.ne_of_lt (Nat.lt_succ_of_lt (Heap.lt_size e))) (k y o e), Nat.le_succ _, ⟨_, _, L.obj, rfl, rfl, rfl, rfl⟩, Nat.le_trans (Nat.le_trans (Nat.le_succ _) (Nat.le_succ _)) z, L.ne, L.ns⟩⟩
end
theorem relO1 {f : Str} {v : V} {u : Value} (r : RelV v u) (y : Str) : RelO (List.lookup y [(f, v)]) (if y = f then some u else none) := by
  by_cases h : y = f
  · subst h
    rw [if_pos rfl, show List.lookup y [(y, v)] = some v by simp [List.lookup]]
    exact r
  · rw [if_neg h, show List.lookup y [(f, v)] = none by simp [List.lookup, beq_eq_false_iff_ne.mpr h]]
    trivial
section
variable {X : Cx} {c f : Str} {b : Base} {C fI : Addr}
/-- c(e) -/
def tMk (C : Addr) (f : Str) (te : TE) : L2.St → Hp → XK → Prop := fun σ H Q => te σ H fun v H1 => ∀ d, H1 d = none → Q (.ref C) (some d) (upd H1 d (.xd [(f, v)]))
theorem pmk {e : Expr} {te : TE} {p pos : Pos} {k : Nat} (T : Txt X.K X.mg c f b C fI) (hr : Room k X.A) (he : PE X e te) (hg : Gl X c) (hdb : (c == ("__debug__" : Str)) = false := by decide)
    (hs : starEach [e] X.env = (false, eval e X.env) :: starEach [] X.env := by rfl) (hpl : (backTo pos (starEach [] X.env)).any (·.1) = false := by rfl) : PMk X (.Call (.Name c p) [e] [] pos) (tMk C f te) := by
  intro pins s σ H Q I h
  refine wpAny_Call_Name_kw (ld_glob I hg T.gC ?_ hdb)
  refine PySem.W.callWith_K (h₀ := X.base) I.ok.mod.kin T.kC (thn ((pa_cons he pa_nil hs).run pos pins s σ H (fun vs H1 => match vs with
    | [v] => ∀ d, H1 d = none → Q (.ref C) (some d) (upd H1 d (.xd [(f, v)]))
    | _ => False) I h) fun us s1 hh => ?_) hs hpl
  obtain ⟨vs, H1, I1, r1, q1⟩ := hh
  refine ⟨I1.kIn, ?_⟩
  cases r1 with
  | nil => exact q1.elim
  | cons rv rn =>
    rename_i v u vs us'
    cases rn with
    | cons _ _ => exact q1.elim
    | nil =>
      show wpAny _ _ (call (.ref C) [u]) _ _ _
      have hlim := I1.nolimit
      obtain ⟨hp, g, dr, tk, os⟩ := s1
      refine wpAny_call (run_made T I1.kIn hlim (by have := hr.dp; omega) fun h2 tk2 e d M => ?_)
      obtain ⟨oe, fv, hoe, hc, hd, hdat, h1⟩ := M.obj
      obtain ⟨G, g1, g2⟩ := restrict h2 fun y => decide (y ≠ e)
      have gk : ∀ y, y ≠ e → G.get? y = h2.get? y := fun y hy => g1 y (decide_eq_true hy)
      have ge : G.get? e = none := g2 e (by simp)
      have old : ∀ y o, hp.get? y = some o → G.get? y = some o := fun y o q => by
        rw [gk y (Nat.ne_of_lt (Nat.lt_of_lt_of_le (Heap.lt_size q) M.new))]
        exact M.keep y o q
      have ob : ObjOk X.prog X.w (upd H1 d (.xd [(f, v)])) G d (.xd [(f, v)]) := ⟨_, M.ns.at (fun o q => by rw [gk d M.ne]; exact q), fun y => relO1 rv y⟩
      have J : Inv X pins σ (upd H1 d (.xd [(f, v)])) ⟨G, g, dr, tk2, os⟩ := I1.laid (t' := tk2) old M.big ob
      refine ⟨e, oe, fv, ⟨G, g, dr, tk2, os⟩, _, .ref C, some d, rfl, J, fun y o q => ?_, ge, hoe, ⟨hc, hd⟩, hdat, h1, ?_, rfl, I1.bare, raises_own T.exC T.tyC, q1 d (I1.hok.fresh M.big)⟩
      · have hy : y ≠ e := fun z => by
          have q' : G.get? y = some o := q
          rw [z, ge] at q'
          cases q'
        have := gk y hy
        rw [← this]
        exact q
      · rw [upd_ne (Ne.symm M.ne)]
        exact I1.hok.fresh M.new
end
end Er
end EV
set_option maxHeartbeats 4000000
/-! try with several clauses, with names and without -/
namespace EV
open PySem PySem.Spec PyProof.Rows L2
namespace Tr
abbrev Su := Addr → Value → Option Addr → TS
/-- the wishes behind a suite whose name stands in slot i -/
def clr (i : Nat) (D : Ends) : Ends := { nx := fun σ H => D.nx (σ.set i none) H, rt := D.rt, bk := fun σ H => D.bk (σ.set i none) H, ct := fun σ H => D.ct (σ.set i none) H }
def wG (K : PySem.W.Frag) (Wo : WX) (D : Ends) : List (Value × Option Nat × Su) → WX
  | [] => Wo
  | (c, o, ts) :: r => fun cls d σ H => ∃ k, PySem.W.exmOne K cls c = some k ∧
      (k = true → ∀ a, H a = none → match o with
        | none => ts a cls d D σ H
        | some i => ts a cls d (clr i D) (σ.set i (some (.ref a))) H) ∧ (k = false → wG K Wo D r cls d σ H)
inductive Hs (X : Cx) : List ExceptHandler → List (Value × Option Nat × Su) → Prop
  | nil : Hs X [] []
  | pl {x : Str} {c : Value} {ts : Su} {b0 : Stmt} {su : List Stmt} {np hp : Pos} {hds : List ExceptHandler} {l : List (Value × Option Nat × Su)} (hc : Names X x c)
      (hsu : ∀ (a : Addr) (oe : Obj) (cls : Value) (d : Option Addr) (pn : List (Addr × Obj)), Zc cls d oe → (∃ vs, oe.data = .fields vs) → PSs (X.suite a ((a, oe) :: pn)) (b0 :: su) (ts a cls d)) (r : Hs X hds l) :
      Hs X (.ExceptHandler (some (.Name x np)) none (b0 :: su) hp :: hds) ((c, none, ts) :: l)
  | as {x n : Str} {i : Nat} {c : Value} {ts : Su} {b0 : Stmt} {su : List Stmt} {np hp : Pos} {hds : List ExceptHandler} {l : List (Value × Option Nat × Su)} (hc : Names X x c) (hi : X.N[i]? = some n) (hl : X.env.kindOf n = some .local)
      (hsu : ∀ (a : Addr) (oe : Obj) (cls : Value) (d : Option Addr) (pn : List (Addr × Obj)), Zc cls d oe → (∃ vs, oe.data = .fields vs) → PSs (X.suite a ((a, oe) :: pn)) (b0 :: su) (ts a cls d)) (r : Hs X hds l) :
      Hs X (.ExceptHandler (some (.Name x np)) (some n) (b0 :: su) hp :: hds) ((c, some i, ts) :: l)
section
variable {X : Cx} {body : List Stmt} {h0 : ExceptHandler} {hds : List ExceptHandler} {l : List (Value × Option Nat × Su)} {pos : Pos} {tb : WX → TS} {Wo : WX}
theorem ps_tryG (hst : X.stack = X.env :: X.outer) (hfr0 : X.env.frame = some X.env.locals) (nd : X.N.Nodup) (tk : Takes X Wo)
    (hb : ∀ (W : WX) (pn : List (Addr × Obj)) (xe : Value → Shared → Prop), Takes (X.tr pn xe) W → PassesOwn (model X.prog X.w) X.A X.env xe → PSs (X.tr pn xe) body (tb W))
    (hh : Hs X (h0 :: hds) l) : PS X (.Try body (h0 :: hds) [] [] pos) (fun D σ H => tb (wG X.K Wo D l) D σ H) := by
  refine ⟨fun pins s σ H D I hq0 => wpAny_Try_except ?_⟩
  have okX := I.ok
  have frm : X.A.frames = some (X.env :: X.outer) := okX.frames.trans (by rw [hst])
  have take1 : Takes (X.tr (X.pn ++ pins) fun e t1 => wpAny (model X.prog X.w) X.A (noteFrame e X.env) (fun _ t2 => wpAny (model X.prog X.w) X.A (setFlight e none) (fun _ t3 => wpAny (model X.prog X.w) X.A (handleBy e X.env (h0 :: hds)) (SP X pins D) X.xe t3) X.xe t2) X.xe t1) (wG X.K Wo D l) := by
    rintro u s' ⟨a, B, sI, pins', σ', H', cls, d, rfl, J0, ground, up, sky, na, eos, gens, wish⟩
    have J : Inv X pins σ' H' sI := J0.ofTry okX
    rw [show (X.tr (X.pn ++ pins) _).stack = X.env :: X.outer from hst] at sky
    refine Sky.land Zc.steady frm hfr0 sky fun h3 fly up3 => ?_
    have J3 : Inv X pins σ' H' { s' with heap := h3 } := J.landed ground fly.1 (up.trans up3) eos gens
    obtain ⟨oe3, vs3, at3, z3, dat3⟩ := fly.there
    have notF : a ∉ frs (X.env :: X.outer) := fun hm => by
      obtain ⟨_, o', e', hnf⟩ := fly.2.2.1.mem hm
      rw [at3] at e'
      cases e'
      exact hnf _ dat3
    have nL : a ≠ X.env.locals := fun z => notF (List.mem_filterMap.mpr ⟨X.env, List.mem_cons_self, hfr0.trans (by rw [z])⟩)
    have nF : a ∉ X.fs := fun hm => by
      obtain ⟨e, he, q⟩ := List.mem_filterMap.mp hm
      exact notF (List.mem_filterMap.mpr ⟨e, List.mem_cons_of_mem _ he, q⟩)
    have S3 := J3.suite at3 dat3 na nL nF
    have LT : PySem.W.Looks (model X.prog X.w) h3 (typeOf (.ref a)) cls := fun _ _ _ _ k q => wpAny_typeOf_ref (k _ _ at3) (by rw [z3.1]; exact q)
    have named : ∀ {x : Str} {np : Pos} {c : Value} {Q E : Value → Shared → Prop}, Names X x c → Q c { s' with heap := h3 } → wpAny (model X.prog X.w) (X.A.mark (some (.ref a))) (eval (.Name x np) X.env) Q E { s' with heap := h3 } := by
      intro x np c Q E hc q
      obtain ⟨g1, g2, g3⟩ := hc
      rcases g3 with g3 | ⟨g3, g4, g5⟩
      · exact ld_glob (X := X.suite a ((a, oe3) :: (X.pn ++ pins))) S3 g1 g3 q g2
      · exact ld_blt (X := X.suite a ((a, oe3) :: (X.pn ++ pins))) S3 g1 g3 g4 q g5 g2
    have again : ∀ {Q : Unit → Shared → Prop} {A : Around} {E : Value → Shared → Prop}, (∀ h4 oe4 vs4, h4.get? a = some oe4 → Zc cls d oe4 → oe4.data = .fields vs4 → Inv X pins σ' H' { s' with heap := h4 } → Q () { s' with heap := h4 }) →
        wpAny (model X.prog X.w) A (setFlight (.ref a) none) Q E { s' with heap := h3 } := fun hk => HandSPX.lands_againZ fly fun h4 fly4 up4 => by
      obtain ⟨oe4, vs4, at4, z4, dat4⟩ := fly4.there
      exact hk h4 oe4 vs4 at4 z4 dat4 (J.landed ground fly4.1 ((up.trans up3).trans up4) eos gens)
    have go : ∀ {hd' : List ExceptHandler} {l' : List (Value × Option Nat × Su)}, Hs X hd' l' → wG X.K Wo D l' cls d σ' H' → wpAny (model X.prog X.w) X.A (handleBy (.ref a) X.env hd') (SP X pins D) X.xe { s' with heap := h3 } := by
     intro hd' l' hh'
     clear hb hq0 wish
     induction hh' with
     | nil =>
       intro wish
       refine wpAny_handleBy_nil ?_
       obtain ⟨_, _, _, oe, vs, T, oT, ts', he, _, hd, h1, _⟩ := id fly
       have last : wpAny (model X.prog X.w) X.A (setFlight (.ref a) X.env.frame) (fun _ t => wpAny (model X.prog X.w) X.A (throw (.ref a) : Sem Flow) (SP X pins D) X.xe t) X.xe { s' with heap := h3 } := by
         rw [hfr0]
         exact HandSPX.setFlight_upZ fly fun h4 held up4 => wpAny_throw (tk _ _ ⟨a, B, sI, pins, σ', H', cls, d, rfl, J, ground, (up.trans up3).trans up4, .inr (.inr (by rw [hst]; exact held)), na, eos, gens, wish⟩)
       unfold PySem.passOn
       refine wpAny_bind (wpAny_field he hd h1 ?_)
       rw [if_neg (show ¬ ((Value.ref T == Value.none) = true) from by simp)]
       first
         | exact wpAny_bind last
         | exact wpAny_bind (wpAny_pure (wpAny_bind last))
     | @pl x c ts b0 su np hp hds2 l2 hc hsu r ih =>
       intro wish
       obtain ⟨k, hk, yes, no⟩ := wish
       refine wpAny_handleBy_cons (codeAny_handlers_test (named hc ((PySem.W.exm_one J3.kIn LT hk).here ?_))) (by intro q; cases q)
       cases k with
       | false => exact ih (no rfl)
       | true =>
         refine codeAny_handlers_suite (again fun h4 oe4 vs4 at4 z4 dat4 J4 => ?_)
         refine wpAny_mono ((hsu a oe4 cls d (X.pn ++ pins) z4 ⟨_, dat4⟩).run [] _ _ H' _ (J4.suite at4 dat4 na nL nF) (yes rfl a na)) (fun fl t hsp => ?_) (fun _ _ z => z.elim)
         cases fl with
         | ret u => obtain ⟨v, σ6, H6, S6, rv, q6⟩ := hsp; exact ⟨v, σ6, H6, S6.unsuite okX, rv, q6⟩
         | next => obtain ⟨σ6, H6, S6, q6⟩ := hsp; exact ⟨σ6, H6, S6.unsuite okX, q6⟩
         | brk => obtain ⟨σ6, H6, S6, q6⟩ := hsp; exact ⟨σ6, H6, S6.unsuite okX, q6⟩
         | cont => obtain ⟨σ6, H6, S6, q6⟩ := hsp; exact ⟨σ6, H6, S6.unsuite okX, q6⟩
     | @as x n i c ts b0 su np hp hds2 l2 hc hi hl hsu r ih =>
       intro wish
       obtain ⟨k, hk, yes, no⟩ := wish
       refine wpAny_handleBy_cons (codeAny_handlers_test (named hc ((PySem.W.exm_one J3.kIn LT hk).here ?_))) (by intro q; cases q)
       cases k with
       | false => exact ih (no rfl)
       | true =>
         refine codeAny_handlers_suite_as (again fun h4 oe4 vs4 at4 z4 dat4 J4 => ?_)
         refine store_ok (X := X.suite a ((a, oe4) :: (X.pn ++ pins))) (v := .ref a) (J4.suite at4 dat4 na nL nF) nd hi (.inl hl) rfl (fun s5 S5 => ?_) (.inr hl)
         refine wpAny_mono ((hsu a oe4 cls d (X.pn ++ pins) z4 ⟨_, dat4⟩).run [] s5 _ H' _ S5 (yes rfl a na)) (fun fl t hsp => ?_) (fun _ _ z => z.elim)
         cases fl with
         | ret u => obtain ⟨v, σ6, H6, S6, rv, q6⟩ := hsp; exact gone_ok (S6.unsuite okX) nd hi hl fun t7 J7 => ⟨v, _, H6, J7, rv, q6⟩
         | next => obtain ⟨σ6, H6, S6, q6⟩ := hsp; exact gone_ok (S6.unsuite okX) nd hi hl fun t7 J7 => ⟨_, H6, J7, q6⟩
         | brk => obtain ⟨σ6, H6, S6, q6⟩ := hsp; exact gone_ok (S6.unsuite okX) nd hi hl fun t7 J7 => ⟨_, H6, J7, q6⟩
         | cont => obtain ⟨σ6, H6, S6, q6⟩ := hsp; exact gone_ok (S6.unsuite okX) nd hi hl fun t7 J7 => ⟨_, H6, J7, q6⟩
    exact go hh wish
  refine wpAny_mono ((hb _ _ _ take1 PassesOwn.looking).run [] s σ H D (I.toTry _) hq0) (fun fl t hsp => ?_) (fun e t he => he)
  cases fl with
  | ret u => obtain ⟨v, σ6, H6, J6, rv, q6⟩ := hsp; exact ⟨v, σ6, H6, J6.ofTry okX, rv, q6⟩
  | next => obtain ⟨σ6, H6, J6, q6⟩ := hsp; exact wpAny_execs_nil ⟨σ6, H6, J6.ofTry okX, q6⟩
  | brk => obtain ⟨σ6, H6, J6, q6⟩ := hsp; exact ⟨σ6, H6, J6.ofTry okX, q6⟩
  | cont => obtain ⟨σ6, H6, J6, q6⟩ := hsp; exact ⟨σ6, H6, J6.ofTry okX, q6⟩
end
end Tr
end EV
set_option maxHeartbeats 4000000
/-! raise, defs that errors leave, try -/
namespace EV
open PySem PySem.Spec PyProof.Rows L2
variable [Tbl]
/-- an own error with one field, made by C(value) -/
def ErrV (K : PySem.W.Frag) (mg : Str → Option Value) (c f : Str) : Prop := ∃ b C fI, Er.Txt K mg c f b C fI
/-- an own error that is made with a message -/
def ErrM (K : PySem.W.Frag) (mg : Str → Option Value) (c : Str) : Prop := ∃ (b : Er.Base) (C : Addr), ExcBaseFacts b.B b.nw b.ini b.bm ∧ PySem.W.excIn K C b.bm b.nw = true ∧ mg c = some (.ref C) ∧ PySem.W.keepIn K (.ref C) = true ∧ PySem.W.subIn K (.ref C) (.type "BaseException") = some true ∧ PySem.W.typeIn K (.ref C) = some (.type "type")
def sRaiseV (c f : Str) (e : DE) : DS := fun env M => (e env M).thenS env fun d M1 => .exc ⟨c, [(f, d)]⟩ env M1
def sRaiseM (c : Str) : DS := fun env M => .exc ⟨c, []⟩ env M
section
variable {X : Cx} {W : EXK} {pos p p2 pos2 : Pos} {e : Expr} {m : DE} {c f : Str} {k : Nat}
theorem evs_raiseV (E : ErrV X.K X.mg c f) (hr : Room k X.A) (hc : X.calm = true) (tk : Takes X W) (he : PE X e (tD X W m)) (hg : Gl X c) (hdb : (c == ("__debug__" : Str)) = false := by decide)
    (hs : starEach [e] X.env = (false, eval e X.env) :: starEach [] X.env := by rfl) (hpl : (backTo pos (starEach [] X.env)).any (·.1) = false := by rfl) : PS X (.Raise (some (.Call (.Name c p) [e] [] pos)) none pos2) (tS X W (sRaiseV c f m)) := by
  obtain ⟨b, C, fI, T⟩ := E
  refine PS.imp (ps_raise hc tk (Er.pmk T hr he hg hdb hs hpl)) fun Dn σ H h => ?_
  obtain ⟨F, r, R, env, M, hE, hS, hp⟩ := h
  refine tX.imp (thenS_bind hE hS hp) fun v H1 ⟨F1, r1, M1, d, s1, p1, hE1, hS1, R1, hp1⟩ => ?_
  intro dx hdx
  have hF : F1 dx = none := (hS1.notR hdx).1
  have hsub : Sub F1 (upd F1 dx (.xd [(f, v)])) := Sub.upd hF
  have S2 := hS1.froz (u := .xd [(f, v)]) hdx
  refine hp1 _ r1 _ σ (.ref C) (some dx) hsub (List.prefix_refl _) (hE1.mono hsub (List.prefix_refl _)) S2 ⟨C, T.gC, rfl, [(f, v)], upd_same, ?_⟩
  unfold RepF
  exact ⟨v, [], rfl, R1.mono hsub (List.prefix_refl _), RepF.nil⟩
theorem evs_raiseM {msg : Str} {j : Nat} (E : ErrM X.K X.mg c) (hc : X.calm = true) (tk : Takes X W) (hg : Gl X c) (hdb : (c == ("__debug__" : Str)) = false := by decide) :
    PS X (.Raise (some (.Call (.Name c p) [.Constant (.str msg) j p2] [] pos)) none pos2) (tS X W (sRaiseM c)) := by
  obtain ⟨b, C, h1, h2, h3, h4, h5, h6⟩ := E
  refine PS.imp (ps_raise hc tk (pmk_own h1 h2 h3 h4 (raises_own h5 h6) hg hdb)) fun Dn σ H h => ?_
  obtain ⟨F, r, R, env, M, hE, hS, hp⟩ := h
  exact hp F r H σ (.ref C) none (Sub.refl _) (List.prefix_refl _) hE hS ⟨C, h3, rfl, rfl⟩
end
/-! ### defs that errors leave -/
section
variable {P : Program} {w : World} {K : PySem.W.Frag} {mg : Str → Option Value} {base : Heap}
theorem fnX_ok {x qual : Str} {st : Stmt} {f : Addr} {fd : FuncData} {N ps : List Str} {k : Nat} {fin : Nat → D → Sto → Out D} {b : DS} (hfin : FinOk fin) (T : L2.Fun K x qual st f fd) (S : FnScope N ps (defScope st))
    (hb : ∀ (cdv : Value) (A : Around) (outer : List Env) (s : Shared) (H : Hp) (E : XK), Room k (A.deeper (envOfC qual (defScope st) s.heap.objs.size f cdv)) → A.guards = some [] →
      Takes (cxOf (L2.CX P w) P w K mg base N qual (defScope st) f cdv A outer s H E) (fun cls d _ H => E cls d H) →
      PassesOwn (model P w) (cxOf (L2.CX P w) P w K mg base N qual (defScope st) f cdv A outer s H E).A (cxOf (L2.CX P w) P w K mg base N qual (defScope st) f cdv A outer s H E).env (cxOf (L2.CX P w) P w K mg base N qual (defScope st) f cdv A outer s H E).xe →
      PSs (cxOf (L2.CX P w) P w K mg base N qual (defScope st) f cdv A outer s H E) (defBody st) (tS (cxOf (L2.CX P w) P w K mg base N qual (defScope st) f cdv A outer s H E) (fun cls d _ H => E cls d H) b)) :
    FnG P w K mg base (L2.CX P w) (k + 1) f fd ps (spD ⟨K, mg⟩ ps.length (fnD ps.length N.length fin b)) := by
  obtain ⟨oc, od, kV, doc, pm, an, cdv, ct, osl, rfl, lk, hcd⟩ := T.ex
  have hle : ps.length ≤ N.length := by
    have := congrArg List.length S.pre
    rw [List.length_take] at this
    omega
  refine fnG_of lk hcd S (fun vs H Q E h => h.1) fun A outer s H vs Q E hr hgd hsp => ?_
  refine ⟨_, hb cdv A outer s H E hr hgd (takes_of rfl rfl rfl rfl) (passes_of rfl), ?_⟩
  obtain ⟨_, F, r, R, M, ds, q, Sg, hp⟩ := hsp
  obtain ⟨hl, hpost⟩ := post_fn (E := E) hfin Sg hp
  exact ⟨F, r, R, ds.map some ++ List.replicate (N.length - ps.length) none, M, start_env q hl hle, Sg, hpost⟩
/-- where it raises nothing -/
theorem FnG.calm {k n : Nat} {f : Addr} {fd : FuncData} {ps : List Str} {Fn : DFn} (h : FnG P w K mg base (L2.CX P w) k f fd ps (spD ⟨K, mg⟩ n Fn)) : FnG P w K mg base CX0 k f fd ps (spD0 ⟨K, mg⟩ n Fn) := by
  have conv : ∀ {vs H Q E}, spD0 ⟨K, mg⟩ n Fn vs H Q E → spD ⟨K, mg⟩ n Fn vs H Q (fun _ _ _ => False) := fun {vs H Q E} ⟨h1, F, r, R, M, ds, h2, h3, h4⟩ =>
    ⟨h1, F, r, R, M, ds, h2, h3, Out.post_imp h4 (fun _ _ z => z) fun _ _ z => z.elim⟩
  refine ⟨fun vs H Q E q => h.len vs H Q _ (conv q), fun A outer s H args us vs Q E hr hgd e0 hb r q => ?_⟩
  refine codeAny_mono (h.run A outer s H args us vs Q (fun _ _ _ => False) hr hgd e0 hb r (conv q)) fun res s' hq => ?_
  cases res with
  | ok fl => cases fl <;> exact hq
  | error e =>
    obtain ⟨_, _, _, _, _, _, _, _, _, _, _, _, z⟩ := hq
    exact z.elim
structure FnXAt (P : Program) (w : World) (K : PySem.W.Frag) (mg : Str → Option Value) (base : Heap) (k : Nat) (x : Str) (n : Nat) (Fn : DFn) : Prop where
  at_ : ∃ f fd ps, mg x = some (.ref f) ∧ PySem.W.keepIn K (.ref f) = true ∧ Binds K fd ps [] ∧ ps.length = n ∧ FnG P w K mg base (L2.CX P w) k f fd ps (spD ⟨K, mg⟩ n Fn)
  ar : ∀ ds M, ds.length ≠ n → Fn ds M = .bad
theorem FnXAt.mono {j k : Nat} {x : Str} {n : Nat} {Fn : DFn} (h : FnXAt P w K mg base j x n Fn) (hk : j ≤ k) : FnXAt P w K mg base k x n Fn :=
  let ⟨f, fd, ps, a, b, c, d, e⟩ := h.at_
  ⟨⟨f, fd, ps, a, b, c, d, e.mono hk⟩, h.ar⟩
theorem FnXAt.at0 {k : Nat} {x : Str} {n : Nat} {Fn : DFn} (h : FnXAt P w K mg base k x n Fn) : FnAt P w K mg base k x n Fn :=
  let ⟨f, fd, ps, a, b, c, d, e⟩ := h.at_
  ⟨⟨f, fd, ps, a, b, c, d, e.calm⟩, h.ar⟩
theorem FnXAt.mk' {x y qual : Str} {st : Stmt} {f : Addr} {fd : FuncData} {N ps : List Str} {k : Nat} {fin : Nat → D → Sto → Out D} {b : DS} (hfin : FinOk fin) (T : L2.Fun K y qual st f fd) (hm : mg x = some (.ref f)) (hbi : Binds K fd ps []) (S : FnScope N ps (defScope st))
    (hb : ∀ (cdv : Value) (A : Around) (outer : List Env) (s : Shared) (H : Hp) (E : XK), Room k (A.deeper (envOfC qual (defScope st) s.heap.objs.size f cdv)) → A.guards = some [] →
      Takes (cxOf (L2.CX P w) P w K mg base N qual (defScope st) f cdv A outer s H E) (fun cls d _ H => E cls d H) →
      PassesOwn (model P w) (cxOf (L2.CX P w) P w K mg base N qual (defScope st) f cdv A outer s H E).A (cxOf (L2.CX P w) P w K mg base N qual (defScope st) f cdv A outer s H E).env (cxOf (L2.CX P w) P w K mg base N qual (defScope st) f cdv A outer s H E).xe →
      PSs (cxOf (L2.CX P w) P w K mg base N qual (defScope st) f cdv A outer s H E) (defBody st) (tS (cxOf (L2.CX P w) P w K mg base N qual (defScope st) f cdv A outer s H E) (fun cls d _ H => E cls d H) b)) : FnXAt P w K mg base (k + 1) x ps.length (fnD ps.length N.length fin b) :=
  ⟨⟨f, fd, ps, hm, T.kp, hbi, rfl, fnX_ok hfin T S hb⟩, fun ds M h => by unfold fnD; rw [if_neg h]⟩
end
/-! ### their calls -/
def mCallX (Fn : DFn) (as : DA) : DE := fun env M => (as env M).bind fun ds M1 => Fn ds M1
def mCallX0 (Fn : DFn) : DE := fun _ M => Fn [] M
section
variable {X : Cx} {W : EXK} {pos p : Pos} {x : Str} {n k : Nat} {Fn : DFn} {e : Expr} {es : List Expr} {mas : DA}
theorem run_fnGX {f : Addr} {fd : FuncData} {ps : List Str} {pins : List (Addr × Obj)} {σ : L2.St} {H : Hp} {s : Shared} {Q : VK} {us : List Value} {vs : List V} (F : FnG X.prog X.w X.K X.mg X.base (L2.CX X.prog X.w) k f fd ps (spD (gd X) n Fn)) (hr : Room k X.A) (hgd : X.A.guards = some []) (hb : Binds X.K fd ps []) (tk : Takes X W)
    (I : Inv X pins σ H s) (r : Vals vs us) (h : spD (gd X) n Fn vs H Q fun cls d H => W cls d σ H) : wpAny (model X.prog X.w) X.A (call (.ref f) us) (EP X pins σ Q) X.xe s := by
  have hl : us.length = ps.length := by rw [← r.length]; exact F.len _ _ _ _ h
  have hb' := hb s us I.kIn (by rw [List.append_nil]; exact hl)
  rw [List.append_nil] at hb'
  refine wpAny_call (codeAny_mono (F.run X.A X.stack s H ⟨us, []⟩ us vs Q _ hr hgd I.env0 hb' r h) fun res s' hq => ?_)
  cases res with
  | error e => exact tk e s' (XE.of_call I (fun _ _ _ z => z) hq)
  | ok fl =>
    cases fl with
    | ret u => exact I.after hq
    | next => exact False.elim hq
    | brk => exact False.elim hq
    | cont => exact False.elim hq
theorem FnXAt.len (F : FnXAt X.prog X.w X.K X.mg X.base k x n Fn) {ds : List D} {M : Sto} {P : D → Sto → Prop} {Y : Exn → Sto → Prop} (h : (Fn ds M).post P Y) : ds.length = n := by
  by_cases hl : ds.length = n
  · exact hl
  · rw [F.ar ds M hl] at h
    exact h.elim
theorem ev_callX (F : FnXAt X.prog X.w X.K X.mg X.base k x n Fn) (hr : Room k X.A) (hgd : X.A.guards = some []) (tk : Takes X W) (hg : Gl X x) (ha : PA X (e :: es) (tA X W mas)) (hdb : (x == ("__debug__" : Str)) = false := by decide)
    (he : starEach (e :: es) X.env = (false, eval e X.env) :: starEach es X.env := by rfl) (hpl : (backTo pos (starEach es X.env)).any (·.1) = false := by rfl) :
    PE X (.Call (.Name x p) (e :: es) [] pos) (tD X W (mCallX Fn mas)) := by
  obtain ⟨f, fd, ps, hm, hk, hb, hps, G⟩ := F.at_
  refine ⟨fun pins s σ H Q I h => ?_⟩
  obtain ⟨F0, r, R, env, M, hE, hS, hp⟩ := h
  refine wpAny_Call_Name_kw (ld_glob I hg hm ?_ hdb)
  refine PySem.W.callWith_K (h₀ := X.base) I.ok.mod.kin hk (thn (ha.run pos pins s σ H _ I (tX.bind OKx.mono' hE hS hp)) fun us s1 ⟨vs, H1, I1, r1, q⟩ => ⟨I1.kIn, ?_⟩) he hpl
  obtain ⟨F1, r1', M1, ds, s1', p1, hE1, hS1, R1, hp1⟩ := q
  exact run_fnGX G hr hgd hb tk I1 r1 ⟨by rw [R1.length]; exact F.len hp1, F1, r1', R, M1, ds, R1, hS1, hp1⟩
theorem ev_callX0 (F : FnXAt X.prog X.w X.K X.mg X.base k x n Fn) (hr : Room k X.A) (hgd : X.A.guards = some []) (tk : Takes X W) (hg : Gl X x) (hdb : (x == ("__debug__" : Str)) = false := by decide) : PE X (.Call (.Name x p) [] [] pos) (tD X W (mCallX0 Fn)) := by
  obtain ⟨f, fd, ps, hm, hk, hb, hps, G⟩ := F.at_
  refine ⟨fun pins s σ H Q I h => ?_⟩
  obtain ⟨F0, r, R, env, M, hE, hS, hp⟩ := h
  refine wpAny_Call_Name_kw (ld_glob I hg hm ?_ hdb)
  exact PySem.W.callWith_K0 I.kIn hk (run_fnGX (us := []) (vs := []) G hr hgd hb tk I .nil ⟨F.len (ds := []) hp, F0, r, R, M, [], .nil, hS, hp⟩)
end
end EV
set_option maxHeartbeats 4000000
/-! try at the plain values -/
namespace EV
open PySem PySem.Spec PyProof.Rows L2
structure Hd where
  ms : List (Str × Bool)
  n : Option Nat
  b : Exn → DS
def noCur (env : DEnv) : Bool := env.all fun o => match o with
  | some (.cur false) => false
  | some _ => true
  | none => true
def okC (n : Option Nat) (env : DEnv) : Bool := match n with
  | some i => noCur (env.set i none)
  | none => true
def unO (n : Option Nat) (env : DEnv) : DEnv := match n with
  | some i => env.set i none
  | none => env
def inO (n : Option Nat) (env : DEnv) : DEnv := match n with
  | some i => env.set i (some (.cur false))
  | none => env
def clrO (n : Option Nat) (o : OutS) : OutS := match o with
  | .nx env M => if okC n env = true then .nx (unO n env) M else .bad
  | .bk env M => if okC n env = true then .bk (unO n env) M else .bad
  | .ct env M => if okC n env = true then .ct (unO n env) M else .bad
  | .rt d M => .rt d M
  | _ => .bad
def hndl : List Hd → Exn → DEnv → Sto → OutS
  | [], e, env, M => .exc e env M
  | h :: r, e, env, M => match h.ms.lookup e.c with
    | some true => if okC h.n env = true then clrO h.n (h.b e (inO h.n env) M) else .bad
    | some false => hndl r e env M
    | none => .bad
def sTry (b : DS) (hs : List Hd) : DS := fun env M => match b env M with
  | .exc e env' M' => hndl hs e env' M'
  | o => o
/-- which own errors a clause takes -/
def MsOk (K : PySem.W.Frag) (mg : Str → Option Value) (hc : Value) (ms : List (Str × Bool)) : Prop := ∀ c k, ms.lookup c = some k → ∀ C, mg c = some (.ref C) → PySem.W.exmOne K (.ref C) hc = some k
/-- a field of the error that the suite holds -/
def mXf (i : Nat) (c f : Str) (ex : Exn) : DE := fun env M => match env[i]? with
  | some (some (.cur false)) => if ex.c = c then (match ex.fs.lookup f with
    | some d => .ok d M
    | none => .bad) else .bad
  | _ => .bad
/-- the field f of own errors of the class c is read -/
def XfAt (K : PySem.W.Frag) (mg : Str → Option Value) (c f : Str) : Prop := ∃ C, mg c = some (.ref C) ∧ XfC K C ∧ PySem.W.findIn K (.ref C) f = some none
/-- the same tables, another beginning -/
@[reducible] def tb1 (inst : Tbl) (F : Hp) (r : List Addr) (x : Addr) : Tbl := ⟨inst.T, F, r, x, inst.f, inst.C⟩
section
variable {inst : Tbl} {G : Gd} {F F' H R : Hp} {r r' : List Addr} {M : Sto} {x : Addr}
theorem StoR.up (S : @StoR inst G F r R M H) : @StoR (tb1 inst F r x) G F r R M H := by
  obtain ⟨a, b, c, d, e, f, g, h, ⟨i, ⟨j, j2⟩, k⟩, l⟩ := S
  exact @StoR.mk (tb1 inst F r x) G F r R M H a b c d e f g h (@Aux.mk (tb1 inst F r x) F R H i (@RsOk.mk (tb1 inst F r x) R j j2) k) ⟨Sub.refl _, List.prefix_refl _⟩
theorem StoR.down (o : Sub inst.F F ∧ inst.r <+: r) (S : @StoR (tb1 inst F r x) G F' r' R M H) : @StoR inst G F' r' R M H := by
  obtain ⟨a, b, c, d, e, f, g, h, ⟨i, ⟨j, j2⟩, k⟩, l⟩ := S
  exact @StoR.mk inst G F' r' R M H a b c d e f g h (@Aux.mk inst F' R H i (@RsOk.mk inst R j j2) k) ⟨o.1.trans l.1, o.2.trans l.2⟩
theorem EnvR.swap {i1 i2 : Tbl} {env : DEnv} {σ : L2.St} (h : @EnvR i1 G F r env σ) (k : noCur env = true) (ef : i1.f = i2.f) : @EnvR i2 G F r env σ := by
  refine ⟨h.1, fun i d e => ?_⟩
  obtain ⟨v, e1, e2⟩ := h.2 i d e
  have hd := (List.all_eq_true.mp k) (some d) (List.mem_of_getElem? e)
  refine ⟨v, e1, ?_⟩
  cases d with
  | cur b =>
    cases b with
    | false => cases hd
    | true =>
      have e2 : v = .ref i1.f := e2
      rw [ef] at e2
      exact e2
  | _ => exact e2
end
variable [inst : Tbl]
def xN (n : Option Nat) (a : Addr) : Addr := match n with
  | some _ => a
  | none => Tbl.x
def clrE (n : Option Nat) (D : Ends) : Ends := match n with
  | some i => Tr.clr i D
  | none => D
theorem nxc_up {G : Gd} {F R : Hp} {r : List Addr} {n : Option Nat} {a : Addr} (og : Sub inst.F F ∧ inst.r <+: r) {env : DEnv} {M : Sto} {k : L2.St → Hp → Prop} (hk : okC n env = true) (h : NXc G F r R k (unO n env) M) :
    @NXc (tb1 inst F r (xN n a)) G F r R (match n with
      | some i => (fun σ H => k (σ.set i none) H)
      | none => k) env M := by
  intro F' r' H' σ' s p hE hS
  cases n with
  | none => exact h F' r' H' σ' s p hE (StoR.down og hS)
  | some i => exact h F' r' H' _ s p (EnvR.swap (@EnvR.unset (tb1 inst F r (xN (some i) a)) _ _ _ _ _ hE i) hk rfl) (StoR.down og hS)
theorem wsh_up {G : Gd} {F R : Hp} {r : List Addr} {W : EXK} {Dn : Ends} {n : Option Nat} {a : Addr} {o : OutS} (og : Sub inst.F F ∧ inst.r <+: r) (h : (clrO n o).post (wsh G F r R W Dn)) :
    o.post (@wsh (tb1 inst F r (xN n a)) G F r R W0 (clrE n Dn)) := by
  cases o with
  | nx env M =>
    unfold clrO at h
    simp only at h
    split at h
    · rename_i hk
      have := nxc_up (a := a) og hk h
      cases n <;> exact this
    · exact h.elim
  | bk env M =>
    unfold clrO at h
    simp only at h
    split at h
    · rename_i hk
      have := nxc_up (a := a) og hk h
      cases n <;> exact this
    · exact h.elim
  | ct env M =>
    unfold clrO at h
    simp only at h
    split at h
    · rename_i hk
      have := nxc_up (a := a) og hk h
      cases n <;> exact this
    · exact h.elim
  | rt d M =>
    have h' : OKx Rep G F r R Dn.rt d M := h
    have : @OKx (tb1 inst F r (xN n a)) D V Rep G F r R Dn.rt d M := fun F' r' H' v s p hS q => h' F' r' H' v s p (StoR.down og hS) q
    cases n <;> exact this
  | exc e env M => exact h.elim
  | bad => exact h.elim
/-- a suite's reading: with the error that it holds -/
def tSu (X : Cx) (n : Option Nat) (b : Exn → DS) : Tr.Su := fun a cls d Dn σ H => ∃ F r ex, ExR (gd X) F r ex cls d ∧ @tS (tb1 inst F r (xN n a)) X W0 (b ex) Dn σ H
theorem pss_su {X X' : Cx} {n : Option Nat} {b : Exn → DS} {a : Addr} {cls : Value} {d : Option Addr} {su : List Stmt}
    (h : ∀ (F : Hp) (r : List Addr) (ex : Exn), ExR (gd X) F r ex cls d → PSs X' su (@tS (tb1 inst F r (xN n a)) X W0 (b ex))) : PSs X' su (tSu X n b a cls d) :=
  ⟨fun pins s σ H D I ⟨F, r, ex, hx, q⟩ => (h F r ex hx).run pins s σ H D I q⟩
/-- the clauses -/
inductive HsD (X : Cx) : List ExceptHandler → List Hd → List (Value × Option Nat × Tr.Su) → Prop
  | nil : HsD X [] [] []
  | pl {x : Str} {c : Value} {b : Exn → DS} {ms : List (Str × Bool)} {b0 : Stmt} {su : List Stmt} {np hp : Pos} {hds : List ExceptHandler} {l : List Hd} {t : List (Value × Option Nat × Tr.Su)} (hc : Names X x c) (hm : MsOk X.K X.mg c ms)
      (hsu : ∀ (i2 : Tbl) (a : Addr) (oe : Obj) (cls : Value) (d : Option Addr) (pn : List (Addr × Obj)) (ex : Exn), Zc cls d oe → (∃ vs, oe.data = .fields vs) → ExR (gd X) i2.F i2.r ex cls d → PSs (X.suite a ((a, oe) :: pn)) (b0 :: su) (@tS i2 (X.suite a ((a, oe) :: pn)) W0 (b ex)))
      (r : HsD X hds l t) : HsD X (.ExceptHandler (some (.Name x np)) none (b0 :: su) hp :: hds) (⟨ms, none, b⟩ :: l) ((c, none, tSu X none b) :: t)
  | as {x n : Str} {i : Nat} {c : Value} {b : Exn → DS} {ms : List (Str × Bool)} {b0 : Stmt} {su : List Stmt} {np hp : Pos} {hds : List ExceptHandler} {l : List Hd} {t : List (Value × Option Nat × Tr.Su)} (hc : Names X x c) (hm : MsOk X.K X.mg c ms) (hi : X.N[i]? = some n) (hl : X.env.kindOf n = some .local)
      (hsu : ∀ (i2 : Tbl) (a : Addr) (oe : Obj) (cls : Value) (d : Option Addr) (pn : List (Addr × Obj)) (ex : Exn), Zc cls d oe → (∃ vs, oe.data = .fields vs) → i2.x = a → ExR (gd X) i2.F i2.r ex cls d → PSs (X.suite a ((a, oe) :: pn)) (b0 :: su) (@tS i2 (X.suite a ((a, oe) :: pn)) W0 (b ex)))
      (r : HsD X hds l t) : HsD X (.ExceptHandler (some (.Name x np)) (some n) (b0 :: su) hp :: hds) (⟨ms, some i, b⟩ :: l) ((c, some i, tSu X (some i) b) :: t)
theorem HsD.hs {X : Cx} {hds : List ExceptHandler} {l : List Hd} {t : List (Value × Option Nat × Tr.Su)} (h : HsD X hds l t) : Tr.Hs X hds t := by
  induction h with
  | nil => exact .nil
  | pl hc hm hsu r ih => exact .pl hc (fun a oe cls d pn hz hf => pss_su fun F r ex hx => hsu _ a oe cls d pn ex hz hf hx) ih
  | as hc hm hi hl hsu r ih => exact .as hc hi hl (fun a oe cls d pn hz hf => pss_su fun F r ex hx => hsu _ a oe cls d pn ex hz hf rfl hx) ih
section
variable {X : Cx} {W : EXK} {pos : Pos}
theorem hndl_wish {hds : List ExceptHandler} {l : List Hd} {t : List (Value × Option Nat × Tr.Su)} (hh : HsD X hds l t) {F R H : Hp} {r : List Addr} {e : Exn} {env : DEnv} {M : Sto} {Dn : Ends} {cls : Value} {d : Option Addr} {σ : L2.St}
    (hE : EnvR (gd X) F r env σ) (hS : StoR (gd X) F r R M H) (hx : ExR (gd X) F r e cls d) (h : (hndl l e env M).post (wsh (gd X) F r R W Dn)) : Tr.wG X.K W Dn t cls d σ H := by
  obtain ⟨C, hC, rfl, hfs⟩ := id hx
  induction hh with
  | nil => exact h F r H σ (.ref C) d (Sub.refl _) (List.prefix_refl _) hE hS hx
  | @pl x c b ms b0 su np hp hds l t hc hm hsu r0 ih =>
    unfold hndl at h
    simp only at h
    split at h
    · rename_i e1
      split at h
      · refine ⟨true, hm _ _ e1 C hC, fun _ a ha => ⟨F, r, e, hx, F, r, R, env, M, hE, hS.up, ?_⟩, fun z => Bool.noConfusion z⟩
        exact wsh_up (n := none) (a := a) hS.og h
      · exact h.elim
    · rename_i e1
      exact ⟨false, hm _ _ e1 C hC, fun z => Bool.noConfusion z, fun _ => ih h⟩
    · exact h.elim
  | @as x n i c b ms b0 su np hp hds l t hc hm hi hl hsu r0 ih =>
    unfold hndl at h
    simp only at h
    split at h
    · rename_i e1
      split at h
      · rename_i hk
        refine ⟨true, hm _ _ e1 C hC, fun _ a ha => ⟨F, r, e, hx, F, r, R, env.set i (some (.cur false)), M, ?_, hS.up, ?_⟩, fun z => Bool.noConfusion z⟩
        · have hE0 : @EnvR (tb1 inst F r a) (gd X) F r (env.set i none) (σ.set i none) := (hE.unset i).swap hk rfl
          refine ⟨by rw [List.length_set, List.length_set]; exact hE.1, fun j d' ej => ?_⟩
          by_cases hj : j = i
          · subst hj
            have hl : j < env.length := by
              have := (List.getElem?_eq_some_iff.mp ej).1
              rw [List.length_set] at this
              exact this
            rw [List.getElem?_set_self hl] at ej
            cases ej
            exact ⟨.ref a, by rw [List.getElem?_set_self (by rw [← hE.1]; exact hl)], rfl⟩
          · rw [List.getElem?_set_ne (fun z => hj z.symm)] at ej
            obtain ⟨v, e2, e3⟩ := hE0.2 j d' (by rw [List.getElem?_set_ne (fun z => hj z.symm)]; exact ej)
            rw [List.getElem?_set_ne (fun z => hj z.symm)] at e2
            exact ⟨v, by rw [List.getElem?_set_ne (fun z => hj z.symm)]; exact e2, e3⟩
        · exact wsh_up (n := some i) (a := a) hS.og h
      · exact h.elim
    · rename_i e1
      exact ⟨false, hm _ _ e1 C hC, fun z => Bool.noConfusion z, fun _ => ih h⟩
    · exact h.elim
theorem evs_try {body : List Stmt} {h0 : ExceptHandler} {hds : List ExceptHandler} {l : List Hd} {t : List (Value × Option Nat × Tr.Su)} {b : DS} (hst : X.stack = X.env :: X.outer) (hfr : X.env.frame = some X.env.locals) (nd : X.N.Nodup) (tk : Takes X W)
    (hb : ∀ (W' : EXK) (pn : List (Addr × Obj)) (xe : Value → Shared → Prop), Takes (X.tr pn xe) W' → PassesOwn (model X.prog X.w) X.A X.env xe → PSs (X.tr pn xe) body (tS (X.tr pn xe) W' b))
    (hh : HsD X (h0 :: hds) l t) : PS X (.Try body (h0 :: hds) [] [] pos) (tS X W (sTry b l)) := by
  refine PS.imp (Tr.ps_tryG (tb := fun W' => tS X W' b) hst hfr nd tk hb hh.hs) fun Dn σ H h => ?_
  obtain ⟨F, r, R, env, M, hE, hS, hp⟩ := h
  refine ⟨F, r, R, env, M, hE, hS, ?_⟩
  unfold sTry at hp
  cases e : b env M with
  | nx a b => rw [e] at hp; exact hp
  | rt a b => rw [e] at hp; exact hp
  | bk a b => rw [e] at hp; exact hp
  | ct a b => rw [e] at hp; exact hp
  | bad => rw [e] at hp; exact hp
  | exc ex env' M' =>
    rw [e] at hp
    intro F' r' H' σ' cls d s p hE' hS' hx
    exact hndl_wish hh hE' hS' hx (wsh_mono s p hp)
/-- e.f in a suite, e the error that it holds -/
theorem ev_xf {a : Addr} {oe : Obj} {cls : Value} {d : Option Addr} {pn : List (Addr × Obj)} {i : Nat} {n c f : Str} {np : Pos} {ex : Exn} (hX : XfAt X.K X.mg c f) (hi : X.N[i]? = some n) (hv : Vis X.env.scope n) (hz : Zc cls d oe) (hf : ∃ vs, oe.data = .fields vs) (ha : Tbl.x = a) (hx : ExR (gd X) Tbl.F Tbl.r ex cls d)
    (hd : (n == ("__debug__" : Str)) = false := by decide) (hcd : (n == ("__classdict__" : Str)) = false := by decide)
    (hb : attributeBase (.Name n np) f X.env (eval (.Name n np) X.env) = eval (.Name n np) X.env := by rfl) :
    PE (X.suite a ((a, oe) :: pn)) (.Attribute (.Name n np) f pos) (tD (X.suite a ((a, oe) :: pn)) W (mXf i c f ex)) := by
  obtain ⟨C, hC, rfl, hfs⟩ := hx
  obtain ⟨C0, g1, x1, x2⟩ := hX
  by_cases hec : ex.c = c
  · have : C0 = C := by
      have hC' : X.mg ex.c = some (.ref C) := hC
      rw [hec, g1] at hC'
      cases hC'
      rfl
    subst this
    refine PE.imp (pe_xf (n := f) x1 x2 hz hf (pe_var (X := X.suite a ((a, oe) :: pn)) (i := i) hi hv hd hcd) hb) fun σ H Q h => ?_
    obtain ⟨F, r, R, env, M, hE, hS, hp⟩ := h
    unfold mXf at hp
    split at hp
    · rename_i e
      obtain ⟨v, e1, e2⟩ := hE.2 i _ e
      have e2 : v = .ref Tbl.x := e2
      rw [ha] at e2
      subst e2
      rw [if_pos hec] at hp
      split at hp
      · rename_i y ey
        refine ⟨_, e1, rfl, rfl, ?_⟩
        cases d with
        | none =>
          have hfs : ex.fs = [] := hfs
          rw [hfs] at ey
          cases ey
        | some dx =>
          obtain ⟨vfs, h1, h2⟩ := hfs
          obtain ⟨u, k1, k2⟩ := h2.look ey
          exact ⟨dx, vfs, u, rfl, (hS.og.1.trans hS.sub) _ _ h1, k1, OKx.here hp hS (k2.mono hS.og.1 hS.og.2)⟩
      · exact hp.elim
    · exact hp.elim
  · refine ⟨fun pins s σ H Q I h => ?_⟩
    obtain ⟨F, r, R, env, M, hE, hS, hp⟩ := h
    unfold mXf at hp
    split at hp
    · rw [if_neg hec] at hp; exact hp.elim
    · exact hp.elim
end
end EV
set_option maxHeartbeats 4000000
/-! f(lambda: e), f a def of one parameter that calls it -/
namespace EV
open PySem PySem.Spec PyProof.Rows L2
/-- with a lambda at f, its code object at c -/
@[reducible] def tbL (inst : Tbl) (F : Hp) (r : List Addr) (f c : Addr) (q : Str) : Tbl := ⟨inst.T, F, r, inst.x, f, (c, q) :: inst.C⟩
section
variable {inst : Tbl} {G : Gd} {F F' H H1 R : Hp} {r r' : List Addr} {M : Sto} {f c : Addr} {q : Str}
theorem StoR.lam (S : @StoR inst G F r R M H) (e : LamX.ExtN H H1) (t : LamX.Tabs inst.T H1) (hc : H1 c = some (LamX.CodeO c q)) : @StoR (tbL inst F r f c q) G F r (upd R c (LamX.CodeO c q)) M H1 := by
  obtain ⟨a1, a2, a3, a4, a5, a6, a7, a8, ⟨b1, ⟨b2, b3⟩, b4⟩, a9⟩ := id S
  have eF : ∀ b u, F b = some u → H1 b = some u := fun b u z => e b u (a3 b u z) (okF_ne (b1 b u z))
  have eR : ∀ b u, R b = some u → H1 b = some u := fun b u z => e b u (a4 b u z) (b2 b u z)
  have cF : F c = none := by
    cases z : F c with
    | none => rfl
    | some u =>
      have := eF c u z
      rw [hc] at this
      cases this
      exact absurd (b1 c _ z) (by intro k; cases k)
  have cr : c ∉ r := fun hm => by
    obtain ⟨n, hn⟩ := List.mem_iff_getElem?.mp hm
    obtain ⟨u, hu, ok⟩ := S.okAt hn
    have := e c u hu (okF_ne ok)
    rw [hc] at this
    cases this
    cases ok
  refine @StoR.mk (tbL inst F r f c q) G F r _ M H1 a1 a2 eF (fun b u z => ?_) a5 (fun b hb => ?_) (fun b u z => ?_) (fun n b o h1 h2 => ?_) (@Aux.mk (tbL inst F r f c q) F _ H1 b1 (@RsOk.mk (tbL inst F r f c q) _ (fun b u z => ?_) fun p hp => ?_) t) ⟨Sub.refl _, List.prefix_refl _⟩
  · by_cases hb : b = c
    · subst hb; rw [upd_same] at z; cases z; exact hc
    · rw [upd_ne hb] at z; exact eR b u z
  · rw [upd_ne (fun z => cr (by rw [← z]; exact hb))]; exact a6 b hb
  · by_cases hb : b = c
    · rw [hb]; exact cF
    · rw [upd_ne hb] at z; exact a7 b u z
  · have ok := S.okAt h1
    refine (a8 n b o h1 h2).mono (Sub.refl _) (List.prefix_refl _) fun u hu => e b u hu ?_
    obtain ⟨u', hu', ok⟩ := ok
    rw [hu] at hu'
    cases hu'
    exact okF_ne ok
  · by_cases hb : b = c
    · subst hb; rw [upd_same] at z; cases z; exact LamX.codeO_ne
    · rw [upd_ne hb] at z; exact b2 b u z
  · rcases List.mem_cons.mp hp with rfl | hp
    · exact upd_same
    · by_cases hb : p.1 = c
      · have z := eR _ _ (b3 p hp)
        rw [hb, hc] at z
        rw [hb, upd_same]
        exact z
      · rw [upd_ne hb]; exact b3 p hp
/-- back behind the call -/
theorem StoR.back {R0 : Hp} (o : Sub inst.F F ∧ inst.r <+: r) (h0 : @RsOk inst R0) (hs : Sub R0 R) (S : @StoR (tbL inst F r f c q) G F' r' R M H) : @StoR inst G F' r' R0 M H := by
  obtain ⟨a1, a2, a3, a4, a5, a6, a7, a8, ⟨b1, b2, b4⟩, a9⟩ := S
  refine @StoR.mk inst G F' r' R0 M H a1 a2 a3 (fun b u z => a4 b u (hs b u z)) a5 (fun b hb => ?_) (fun b u z => a7 b u (hs b u z)) a8 (@Aux.mk inst F' R0 H b1 h0 b4) ⟨o.1.trans a9.1, o.2.trans a9.2⟩
  cases z : R0 b with
  | none => rfl
  | some u =>
    have := hs b u z
    rw [a6 b hb] at this
    cases this
theorem RsOk.nr1 {i : Tbl} {R : Hp} (h : @RsOk i R) : ∀ a u, R a = some u → ∀ ps, u ≠ .tbl ps := @RsOk.nr i R h
theorem RsOk.cd1 {i : Tbl} {R : Hp} (h : @RsOk i R) : ∀ p, p ∈ i.C → R p.1 = some (LamX.CodeO p.1 p.2) := @RsOk.cd i R h
theorem RsOk.out (h : @RsOk (tbL inst F r f c q) R) : @RsOk inst R := @RsOk.mk inst R h.nr1 fun p hp => h.cd1 p (List.mem_cons_of_mem _ hp)
theorem StoR.og1 {i : Tbl} (S : @StoR i G F r R M H) : Sub i.F F ∧ i.r <+: r := @StoR.og i G F r R M H S
theorem StoR.rs1 {i : Tbl} (S : @StoR i G F r R M H) : @RsOk i R := @Aux.nr i F R H (@StoR.ax i G F r R M H S)
theorem StoR.res1 {i : Tbl} (S : @StoR i G F r R M H) : Sub R H := @StoR.res i G F r R M H S
theorem EnvR.cur1 {i : Tbl} {env : DEnv} {σ : L2.St} (h : @EnvR i G F r env σ) {j : Nat} (e : env[j]? = some (some (.cur true))) : σ[j]? = some (some (.ref i.f)) := by
  obtain ⟨v, e1, e2⟩ := h.2 j _ e
  have e2 : v = .ref i.f := e2
  rw [e2] at e1
  exact e1
theorem StoR.fwd (s : Sub F F') (p : r <+: r') (hR : @RsOk (tbL inst F r f c q) R) (S : @StoR inst G F' r' R M H) : @StoR (tbL inst F r f c q) G F' r' R M H := by
  obtain ⟨a1, a2, a3, a4, a5, a6, a7, a8, ⟨b1, b2, b4⟩, a9⟩ := S
  exact @StoR.mk (tbL inst F r f c q) G F' r' R M H a1 a2 a3 a4 a5 a6 a7 a8 (@Aux.mk (tbL inst F r f c q) F' R H b1 hR b4) ⟨s, p⟩
end
variable [inst : Tbl]
/-- what a lambda comes to when it is called -/
abbrev Lm := Sto → Out D
/-- call(), call the parameter in slot 0 -/
def mLamC (call : Lm) : DE := fun env M => match env[0]? with
  | some (some (D.cur true)) => call M
  | _ => .bad
/-- a def of one parameter that is a lambda, by its body -/
def fnLam (N : Nat) (fin : Nat → D → Sto → Out D) (b : Lm → DS) : Lm → Sto → Out D := fun call M => match b call (some (D.cur true) :: List.replicate (N - 1) none) M with
  | .rt d M' => fin M.length d M'
  | .nx _ M' => fin M.length .non M'
  | _ => .bad
def mLamCall (Fn : Lm → Sto → Out D) (m : DE) : DE := fun env M => noExc (Fn (fun M' => m env M') M)
def CodeFor (K : PySem.W.Frag) (f : Addr) (cdv : Value) : Prop := ∃ oc od fd osl, K.lookup f = some ⟨oc, od, .func fd, osl⟩ ∧ fd.code = cdv
/-- the def at x takes a lambda -/
structure LamFn (P : Program) (w : World) (K : PySem.W.Frag) (mg : Str → Option Value) (base : Heap) (k : Nat) (x : Str) (Fn : Lm → Sto → Out D) : Prop where
  at_ : ∃ (st : Stmt) (g : Addr) (fd : FuncData) (Ng : List Str) (a : Str) (fin : Nat → D → Sto → Out D) (b : Lm → DS), L2.Fun K x x st g fd ∧ mg x = some (.ref g) ∧ Binds K fd [a] [] ∧ FnScope Ng [a] (defScope st) ∧ Ng[0]? = some a ∧ Vis (defScope st) a ∧
    (a == ("__debug__" : Str)) = false ∧ (a == ("__classdict__" : Str)) = false ∧ (∀ i : Tbl, @FinOk i fin) ∧ Fn = fnLam Ng.length fin b ∧
    ∀ (call : Lm) (cdv : Value) (A : Around) (outer : List Env) (s : Shared) (H : Hp) (E : XK) (i2 : Tbl), Room k (A.deeper (envOfC x (defScope st) s.heap.objs.size g cdv)) → A.guards = some [] →
      (∀ (W : EXK) (pn : List (Addr × Obj)) (xe : Value → Shared → Prop) (p1 p2 : Pos), Takes ((cxOf CX0 P w K mg base Ng x (defScope st) g cdv A outer s H E).tr pn xe) W →
        PE ((cxOf CX0 P w K mg base Ng x (defScope st) g cdv A outer s H E).tr pn xe) (.Call (.Name a p1) [] [] p2) (@tD i2 ((cxOf CX0 P w K mg base Ng x (defScope st) g cdv A outer s H E).tr pn xe) W (mLamC call))) →
      PSs (cxOf CX0 P w K mg base Ng x (defScope st) g cdv A outer s H E).nox (defBody st) (@tS i2 (cxOf CX0 P w K mg base Ng x (defScope st) g cdv A outer s H E).nox W0 (b call))
omit inst in
theorem LamFn.mono {P : Program} {w : World} {K : PySem.W.Frag} {mg : Str → Option Value} {base : Heap} {j k : Nat} {x : Str} {Fn : Lm → Sto → Out D} (h : LamFn P w K mg base j x Fn) (hk : j ≤ k) : LamFn P w K mg base k x Fn := by
  obtain ⟨st, g, fd, Ng, a, fin, b, h1, h2, h3, h4, h5, h6, h7, h8, h9, h10, h11⟩ := h.at_
  exact ⟨⟨st, g, fd, Ng, a, fin, b, h1, h2, h3, h4, h5, h6, h7, h8, h9, h10, fun call cdv A outer s H E i2 hr => h11 call cdv A outer s H E i2 (hr.mono hk)⟩⟩
section
variable {X : Cx} {pins : List (Addr × Obj)} {σ : L2.St} {H : Hp} {s : Shared}
/-- the lambda called, in the def that got it -/
theorem lam_act {Ng : List Str} {qg : Str} {sg : Scope} {g f c' : Addr} {cdg pm ctv : Value} {Eg : XK} {params : Arguments} {body : Expr} {scope : Scope} {k : Nat} {a : Str} {pn : List (Addr × Obj)} {xe : Value → Shared → Prop} {W : EXK} {p1 p2 : Pos} {m : DE} {env : DEnv} {F : Hp} {r : List Addr}
    (I : Inv X pins σ H s) (L : LamX.LamS X.env.scope scope) (hf : s.heap.get? f = some (PySem.W.kla_obj "<lambda>" (X.env.qual ++ "<lambda>") params body scope (cloFrom X.env.cells scope.names []) pm c' ctv)) (hfn : H f = none) (hfr : f ∉ frs X.stack)
    (hbind : bindArgs (PySem.W.kla_fn "<lambda>" (X.env.qual ++ "<lambda>") params body scope (cloFrom X.env.cells scope.names []) pm (.ref c') ctv) ⟨[], []⟩ = pure [])
    (hE : EnvR (gd X) F r env σ) (og : Sub inst.F F ∧ inst.r <+: r)
    (tk : Takes ((cxOf CX0 X.prog X.w X.K X.mg X.base Ng qg sg g cdg X.A X.stack s H Eg).tr pn xe) W) (hr : Room (k + 1) (X.A.deeper (envOfC qg sg s.heap.objs.size g cdg))) (hgd : X.A.guards = some [])
    (hbody : ∀ (A : Around) (outer : List Env) (s : Shared) (H : Hp) (E : XK), Room k (A.deeper (LamX.lamEnv X scope s.heap.objs.size f c')) → A.guards = some [] → Takes (LamX.lamCx X A outer s H E scope f c') (fun cls d _ H => E cls d H) →
      PE (LamX.lamCx X A outer s H E scope f c') body (tD (LamX.lamCx X A outer s H E scope f c') (fun cls d _ H => E cls d H) m))
    (hN : Ng[0]? = some a) (hv : Vis sg a) (hd : (a == ("__debug__" : Str)) = false) (hcd : (a == ("__classdict__" : Str)) = false) :
    PE ((cxOf CX0 X.prog X.w X.K X.mg X.base Ng qg sg g cdg X.A X.stack s H Eg).tr pn xe) (.Call (.Name a p1) [] [] p2)
      (@tD (tbL inst F r f c' (X.env.qual ++ "<lambda>")) ((cxOf CX0 X.prog X.w X.K X.mg X.base Ng qg sg g cdg X.A X.stack s H Eg).tr pn xe) W (mLamC fun M => m env M)) := by
  refine ⟨fun pinsZ sZ σZ HZ Q IZ h => ?_⟩
  obtain ⟨F2, r2, R2, envZ, M2, hEZ, hSZ, hp⟩ := h
  unfold mLamC at hp
  split at hp
  · rename_i e0
    have hs : σZ[0]? = some (some (.ref f)) := hEZ.cur1 e0
    have hc : HZ c' = some (LamX.CodeO c' (X.env.qual ++ "<lambda>")) := hSZ.res1 _ _ (hSZ.rs1.cd1 (c', _) List.mem_cons_self)
    refine wpAny_Call_Name_kw (thn ((pe_var (pos := p1) (i := 0) hN hv hd hcd).run pinsZ sZ σZ HZ (fun v H1 => v = .ref f ∧ H1 = HZ) IZ ⟨.ref f, hs, rfl, rfl⟩) fun u s1 ⟨v, H1, I1, r1, q1, q2⟩ => ?_)
    subst q1 q2
    obtain rfl : u = Value.ref f := r1
    have at1 : s1.heap.get? f = some (PySem.W.kla_obj "<lambda>" (X.env.qual ++ "<lambda>") params body scope (cloFrom X.env.cells scope.names []) pm c' ctv) := I1.base.keep f _ hf hfn hfr (fun z => nomatch (show f ∈ ([] : List Addr) from z))
    refine PySem.W.callWith_F0 ⟨_, _, _, _, at1⟩ ?_
    have un : Un (frs X.stack) [] H H1 s.heap s1.heap := I1.base
    obtain ⟨⟨oc, vs, t, hoc, hdc, hvc⟩, _, _⟩ := I1.hok c' _ hc
    refine wpAny_call ?_
    have rc : codeAny (model X.prog X.w) (X.A.deeper (envOfC qg sg s.heap.objs.size g cdg)) (.call (.ref f) ⟨[], []⟩) (CR (L2.CX X.prog X.w) (envOfC qg sg s.heap.objs.size g cdg :: X.stack) X.prog X.w H1 s1 Q fun cls d H => W cls d σZ H) s1 := by
      refine PySem.W.kla_callFunE hr.depth at1 rfl L.co L.gen rfl ⟨c', oc, vs, t, rfl, hoc, hdc, hvc⟩ ?_
      rw [hbind]
      refine wpAny_pure (wpAny_newFunctionEnv (fun y hy => (L.own y hy).2) (fun y hy => absurd hy (by simp)) (fun h1 hns hsb => ⟨I1.nolimit.fresh _ hsb, ?_⟩) L.kind)
      have kp : ∀ b o, s1.heap.get? b = some o → h1.get? b = some o := fun b o e => hsb.extBut b o (Nat.ne_of_lt (Heap.lt_size e)) (Heap.get?_push_of_some _ e)
      have J : Inv (LamX.lamCx X (X.A.deeper (envOfC qg sg s.heap.objs.size g cdg)) (envOfC qg sg s.heap.objs.size g cdg :: X.stack) s1 H1 (fun cls d H => W cls d σZ H) scope f c') [] σ H1 { s1 with heap := h1, toks := s1.toks + ([] : List (Str × Value)).length } :=
        LamX.lam_start2 I L I1.env0 hr.hd un hns kp
      show codeAny _ _ (.expr body (LamX.lamEnv X scope s1.heap.objs.size f c')) _ _
      refine PySem.W.kla_codeExpr (wpAny_mono ((hbody _ _ s1 H1 _ (hr.deeper _) hgd (takes_of rfl rfl rfl rfl)).run [] _ _ H1 Q J ?_) (fun v s' ⟨w', H', J', rv, q⟩ => ⟨w', H', J'.os, J'.bare, J'.base, J'.hok, rv, q⟩) fun e s' hq => hq)
      have s2 := hSZ.og1.1
      have p2' := hSZ.og1.2
      have rs := hSZ.rs1
      refine ⟨F2, r2, R2, env, M2, hE.mono s2 p2', StoR.back og rs.out (fun _ _ z => z) hSZ, Out.post_imp hp (fun d M' z => ?_) fun e M' z => ?_⟩
      · intro F' r' H' v s3 p3 S3 R3
        exact z F' r' H' v s3 p3 (StoR.fwd (s2.trans s3) (p2'.trans p3) rs S3) R3
      · intro F' r' H' cls d s3 p3 S3 R3
        exact z F' r' H' cls d s3 p3 (StoR.fwd (s2.trans s3) (p2'.trans p3) rs S3) R3
    refine codeAny_mono rc fun res s' hq => ?_
    cases res with
    | error e => exact tk e s' (XE.of_call I1 (fun _ _ _ z => z) hq)
    | ok fl =>
      cases fl with
      | ret u => exact I1.after hq
      | next => exact False.elim hq
      | brk => exact False.elim hq
      | cont => exact False.elim hq
  · exact hp.elim
end
end EV
set_option maxHeartbeats 4000000
namespace EV
open PySem PySem.Spec PyProof.Rows L2
/-- where lambdas are made: the def's code object, its table -/
structure LamAt [Tbl] (base : Heap) (mg : Str → Option Value) (cdv : Value) (q : Str) : Prop where
  at_ : ∃ c P, cdv = .ref c ∧ (P, q) ∈ Tbl.T ∧ (∀ p ∈ Tbl.T, p.1 = P → p.2 = q) ∧ LamX.TabB base mg c P
variable [inst : Tbl]
theorem start_lam {G : Gd} {F : Hp} {r : List Addr} {f : Addr} {Ng : List Str} (i2 : Tbl) (h : i2.f = f) (hN : 1 ≤ Ng.length) : @EnvR i2 G F r (some (D.cur true) :: List.replicate (Ng.length - 1) none) (L2.start Ng [.ref f]) := by
  unfold L2.start
  refine ⟨by rw [List.length_cons, List.length_append, List.length_map, List.length_replicate, List.length_replicate]; simp only [List.length_cons, List.length_nil]; omega, fun i d e => ?_⟩
  cases i with
  | zero =>
    have e : some (some (D.cur true)) = some (some d) := e
    cases e
    exact ⟨.ref f, rfl, (by show V.ref f = .ref i2.f; rw [h])⟩
  | succ i =>
    have e : (List.replicate (Ng.length - 1) (none : Option D))[i]? = some (some d) := e
    rw [List.getElem?_replicate] at e
    split at e <;> cases e
theorem post_lam {i2 : Tbl} {G : Gd} {F : Hp} {r : List Addr} {R R0 : Hp} {M : Sto} {H : Hp} {N : Nat} {fin : Nat → D → Sto → Out D} {b : Lm → DS} {call : Lm} {Q : VK} (hfin : @FinOk i2 fin) (S : @StoR i2 G F r R M H)
    (bk : ∀ {F' r' M' H'}, @StoR i2 G F' r' R M' H' → @StoR inst G F' r' R0 M' H') (h : (fnLam N fin b call M).post (@OKx inst D V Rep G F r R0 Q) fun _ _ => False) :
    (b call (some (D.cur true) :: List.replicate (N - 1) none) M).post (@wsh i2 G F r R W0 { nx := fun _ H' => Q .non H', rt := Q }) := by
  have hk0 : i2.r.length ≤ M.length := by
    have := S.og1.2.length_le
    obtain ⟨l, _⟩ := S
    rw [l]; exact this
  have hl : M.length = r.length := by obtain ⟨l, _⟩ := S; exact l
  have cut : ∀ {r' : List Addr}, r <+: r' → r'.take M.length = r := fun {r'} p => by
    obtain ⟨t, rfl⟩ := p
    rw [hl, List.take_append_of_le_length (Nat.le_refl _), List.take_length]
  unfold fnLam at h
  split at h
  · rename_i d M' e
    rw [e]
    intro F' r' H' v s p S' q
    obtain ⟨F2, r2, d2, M2, s2, p2, S2, q2, hq⟩ := hfin G F' r' R M' H' M.length d v _ _ hk0 S' q h
    rw [cut p] at p2
    exact hq F2 r2 H' v (s.trans s2) p2 (bk S2) q2
  · rename_i env' M' e
    rw [e]
    intro F' r' H' σ' s p hE S'
    obtain ⟨F2, r2, d2, M2, s2, p2, S2, q2, hq⟩ := hfin G F' r' R M' H' M.length .non .non _ _ hk0 S' (by rw [rep_non]) h
    rw [cut p] at p2
    exact hq F2 r2 H' .non (s.trans s2) p2 (bk S2) q2
  · exact h.elim
section
variable {X : Cx} {W : EXK}
theorem ev_lamcall {k : Nat} {x : Str} {Fn : Lm → Sto → Out D} {params : Arguments} {body : Expr} {scope : Scope} {m : DE} {p lpos pos : Pos} (LF : LamFn X.prog X.w X.K X.mg X.base (k + 1) x Fn) (hr : Room (k + 2) X.A) (hgd : X.A.guards = some []) (hg : Gl X x)
    (hL : LamAt X.base X.mg X.env.code (X.env.qual ++ "<lambda>")) (L : LamX.LamS X.env.scope scope) (hdef : defaultsOf params X.env = ([], []))
    (hbind : ∀ (q : Str) (cl : List (Str × Addr)) (pm cv ctv : Value), bindArgs (PySem.W.kla_fn "<lambda>" q params body scope cl pm cv ctv) ⟨[], []⟩ = pure [])
    (hbody : ∀ (A : Around) (outer : List Env) (s : Shared) (H : Hp) (E : XK) (f c' : Addr), Room k (A.deeper (LamX.lamEnv X scope s.heap.objs.size f c')) → A.guards = some [] → Takes (LamX.lamCx X A outer s H E scope f c') (fun cls d _ H => E cls d H) →
      PE (LamX.lamCx X A outer s H E scope f c') body (tD (LamX.lamCx X A outer s H E scope f c') (fun cls d _ H => E cls d H) m))
    (hdb : (x == ("__debug__" : Str)) = false := by decide) :
    PE X (.Call (.Name x p) [.Lambda params body scope lpos] [] pos) (tD X W (mLamCall Fn m)) := by
  obtain ⟨c, P, hcode, hmT, hu, TB⟩ := hL.at_
  obtain ⟨st, g, fd, Ng, a, fin, b, T, hm, hb, S, hN, hv, hd, hcd, hfin, hFn, hrun⟩ := LF.at_
  obtain ⟨oc, od, kV, doc, pm, an, cdv, ct, osl, hfd, lk, hcg⟩ := id T.ex
  subst hfd
  refine ⟨fun pins s σ H Q I h => ?_⟩
  obtain ⟨F, r, R, env, M, hE, hS, hp⟩ := h
  refine wpAny_Call_Name_kw (ld_glob I hg hm ?_ hdb)
  refine PySem.W.callWith_K (h₀ := X.base) I.ok.mod.kin T.kp ?_ (by rfl) (by rfl)
  show wpAny _ _ (spliced ((false, eval (.Lambda params body scope lpos) X.env) :: backTo pos (starEach [] X.env))) _ _ s
  refine Calls.spliced_cons (LamX.lam_make2 I TB hcode hmT hu hS.ax.tb hdef (L.has I.ok) fun f c' pm' ctv H1 s' I1 eN T1 hf hfn hfr hco => ?_)
  refine Calls.spliced_nil ⟨I1.kIn, ?_⟩
  have S1 := hS.lam (f := f) eN T1 hco
  have sR : Sub R (upd R c' (LamX.CodeO c' (X.env.qual ++ "<lambda>"))) := fun y u z => by
    by_cases hy : y = c'
    · subst hy
      rw [upd_same]
      have := eN _ _ (hS.res _ _ z) (hS.ax.nr.nr _ _ z)
      rw [hco] at this
      exact this
    · rw [upd_ne hy]; exact z
  have hps := noExc_post hp
  rw [hFn] at hps
  have rc : codeAny (model X.prog X.w) X.A (.call (.ref g) ⟨[.ref f], []⟩) (CR CX0 X.stack X.prog X.w H1 s' Q fun _ _ _ => False) s' := by
    refine LamX.run_ofS (k := k + 1) (N := Ng) (ps := [a]) (us := [.ref f]) (vs := [.ref f]) lk hcg S hr I1.env0 (hb s' [.ref f] I1.kIn rfl) (.cons rfl .nil) rfl fun hr' => ?_
    have hr1 : Room (k + 1) (X.A.deeper (envOfC x (defScope st) s'.heap.objs.size g cdv)) := hr'
    have der := hrun (fun M' => m env M') cdv X.A X.stack s' H1 (fun _ _ _ => False) (tbL inst F r f c' (X.env.qual ++ "<lambda>")) hr1 hgd (fun W' pn xe p1 p2 tk =>
      lam_act I1 L hf hfn hfr (hbind _ _ _ _ _) hE hS.og tk hr1 hgd (fun A outer s H E hr2 hgd2 tk2 => hbody A outer s H E f c' hr2 hgd2 tk2) hN hv hd hcd)
    refine ⟨_, der.nox, ?_⟩
    refine ⟨F, r, _, some (D.cur true) :: List.replicate (Ng.length - 1) none, M, start_lam _ rfl ?_, S1, ?_⟩
    · cases Ng with
      | nil => cases hN
      | cons _ _ => exact Nat.succ_le_succ (Nat.zero_le _)
    · exact post_lam (hfin _) S1 (fun z => StoR.back hS.og hS.ax.nr sR z) (Out.post_imp hps (fun _ _ z => z) fun _ _ z => z)
  refine wpAny_call (codeAny_mono rc fun res s2 hq => ?_)
  cases res with
  | error e => exact (show False from hq).elim
  | ok fl =>
    cases fl with
    | ret u => exact I1.after hq
    | next => exact False.elim hq
    | brk => exact False.elim hq
    | cont => exact False.elim hq
end
end EV
set_option maxHeartbeats 4000000
/-! repr of data with dicts; defs that make lambdas -/
namespace EV
open PySem PySem.Spec PyProof.Rows L2
variable [inst : Tbl]
def keyP : Key → PyData
  | .inl i => .int i
  | .inr x => .str x
/-- a value as data, dicts too -/
def pyK (M : Sto) : Nat → D → Option PyData
  | 0, _ => none
  | f + 1, d => match d with
    | .non => some .none
    | .bl b => some (.bool b)
    | .int i => some (.int i)
    | .str x => some (.str x)
    | .tup xs => (pyD.allM (pyK M f) xs).map .tuple
    | .lst xs => (pyD.allM (pyK M f) xs).map .list
    | .dct kvs => (pyD.allM (pyK M f) (kvs.map (·.2))).map fun vs => .dict ((kvs.map fun kv => keyP kv.1).zip vs)
    | .ref n => match M[n]? with
      | some (.lst xs) => (pyD.allM (pyK M f) xs).map .list
      | some (.dct kvs) => (pyD.allM (pyK M f) (kvs.map (·.2))).map fun vs => .dict ((kvs.map fun kv => keyP kv.1).zip vs)
      | _ => none
    | _ => none
section
variable {X : Cx} {pins : List (Addr × Obj)} {σ : L2.St} {H F R : Hp} {r : List Addr} {M : Sto} {s : Shared}
theorem allM_len {g : D → Option PyData} : ∀ {xs : List D} {ps : List PyData}, pyD.allM g xs = some ps → ps.length = xs.length
  | [], ps, h => by cases h; rfl
  | x :: xs, ps, h => by
    unfold pyD.allM at h
    cases e1 : g x with
    | none => rw [e1] at h; cases h
    | some y =>
      rw [e1] at h
      cases e2 : pyD.allM g xs with
      | none => rw [e2] at h; cases h
      | some ys =>
        rw [e2] at h
        cases h
        rw [List.length_cons, List.length_cons, allM_len e2]
theorem reads_all {F : Hp} {r : List Addr} {g : D → Option PyData} (hg : ∀ d v u p, Rep (gd X) F r d v → RelV v u → g d = some p → ∃ as, Reads s.heap u p as ∧ sysModules ∉ as) : ∀ {xs : List D} {vs : List V} {us : List Value} {ps : List PyData}, Reps (gd X) F r xs vs → Vals vs us → pyD.allM g xs = some ps →
    ∃ as, ReadsAll s.heap us ps as ∧ sysModules ∉ as
  | [], vs, us, ps, h, rv, e => by
    cases e
    cases h.inv0
    cases rv
    exact ⟨_, .nil, by simp⟩
  | x :: xs, vs, us, ps, h, rv, e => by
    unfold pyD.allM at e
    obtain ⟨v, w, rfl, a, b⟩ := h.inv
    cases rv with
    | cons r1 r2 =>
      cases e1 : g x with
      | none => rw [e1] at e; cases e
      | some y =>
        rw [e1] at e
        cases e2 : pyD.allM g xs with
        | none => rw [e2] at e; cases e
        | some ys =>
          rw [e2] at e
          cases e
          obtain ⟨as, q1, n1⟩ := hg _ _ _ _ a r1 e1
          obtain ⟨bs, q2, n2⟩ := reads_all hg b r2 e2
          exact ⟨_, .cons q1 q2, by rw [List.mem_append]; exact fun z => z.elim n1 n2⟩
theorem reads_keys {P : Program} {w : World} : ∀ {es : List DictEntry} {kvs : List (Key × Value)}, Pairs (mixKind P w) es kvs → ∃ as, ReadsAll s.heap (es.map (·.key)) (kvs.map fun kv => keyP kv.1) as ∧ sysModules ∉ as
  | [], kvs, h => by
    cases h
    exact ⟨_, .nil, by simp⟩
  | e :: es, kvs, h => by
    cases h with
    | @cons _ kv _ kvs h1 h2 h3 =>
      obtain ⟨as, q, n⟩ := reads_keys h3
      rcases keyIs_shape h1 with ⟨i, t, z1, z2⟩ | ⟨x, t, z1, z2⟩
      · refine ⟨[] ++ as, ?_, by simpa using n⟩
        show ReadsAll s.heap (e.key :: es.map (·.key)) (keyP kv.1 :: kvs.map fun kv => keyP kv.1) _
        rw [z1, z2]
        exact .cons (.int i t) q
      · refine ⟨[] ++ as, ?_, by simpa using n⟩
        show ReadsAll s.heap (e.key :: es.map (·.key)) (keyP kv.1 :: kvs.map fun kv => keyP kv.1) _
        rw [z1, z2]
        exact .cons (.str x t) q
theorem pairs_vals {P : Program} {w : World} : ∀ {es : List DictEntry} {kvs : List (Key × Value)}, Pairs (mixKind P w) es kvs → es.map (·.val) = kvs.map (·.2)
  | [], kvs, h => by cases h; rfl
  | e :: es, kvs, h => by
    cases h with
    | cons h1 h2 h3 => rw [List.map_cons, List.map_cons, pairs_vals h3, h2]
theorem repK_vals {G : Gd} {F : Hp} {r : List Addr} : ∀ {kvs : List (Key × D)} {kws : List (Key × V)} {us : List (Key × Value)}, RepK G F r kvs kws → KV kws us → Reps G F r (kvs.map (·.2)) (kws.map (·.2)) ∧ Vals (kws.map (·.2)) (us.map (·.2)) ∧ (us.map fun kv => keyP kv.1) = kvs.map fun kv => keyP kv.1
  | [], kws, us, h, k => by
    unfold RepK at h
    subst h
    cases k
    exact ⟨.nil, .nil, rfl⟩
  | (c, d) :: kvs, kws, us, h, k => by
    unfold RepK at h
    obtain ⟨v, w, rfl, a, b⟩ := h
    cases k with
    | @cons _ u _ us k1 k2 =>
      obtain ⟨e1, e2, e3⟩ := repK_vals b k2
      obtain ⟨k3, k4⟩ := k1
      exact ⟨.cons a e1, .cons k4 e2, by rw [List.map_cons, List.map_cons, e3, ← k3]⟩
/-- what a value comes to as data -/
theorem reads_of (I : Inv X pins σ H s) (S : StoR (gd X) F r R M H) (hs : SysB X.base) : ∀ {f : Nat} {r' : List Addr} {d : D} {v : V} {u : Value} {p : PyData}, r' <+: r → Rep (gd X) F r' d v → RelV v u → pyK M f d = some p → ∃ as, Reads s.heap u p as ∧ sysModules ∉ as
  | 0, r', d, v, u, p, _, _, _, e => by cases e
  | f + 1, r', d, v, u, p, hp, h, rv, e => by
    have ih := fun d v u p => @reads_of I S hs f r' d v u p hp
    obtain ⟨oS, esS, nS, kS, dS⟩ := hs
    have sysD : s.heap.get? sysModules = some oS := I.bk _ _ kS
    have noseq : ∀ {a : Addr} {o : Obj} {vs : Array Value} {n : Nat}, s.heap.get? a = some o → o.data = .seq vs n → sysModules ≠ a := fun {a o vs n} e1 e2 z => by
      subst z
      rw [sysD] at e1
      cases e1
      rw [dS] at e2
      cases e2
    have dict : ∀ {a : Addr} {kvs : List (Key × D)} {kws : List (Key × V)} {ps : List PyData} {r2 : List Addr}, r2 <+: r → H a = some (.dK kws) → RepK (gd X) F r2 kvs kws → pyD.allM (pyK M f) (kvs.map (·.2)) = some ps → ∃ as, Reads s.heap (.ref a) (.dict ((kvs.map fun kv => keyP kv.1).zip ps)) as ∧ sysModules ∉ as := by
      intro a kvs kws ps r2 hp2 hH hK e1
      obtain ⟨_, hsys, us, hkv, o, es, ep, ho, hx, hd, _, hpr, _⟩ := I.hok a _ hH
      obtain ⟨q1, q2, q3⟩ := repK_vals hK hkv
      obtain ⟨as, k1, n1⟩ := reads_keys (s := s) hpr
      obtain ⟨bs, k2, n2⟩ := reads_all (fun d v u p => @reads_of I S ⟨oS, esS, nS, kS, dS⟩ f r2 d v u p hp2) q1 q2 e1
      have hl := allM_len e1
      rw [List.length_map] at hl
      refine ⟨_, Reads.dict (as := as) (bs := bs) ho hx.1 hd (kvs := (kvs.map fun kv => keyP kv.1).zip ps) ?_ ?_, ?_⟩
      · rw [List.map_fst_zip (by rw [List.length_map, hl]; exact Nat.le_refl _), ← q3]
        exact k1
      · rw [List.map_snd_zip (by rw [List.length_map, hl]; exact Nat.le_refl _), pairs_vals hpr]
        exact k2
      · have : sysModules ≠ a := fun z => by
          subst z
          simp at hsys
        simp only [List.cons_append, List.mem_cons, List.mem_append]
        rintro (z | z | z)
        · exact this z
        · exact n1 z
        · exact n2 z
    unfold pyK at e
    cases d with
    | non => cases e; rw [rep_non] at h; subst h; cases rv; exact ⟨_, .none, by simp⟩
    | bl b => cases e; rw [rep_bl] at h; subst h; cases rv; exact ⟨_, .bool b, by simp⟩
    | int b => cases e; rw [rep_int] at h; subst h; obtain ⟨t, rfl⟩ := rv; exact ⟨_, .int b t, by simp⟩
    | str b => cases e; rw [rep_str] at h; subst h; obtain ⟨t, rfl⟩ := rv; exact ⟨_, .str b t, by simp⟩
    | tup xs =>
      simp only at e
      obtain ⟨ps, e1, rfl⟩ := Option.map_eq_some_iff.mp e
      rw [rep_tup] at h
      obtain ⟨a, vs, rfl, q, z⟩ := h
      cases rv
      obtain ⟨its, rw', ⟨o, ho, hc, n, hd⟩, _⟩ := I.tuple (S.sub.tq q)
      obtain ⟨as, hr, hn⟩ := reads_all ih z rw' e1
      exact ⟨_, .tuple ho hc hd hr, hn⟩
    | lst xs =>
      simp only at e
      obtain ⟨ps, e1, rfl⟩ := Option.map_eq_some_iff.mp e
      rw [rep_lst] at h
      obtain ⟨a, vs, rfl, q, z⟩ := h
      cases rv
      obtain ⟨its, rw', ⟨o, n, ho, hc, _, hd⟩, _⟩ := I.list (S.sub.lstR q).sq
      obtain ⟨as, hr, hn⟩ := reads_all ih z rw' e1
      refine ⟨_, .list ho hc hd hr, ?_⟩
      rw [List.mem_cons]
      exact fun z => z.elim (noseq ho hd) hn
    | dct kvs =>
      simp only at e
      obtain ⟨ps, e1, rfl⟩ := Option.map_eq_some_iff.mp e
      rw [rep_dct] at h
      obtain ⟨a, vs, rfl, q, z⟩ := h
      cases rv
      exact dict hp (S.sub _ _ q) z e1
    | ref n =>
      simp only at e
      rw [rep_ref] at h
      obtain ⟨a, ha, rfl⟩ := h
      cases rv
      have ha := pre_get hp ha
      split at e
      · rename_i xs eo
        obtain ⟨ps, e1, rfl⟩ := Option.map_eq_some_iff.mp e
        obtain ⟨vs, h1, h2⟩ := S.at_ n a _ ha eo
        obtain ⟨its, rw', ⟨o, n', ho, hc, _, hd⟩, _⟩ := I.list (X := X) (SqL.of h1)
        obtain ⟨as, hr, hn⟩ := reads_all (fun d v u p => @reads_of I S ⟨oS, esS, nS, kS, dS⟩ f (r.take n) d v u p (take_pre _ _)) h2 rw' e1
        refine ⟨_, .list ho hc hd hr, ?_⟩
        rw [List.mem_cons]
        exact fun z => z.elim (noseq ho hd) hn
      · rename_i kvs eo
        obtain ⟨ps, e1, rfl⟩ := Option.map_eq_some_iff.mp e
        obtain ⟨vs, h1, h2⟩ := S.at_ n a _ ha eo
        exact dict (take_pre _ _) h1 h2 e1
      · cases e
    | ty _ => cases e
    | obj _ _ => cases e
    | dtu _ => cases e
    | cur _ => cases e
end
/-- repr of data -/
def dReprK : OpL := fun xs M => match xs with
  | [x] => match pyK M 12 x with
    | some p => if p.showable = true ∧ p.depth ≤ 40 ∧ p.shown.length ≤ lim then .ok (.str p.shown) M else .bad
    | none => .bad
  | _ => .bad
section
variable {X : Cx}
theorem r_reprK (hg : X.A.guards = some []) (hu : X.A.units + 64 < cLine) (hs : SysB X.base) : SL X (.builtin "repr") dReprK := by
  intro pins s σ H xs us Q I rv hq
  obtain ⟨F, r, R, M, as, S, ra, hp⟩ := hq
  unfold dReprK at hp
  split at hp
  · rename_i x
    split at hp
    · rename_i p e
      split at hp
      · rename_i hk
        obtain ⟨hsh, hdp, hln⟩ := hk
        obtain ⟨v, rfl, q1⟩ := ra.inv1
        obtain ⟨u, rfl, rx⟩ := vals1 rv
        have hQ := OKx.flat hp S (.str _)
        obtain ⟨bs, hr, hn⟩ := reads_of I S hs (List.prefix_refl _) q1 rx e
        have fin : ∀ (h' : Heap) (tk : Tok) (t : Nat), (∀ b o, s.heap.get? b = some o → h'.get? b = some o) → EP X pins σ Q (.str p.shown tk) { s with heap := h', toks := t } := fun h' tk t hk => ⟨.str p.shown, H, I.kept (t' := t) hk, ⟨_, rfl⟩, hQ⟩
        have fin0 : ∀ (tk : Tok) (t : Nat), EP X pins σ Q (.str p.shown tk) { s with toks := t } := fun tk t => fin s.heap tk t fun _ _ z => z
        cases hr with
        | none => exact PySem.P.repr_of_none (fin0 _ _)
        | bool b => exact PySem.P.repr_of_bool (fin0 _ _)
        | int i t => exact PySem.P.repr_of_int (of_decide_eq_true hsh) (fin0 _ _)
        | str y t => exact PySem.P.repr_of_str (fin0 _ _) (lim_ok hln)
        | list h1 h2 h3 h4 => exact repr_of_reads' (Reads.list h1 h2 h3 h4) hsh (fun _ => hn) hg (by omega) (fun _ _ z => z) (fun h' u tk hk => fin h' u tk hk) (lim_ok hln)
        | tuple h1 h2 h3 h4 => exact repr_of_reads' (Reads.tuple h1 h2 h3 h4) hsh (fun _ => hn) hg (by omega) (fun _ _ z => z) (fun h' u tk hk => fin h' u tk hk) (lim_ok hln)
        | dict h1 h2 h3 h4 h5 => exact repr_of_reads' (Reads.dict h1 h2 h3 h4 h5) hsh (fun _ => hn) hg (by omega) (fun _ _ z => z) (fun h' u tk hk => fin h' u tk hk) (lim_ok hln)
      · exact hp.elim
    · exact hp.elim
  · exact hp.elim
end
theorem ri_div {X : Cx} : S2 X (inplaceOp .FloorDiv) dDiv := s2_int (gd' := fun i j => .int (i / j)) iop_fdivW (fun _ _ => .int _) fun a b M P h => by
  unfold dDiv at h
  split at h
  · split at h
    · rename_i hk
      exact ⟨_, _, rfl, rfl, divOk_c hk, h⟩
    · exact h.elim
  · exact h.elim
theorem ri_mod {X : Cx} : S2 X (inplaceOp .Mod) dMod := s2_int (gd' := fun i j => .int (i % j)) iop_mod (fun _ _ => .int _) fun a b M P h => by
  unfold dMod at h
  split at h
  · split at h
    · exact ⟨_, _, rfl, rfl, by assumption, h⟩
    · exact h.elim
  · exact h.elim
/-- a, b, c = x, y, z -/
def sPar3 (i j l : Nat) (as : DA) : DS := fun env M => (as env M).thenS env fun ds M1 => match ds with
  | [x, y, z] => .nx (((env.set i (some x)).set j (some y)).set l (some z)) M1
  | _ => .bad
theorem evs_par3 {X : Cx} {W : EXK} {i j l : Nat} {x y z : Str} {a b c : Expr} {ma mb mc : DE} {px py pz pt pos : Pos} {kt k2 pt2} (hc : X.calm = true) (hN : X.N.Nodup) (hi : X.N[i]? = some x) (hj : X.N[j]? = some y) (hl : X.N[l]? = some z) (hij : i ≠ j) (hil : i ≠ l) (hjl : j ≠ l)
    (hx : X.env.scope.names.lookup x = some .local) (hy : X.env.scope.names.lookup y = some .local) (hz : X.env.scope.names.lookup z = some .local) (ha : PE X a (tD X W ma)) (hb : PE X b (tD X W mb)) (hcc : PE X c (tD X W mc))
    (hw : swappedStores [.Tuple [.Name x px, .Name y py, .Name z pz] kt pt] (.Tuple [a, b, c] k2 pt2) X.env = pure (some [x, y, z]) := by rfl)
    (hs : swapsWithSole [.Tuple [.Name x px, .Name y py, .Name z pz] kt pt] (.Tuple [a, b, c] k2 pt2) pos.line X.env = pure false := by rfl) (he1 : starEach [a, b, c] X.env = (false, eval a X.env) :: starEach [b, c] X.env := by rfl) (he2 : starEach [b, c] X.env = (false, eval b X.env) :: starEach [c] X.env := by rfl) (he3 : starEach [c] X.env = (false, eval c X.env) :: starEach [] X.env := by rfl) :
    PS X (.Assign [.Tuple [.Name x px, .Name y py, .Name z pz] kt pt] (.Tuple [a, b, c] k2 pt2) pos) (tS X W (sPar3 i j l (aCons ma (aCons mb (aCons mc aNil))))) := by
  refine PS.imp (ps_par3 hc hN hi hj hl hij hil hjl hx hy hz (eva_cons ha (eva_cons hb (eva_cons hcc eva_nil he3) he2) he1) hw hs) fun Dn σ H h => ?_
  obtain ⟨F, r, R, env, M, hE, hS, hp⟩ := h
  refine tX.imp (thenS_bind hE hS hp) fun vs H1 ⟨F1, r1, M1, ds, s1, p1, hE1, hS1, R1, hp1⟩ => ?_
  split at hp1
  · rename_i d1 d2 d3
    obtain ⟨v1, w1, rfl, q1, R2⟩ := R1.inv
    obtain ⟨v2, v3, rfl, q2, q3⟩ := R2.inv2
    exact ⟨v1, v2, v3, rfl, hp1 F1 r1 H1 _ (Sub.refl _) (List.prefix_refl _) (((hE1.set q1 i).set q2 j).set q3 l) hS1⟩
  · exact hp1.elim
/-! ### defs that make lambdas -/
section
variable {P : Program} {w : World} {K : PySem.W.Frag} {mg : Str → Option Value} {base : Heap}
theorem fnD_okC {x qual : Str} {st : Stmt} {f : Addr} {fd : FuncData} {N ps : List Str} {k : Nat} {fin : Nat → D → Sto → Out D} {b : DS} (hfin : FinOk fin) (T : L2.Fun K x qual st f fd) (S : FnScope N ps (defScope st))
    (hb : ∀ (cdv : Value) (A : Around) (outer : List Env) (s : Shared) (H : Hp) (E : XK), CodeFor K f cdv → Room k (A.deeper (envOfC qual (defScope st) s.heap.objs.size f cdv)) → A.guards = some [] →
      PSs (cxOf CX0 P w K mg base N qual (defScope st) f cdv A outer s H E).nox (defBody st) (tS (cxOf CX0 P w K mg base N qual (defScope st) f cdv A outer s H E).nox W0 b)) : FnG P w K mg base CX0 (k + 1) f fd ps (spD0 ⟨K, mg⟩ ps.length (fnD ps.length N.length fin b)) := by
  obtain ⟨oc, od, kV, doc, pm, an, cdv, ct, osl, rfl, lk, hcd⟩ := T.ex
  have hle : ps.length ≤ N.length := by
    have := congrArg List.length S.pre
    rw [List.length_take] at this
    omega
  refine fnG_of lk hcd S (fun vs H Q E h => h.1) fun A outer s H vs Q E hr hgd hsp => ?_
  refine ⟨_, (hb cdv A outer s H E ⟨_, _, _, _, lk, rfl⟩ hr hgd).nox, ?_⟩
  obtain ⟨_, F, r, R, M, ds, q, Sg, hp⟩ := hsp
  obtain ⟨hl, hpost⟩ := post_fn (E := fun _ _ _ => False) hfin Sg (Out.post_imp hp (fun _ _ z => z) fun _ _ z => z.elim)
  exact ⟨F, r, R, ds.map some ++ List.replicate (N.length - ps.length) none, M, start_env q hl hle, Sg, hpost⟩
theorem FnAt.mkC {x y qual : Str} {st : Stmt} {f : Addr} {fd : FuncData} {N ps : List Str} {k : Nat} {fin : Nat → D → Sto → Out D} {b : DS} (hfin : FinOk fin) (T : L2.Fun K y qual st f fd) (hm : mg x = some (.ref f)) (hbi : Binds K fd ps []) (S : FnScope N ps (defScope st))
    (hb : ∀ (cdv : Value) (A : Around) (outer : List Env) (s : Shared) (H : Hp) (E : XK), CodeFor K f cdv → Room k (A.deeper (envOfC qual (defScope st) s.heap.objs.size f cdv)) → A.guards = some [] →
      PSs (cxOf CX0 P w K mg base N qual (defScope st) f cdv A outer s H E).nox (defBody st) (tS (cxOf CX0 P w K mg base N qual (defScope st) f cdv A outer s H E).nox W0 b)) : FnAt P w K mg base (k + 1) x ps.length (fnD ps.length N.length fin b) :=
  ⟨⟨f, fd, ps, hm, T.kp, hbi, rfl, fnD_okC hfin T S hb⟩, fun ds M h => by unfold fnD; rw [if_neg h]⟩
omit inst in
theorem code_is {h : Heap} (inK : K.In h) (G : h.Ns mainGlobals mg) {x : Str} {c T : Addr} (ht : PySem.W.tabIn K x = some (c, T)) {f : Addr} {cdv : Value} (hm : mg x = some (.ref f)) (hc : CodeFor K f cdv) : cdv = .ref c := by
  obtain ⟨oc, od, fd, osl, h1, h2⟩ := hc
  unfold PySem.W.tabIn at ht
  split at ht
  · rename_i f' hf
    have e1 := PySem.W.mg_of inK G hf
    rw [hm] at e1
    cases e1
    split at ht
    · rename_i hfo
      rw [h1] at hfo
      cases hfo
      split at ht
      · rename_i c' hcc
        split at ht
        · split at ht
          · cases ht
            exact h2.symm.trans hcc
          · cases ht
        · cases ht
      · cases ht
    · cases ht
  · cases ht
end
omit inst in
theorem msOk_nil {K : PySem.W.Frag} {mg : Str → Option Value} {hc : Value} : MsOk K mg hc [] := fun c k h => by cases h
omit inst in
theorem msOk_cons {K : PySem.W.Frag} {mg : Str → Option Value} {hc : Value} {c : Str} {b : Bool} {C : Addr} {r : List (Str × Bool)} (h1 : mg c = some (.ref C)) (h2 : PySem.W.exmOne K (.ref C) hc = some b) (h : MsOk K mg hc r) : MsOk K mg hc ((c, b) :: r) := fun c' k e C' hC => by
  rw [List.lookup_cons] at e
  cases hk : c' == c with
  | true =>
    rw [hk] at e
    cases e
    obtain rfl : c' = c := by simpa using hk
    rw [h1] at hC
    cases hC
    exact h2
  | false =>
    rw [hk] at e
    exact h c' k e C' hC
/-- a clause's class -/
def ClA (K : PySem.W.Frag) (mg : Str → Option Value) (c : Str) (ms : List (Str × Bool)) : Prop := ∃ C, mg c = some (.ref C) ∧ MsOk K mg (.ref C) ms
end EV
set_option maxHeartbeats 4000000
/-! plain evaluation: more rules -/
namespace EV
open PySem PySem.Spec PyProof.Rows L2
theorem eq_of_wp {α : Type} {o : Out α} {a : α} {M : Sto} (h : wp o fun x M' => x = a ∧ M' = M) : o = .ok a M := by
  obtain ⟨x, M', e, rfl, rfl⟩ := wp_eq h
  exact e
theorem wp_of_ok {α : Type} {o : Out α} {a : α} {M : Sto} {P : α → Sto → Prop} (h : o = .ok a M) (k : P a M) : wp o P := wp_of_eq h k
theorem ws_whileK {c : DT} {b : DS} {k : Nat} {env : DEnv} {M : Sto} {N : DEnv → Sto → Prop} {R : D → Sto → Prop} {B C : DEnv → Sto → Prop}
    (h : wp (c env M) fun t M1 => (t = true → ws (b env M1) (fun e M' => ws (whileK c b k e M') N R B C) R N (fun e M' => ws (whileK c b k e M') N R B C)) ∧ (t = false → N env M1)) : ws (whileK c b (k + 1) env M) N R B C := by
  unfold whileK
  refine ws_then (wp_mono h fun t M1 h => ?_)
  cases t with
  | false =>
    rw [if_neg (by decide)]
    exact h.2 rfl
  | true =>
    rw [if_pos rfl]
    have h1 := h.1 rfl
    cases hb : b env M1 with
    | nx e M2 => rw [hb] at h1; exact h1
    | ct e M2 => rw [hb] at h1; exact h1
    | rt d M2 => rw [hb] at h1; exact h1
    | bk e M2 => rw [hb] at h1; exact h1
    | exc x e M2 => rw [hb] at h1; exact h1.elim
    | bad => rw [hb] at h1; exact h1.elim
section
variable {env : DEnv} {M M1 M2 M3 : Sto} {as : DA} {ds : List D} {d x y : D} {a b : DE} {e : Exn}
theorem mCall_ok {F : DFn} (h : as env M = .ok ds M1) (k : F ds M1 = .ok d M2) : mCall F as env M = .ok d M2 := by
  unfold mCall; rw [h]; show noExc (F ds M1) = _; rw [k]; rfl
theorem mCallX_of {F : DFn} {o : Out D} (h : as env M = .ok ds M1) (k : F ds M1 = o) : mCallX F as env M = o := by
  unfold mCallX; rw [h]; exact k
theorem m2_ok {f : Op2} (h1 : a env M = .ok x M1) (h2 : b env M1 = .ok y M2) (h3 : f x y M2 = .ok d M3) : m2 f a b env M = .ok d M3 := by
  unfold m2; rw [h1]; show (Out.bind (b env M1) _) = _; rw [h2]; show noExc (f x y M2) = _; rw [h3]; rfl
theorem m1_ok {f : Op1} (h1 : a env M = .ok x M1) (h3 : f x M1 = .ok d M2) : m1 f a env M = .ok d M2 := by
  unfold m1; rw [h1]; show noExc (f x M1) = _; rw [h3]; rfl
theorem mL_ok {f : OpL} (h1 : as env M = .ok ds M1) (h3 : f ds M1 = .ok d M2) : mL f as env M = .ok d M2 := by
  unfold mL; rw [h1]; show noExc (f ds M1) = _; rw [h3]; rfl
theorem aCons_ok {r : DA} (h1 : a env M = .ok x M1) (h2 : r env M1 = .ok ds M2) : aCons a r env M = .ok (x :: ds) M2 := by
  unfold aCons; rw [h1]; show (Out.bind (r env M1) _) = _; rw [h2]; rfl
theorem aNil_ok : aNil env M = .ok [] M := rfl
theorem mVar_ok {i : Nat} (h : env[i]? = some (some d)) (hc : d.isCur = false := by rfl) : mVar i env M = .ok d M := by
  unfold mVar; rw [h]; simp only [hc, Bool.false_eq_true, if_false]
theorem mK_ok : mK d env M = .ok d M := rfl
theorem tst_ok {k : Bool} (h : a env M = .ok (.bl k) M1) : tst a env M = .ok k M1 := by
  unfold tst; rw [h]; rfl
theorem mTup_ok (h : as env M = .ok ds M1) (hl : ds.length ≤ lim) : mTup as env M = .ok (.tup ds) M1 := by
  unfold mTup; rw [h]; show (if ds.length ≤ lim then Out.ok (D.tup ds) M1 else .bad) = _; rw [if_pos hl]
theorem mLst_ok (h : as env M = .ok ds M1) (hl : ds.length ≤ lim) : mLst as env M = .ok (.lst ds) M1 := by
  unfold mLst; rw [h]; show (if ds.length ≤ lim then Out.ok (D.lst ds) M1 else .bad) = _; rw [if_pos hl]
theorem mAnd_t (h : a env M = .ok (.bl true) M1) (k : b env M1 = .ok d M2) : mAnd a b env M = .ok d M2 := by
  unfold mAnd; rw [h]; exact k
theorem mAnd_f (h : a env M = .ok (.bl false) M1) : mAnd a b env M = .ok (.bl false) M1 := by
  unfold mAnd; rw [h]; rfl
theorem sExpr_ok (h : a env M = .ok d M1) : sExpr a env M = .nx env M1 := by unfold sExpr; rw [h]; rfl
theorem sExpr_exc (h : a env M = .exc e M1) : sExpr a env M = .exc e env M1 := by unfold sExpr; rw [h]; rfl
theorem sRet_ok (h : a env M = .ok d M1) : sRet a env M = .rt d M1 := by unfold sRet; rw [h]; rfl
theorem sSeq_nx {p q : DS} {env1 : DEnv} {o : OutS} (h : p env M = .nx env1 M1) (k : q env1 M1 = o) : sSeq p q env M = o := by unfold sSeq; rw [h]; exact k
theorem sSeq_exc {p q : DS} {env1 : DEnv} (h : p env M = .exc e env1 M1) : sSeq p q env M = .exc e env1 M1 := by unfold sSeq; rw [h]
theorem sSeq_rt {p q : DS} (h : p env M = .rt d M1) : sSeq p q env M = .rt d M1 := by unfold sSeq; rw [h]
theorem sIf_t {c : DT} {p q : DS} {o : OutS} (h : c env M = .ok true M1) (k : p env M1 = o) : sIf c p q env M = o := by unfold sIf; rw [h]; exact k
theorem sIf_f {c : DT} {p q : DS} {o : OutS} (h : c env M = .ok false M1) (k : q env M1 = o) : sIf c p q env M = o := by unfold sIf; rw [h]; exact k
theorem sSet_ok {i : Nat} (h : a env M = .ok d M1) : sAsg a (gN i) env M = .nx (env.set i (some d)) M1 := by unfold sAsg; rw [h]; rfl
theorem nOr_t {p q : DT} (h : p env M = .ok true M1) : nOr p q env M = .ok true M1 := by unfold nOr; rw [h]; rfl
theorem nOr_f {p q : DT} {o : Out Bool} (h : p env M = .ok false M1) (k : q env M1 = o) : nOr p q env M = o := by unfold nOr; rw [h]; exact k
theorem nAnd_f {p q : DT} (h : p env M = .ok false M1) : nAnd p q env M = .ok false M1 := by unfold nAnd; rw [h]; rfl
theorem nAnd_t {p q : DT} {o : Out Bool} (h : p env M = .ok true M1) (k : q env M1 = o) : nAnd p q env M = o := by unfold nAnd; rw [h]; exact k
theorem nNot_ok {p : DT} {k : Bool} (h : p env M = .ok k M1) : nNot p env M = .ok (!k) M1 := by unfold nNot; rw [h]; rfl
theorem sRaiseV_ok {c f : Str} (h : a env M = .ok d M1) : sRaiseV c f a env M = .exc ⟨c, [(f, d)]⟩ env M1 := by unfold sRaiseV; rw [h]; rfl
end
theorem mRng2_ok {env : DEnv} {M M1 : Sto} {as : DA} {i j : Int} (h : as env M = .ok [.int i, .int j] M1) (b : -big ≤ i ∧ i ≤ big ∧ -big ≤ j ∧ j ≤ big) : mRng2 as env M = .ok (.imm (rngD i (j - i).toNat)) M1 := by
  unfold mRng2; rw [h]; show (if -big ≤ i ∧ i ≤ big ∧ -big ≤ j ∧ j ≤ big then Out.ok (Src.imm (rngD i (j - i).toNat)) M1 else .bad) = _; rw [if_pos b]
theorem mRng1_ok {env : DEnv} {M M1 : Sto} {as : DA} {i : Int} (h : as env M = .ok [.int i] M1) (b : -big ≤ i ∧ i ≤ big) : mRng1 as env M = .ok (.imm (rngD 0 i.toNat)) M1 := by
  unfold mRng1; rw [h]; show (if -big ≤ i ∧ i ≤ big then Out.ok (Src.imm (rngD 0 i.toNat)) M1 else .bad) = _; rw [if_pos b]
/-- a comprehension over a fixed row whose parts change nothing: item by item, some or none -/
theorem lcL_pure {g : CG} {c : DT} {e : DE} {env : DEnv} {M : Sto} (f : D → Option D) : ∀ {xs : List D},
    (∀ x ∈ xs, ∃ env1, g x env = some env1 ∧ ∃ t, c env1 M = .ok t M ∧ (t = false → f x = none) ∧ (t = true → ∃ y, e env1 M = .ok y M ∧ f x = some y)) → lcL g c e env xs M = .ok (xs.filterMap f) M
  | [], _ => rfl
  | x :: xs, h => by
    obtain ⟨env1, h1, t, h2, h3, h4⟩ := h x List.mem_cons_self
    have ih := lcL_pure f (xs := xs) fun y hy => h y (List.mem_cons_of_mem _ hy)
    unfold lcL
    rw [h1]
    simp only [h2, noExc, Out.bind]
    cases t with
    | false =>
      rw [if_neg (by decide), ih, List.filterMap_cons, h3 rfl]
    | true =>
      obtain ⟨y, h5, h6⟩ := h4 rfl
      rw [if_pos rfl, h5, List.filterMap_cons, h6]
      simp only [ih]
theorem mLc_pure {it : DI} {vs : List Nat} {g : CG} {c : DT} {e : DE} {env : DEnv} {M : Sto} {xs ys : List D} (hi : it env M = .ok (.imm xs) M) (h : lcL g c e (wipeD env vs) xs M = .ok ys M) (hl : ys.length ≤ lim) : mLc it vs g c e env M = .ok (.lst ys) M := by
  unfold mLc mLc0
  rw [hi]
  simp only [Out.bind, h, toLst]
  rw [if_pos hl]
theorem fnD_rt {n N : Nat} {fin : Nat → D → Sto → Out D} {b : DS} {ds : List D} {M M' : Sto} {d : D} (hn : ds.length = n) (h : b (ds.map some ++ List.replicate (N - n) none) M = .rt d M') : fnD n N fin b ds M = fin M.length d M' := by
  unfold fnD; rw [if_pos hn, h]
theorem fnD_nx {n N : Nat} {fin : Nat → D → Sto → Out D} {b : DS} {ds : List D} {M M' : Sto} {e : DEnv} (hn : ds.length = n) (h : b (ds.map some ++ List.replicate (N - n) none) M = .nx e M') : fnD n N fin b ds M = fin M.length .non M' := by
  unfold fnD; rw [if_pos hn, h]
theorem fnD_exc {n N : Nat} {fin : Nat → D → Sto → Out D} {b : DS} {ds : List D} {M M' : Sto} {x : Exn} {e : DEnv} (hn : ds.length = n) (h : b (ds.map some ++ List.replicate (N - n) none) M = .exc x e M') : fnD n N fin b ds M = excP M.length x M' := by
  unfold fnD; rw [if_pos hn, h]
theorem finP_same {d : D} {M : Sto} (h : below M.length d = true) : finP M.length d M = .ok d M := by
  unfold finP; rw [if_pos h, List.take_length]
/-- what an error leaves unchanged -/
def frzOk (d : D) : Prop := ∀ (M : Sto) (k : Nat), frz M k 9 d = some d
theorem excP_one {c f : Str} {d : D} {M : Sto} (h : frzOk d) : excP M.length ⟨c, [(f, d)]⟩ M = .exc ⟨c, [(f, d)]⟩ M := by
  unfold excP
  have : allD (sndD (frz M M.length 9)) [(f, d)] = some [(f, d)] := by
    unfold allD sndD
    rw [show (f, d).2 = d from rfl, h M M.length]
    rfl
  rw [this, List.take_length]
theorem excP_nil {c : Str} {M : Sto} : excP M.length ⟨c, []⟩ M = .exc ⟨c, []⟩ M := by
  unfold excP
  show (match allD (sndD (frz M M.length 9)) ([] : List (Str × D)) with
    | some fs => Out.exc ⟨c, fs⟩ (M.take M.length)
    | none => .bad) = _
  rw [show allD (sndD (frz M M.length 9)) ([] : List (Str × D)) = some [] from rfl, List.take_length]
end EV
set_option maxHeartbeats 4000000
/-! plain evaluation: numbers, rows of numbers, their texts, texts in a row -/
namespace EV
open PySem PySem.Spec PyProof.Rows L2
theorem ws_nxE {o : OutS} {e : DEnv} {M : Sto} {N : DEnv → Sto → Prop} {R : D → Sto → Prop} {B C : DEnv → Sto → Prop} (h : o = .nx e M) (k : N e M) : ws o N R B C := by
  subst h; exact k
theorem ws_rtE {o : OutS} {d : D} {M : Sto} {N : DEnv → Sto → Prop} {R : D → Sto → Prop} {B C : DEnv → Sto → Prop} (h : o = .rt d M) (k : R d M) : ws o N R B C := by
  subst h; exact k
theorem augE {f : Op2} {i : Nat} {e : DE} {env : DEnv} {M M1 M2 : Sto} {x y z : D} (h : env[i]? = some (some x)) (hc : x.isCur = false) (he : e env M = .ok y M1) (hf : f x y M1 = .ok z M2) : sAug f i e env M = .nx (env.set i (some z)) M2 := by
  unfold sAug
  rw [h]
  simp only [hc, Bool.false_eq_true, if_false, he, Out.bind, hf, noExc, Out.thenS]
theorem modE {i j : Int} {M : Sto} (h : 0 < j) : dMod (.int i) (.int j) M = .ok (.int (i % j)) M := by
  unfold dMod; simp only; rw [if_pos h]
theorem divE {i j : Int} {M : Sto} (h : divOk j = true) : dDiv (.int i) (.int j) M = .ok (.int (i / j)) M := by
  unfold dDiv; simp only; rw [if_pos h]
theorem mulE {i j : Int} {M : Sto} (h : mulOk i j = true) : dMul (.int i) (.int j) M = .ok (.int (i * j)) M := by
  unfold dMul; simp only; rw [if_pos h]
theorem imulE {i j : Int} {M : Sto} (h : mulOk i j = true) : dIMul (.int i) (.int j) M = .ok (.int (i * j)) M := by
  unfold dIMul; simp only; rw [if_pos h]
theorem divmE {i j : Int} {M : Sto} (h : divOk j = true) : dDivm [.int i, .int j] M = .ok (.tup [.int (i / j), .int (i % j)]) M := by
  unfold dDivm; simp only; rw [if_pos h]
theorem eqI {i j : Int} {M : Sto} : dEq (.int i) (.int j) M = .ok (.bl (decide (i = j))) M := rfl
theorem neI {i j : Int} {M : Sto} : dNe (.int i) (.int j) M = .ok (.bl (!decide (i = j))) M := rfl
theorem gtI {i j : Int} {M : Sto} : dGt (.int i) (.int j) M = .ok (.bl (decide (j < i))) M := rfl
theorem geI {i j : Int} {M : Sto} : dGe (.int i) (.int j) M = .ok (.bl (decide (j ≤ i))) M := rfl
theorem ltI {i j : Int} {M : Sto} : dLt (.int i) (.int j) M = .ok (.bl (decide (i < j))) M := rfl
theorem leI {i j : Int} {M : Sto} : dLe (.int i) (.int j) M = .ok (.bl (decide (i ≤ j))) M := rfl
theorem addI {i j : Int} {M : Sto} : dAdd (.int i) (.int j) M = .ok (.int (i + j)) M := rfl
theorem iaddI {i j : Int} {M : Sto} : dIAdd (.int i) (.int j) M = .ok (.int (i + j)) M := rfl
theorem subI {i j : Int} {M : Sto} : dSub (.int i) (.int j) M = .ok (.int (i - j)) M := rfl
theorem negI {i : Int} {M : Sto} : dNeg (.int i) M = .ok (.int (-i)) M := rfl
theorem neS {s : Str} {M : Sto} : dNe (.str s) (.str s) M = .ok (.bl false) M := by
  show Out.ok (D.bl (!decide (s = s))) M = _
  rw [decide_eq_true rfl]; rfl
theorem addS {s t : Str} {M : Sto} (h : s.length + t.length ≤ lim) : dAdd (.str s) (.str t) M = .ok (.str (s ++ t)) M := by
  show (if s.length + t.length ≤ lim then Out.ok (D.str (s ++ t)) M else .bad) = _
  rw [if_pos h]
theorem addT {xs ys : List D} {M : Sto} (h : xs.length + ys.length ≤ lim) : dAdd (.tup xs) (.tup ys) M = .ok (.tup (xs ++ ys)) M := by
  show (if xs.length + ys.length ≤ lim then Out.ok (D.tup (xs ++ ys)) M else .bad) = _
  rw [if_pos h]
theorem addL {xs ys : List D} {M : Sto} (h : xs.length + ys.length ≤ lim) : dAdd (.lst xs) (.lst ys) M = .ok (.lst (xs ++ ys)) M := by
  show (if xs.length + ys.length ≤ lim then Out.ok (D.lst (xs ++ ys)) M else .bad) = _
  rw [if_pos h]
theorem mIf_t {c : DT} {a b : DE} {env : DEnv} {M M1 : Sto} {o : Out D} (h : c env M = .ok true M1) (k : a env M1 = o) : mIf c a b env M = o := by
  unfold mIf; rw [h]; exact k
theorem mIf_f {c : DT} {a b : DE} {env : DEnv} {M M1 : Sto} {o : Out D} (h : c env M = .ok false M1) (k : b env M1 = o) : mIf c a b env M = o := by
  unfold mIf; rw [h]; exact k
theorem set_at {α : Type} (M : List α) (a b : α) : (M ++ [a]).set M.length b = M ++ [b] := by
  induction M with
  | nil => rfl
  | cons x M ih => show x :: (M ++ [a]).set M.length b = _; rw [ih]; rfl
/-! rows of ints -/
def intsR (ns : List Int) : List D := ns.map D.int
theorem allD_ints {M : Sto} {f : Nat} : ∀ ns : List Int, pyD.allM (pyD M (f + 1)) (intsR ns) = some (ns.map PyData.int)
  | [] => rfl
  | n :: ns => by
    have ih := allD_ints (M := M) (f := f) ns
    show pyD.allM (pyD M (f + 1)) (D.int n :: intsR ns) = _
    unfold pyD.allM
    rw [ih]; rfl
theorem allK_ints {M : Sto} {f : Nat} : ∀ ns : List Int, pyD.allM (pyK M (f + 1)) (intsR ns) = some (ns.map PyData.int)
  | [] => rfl
  | n :: ns => by
    have ih := allK_ints (M := M) (f := f) ns
    show pyD.allM (pyK M (f + 1)) (D.int n :: intsR ns) = _
    unfold pyD.allM
    rw [ih]; rfl
theorem canLay_ints : ∀ ns : List Int, PyData.canLayAll0 (ns.map PyData.int) = true
  | [] => by simp [PyData.canLayAll0]
  | n :: ns => by simp [PyData.canLayAll0, PyData.canLay0]; exact canLay_ints ns
theorem depth_ints : ∀ ns : List Int, PyData.depthAll (ns.map PyData.int) = 0
  | [] => by simp [PyData.depthAll]
  | n :: ns => by simp [PyData.depthAll, PyData.depth]; exact depth_ints ns
theorem eqv_ints : ∀ ns : List Int, PyData.eqvAll (ns.map PyData.int) (ns.map PyData.int) = true
  | [] => by simp [PyData.eqvAll]
  | n :: ns => by simp [PyData.eqvAll, PyData.eqv]; exact eqv_ints ns
theorem shaped_tupI (ns : List Int) : SeqAt.shaped (.tuple (ns.map PyData.int)) = true := by
  unfold SeqAt.shaped
  simp [PyData.canLay0, PyData.depth, canLay_ints, depth_ints]
theorem eqTI {ns : List Int} {M : Sto} : dEq (.tup (intsR ns)) (.tup (intsR ns)) M = .ok (.bl true) M := by
  have e : eqD M (.tup (intsR ns)) (.tup (intsR ns)) = some true := by
    have e1 : pyD M 12 (.tup (intsR ns)) = some (.tuple (ns.map PyData.int)) := by
      show (pyD.allM (pyD M 11) (intsR ns)).map PyData.tuple = _
      rw [allD_ints]; rfl
    unfold eqD
    simp only [e1]
    rw [if_pos ⟨shaped_tupI ns, shaped_tupI ns⟩]
    rw [PyData.eqv, eqv_ints]
  unfold dEq
  rw [e]
/-! texts of ints -/
theorem repr_int {i : Int} (h : i.natAbs.log2 < 1920) : ∃ s : Str, s.length ≤ 1921 ∧ ∀ M, dReprK [.int i] M = .ok (.str s) M := by
  have hl := int_text_len_1921 h
  refine ⟨toString i, hl, fun M => ?_⟩
  have e : pyK M 12 (.int i) = some (.int i) := rfl
  unfold dReprK
  simp only [e]
  have h1 : (PyData.int i).showable = true := by simp only [PyData.showable]; exact decide_eq_true h
  have h2 : (PyData.int i).depth = 0 := by simp only [PyData.depth]
  have h3 : (PyData.int i).shown = toString i := by simp only [PyData.shown]
  rw [h3, if_pos ⟨h1, by rw [h2]; decide, Nat.le_trans hl (by decide)⟩]
theorem showable_ints : ∀ ns : List Int, (∀ i ∈ ns, i.natAbs.log2 < 1920) → PyData.showableAll (ns.map PyData.int) = true
  | [], _ => by simp [PyData.showableAll]
  | n :: ns, h => by
    have h1 := h n List.mem_cons_self
    simp only [List.map_cons, PyData.showableAll, PyData.showable, decide_eq_true h1, Bool.true_and]
    exact showable_ints ns fun i hi => h i (List.mem_cons_of_mem _ hi)
theorem piled_ints : ∀ ns : List Int, (∀ i ∈ ns, i.natAbs.log2 < 1920) → piled (PyData.shownAll (ns.map PyData.int)) ≤ ns.length * 1923
  | [], _ => by simp [PyData.shownAll, piled]
  | n :: ns, h => by
    have h1 := int_text_len_1921 (h n List.mem_cons_self)
    have ih := piled_ints ns fun i hi => h i (List.mem_cons_of_mem _ hi)
    simp only [List.map_cons, PyData.shownAll, PyData.shown, List.length_cons]
    rw [piled_cons]
    omega
theorem shownAll_len : ∀ ns : List PyData, (PyData.shownAll ns).length = ns.length
  | [] => by simp [PyData.shownAll]
  | n :: ns => by simp only [PyData.shownAll, List.length_cons, shownAll_len ns]
theorem repr_tupI {ns : List Int} (h : ∀ i ∈ ns, i.natAbs.log2 < 1920) (hl : ns.length ≤ 300) : ∃ s : Str, ∀ M, dReprK [.tup (intsR ns)] M = .ok (.str s) M := by
  refine ⟨(PyData.tuple (ns.map PyData.int)).shown, fun M => ?_⟩
  have e : pyK M 12 (.tup (intsR ns)) = some (.tuple (ns.map PyData.int)) := by
    show (pyD.allM (pyK M 11) (intsR ns)).map PyData.tuple = _
    rw [allK_ints]; rfl
  unfold dReprK
  simp only [e]
  have h1 : (PyData.tuple (ns.map PyData.int)).showable = true := by
    simp only [PyData.showable]; exact showable_ints ns h
  have h2 : (PyData.tuple (ns.map PyData.int)).depth ≤ 40 := by
    simp only [PyData.depth, depth_ints]; decide
  have h3 : (PyData.tuple (ns.map PyData.int)).shown.length ≤ lim := by
    simp only [PyData.shown]
    have hp := piled_ints ns h
    by_cases hne : PyData.shownAll (ns.map PyData.int) = []
    · rw [hne]; decide
    · have hj := join_length_add _ hne
      have hlim : lim = 1000000 := rfl
      unfold tupleText
      have hc : (((if (PyData.shownAll (ns.map PyData.int)).length == 1 then ",)" else ")" : String) : Str)).length ≤ 2 := by split <;> decide
      have hb : (("(" : String) : Str).length = 1 := by decide
      rw [Str.length_append, Str.length_append, hb]
      omega
  rw [if_pos ⟨h1, h2, h3⟩]
theorem piled_wide {w : Nat} : ∀ ns : List Int, (∀ i ∈ ns, (Str.ofString (toString i)).length ≤ w) → piled (PyData.shownAll (ns.map PyData.int)) ≤ ns.length * (w + 2)
  | [], _ => by simp [PyData.shownAll, piled]
  | n :: ns, h => by
    have h1 := h n List.mem_cons_self
    have ih := piled_wide ns fun i hi => h i (List.mem_cons_of_mem _ hi)
    simp only [List.map_cons, PyData.shownAll, PyData.shown, List.length_cons]
    rw [piled_cons, Nat.add_mul, Nat.one_mul]
    show (Str.ofString (toString n)).length + 2 + _ ≤ _
    omega
theorem shown_wide {ns : List Int} {w : Nat} (h : ∀ i ∈ ns, (Str.ofString (toString i)).length ≤ w) (hl : ns.length * (w + 2) + 3 ≤ lim) : (PyData.tuple (ns.map PyData.int)).shown.length ≤ lim := by
  simp only [PyData.shown]
  have hp := piled_wide ns h
  by_cases hne : PyData.shownAll (ns.map PyData.int) = []
  · rw [hne]; decide
  · have hj := join_length_add _ hne
    unfold tupleText
    have hc : (((if (PyData.shownAll (ns.map PyData.int)).length == 1 then ",)" else ")" : String) : Str)).length ≤ 2 := by split <;> decide
    have hb : (("(" : String) : Str).length = 1 := by decide
    rw [Str.length_append, Str.length_append, hb]
    omega
/-! texts in a row -/
def strsR (ts : List Str) : List D := ts.map D.str
theorem allD_strs {M : Sto} {f : Nat} : ∀ ns : List Str, pyD.allM (pyD M (f + 1)) (strsR ns) = some (ns.map PyData.str)
  | [] => rfl
  | n :: ns => by
    have ih := allD_strs (M := M) (f := f) ns
    show pyD.allM (pyD M (f + 1)) (D.str n :: strsR ns) = _
    unfold pyD.allM
    rw [ih]; rfl
theorem canLay_strs : ∀ ns : List Str, (∀ t ∈ ns, PyData.strOk t = true) → PyData.canLayAll0 (ns.map PyData.str) = true
  | [], _ => by simp [PyData.canLayAll0]
  | n :: ns, h => by
    simp only [List.map_cons, PyData.canLayAll0, PyData.canLay0, h n List.mem_cons_self, Bool.true_and]
    exact canLay_strs ns fun t ht => h t (List.mem_cons_of_mem _ ht)
theorem depth_strs : ∀ ns : List Str, PyData.depthAll (ns.map PyData.str) = 0
  | [] => by simp [PyData.depthAll]
  | n :: ns => by simp [PyData.depthAll, PyData.depth]; exact depth_strs ns
theorem eqv_strs : ∀ ns : List Str, PyData.eqvAll (ns.map PyData.str) (ns.map PyData.str) = true
  | [] => by simp [PyData.eqvAll]
  | n :: ns => by simp [PyData.eqvAll, PyData.eqv]; exact eqv_strs ns
theorem eqSt {ts : List Str} {n : Nat} {M : Sto} (hk : ∀ t ∈ ts, PyData.strOk t = true) (h : M[n]? = some (.lst (strsR ts))) : dEq (.ref n) (.lst (strsR ts)) M = .ok (.bl true) M := by
  have hs : SeqAt.shaped (.list (ts.map PyData.str)) = true := by
    unfold SeqAt.shaped
    simp [PyData.canLay0, PyData.depth, canLay_strs ts hk, depth_strs]
  have e : eqD M (.ref n) (.lst (strsR ts)) = some true := by
    have e1 : pyD M 12 (.lst (strsR ts)) = some (.list (ts.map PyData.str)) := by
      show (pyD.allM (pyD M 11) (strsR ts)).map PyData.list = _
      rw [allD_strs]; rfl
    have e2 : pyD M 12 (.ref n) = some (.list (ts.map PyData.str)) := by
      unfold pyD
      simp only [h]
      rw [allD_strs]; rfl
    unfold eqD
    simp only [e1, e2]
    rw [if_pos ⟨hs, hs⟩]
    rw [PyData.eqv, eqv_strs]
  unfold dEq
  rw [e]
/-! append -/
theorem appE {M : Sto} {n : Nat} {t : List D} {x : D} (h : M[n]? = some (.lst t)) (hl : t.length < lim) (hb : below n x = true) : dApp (.ref n) [x] M = .ok .non (M.set n (.lst (t ++ [x]))) := by
  have l5 : livD M (.ref n) = some (n, t) := by
    unfold livD
    simp only [h]
  unfold dApp
  simp only [l5]
  rw [if_pos ⟨hl, hb⟩]
theorem appS {env : DEnv} {M : Sto} {i n : Nat} {m : DE} {t : List D} {x : D} (hv : env[i]? = some (some (.ref n))) (hM : M[n]? = some (.lst t)) (hm : m env M = .ok x M) (hl : t.length < lim) (hb : below n x = true) :
    sExpr (mLm dApp (mVar i) (aCons m aNil)) env M = .nx env (M.set n (.lst (t ++ [x]))) := by
  refine sExpr_ok (d := .non) ?_
  unfold mLm
  rw [mVar_ok hv]
  show (if (lstD M (.ref n)).isSome = true then _ else _) = _
  have l3 : lstD M (.ref n) = some t := by
    unfold lstD
    simp only [hM]
  rw [if_pos (by rw [l3]; rfl), aCons_ok hm aNil_ok]
  show noExc (dApp (.ref n) [x] M) = _
  rw [appE hM hl hb]; rfl
end EV
set_option maxHeartbeats 4000000
/-! plain evaluation: natural numbers, rows of them, their figures, rows of rows -/
namespace EV
open PySem PySem.Spec PyProof.Rows L2
def B : Nat := 2 ^ 600
theorem B_mul : B < 2 ^ 1000 := by decide +kernel
theorem B_log : B < 2 ^ 1920 := by decide +kernel
theorem B_max : 2 ^ 60 < B := by decide +kernel
theorem mulB {a b : Nat} (ha : a < B) (hb : b < B) : mulOk (a : Int) (b : Int) = true :=
  mulOk_of (by rw [Int.natAbs_natCast]; exact Nat.lt_trans ha B_mul) (by rw [Int.natAbs_natCast]; exact Nat.lt_trans hb B_mul)
theorem logB {a : Nat} (ha : a < B) : (a : Int).natAbs.log2 < 1920 := by
  rw [Int.natAbs_natCast]
  by_cases h : a = 0
  · subst h; decide +kernel
  · exact (Nat.log2_lt h).2 (Nat.lt_trans ha B_log)
theorem rng_of {i : Nat} {a : Nat} {env : DEnv} {M : Sto} (h : env[i]? = some (some (.int a))) (ha : a ≤ 1000000) : mRng1 (aCons (mVar i) aNil) env M = .ok (.imm (rngD 0 a)) M := by
  have g := mRng1_ok (env := env) (M := M) (aCons_ok (mVar_ok h) aNil_ok) (by unfold big; omega)
  rw [Int.toNat_natCast] at g; exact g
theorem rng_len {i : Int} {a : Nat} : (rngD i a).length = a := by
  unfold rngD
  rw [List.length_map, List.length_range]
theorem pow_lt {b i e : Nat} (hb : 1 ≤ b) (h : i ≤ e) (hs : b ^ e < B) : b ^ i < B := Nat.lt_of_le_of_lt (Nat.pow_le_pow_right hb h) hs
def natsR (ds : List Nat) : List D := intsR (ds.map fun d : Nat => (d : Int))
theorem natsR_nil : natsR [] = [] := rfl
theorem natsR_cons (d : Nat) (ds : List Nat) : natsR (d :: ds) = D.int (d : Int) :: natsR ds := rfl
theorem natsR_app (xs ys : List Nat) : natsR (xs ++ ys) = natsR xs ++ natsR ys := by
  unfold natsR intsR
  rw [List.map_append, List.map_append]
theorem natsR_rev (xs : List Nat) : natsR xs.reverse = (natsR xs).reverse := by
  unfold natsR intsR
  rw [List.map_reverse, List.map_reverse]
theorem natsR_len (xs : List Nat) : (natsR xs).length = xs.length := by
  unfold natsR intsR
  rw [List.length_map, List.length_map]
theorem below_nats {k : Nat} : ∀ ds : List Nat, belows k (natsR ds) = true
  | [] => rfl
  | d :: ds => by
    show (below k (D.int (d : Nat)) && belows k (natsR ds)) = true
    rw [below_nats ds]; rfl
/-- the number of figures, from a number on -/
def valA (b : Nat) (a : Nat) : List Nat → Nat
  | [] => a
  | d :: ds => valA b (a * b + d) ds
def sumP (b : Nat) : List Nat → Nat
  | [] => 0
  | d :: ds => d * b ^ ds.length + sumP b ds
theorem valA_sum (b : Nat) : ∀ (ds : List Nat) (a : Nat), valA b a ds = a * b ^ ds.length + sumP b ds
  | [], a => by simp [valA, sumP]
  | d :: ds, a => by
    rw [valA, valA_sum b ds, sumP, List.length_cons, Nat.pow_succ, Nat.add_mul, Nat.mul_assoc, Nat.mul_comm b, Nat.add_assoc]
theorem valA_app (b : Nat) : ∀ (xs ys : List Nat) (a : Nat), valA b a (xs ++ ys) = valA b (valA b a xs) ys
  | [], ys, a => rfl
  | x :: xs, ys, a => valA_app b xs ys _
theorem valA_lt {b : Nat} : ∀ (ds : List Nat) (a i : Nat), a < b ^ i → (∀ d ∈ ds, d < b) → valA b a ds < b ^ (i + ds.length)
  | [], a, i, h, _ => h
  | d :: ds, a, i, h, hd => by
    have h1 := hd d List.mem_cons_self
    have h2 : a * b + d < b ^ (i + 1) := by
      rw [Nat.pow_succ]
      have : (a + 1) * b ≤ b ^ i * b := Nat.mul_le_mul_right b h
      rw [Nat.add_mul, Nat.one_mul] at this
      omega
    have := valA_lt ds _ (i + 1) h2 fun x hx => hd x (List.mem_cons_of_mem _ hx)
    rw [List.length_cons, show i + (ds.length + 1) = i + 1 + ds.length by omega]
    exact this
/-- the figures of a number, the last one first -/
def figs (b : Nat) : Nat → Nat → List Nat
  | 0, _ => []
  | l + 1, n => (n % b) :: figs b l (n / b)
theorem figs_len (b : Nat) : ∀ l n, (figs b l n).length = l
  | 0, _ => rfl
  | l + 1, n => by rw [figs, List.length_cons, figs_len b l]
theorem figs_val {b : Nat} : ∀ (rs : List Nat), (∀ d ∈ rs, d < b) → figs b rs.length (valA b 0 rs.reverse) = rs
  | [], _ => rfl
  | r :: rs, h => by
    have hr := h r List.mem_cons_self
    have hb : 0 < b := by omega
    have ih := figs_val rs fun x hx => h x (List.mem_cons_of_mem _ hx)
    rw [List.reverse_cons, valA_app, List.length_cons, figs]
    show ((valA b 0 rs.reverse * b + r) % b) :: figs b rs.length ((valA b 0 rs.reverse * b + r) / b) = _
    rw [show (valA b 0 rs.reverse * b + r) % b = r by rw [Nat.add_comm, Nat.add_mul_mod_self_right, Nat.mod_eq_of_lt hr], show (valA b 0 rs.reverse * b + r) / b = valA b 0 rs.reverse by rw [Nat.add_comm, Nat.add_mul_div_right _ _ hb, Nat.div_eq_of_lt hr, Nat.zero_add], ih]
theorem figs_of {b : Nat} (ds : List Nat) (h : ∀ d ∈ ds, d < b) : (figs b ds.length (valA b 0 ds)).reverse = ds := by
  have := figs_val ds.reverse fun d hd => h d (List.mem_reverse.1 hd)
  rw [List.reverse_reverse, List.length_reverse] at this
  rw [this, List.reverse_reverse]
theorem asgN_ok {env : DEnv} {M M1 : Sto} {m : DE} {xs : List D} {is : List Nat} (h : m env M = .ok (.tup xs) M1) (hl : xs.length = is.length) : sAsg m (gNs is) env M = .nx ((is.zip xs).foldl (fun e p => e.set p.1 (some p.2)) env) M1 := by
  unfold sAsg gNs
  rw [h]
  simp only [Out.thenS, hl, if_true]
theorem divB {b : Nat} (hb : 1 ≤ b) (h : b < 2 ^ 60) : divOk (b : Int) = true := divOk_of (by omega) (Nat.lt_trans (m := 2 ^ 60) (by omega) (by decide +kernel))
theorem tupOfRev {i n : Nat} {env : DEnv} {M : Sto} {xs : List D} (h : env[i]? = some (some (.ref n))) (hM : M[n]? = some (.lst xs)) (hl : xs.length ≤ lim) : mL dTupOf (aCons (mRevL toLst (mVar i)) aNil) env M = .ok (.tup xs.reverse) M := by
  have e1 : mRevL toLst (mVar i) env M = .ok (.lst xs.reverse) M := by
    unfold mRevL
    rw [mVar_ok h]
    have l3 : lstD M (.ref n) = some xs := by
      unfold lstD
      simp only [hM]
    show (match lstD M (.ref n) with
      | some xs => toLst xs.reverse M
      | none => Out.bad) = _
    rw [l3]
    show (if xs.reverse.length ≤ lim then Out.ok (D.lst xs.reverse) M else .bad) = _
    rw [if_pos (by rw [List.length_reverse]; exact hl)]
  refine mL_ok (aCons_ok e1 aNil_ok) ?_
  show (if xs.reverse.length ≤ lim then Out.ok (D.tup xs.reverse) M else .bad) = _
  rw [if_pos (by rw [List.length_reverse]; exact hl)]
theorem all_rep {k : Nat} : blsD (List.replicate k (.bl true)) = some (List.replicate k true) := by
  induction k with
  | zero => rfl
  | succ k ih => rw [List.replicate_succ, List.replicate_succ, blsD, ih]; rfl
theorem all_true : ∀ k : Nat, (List.replicate k true).all id = true
  | 0 => rfl
  | k + 1 => by rw [List.replicate_succ, List.all_cons, all_true k]; rfl
theorem lcL_step {g : CG} {c : DT} {e : DE} {env env1 : DEnv} {x y : D} {xs ys : List D} {M : Sto} (h1 : g x env = some env1) (h2 : c env1 M = .ok true M) (h3 : e env1 M = .ok y M) (h4 : lcL g c e env xs M = .ok ys M) : lcL g c e env (x :: xs) M = .ok (y :: ys) M := by
  unfold lcL
  rw [h1]
  simp only [h2, noExc, Out.bind, if_true, h3, h4]
theorem neSame {i : Int} {M : Sto} : dNe (.int i) (.int i) M = .ok (.bl false) M := by
  rw [neI, decide_eq_true rfl]; rfl
theorem rng_cons (i : Int) (m : Nat) : rngD i (m + 1) = D.int i :: rngD (i + 1) m := by
  unfold rngD
  rw [List.range_succ_eq_map, List.map_cons, List.map_map]
  congr 1
  · rw [Int.natCast_zero, Int.add_zero]
  · refine List.map_congr_left fun j _ => ?_
    show D.int (i + ((j + 1 : Nat) : Int)) = D.int (i + 1 + j)
    rw [Int.natCast_add, show i + ((j : Int) + ((1 : Nat) : Int)) = i + 1 + j by omega]
/-! comprehensions whose items are all true; all(..) of them -/
theorem lc_true {g : CG} {E : DE} {env : DEnv} {M : Sto} : ∀ {xs : List D}, (∀ x ∈ xs, ∃ env1, g x env = some env1 ∧ E env1 M = .ok (.bl true) M) → lcL g cYes E env xs M = .ok (List.replicate xs.length (.bl true)) M
  | [], _ => rfl
  | x :: xs, h => by
    obtain ⟨env1, h1, h2⟩ := h x List.mem_cons_self
    exact lcL_step h1 rfl h2 (lc_true fun y hy => h y (List.mem_cons_of_mem _ hy))
theorem all_ok {k : Nat} {M : Sto} : dAll [.lst (List.replicate k (.bl true))] M = .ok (.bl true) M := by
  show (match blsD (List.replicate k (.bl true)) with
    | some ns => Out.ok (D.bl (ns.all id)) M
    | none => .bad) = _
  rw [all_rep]
  show Out.ok (D.bl ((List.replicate k true).all id)) M = _
  rw [all_true]
theorem all_lc {it : DI} {vs : List Nat} {g : CG} {E : DE} {env : DEnv} {M : Sto} {xs : List D} (hi : it env M = .ok (.imm xs) M) (hl : xs.length ≤ lim) (h : ∀ x ∈ xs, ∃ env1, g x (wipeD env vs) = some env1 ∧ E env1 M = .ok (.bl true) M) :
    mL dAll (aCons (mLc it vs g cYes E) aNil) env M = .ok (.bl true) M :=
  mL_ok (aCons_ok (mLc_pure hi (lc_true h) (by rw [List.length_replicate]; exact hl)) aNil_ok) all_ok
theorem mem_nats {d : D} : ∀ {r : List Nat}, d ∈ natsR r → ∃ x ∈ r, d = .int (x : Nat)
  | [], h => by cases h
  | x :: r, h => by
    rw [natsR_cons] at h
    rcases List.mem_cons.1 h with rfl | h
    · exact ⟨x, List.mem_cons_self, rfl⟩
    · obtain ⟨y, hy, e⟩ := mem_nats h
      exact ⟨y, List.mem_cons_of_mem _ hy, e⟩
theorem zip_next : ∀ {r : List Nat}, r.Pairwise (· < ·) → ∀ d ∈ zipD (natsR r) (natsR r.tail), ∃ a b : Nat, d = .tup [.int a, .int b] ∧ a < b
  | [], _, d, hd => by cases hd
  | [x], _, d, hd => by cases hd
  | x :: y :: r, h, d, hd => by
    have h' : (y :: r).Pairwise (· < ·) := h.tail
    have e : zipD (natsR (x :: y :: r)) (natsR (y :: r)) = .tup [.int x, .int y] :: zipD (natsR (y :: r)) (natsR r) := rfl
    rw [show (x :: y :: r).tail = y :: r from rfl, e] at hd
    rcases List.mem_cons.1 hd with rfl | hd
    · refine ⟨x, y, rfl, ?_⟩
      exact (List.pairwise_cons.1 h).1 y List.mem_cons_self
    · exact zip_next h' d hd
theorem cut_tail {xs : List D} : cutD xs (some 1) none = xs.tail := by
  unfold cutD
  rw [HT.sIx_none]
  have e : HT.sIx xs.length 0 (some 1) = min 1 xs.length := HT.sIx_nat _ _ 1
  rw [e]
  cases xs with
  | nil => rfl
  | cons x xs =>
    have e1 : min 1 (x :: xs).length = 1 := by simp only [List.length_cons]; omega
    rw [e1]
    show List.take _ xs = xs
    exact List.take_of_length_le (by simp only [List.length_cons]; omega)
theorem natsR_tail (r : List Nat) : (natsR r).tail = natsR r.tail := by cases r <;> rfl
theorem zip_len {xs ys : List D} : (zipD xs ys).length ≤ xs.length := by
  induction xs generalizing ys with
  | nil => cases ys <;> exact Nat.le_refl _
  | cons x xs ih =>
    cases ys with
    | nil => exact Nat.zero_le _
    | cons y ys => exact Nat.succ_le_succ ih
/-! rows of rows -/
def rowsR (rs : List (List Nat)) : List D := rs.map fun r => .tup (natsR r)
theorem rowsR_len (rs : List (List Nat)) : (rowsR rs).length = rs.length := List.length_map _
theorem rowsR_app (xs ys : List (List Nat)) : rowsR (xs ++ ys) = rowsR xs ++ rowsR ys := List.map_append
theorem below_rows {k : Nat} : ∀ rs : List (List Nat), belows k (rowsR rs) = true
  | [] => rfl
  | r :: rs => by
    show (below k (.tup (natsR r)) && belows k (rowsR rs)) = true
    have h : below k (.tup (natsR r)) = true := by
      unfold below; exact below_nats r
    rw [h, below_rows rs]; rfl
theorem below_row {k : Nat} {r : List Nat} : below k (.tup (natsR r)) = true := by
  unfold below; exact below_nats r
theorem below_tupR {k : Nat} {rs : List (List Nat)} : below k (.tup (rowsR rs)) = true := by
  unfold below; exact below_rows rs
theorem frz_nats {M : Sto} {k f : Nat} : ∀ r : List Nat, allD (frz M k (f + 1)) (natsR r) = some (natsR r)
  | [] => rfl
  | x :: r => by
    rw [natsR_cons]
    unfold allD
    rw [frz_nats r]
    rfl
theorem frz_rows {M : Sto} {k f : Nat} : ∀ rs : List (List Nat), allD (frz M k (f + 2)) (rowsR rs) = some (rowsR rs)
  | [] => rfl
  | r :: rs => by
    show allD (frz M k (f + 2)) (D.tup (natsR r) :: rowsR rs) = _
    unfold allD
    rw [frz_rows rs]
    have e : frz M k (f + 2) (.tup (natsR r)) = some (.tup (natsR r)) := by
      show (allD (frz M k (f + 1)) (natsR r)).map D.tup = _
      rw [frz_nats]; rfl
    rw [e]; rfl
theorem frz_tupR {M : Sto} {k f : Nat} {rs : List (List Nat)} : frz M k (f + 3) (.tup (rowsR rs)) = some (.tup (rowsR rs)) := by
  show (allD (frz M k (f + 2)) (rowsR rs)).map D.tup = _
  rw [frz_rows]; rfl
theorem rows_get {rs : List (List Nat)} {i : Nat} {r : List Nat} (h : rs[i]? = some r) : (rowsR rs)[i]? = some (.tup (natsR r)) := by
  unfold rowsR
  rw [List.getElem?_map, h]; rfl
/-! equal rows of rows -/
def pRow (r : List Nat) : PyData := .tuple ((r.map fun d : Nat => (d : Int)).map PyData.int)
theorem allD_rows {M : Sto} {f : Nat} : ∀ rs : List (List Nat), pyD.allM (pyD M (f + 2)) (rowsR rs) = some (rs.map pRow)
  | [] => rfl
  | r :: rs => by
    show pyD.allM (pyD M (f + 2)) (D.tup (natsR r) :: rowsR rs) = _
    unfold pyD.allM
    have e : pyD M (f + 2) (.tup (natsR r)) = some (pRow r) := by
      show (pyD.allM (pyD M (f + 1)) (natsR r)).map PyData.tuple = _
      unfold natsR
      rw [allD_ints]; rfl
    rw [e, allD_rows rs]; rfl
theorem canLay_rows : ∀ rs : List (List Nat), PyData.canLayAll0 (rs.map pRow) = true
  | [] => by simp [PyData.canLayAll0]
  | r :: rs => by
    simp only [List.map_cons, PyData.canLayAll0, pRow, PyData.canLay0, canLay_ints, Bool.true_and]
    exact canLay_rows rs
theorem depth_rows : ∀ rs : List (List Nat), PyData.depthAll (rs.map pRow) ≤ 1
  | [] => by simp [PyData.depthAll]
  | r :: rs => by
    simp only [List.map_cons, PyData.depthAll, pRow, PyData.depth, depth_ints]
    have := depth_rows rs
    omega
theorem eqv_rows : ∀ rs : List (List Nat), PyData.eqvAll (rs.map pRow) (rs.map pRow) = true
  | [] => by simp [PyData.eqvAll]
  | r :: rs => by
    simp only [List.map_cons, PyData.eqvAll, pRow, PyData.eqv, eqv_ints, Bool.true_and]
    exact eqv_rows rs
theorem shaped_rows (t : Bool) (rs : List (List Nat)) : SeqAt.shaped (if t then .tuple (rs.map pRow) else .list (rs.map pRow)) = true := by
  have h := depth_rows rs
  cases t <;>
    (unfold SeqAt.shaped
     simp only [if_true, Bool.false_eq_true, if_false, PyData.canLay0, PyData.depth, canLay_rows, Bool.true_and, decide_eq_true_eq]
     omega)
theorem eqTR {rs : List (List Nat)} {M : Sto} : eqD M (.tup (rowsR rs)) (.tup (rowsR rs)) = some true := by
  have e1 : pyD M 12 (.tup (rowsR rs)) = some (.tuple (rs.map pRow)) := by
    show (pyD.allM (pyD M 11) (rowsR rs)).map PyData.tuple = _
    rw [allD_rows]; rfl
  have hs := shaped_rows true rs
  unfold eqD
  simp only [e1]
  rw [if_pos ⟨hs, hs⟩, PyData.eqv, eqv_rows]
theorem eqLR {rs : List (List Nat)} {M : Sto} : eqD M (.lst (rowsR rs)) (.lst (rowsR rs)) = some true := by
  have e1 : pyD M 12 (.lst (rowsR rs)) = some (.list (rs.map pRow)) := by
    show (pyD.allM (pyD M 11) (rowsR rs)).map PyData.list = _
    rw [allD_rows]; rfl
  have hs := shaped_rows false rs
  unfold eqD
  simp only [e1]
  rw [if_pos ⟨hs, hs⟩, PyData.eqv, eqv_rows]
theorem dEq_of {a b : D} {k : Bool} {M : Sto} (h : eqD M a b = some k) : dEq a b M = .ok (.bl k) M := by unfold dEq; rw [h]
theorem dNe_of {a b : D} {k : Bool} {M : Sto} (h : eqD M a b = some k) : dNe a b M = .ok (.bl !k) M := by unfold dNe; rw [h]
theorem eqTN {r : List Nat} {M : Sto} : eqD M (.tup (natsR r)) (.tup (natsR r)) = some true := by
  have e := eqTI (ns := r.map fun d : Nat => (d : Int)) (M := M)
  unfold dEq at e
  unfold natsR
  cases h : eqD M (.tup (intsR (r.map fun d : Nat => (d : Int)))) (.tup (intsR (r.map fun d : Nat => (d : Int)))) with
  | none => rw [h] at e; cases e
  | some k => rw [h] at e; cases e; rfl
end EV
set_option maxHeartbeats 4000000
/-! plain evaluation: live lists in a live list -/
namespace EV
open PySem PySem.Spec PyProof.Rows L2
theorem lcN_live {g : CG} {e : DE} {env : DEnv} {n : Nat} {M : Sto} {ys zs : List D} (hM : M[n]? = some (.lst ys)) (hl : zs.length = ys.length)
    (h : ∀ (i : Nat) (x : D), ys[i]? = some x → ∃ env1, g x env = some env1 ∧ ∃ z, zs[i]? = some z ∧ e env1 M = .ok z M) : ∀ (k i : Nat), ys.length < k + i → i ≤ ys.length → lcN g cYes e env n k i M = .ok (zs.drop i) M
  | 0, i, h1, h2 => by omega
  | k + 1, i, h1, h2 => by
    unfold lcN
    rw [hM]
    simp only
    rcases hy : ys[i]? with _ | x
    · have : ys.length ≤ i := List.getElem?_eq_none_iff.1 hy
      simp only
      rw [List.drop_of_length_le (by omega)]
    · obtain ⟨env1, e1, z, e2, e3⟩ := h i x hy
      have hi := (List.getElem?_eq_some_iff.1 hy).1
      have ih := lcN_live hM hl h k (i + 1) (by omega) (by omega)
      simp only [e1, cYes, noExc, Out.bind, if_true, e3, ih]
      have hz : i < zs.length := by omega
      rw [List.drop_eq_getElem_cons hz]
      have : zs[i] = z := by
        rw [List.getElem?_eq_getElem hz] at e2
        exact Option.some.inj e2
      rw [this]
def refsF (b : Nat) : Nat → List D
  | 0 => []
  | n + 1 => .ref b :: refsF (b + 1) n
theorem refsF_len : ∀ (n b : Nat), (refsF b n).length = n
  | 0, _ => rfl
  | n + 1, b => by rw [refsF, List.length_cons, refsF_len n]
theorem refsF_get : ∀ (n b i : Nat), i < n → (refsF b n)[i]? = some (.ref (b + i))
  | 0, b, i, h => by omega
  | n + 1, b, 0, h => rfl
  | n + 1, b, i + 1, h => by
    rw [refsF, List.getElem?_cons_succ, refsF_get n (b + 1) i (by omega)]
    congr 2
    omega
theorem refsF_below : ∀ (n b k : Nat), b + n ≤ k → belows k (refsF b n) = true
  | 0, b, k, h => rfl
  | n + 1, b, k, h => by
    show (below k (.ref b) && belows k (refsF (b + 1) n)) = true
    rw [refsF_below n (b + 1) k (by omega)]
    show (decide (b < k) && true) = true
    rw [decide_eq_true (by omega)]; rfl
theorem lc_new {g : CG} {env : DEnv} (h : ∀ x, ∃ env1, g x env = some env1) : ∀ {xs : List D} {M : Sto}, lcL g cYes (mLstM aNil) env xs M = .ok (refsF M.length xs.length) (M ++ List.replicate xs.length (.lst []))
  | [], M => by
    show Out.ok [] M = .ok [] (M ++ [])
    rw [List.append_nil]
  | x :: xs, M => by
    obtain ⟨env1, e1⟩ := h x
    have e2 : mLstM aNil env1 M = .ok (.ref M.length) (M ++ [.lst []]) := rfl
    have ih := lc_new h (xs := xs) (M := M ++ [.lst []])
    unfold lcL
    rw [e1]
    simp only [cYes, noExc, Out.bind, if_true, e2, ih]
    have hl : (M ++ [Ob.lst []]).length = M.length + 1 := List.length_append
    rw [hl]
    show Out.ok (D.ref M.length :: refsF (M.length + 1) xs.length) ((M ++ [Ob.lst []]) ++ List.replicate xs.length (Ob.lst [])) = Out.ok (D.ref M.length :: refsF (M.length + 1) xs.length) (M ++ (Ob.lst [] :: List.replicate xs.length (Ob.lst [])))
    rw [List.append_assoc]
    rfl
def colOb (L : List (List Nat)) : List Ob := L.map fun c => .lst (natsR c)
theorem colOb_len (L : List (List Nat)) : (colOb L).length = L.length := List.length_map _
theorem colOb_new (n : Nat) : colOb (List.replicate n []) = List.replicate n (.lst []) := by
  unfold colOb; rw [List.map_replicate]; rfl
def wbC (M : Sto) (L : List (List Nat)) (z : Ob) : Sto := M ++ (colOb L ++ [z])
theorem wbC_get {M : Sto} {L : List (List Nat)} {z : Ob} {j : Nat} {c : List Nat} (h : L[j]? = some c) : (wbC M L z)[M.length + j]? = some (.lst (natsR c)) := by
  unfold wbC
  rw [List.getElem?_append_right (by omega), show M.length + j - M.length = j by omega]
  have hj : j < L.length := (List.getElem?_eq_some_iff.1 h).1
  rw [List.getElem?_append_left (by rw [colOb_len]; exact hj)]
  unfold colOb
  rw [List.getElem?_map, h]; rfl
theorem wbC_top {M : Sto} {L : List (List Nat)} {z : Ob} : (wbC M L z)[M.length + L.length]? = some z := by
  unfold wbC
  rw [List.getElem?_append_right (by omega), show M.length + L.length - M.length = L.length by omega, List.getElem?_append_right (by rw [colOb_len]; exact Nat.le_refl _), colOb_len, Nat.sub_self]
  rfl
theorem wbC_set {M : Sto} {L : List (List Nat)} {z : Ob} {j : Nat} {c : List Nat} (h : j < L.length) : (wbC M L z).set (M.length + j) (.lst (natsR c)) = wbC M (L.set j c) z := by
  unfold wbC
  rw [List.set_append_right _ _ (by omega), show M.length + j - M.length = j by omega, List.set_append_left _ _ (by rw [colOb_len]; exact h)]
  unfold colOb
  rw [List.map_set]
theorem wbC_take {M : Sto} {L : List (List Nat)} {z : Ob} : (wbC M L z).take M.length = M := by
  unfold wbC; rw [List.take_left]
def putC (p : Nat) (L : List (List Nat)) (x : Nat) : List (List Nat) := L.set x ((L[x]?.getD []) ++ [p])
def putRow (p : Nat) (L : List (List Nat)) (r : List Nat) : List (List Nat) := r.foldl (putC p) L
def colsF : Nat → List (List Nat) → List (List Nat) → List (List Nat)
  | _, L, [] => L
  | p, L, r :: rs => colsF (p + 1) (putRow p L r) rs
/-- the columns of rows -/
def colsOf (rs : List (List Nat)) : List (List Nat) := colsF 0 (List.replicate rs.length []) rs
theorem putC_len (p : Nat) (L : List (List Nat)) (x : Nat) : (putC p L x).length = L.length := List.length_set
theorem putRow_len (p : Nat) : ∀ (r : List Nat) (L : List (List Nat)), (putRow p L r).length = L.length
  | [], L => rfl
  | x :: r, L => (putRow_len p r (putC p L x)).trans (putC_len p L x)
theorem appX {env : DEnv} {M : Sto} {n : Nat} {m0 m : DE} {t : List D} {x : D} (h0 : m0 env M = .ok (.ref n) M) (hM : M[n]? = some (.lst t)) (hm : m env M = .ok x M) (hl : t.length < lim) (hb : below n x = true) :
    sExpr (mLm dApp m0 (aCons m aNil)) env M = .nx env (M.set n (.lst (t ++ [x]))) := by
  refine sExpr_ok (d := .non) ?_
  unfold mLm
  rw [h0]
  show (if (lstD M (.ref n)).isSome = true then _ else _) = _
  have l3 : lstD M (.ref n) = some t := by
    unfold lstD
    simp only [hM]
  rw [if_pos (by rw [l3]; rfl), aCons_ok hm aNil_ok]
  show noExc (dApp (.ref n) [x] M) = _
  rw [appE hM hl hb]; rfl
theorem ixE {d x : D} {xs : List D} {i : Nat} {M : Sto} (hs : seqD M d = some xs) (hx : xs[i]? = some x) : dIx d (.int (i : Nat)) M = .ok x M := by
  refine eq_of_wp (wd_ix hs (x := x) ?_ ⟨rfl, rfl⟩)
  unfold atD
  rw [if_pos (by omega), Int.toNat_natCast]; exact hx
theorem seqRef {n : Nat} {xs : List D} {M : Sto} (h : M[n]? = some (.lst xs)) : seqD M (.ref n) = some xs := by
  unfold seqD
  simp only [h]
theorem tupOfE {d : D} {xs : List D} {M : Sto} (hs : seqD M d = some xs) (hl : xs.length ≤ lim) : dTupOf [d] M = .ok (.tup xs) M := by
  unfold dTupOf
  simp only [hs]
  rw [if_pos hl]
theorem lenE {d : D} {xs : List D} {M : Sto} (hs : seqD M d = some xs) : dLen [d] M = .ok (.int xs.length) M := eq_of_wp (wd_len hs ⟨rfl, rfl⟩)
theorem mCh_t {f g : Op2} {a b c : DE} {env : DEnv} {M M1 M2 M3 M4 M5 : Sto} {x y z d : D} (h1 : a env M = .ok x M1) (h2 : b env M1 = .ok y M2) (h3 : f x y M2 = .ok (.bl true) M3) (h4 : c env M3 = .ok z M4) (h5 : g y z M4 = .ok d M5) : mCh f g a b c env M = .ok d M5 := by
  unfold mCh
  rw [h1]
  show Out.bind (b env M1) _ = _
  rw [h2]
  show Out.bind (noExc (f x y M2)) _ = _
  rw [h3]
  show Out.bind (c env M3) _ = _
  rw [h4]
  show noExc (g y z M4) = _
  rw [h5]; rfl
theorem mCh_f {f g : Op2} {a b c : DE} {env : DEnv} {M M1 M2 M3 : Sto} {x y : D} (h1 : a env M = .ok x M1) (h2 : b env M1 = .ok y M2) (h3 : f x y M2 = .ok (.bl false) M3) : mCh f g a b c env M = .ok (.bl false) M3 := by
  unfold mCh
  rw [h1]
  show Out.bind (b env M1) _ = _
  rw [h2]
  show Out.bind (noExc (f x y M2)) _ = _
  rw [h3]; rfl
end EV
set_option maxHeartbeats 4000000
/-! lists put together, to be changed -/
namespace EV
open PySem PySem.Spec PyProof.Rows L2
def dAddL (tl : List D → Sto → Out D) : Op2 := fun a b M => match lstD M a, lstD M b with
  | some xs, some ys => if xs.length + ys.length ≤ lim then tl (xs ++ ys) M else .bad
  | _, _ => .bad
def dMulL (tl : List D → Sto → Out D) : Op2 := fun a b M => match lstD M a, b with
  | some xs, .int k => if -1000000 ≤ k ∧ k ≤ 1000000 ∧ xs.length * k.toNat ≤ lim then tl (repD k.toNat xs) M else .bad
  | _, _ => .bad
section
variable [Tbl] {X : Cx} {tl : List D → Sto → Out D}
theorem r_addL (T : TailOk tl) : S2 X (binaryOp .Add) (dAddL tl) := by
  intro pins s σ H x y v u Q I rx ry hq
  obtain ⟨F, r, R, M, a, b, S, ra, rb, hp⟩ := hq
  unfold dAddL at hp
  split at hp
  · rename_i xs ys e1 e2
    split at hp
    · rename_i hl
      obtain ⟨a1, vs, rfl, q1, q2⟩ := lstD_rep S ra e1
      obtain ⟨a2, ws, rfl, q3, q4⟩ := lstD_rep S rb e2
      exact op_catL pins s σ H _ _ v u Q I rx ry ⟨a1, a2, vs, ws, rfl, rfl, q1, q3, by rw [q2.length, q4.length]; exact lim_ok hl, fun p hpn => T.new S (q2.append q4) hp hpn⟩
    · exact hp.elim
  · exact hp.elim
theorem r_mulL (T : TailOk tl) : S2 X (binaryOp .Mult) (dMulL tl) := by
  intro pins s σ H x y v u Q I rx ry hq
  obtain ⟨F, r, R, M, a, b, S, ra, rb, hp⟩ := hq
  unfold dMulL at hp
  split at hp
  · rename_i xs k e1
    split at hp
    · rename_i hk
      rw [rep_int] at rb
      obtain ⟨a1, vs, rfl, q1, q2⟩ := lstD_rep S ra e1
      exact op_repL pins s σ H _ y v u Q I rx ry ⟨a1, _, vs, rfl, rb, q1, hk.1, hk.2.1, by rw [q2.length]; exact lim_ok hk.2.2, fun p hpn => T.new S (q2.rep _) hp hpn⟩
    · exact hp.elim
  · exact hp.elim
end
end EV
set_option maxHeartbeats 4000000
namespace EV
open PySem PySem.Spec PyProof.Rows L2
variable [Tbl]

/-! ### stars in displays -/
def aStar (a : DE) (as : DA) : DA := fun env M => (a env M).bind fun x M1 => match seqD M1 x with
  | some xs => (as env M1).bind fun ys M2 => .ok (xs ++ ys) M2
  | none => .bad
section
variable {X : Cx} {W : EXK} {pos : Pos} {a : Expr} {ma : DE} {es : List Expr} {mas : DA}
theorem eva_star {p : Pos} (ha : PE X a (tD X W ma)) (hr : PA X es (tA X W mas)) (hs : starEach (.Starred a p :: es) X.env = (true, eval a X.env) :: starEach es X.env := by rfl) : PA X (.Starred a p :: es) (tA X W (aStar ma mas)) := by
  refine PA.imp (StX.pa_star ha hr hs) fun σ H Q h => ?_
  obtain ⟨F, r, R, env, M, hE, hS, hp⟩ := h
  refine tX.imp (tX.bind OKx.mono' hE hS hp) fun x H1 ⟨F1, r1, M1, d, s1, p1, hE1, hS1, R1, hp1⟩ => ?_
  cases e : seqD M1 d with
  | none => rw [e] at hp1; exact hp1.elim
  | some xs =>
    rw [e] at hp1
    obtain ⟨q, vs, ev, sq, rs⟩ := seqD_rep hS1 R1 e
    refine ⟨q, vs, ev, sq.symm, ?_⟩
    refine tX.imp (tX.bind OKx.mono' hE1 hS1 hp1) fun y H2 ⟨F2, r2, M2, d2, s2, p2, hE2, hS2, R2, hp2⟩ => ?_
    exact hp2 F2 r2 H2 _ (Sub.refl _) (List.prefix_refl _) hS2 ((rs.mono s2 p2).append R2)
end

/-! ### dict comprehensions over what does not change -/
def dcL (g : CG) (c : DT) (ek ev : DE) (env : DEnv) : List D → List (Key × D) → Sto → Out (List (Key × D))
  | [], acc, M => .ok acc M
  | x :: xs, acc, M => match g x env with
    | none => .bad
    | some env1 => (noExc (c env1 M)).bind fun k M1 => if k = true then (noExc (ek env1 M1)).bind fun y M2 => (noExc (ev env1 M2)).bind fun z M3 => match keyD y with
      | some kk => dcL g c ek ev env xs (putKD acc kk z) M3
      | none => .bad
      else dcL g c ek ev env xs acc M1
def mDc (it : DI) (vs : List Nat) (g : CG) (c : DT) (ek ev : DE) : DE := fun env M => (it env M).bind fun s M1 => match s with
  | .imm xs => if xs.length ≤ lim then (dcL g c ek ev (wipeD env vs) xs [] M1).bind fun kvs M2 => .ok (.dct kvs) M2 else .bad
  | .live _ => .bad
theorem keyD_rep {G : Gd} {F : Hp} {r : List Addr} {d : D} {v : V} {k : Key} (q : Rep G F r d v) (e : keyD d = some k) : v = kV k := by
  cases d <;> first | (cases e; done) | skip
  · cases e
    rw [rep_int] at q
    exact q
  · cases e
    rw [rep_str] at q
    exact q
theorem wipe_wipe (σ : L2.St) (vs : List Nat) : L2.wipe (L2.wipe σ vs) vs = L2.wipe σ vs := by
  have gen : ∀ (ws us : List Nat) (τ : L2.St), (∀ w ∈ ws, w ∈ us) → L2.wipe (L2.wipe τ ws) us = L2.wipe τ us := by
    intro ws
    induction ws with
    | nil => intro us τ _; rfl
    | cons w ws ih =>
      intro us τ hw
      show L2.wipe ((L2.wipe τ ws).set w none) us = _
      rw [wipe_set w none us _ (hw w List.mem_cons_self)]
      exact ih us τ fun z hz => hw z (List.mem_cons_of_mem _ hz)
  exact gen vs vs σ fun w hw => hw
section
variable {X : Cx} {W : EXK} {pos : Pos}
theorem tD_dc {it : DI} {vs : List Nat} {t : TG} {g : CG} {c : DT} {ek ev : DE} (hcg : CGt (gd X) vs t g) {σ : L2.St} {H : Hp} {Q : VK}
    (h : tD X W (mDc it vs g c ek ev) σ H Q) : tDc (tI X W it) t (tT X W0 c) (tD X W0 ek) (tD X W0 ev) vs σ H Q := by
  obtain ⟨F, r, R, env, M, hE, hS, hp⟩ := h
  refine tX.imp (tX.bind OKx.mono' hE hS hp) fun J H1 ⟨F1, r1, M1, s, s1, p1, hE1, hS1, hJ, hp1⟩ => ?_
  cases s with
  | live n => exact hp1.elim
  | imm xs =>
    have hp1 : Out.post (if xs.length ≤ lim then (dcL g c ek ev (wipeD env vs) xs [] M1).bind fun kvs M2 => Out.ok (D.dct kvs) M2 else .bad) (OKx Rep (gd X) F1 r1 R Q) (EXc (gd X) F1 r1 R W σ) := hp1
    by_cases hxl : xs.length ≤ lim
    case neg => rw [if_neg hxl] at hp1; exact hp1.elim
    rw [if_pos hxl] at hp1
    intro A hA
    obtain ⟨_, hRA, _⟩ := hS1.notR hA
    refine ⟨fun i m H => i + m = xs.length ∧ ∃ F2 r2 acc us M, Sub F1 F2 ∧ r1 <+: r2 ∧ StoR (gd X) F2 r2 (upd R A (.dK us)) M H ∧ RepK (gd X) F2 r2 acc us ∧ us.length ≤ i ∧
      (dcL g c ek ev (wipeD env vs) (xs.drop i) acc M).post (fun kvs M' => OKx Rep (gd X) F1 r1 R Q (.dct kvs) M') (fun e M' => EXc (gd X) F1 r1 R W σ e M'), ⟨xs.length, Nat.zero_add _, F1, r1, [], [], M1, Sub.refl _, List.prefix_refl _, hS1.resv hA, .nil, Nat.le_refl _, Out.post_bind hp1⟩, ?_⟩
    rintro i m H2 ⟨him, F2, r2, acc, us, M2, s2, p2, hS2, hR2, hl2, h2⟩
    have hj := hJ F2 r2 _ M2 H2 i s2 p2 hS2
    have hat : (Src.imm xs).at_ M2 i = some xs[i]? := rfl
    rw [hat] at hj
    cases ex : xs[i]? with
    | none =>
      rw [ex] at hj
      refine .inl ⟨hj, ?_⟩
      have hd : xs.drop i = [] := List.drop_eq_nil_of_le (List.getElem?_eq_none_iff.mp ex)
      rw [hd] at h2
      obtain ⟨sF, S'⟩ := hS2.unresF hRA
      exact h2 _ r2 H2 _ (s2.trans sF) p2 S' (by rw [rep_dct]; exact ⟨A, us, rfl, upd_same, hR2.mono sF (List.prefix_refl _)⟩)
    | some d =>
      rw [ex] at hj
      obtain ⟨hi, ed⟩ := List.getElem?_eq_some_iff.mp ex
      have hd : xs.drop i = d :: xs.drop (i + 1) := by rw [← ed]; exact List.drop_eq_getElem_cons hi
      rw [hd] at h2
      unfold dcL at h2
      split at h2
      · exact h2.elim
      · rename_i env1 eg
        refine .inr ⟨hj.1, fun H' => ∃ F3 r3 acc us M, Sub F2 F3 ∧ r2 <+: r3 ∧ StoR (gd X) F3 r3 (upd R A (.dK us)) M H' ∧ RepK (gd X) F3 r3 acc us ∧ us.length ≤ i + 1 ∧
          (dcL g c ek ev (wipeD env vs) (xs.drop (i + 1)) acc M).post (fun kvs M' => OKx Rep (gd X) F1 r1 R Q (.dct kvs) M') (fun e M' => EXc (gd X) F1 r1 R W σ e M'), ?_, fun x H' y => ?_⟩
        · rintro H' ⟨F3, r3, acc3, us3, M3, s3, p3, hS3, hR3, hl3, h3⟩
          exact ⟨xs.length - (i + 1), by omega, by omega, F3, r3, acc3, us3, M3, s2.trans s3, p2.trans p3, hS3, hR3, hl3, h3⟩
        · obtain ⟨F3, s3, hS3, hR3⟩ := hj.2 x H' y
          have hE3 : EnvR (gd X) F3 r2 (wipeD env vs) (L2.wipe σ vs) := (hE1.wipe vs).mono (s2.trans s3) p2
          refine hcg.run F3 r2 _ M2 H' d x _ env1 _ _ hS3 hR3 hE3 eg fun σ2 hE2 hw => ⟨by rw [hw, wipe_wipe], ?_⟩
          refine ⟨F3, r2, _, env1, M2, hE2, hS3, Out.post_imp (post_noExc (Out.post_bind h2)) (fun tb M3 q => ?_) fun _ _ z => z.elim⟩
          intro F4 r4 H4 b s4 p4 hS4 hb
          have hb' : tb = b := hb
          subst hb'
          split at q
          · rename_i hb
            rw [if_pos hb]
            refine ⟨F4, r4, _, env1, M3, hE2.mono s4 p4, hS4, Out.post_imp (post_noExc (Out.post_bind q)) (fun yd M4 q4 => ?_) fun _ _ z => z.elim⟩
            intro F5 r5 H5 yv s5 p5 hS5 hR5
            refine ⟨F5, r5, _, env1, M4, hE2.mono (s4.trans s5) (p4.trans p5), hS5, Out.post_imp (post_noExc (Out.post_bind q4)) (fun zd M5 q5 => ?_) fun _ _ z => z.elim⟩
            intro F6 r6 H6 zv s6 p6 hS6 hR6
            cases ek' : keyD yd with
            | none => rw [ek'] at q5; exact q5.elim
            | some kk =>
              rw [ek'] at q5
              obtain ⟨hA6, _, _⟩ := hS6.resAt
              refine ⟨us, kk, keyD_rep hR5 ek', hA6, ?_, F6, r6, putKD acc kk zd, putK us kk zv, M5, s3.trans (s4.trans (s5.trans s6)), p4.trans (p5.trans p6), hS6.rewr, RepK.put hR6 (hR2.mono (s3.trans (s4.trans (s5.trans s6))) (p4.trans (p5.trans p6))), ?_, q5⟩
              · refine Nat.lt_of_le_of_lt (Nat.le_trans hl2 (Nat.le_trans (Nat.le_of_lt hi) hxl)) (by unfold lim; rw [sizeLine_eq]; decide)
              · have := length_putK us kk zv
                omega
          · rename_i hb
            rw [if_neg hb]
            exact ⟨F4, r4, acc, us, M3, s3.trans s4, p4, hS4, hR2.mono (s3.trans s4) p4, Nat.le_succ_of_le hl2, q⟩
theorem ev_dc {kx vx tg iter : Expr} {ifs : List Expr} {scope : Scope} {own : List (Str × Nat)} {it : DI} {t : TG} {g : CG} {c : DT} {ek ev : DE} (hc : X.calm = true) (hN : X.N.Nodup) (hi : PI X tg iter (tI X W it)) (ok : BlkOk X.N X.env.scope scope own) (hcg : CGt (gd X) (own.map (·.2)) t g)
    (hg : ∀ (s : Shared) (H : Hp) (C : Addr) (cl : List (Str × Addr)) (fp : List Addr), PG (X.blk s H scope (compEnvC scope cl C X.env) fp) tg t)
    (ht : ∀ (s : Shared) (H : Hp) (C : Addr) (cl : List (Str × Addr)) (fp : List Addr), PTs (X.blk s H scope (compEnvC scope cl C X.env) fp) ifs (tT (X.blk s H scope (compEnvC scope cl C X.env) fp) W0 c))
    (hk : ∀ (s : Shared) (H : Hp) (C : Addr) (cl : List (Str × Addr)) (fp : List Addr), PE (X.blk s H scope (compEnvC scope cl C X.env) fp) kx (tD (X.blk s H scope (compEnvC scope cl C X.env) fp) W0 ek))
    (he : ∀ (s : Shared) (H : Hp) (C : Addr) (cl : List (Str × Addr)) (fp : List Addr), PE (X.blk s H scope (compEnvC scope cl C X.env) fp) vx (tD (X.blk s H scope (compEnvC scope cl C X.env) fp) W0 ev)) (hs : ∀ x, foldedSetIterable iter X.env x = pure x := by intro _; rfl) :
    PE X (.DictComp kx vx [⟨tg, iter, ifs, 0⟩] scope pos) (tD X W (mDc it (own.map (·.2)) g c ek ev)) :=
  PE.imp (pe_dc (tt := tT X W0 c) (tk := tD X W0 ek) (tv := tD X W0 ev) hc hN hi ok hg ht hk he hs) fun σ H Q h => tD_dc hcg h
end

/-! ### list comprehensions of two clauses, over what does not change -/
def lc2L (g : CG) (c : DT) (it1 : DI) (vs1 : List Nat) (g1 : CG) (c1 : DT) (e : DE) (env : DEnv) : List D → Sto → Out (List D)
  | [], M => .ok [] M
  | x :: xs, M => match g x env with
    | none => .bad
    | some env1 => (noExc (c env1 M)).bind fun k M1 => if k = true then (noExc (it1 env1 M1)).bind fun s M2 => match s with
      | .imm ys => (lcL g1 c1 e (wipeD env1 vs1) ys M2).bind fun ds M3 => (lc2L g c it1 vs1 g1 c1 e env xs M3).bind fun es M4 => .ok (ds ++ es) M4
      | .live _ => .bad
      else lc2L g c it1 vs1 g1 c1 e env xs M1
def mLc2 (it : DI) (vs : List Nat) (g : CG) (c : DT) (it1 : DI) (vs1 : List Nat) (g1 : CG) (c1 : DT) (e : DE) (tl : List D → Sto → Out D) : DE := fun env M => (it env M).bind fun s M1 => match s with
  | .imm xs => (lc2L g c it1 vs1 g1 c1 e (wipeD env vs) xs M1).bind tl
  | .live _ => .bad
theorem lc2L_post {g : CG} {c : DT} {it1 : DI} {vs1 : List Nat} {g1 : CG} {c1 : DT} {e : DE} {env : DEnv} {P : List D → Sto → Prop} {Y : Exn → Sto → Prop} : ∀ {xs : List D} {M : Sto}, (lc2L g c it1 vs1 g1 c1 e env xs M).post P Y → (lc2L g c it1 vs1 g1 c1 e env xs M).post P fun _ _ => False
  | [], M, h => h
  | x :: xs, M, h => by
    unfold lc2L at h ⊢
    split at h
    · exact h.elim
    · rename_i env1 eg
      show Out.post ((noExc (c env1 M)).bind _) _ _
      cases e1 : c env1 M with
      | bad => rw [e1] at h; exact h.elim
      | exc _ _ => rw [e1] at h; exact h.elim
      | ok k M1 =>
        rw [e1] at h
        have h : Out.post (if k = true then _ else _) _ _ := h
        show Out.post (if k = true then _ else _) _ _
        split at h
        · rename_i hk
          rw [if_pos hk]
          cases e2 : it1 env1 M1 with
          | bad => rw [e2] at h; exact h.elim
          | exc _ _ => rw [e2] at h; exact h.elim
          | ok s M2 =>
            rw [e2] at h
            cases s with
            | live n => exact h.elim
            | imm ys =>
              have h : ((lcL g1 c1 e (wipeD env1 vs1) ys M2).bind fun ds M3 => (lc2L g c it1 vs1 g1 c1 e env xs M3).bind fun es M4 => Out.ok (ds ++ es) M4).post P Y := h
              show ((lcL g1 c1 e (wipeD env1 vs1) ys M2).bind fun ds M3 => (lc2L g c it1 vs1 g1 c1 e env xs M3).bind fun es M4 => Out.ok (ds ++ es) M4).post P _
              have h2 := lcL_post (Out.post_bind h)
              cases e3 : lcL g1 c1 e (wipeD env1 vs1) ys M2 with
              | bad => rw [e3] at h2; exact h2
              | exc _ _ => rw [e3] at h2; exact h2
              | ok ds M3 =>
                rw [e3] at h2
                have h2 : ((lc2L g c it1 vs1 g1 c1 e env xs M3).bind fun es M4 => Out.ok (ds ++ es) M4).post P Y := h2
                show ((lc2L g c it1 vs1 g1 c1 e env xs M3).bind fun es M4 => Out.ok (ds ++ es) M4).post P _
                have h4 := lc2L_post (Out.post_bind h2)
                cases e4 : lc2L g c it1 vs1 g1 c1 e env xs M3 with
                | bad => rw [e4] at h4; exact h4
                | exc _ _ => rw [e4] at h4; exact h4
                | ok es M4 => rw [e4] at h4; exact h4
        · rename_i hk
          rw [if_neg hk]
          exact lc2L_post h
section
variable {X : Cx} {W : EXK} {pos : Pos}
/-- the inner clause's turns -/
theorem comp_in {G : Gd} {vs : List Nat} {t : TG} {g : CG} {c : DT} {e : DE} {tt : TT} {te : TE} {ys : List D} {env : DEnv} (hg : CGt G vs t g)
    (htt : ∀ σ H Q, (∃ F r R env M, EnvR G F r env σ ∧ StoR G F r R M H ∧ (c env M).post (OKx RB G F r R Q) fun _ _ => False) → tt σ H Q)
    (hte : ∀ σ H Q, (∃ F r R env M, EnvR G F r env σ ∧ StoR G F r R M H ∧ (e env M).post (OKx Rep G F r R Q) fun _ _ => False) → te σ H Q)
    {J : It} {σ : L2.St} {F H R : Hp} {r : List Addr} {M : Sto} {Nx : Hp → Prop} {KD : List D → Sto → Prop} {A : Addr} {acc0 : List D} {us0 : List V}
    (hE : EnvR G F r env σ) (hS : StoR G F r (upd R A (.lst us0)) M H) (hJ : ItOk G F r (.imm ys) J) (hR0 : Reps G F r acc0 us0) (h : (lcL g c e (wipeD env vs) ys M).post (fun ds M' => KD (acc0 ++ ds) M') fun _ _ => False)
    (hl : ∀ acc M, KD acc M → acc.length ≤ lim)
    (fin : ∀ F' r' H' acc M' us, Sub F F' → r <+: r' → StoR G F' r' (upd R A (.lst us)) M' H' → Reps G F' r' acc us → KD acc M' → Nx H') :
    ∃ Wi : Nat → Nat → Hp → Prop, (∃ m, Wi 0 m H) ∧ ∀ i m H, Wi i m H →
      (J.stop i H ∧ Nx H) ∨ (J.go i H ∧ ∃ Nx1 : Hp → Prop, (∀ H', Nx1 H' → ∃ m', m' < m ∧ Wi (i + 1) m' H') ∧ ∀ x H', J.yld i H x H' → t x (L2.wipe σ vs) H' fun σ2 H2 => L2.wipe σ2 vs = L2.wipe σ vs ∧ tt σ2 H2 fun b H3 =>
        if b = true then te σ2 H3 fun y H4 => ∃ acc, H4 A = some (.lst acc) ∧ acc.length < sizeLine ∧ Nx1 (upd H4 A (.lst (acc ++ [y]))) else Nx1 H3) := by
  refine ⟨fun i m H => i + m = ys.length ∧ ∃ F1 r1 acc us M, Sub F F1 ∧ r <+: r1 ∧ StoR G F1 r1 (upd R A (.lst us)) M H ∧ Reps G F1 r1 acc us ∧ (lcL g c e (wipeD env vs) (ys.drop i) M).post (fun ds M' => KD (acc ++ ds) M') fun _ _ => False,
    ⟨ys.length, Nat.zero_add _, F, r, acc0, us0, M, Sub.refl _, List.prefix_refl _, hS, hR0, h⟩, ?_⟩
  rintro i m H1 ⟨him, F1, r1, acc, us, M1, s1, p1, hS1, hR1, h1⟩
  have hj := hJ F1 r1 _ M1 H1 i s1 p1 hS1
  have hat : (Src.imm ys).at_ M1 i = some ys[i]? := rfl
  rw [hat] at hj
  cases ex : ys[i]? with
  | none =>
    rw [ex] at hj
    have hd : ys.drop i = [] := List.drop_eq_nil_of_le (List.getElem?_eq_none_iff.mp ex)
    rw [hd] at h1
    have h1' : KD (acc ++ []) M1 := h1
    rw [List.append_nil] at h1'
    exact .inl ⟨hj, fin F1 r1 H1 acc M1 us s1 p1 hS1 hR1 h1'⟩
  | some d =>
    rw [ex] at hj
    obtain ⟨hi, ed⟩ := List.getElem?_eq_some_iff.mp ex
    have hd : ys.drop i = d :: ys.drop (i + 1) := by rw [← ed]; exact List.drop_eq_getElem_cons hi
    rw [hd] at h1
    have hlen : acc.length ≤ lim := by
      cases ez : lcL g c e (wipeD env vs) (d :: ys.drop (i + 1)) M1 with
      | bad => rw [ez] at h1; exact h1.elim
      | exc _ _ => rw [ez] at h1; exact h1.elim
      | ok ds M' =>
        rw [ez] at h1
        have := hl _ _ h1
        rw [List.length_append] at this
        omega
    unfold lcL at h1
    split at h1
    · exact h1.elim
    · rename_i env1 eg
      refine .inr ⟨hj.1, fun H' => ∃ F2 r2 acc us M, Sub F1 F2 ∧ r1 <+: r2 ∧ StoR G F2 r2 (upd R A (.lst us)) M H' ∧ Reps G F2 r2 acc us ∧ (lcL g c e (wipeD env vs) (ys.drop (i + 1)) M).post (fun ds M' => KD (acc ++ ds) M') fun _ _ => False, ?_, fun x H' y => ?_⟩
      · rintro H' ⟨F2, r2, acc2, us2, M2, s2, p2, hS2, hR2, h2⟩
        exact ⟨ys.length - (i + 1), by omega, by omega, F2, r2, acc2, us2, M2, s1.trans s2, p1.trans p2, hS2, hR2, h2⟩
      · obtain ⟨F3, s3, hS3, hR3⟩ := hj.2 x H' y
        have hE3 : EnvR G F3 r1 (wipeD env vs) (L2.wipe σ vs) := (hE.wipe vs).mono (s1.trans s3) p1
        refine hg.run F3 r1 _ M1 H' d x _ env1 _ _ hS3 hR3 hE3 eg fun σ2 hE2 hw => ⟨by rw [hw, wipe_wipe], ?_⟩
        refine htt _ _ _ ⟨F3, r1, _, env1, M1, hE2, hS3, Out.post_imp (post_noExc (Out.post_bind h1)) (fun tb M2 q => ?_) fun _ _ z => z⟩
        intro F4 r4 H4 b s4 p4 hS4 hb
        have hb' : tb = b := hb
        subst hb'
        split at q
        · rename_i hb
          rw [if_pos hb]
          refine hte _ _ _ ⟨F4, r4, _, env1, M2, hE2.mono s4 p4, hS4, Out.post_imp (post_noExc (Out.post_bind q)) (fun yd M3 q3 => ?_) fun _ _ z => z⟩
          intro F5 r5 H5 yv s5 p5 hS5 hR5
          obtain ⟨hA5, _, _⟩ := hS5.resAt
          have hlu : us.length ≤ lim := by rw [hR1.length]; exact hlen
          refine ⟨us, hA5, Nat.lt_of_le_of_lt hlu (by unfold lim; rw [sizeLine_eq]; decide), F5, r5, acc ++ [yd], us ++ [yv], M3, s3.trans (s4.trans s5), p4.trans p5, hS5.rewr, (hR1.mono (s3.trans (s4.trans s5)) (p4.trans p5)).append (Reps.one hR5), ?_⟩
          refine Out.post_imp (Out.post_bind q3) (fun ds M4 q4 => ?_) fun _ _ z => z
          have q4 : KD (acc ++ yd :: ds) M4 := q4
          rw [List.append_assoc]
          exact q4
        · rename_i hb
          rw [if_neg hb]
          exact ⟨F4, r4, acc, us, M2, s3.trans s4, p4, hS4, hR1.mono (s3.trans s4) p4, q⟩
theorem tD_lc2 {it it1 : DI} {vs vs1 : List Nat} {t t1 : TG} {g g1 : CG} {c c1 : DT} {e : DE} {tl : List D → Sto → Out D} (T : TailOk tl) (hcg : CGt (gd X) vs t g) (hcg1 : CGt (gd X) vs1 t1 g1) {σ : L2.St} {H : Hp} {Q : VK}
    (h : tD X W (mLc2 it vs g c it1 vs1 g1 c1 e tl) σ H Q) : tLc2 (tI X W it) t (tT X W0 c) (tI X W0 it1) t1 (tT X W0 c1) (tD X W0 e) vs vs1 σ H Q := by
  obtain ⟨F, r, R, env, M, hE, hS, hp⟩ := h
  refine tX.imp (tX.bind OKx.mono' hE hS hp) fun J H1 ⟨F1, r1, M1, s, s1, p1, hE1, hS1, hJ, hp1⟩ => ?_
  cases s with
  | live n => exact hp1.elim
  | imm xs =>
    have hp1 : ((lc2L g c it1 vs1 g1 c1 e (wipeD env vs) xs M1).bind tl).post (OKx Rep (gd X) F1 r1 R Q) (EXc (gd X) F1 r1 R W σ) := hp1
    intro A hA
    obtain ⟨_, hRA, _⟩ := hS1.notR hA
    have htt : ∀ σ H Q, (∃ F r R env M, EnvR (gd X) F r env σ ∧ StoR (gd X) F r R M H ∧ (c1 env M).post (OKx RB (gd X) F r R Q) fun _ _ => False) → tT X W0 c1 σ H Q := fun σ H Q ⟨F, r, R, env, M, a, b, z⟩ => ⟨F, r, R, env, M, a, b, Out.post_imp z (fun _ _ y => y) fun _ _ y => y.elim⟩
    have hte : ∀ σ H Q, (∃ F r R env M, EnvR (gd X) F r env σ ∧ StoR (gd X) F r R M H ∧ (e env M).post (OKx Rep (gd X) F r R Q) fun _ _ => False) → tD X W0 e σ H Q := fun σ H Q ⟨F, r, R, env, M, a, b, z⟩ => ⟨F, r, R, env, M, a, b, Out.post_imp z (fun _ _ y => y) fun _ _ y => y.elim⟩
    -- the wish behind the rest
    let KF : List D → Sto → Prop := fun acc M' => (tl acc M').post (OKx Rep (gd X) F1 r1 R Q) (EXc (gd X) F1 r1 R W σ)
    have hKl : ∀ acc M', KF acc M' → acc.length ≤ lim := fun acc M' z => T.len _ _ _ _ z
    have restl : ∀ (ys : List D) (acc : List D) (M' : Sto), (lc2L g c it1 vs1 g1 c1 e (wipeD env vs) ys M').post (fun es M4 => KF (acc ++ es) M4) (fun _ _ => False) → acc.length ≤ lim := fun ys acc M' z => by
      cases ez : lc2L g c it1 vs1 g1 c1 e (wipeD env vs) ys M' with
      | bad => rw [ez] at z; exact z.elim
      | exc _ _ => rw [ez] at z; exact z.elim
      | ok ds M4 =>
        rw [ez] at z
        have := hKl _ _ z
        rw [List.length_append] at this
        omega
    refine ⟨fun i m H => i + m = xs.length ∧ ∃ F2 r2 acc us M, Sub F1 F2 ∧ r1 <+: r2 ∧ StoR (gd X) F2 r2 (upd R A (.lst us)) M H ∧ Reps (gd X) F2 r2 acc us ∧
      (lc2L g c it1 vs1 g1 c1 e (wipeD env vs) (xs.drop i) M).post (fun es M4 => KF (acc ++ es) M4) (fun _ _ => False), ⟨xs.length, Nat.zero_add _, F1, r1, [], [], M1, Sub.refl _, List.prefix_refl _, hS1.resv hA, .nil, lc2L_post (Out.post_bind hp1)⟩, ?_⟩
    rintro i m H2 ⟨him, F2, r2, acc, us, M2, s2, p2, hS2, hR2, h2⟩
    have hj := hJ F2 r2 _ M2 H2 i s2 p2 hS2
    have hat : (Src.imm xs).at_ M2 i = some xs[i]? := rfl
    rw [hat] at hj
    cases ex : xs[i]? with
    | none =>
      rw [ex] at hj
      refine .inl ⟨hj, ?_⟩
      have hd : xs.drop i = [] := List.drop_eq_nil_of_le (List.getElem?_eq_none_iff.mp ex)
      rw [hd] at h2
      have h2' : KF (acc ++ []) M2 := h2
      rw [List.append_nil] at h2'
      exact T.fin (gd X) F2 r2 R H2 Q A acc us M2 _ hRA hS2 hR2 (Out.post_imp h2' (fun _ _ y => y.mono s2 p2) fun _ _ y => y)
    | some d =>
      rw [ex] at hj
      obtain ⟨hi, ed⟩ := List.getElem?_eq_some_iff.mp ex
      have hd : xs.drop i = d :: xs.drop (i + 1) := by rw [← ed]; exact List.drop_eq_getElem_cons hi
      rw [hd] at h2
      unfold lc2L at h2
      split at h2
      · exact h2.elim
      · rename_i env1 eg
        refine .inr ⟨hj.1, fun H' => ∃ F3 r3 acc us M, Sub F2 F3 ∧ r2 <+: r3 ∧ StoR (gd X) F3 r3 (upd R A (.lst us)) M H' ∧ Reps (gd X) F3 r3 acc us ∧
          (lc2L g c it1 vs1 g1 c1 e (wipeD env vs) (xs.drop (i + 1)) M).post (fun es M4 => KF (acc ++ es) M4) (fun _ _ => False), ?_, fun x H' y => ?_⟩
        · rintro H' ⟨F3, r3, acc3, us3, M3, s3, p3, hS3, hR3, h3⟩
          exact ⟨xs.length - (i + 1), by omega, by omega, F3, r3, acc3, us3, M3, s2.trans s3, p2.trans p3, hS3, hR3, h3⟩
        · obtain ⟨F3, s3, hS3, hR3⟩ := hj.2 x H' y
          have hE3 : EnvR (gd X) F3 r2 (wipeD env vs) (L2.wipe σ vs) := (hE1.wipe vs).mono (s2.trans s3) p2
          refine hcg.run F3 r2 _ M2 H' d x _ env1 _ _ hS3 hR3 hE3 eg fun σ2 hE2 hw => ⟨by rw [hw, wipe_wipe], ?_⟩
          refine ⟨F3, r2, _, env1, M2, hE2, hS3, Out.post_imp (post_noExc (Out.post_bind h2)) (fun tb M3 q => ?_) fun _ _ z => z.elim⟩
          intro F4 r4 H4 b s4 p4 hS4 hb
          have hb' : tb = b := hb
          subst hb'
          split at q
          · rename_i hb
            rw [if_pos hb]
            refine ⟨F4, r4, _, env1, M3, hE2.mono s4 p4, hS4, Out.post_imp (post_noExc (Out.post_bind q)) (fun yd M4 q4 => ?_) fun _ _ z => z.elim⟩
            intro F5 r5 H5 J1 s5 p5 hS5 hJ1
            cases yd with
            | live n => exact q4.elim
            | imm ys =>
              have q4 : ((lcL g1 c1 e (wipeD env1 vs1) ys M4).bind fun ds M3 => (lc2L g c it1 vs1 g1 c1 e (wipeD env vs) (xs.drop (i + 1)) M3).bind fun es M4 => Out.ok (ds ++ es) M4).post (fun es M4 => KF (acc ++ es) M4) (fun _ _ => False) := q4
              refine comp_in (KD := fun acc' M' => (lc2L g c it1 vs1 g1 c1 e (wipeD env vs) (xs.drop (i + 1)) M').post (fun es M4 => KF (acc' ++ es) M4) (fun _ _ => False)) hcg1 htt hte (hE2.mono (s4.trans s5) (p4.trans p5)) hS5 hJ1 (hR2.mono (s3.trans (s4.trans s5)) (p4.trans p5)) ?_ (fun acc' M' z => restl _ _ _ z) ?_
              · refine Out.post_imp (Out.post_bind q4) (fun ds M5 q5 => ?_) fun _ _ z => z
                refine Out.post_imp (Out.post_bind q5) (fun es M6 q6 => ?_) fun _ _ z => z
                have q6 : KF (acc ++ (ds ++ es)) M6 := q6
                rw [List.append_assoc]
                exact q6
              · intro F' r' H' acc' M' us' s' p' S' R' z
                exact ⟨F', r', acc', us', M', s3.trans (s4.trans (s5.trans s')), p4.trans (p5.trans p'), S', R', z⟩
          · rename_i hb
            rw [if_neg hb]
            exact ⟨F4, r4, acc, us, M3, s3.trans s4, p4, hS4, hR2.mono (s3.trans s4) p4, q⟩
theorem ev_lc2 {elt tg iter tg1 iter1 : Expr} {ifs ifs1 : List Expr} {scope : Scope} {own : List (Str × Nat)} {vs1 : List Nat} {it it1 : DI} {t t1 : TG} {g g1 : CG} {c c1 : DT} {e : DE} {tl : List D → Sto → Out D} (T : TailOk tl) (hc : X.calm = true) (hN : X.N.Nodup) (hi : PI X tg iter (tI X W it)) (ok : BlkOk X.N X.env.scope scope own) (hv : ∀ i ∈ vs1, i ∈ own.map (·.2))
    (hcg : CGt (gd X) (own.map (·.2)) t g) (hg : ∀ (s : Shared) (H : Hp) (C : Addr) (cl : List (Str × Addr)) (fp : List Addr), PG (X.blk s H scope (compEnvC scope cl C X.env) fp) tg t)
    (ht : ∀ (s : Shared) (H : Hp) (C : Addr) (cl : List (Str × Addr)) (fp : List Addr), PTs (X.blk s H scope (compEnvC scope cl C X.env) fp) ifs (tT (X.blk s H scope (compEnvC scope cl C X.env) fp) W0 c))
    (hi1 : ∀ (s : Shared) (H : Hp) (C : Addr) (cl : List (Str × Addr)) (fp : List Addr), PI (X.blk s H scope (compEnvC scope cl C X.env) fp) tg1 iter1 (tI (X.blk s H scope (compEnvC scope cl C X.env) fp) W0 it1))
    (hcg1 : CGt (gd X) vs1 t1 g1) (hg1 : ∀ (s : Shared) (H : Hp) (C : Addr) (cl : List (Str × Addr)) (fp : List Addr), PG (X.blk s H scope (compEnvC scope cl C X.env) fp) tg1 t1)
    (ht1 : ∀ (s : Shared) (H : Hp) (C : Addr) (cl : List (Str × Addr)) (fp : List Addr), PTs (X.blk s H scope (compEnvC scope cl C X.env) fp) ifs1 (tT (X.blk s H scope (compEnvC scope cl C X.env) fp) W0 c1))
    (he : ∀ (s : Shared) (H : Hp) (C : Addr) (cl : List (Str × Addr)) (fp : List Addr), PE (X.blk s H scope (compEnvC scope cl C X.env) fp) elt (tD (X.blk s H scope (compEnvC scope cl C X.env) fp) W0 e)) (hs : ∀ x, foldedSetIterable iter X.env x = pure x := by intro _; rfl) (hs1 : ∀ env x, foldedSetIterable iter1 env x = pure x := by intro _ _; rfl) :
    PE X (.ListComp elt [⟨tg, iter, ifs, 0⟩, ⟨tg1, iter1, ifs1, 0⟩] scope pos) (tD X W (mLc2 it (own.map (·.2)) g c it1 vs1 g1 c1 e tl)) :=
  PE.imp (pe_lc2 (wi1 := tI X W0 it1) (tt := tT X W0 c) (tt1 := tT X W0 c1) (te := tD X W0 e) hc hN hi ok hv hg ht hi1 hg1 ht1 he hs hs1) fun σ H Q h => tD_lc2 T hcg hcg1 h
theorem evs_setLc2 {i : Nat} {y : Str} {py spos : Pos} {elt tg iter tg1 iter1 : Expr} {ifs ifs1 : List Expr} {scope : Scope} {own : List (Str × Nat)} {vs1 : List Nat} {it it1 : DI} {t t1 : TG} {g g1 : CG} {c c1 : DT} {e : DE} {tl : List D → Sto → Out D} (T : TailOk tl) (hc : X.calm = true) (hN : X.N.Nodup) (hy : X.N[i]? = some y) (hyl : X.env.scope.names.lookup y = some .local)
    (hsw : swapsWith (.ListComp elt [⟨tg, iter, ifs, 0⟩, ⟨tg1, iter1, ifs1, 0⟩] scope pos) (some (.Name y py)) spos.line X.env = pure true) (hi : PI X tg iter (tI X W it)) (ok : BlkOk X.N X.env.scope scope own) (hv : ∀ i ∈ vs1, i ∈ own.map (·.2))
    (hcg : CGt (gd X) (own.map (·.2)) t g) (hg : ∀ (s : Shared) (H : Hp) (C : Addr) (cl : List (Str × Addr)) (fp : List Addr), PG (X.blk s H scope (compEnvC scope cl C X.env) fp) tg t)
    (ht : ∀ (s : Shared) (H : Hp) (C : Addr) (cl : List (Str × Addr)) (fp : List Addr), PTs (X.blk s H scope (compEnvC scope cl C X.env) fp) ifs (tT (X.blk s H scope (compEnvC scope cl C X.env) fp) W0 c))
    (hi1 : ∀ (s : Shared) (H : Hp) (C : Addr) (cl : List (Str × Addr)) (fp : List Addr), PI (X.blk s H scope (compEnvC scope cl C X.env) fp) tg1 iter1 (tI (X.blk s H scope (compEnvC scope cl C X.env) fp) W0 it1))
    (hcg1 : CGt (gd X) vs1 t1 g1) (hg1 : ∀ (s : Shared) (H : Hp) (C : Addr) (cl : List (Str × Addr)) (fp : List Addr), PG (X.blk s H scope (compEnvC scope cl C X.env) fp) tg1 t1)
    (ht1 : ∀ (s : Shared) (H : Hp) (C : Addr) (cl : List (Str × Addr)) (fp : List Addr), PTs (X.blk s H scope (compEnvC scope cl C X.env) fp) ifs1 (tT (X.blk s H scope (compEnvC scope cl C X.env) fp) W0 c1))
    (he : ∀ (s : Shared) (H : Hp) (C : Addr) (cl : List (Str × Addr)) (fp : List Addr), PE (X.blk s H scope (compEnvC scope cl C X.env) fp) elt (tD (X.blk s H scope (compEnvC scope cl C X.env) fp) W0 e)) (hs : ∀ x, foldedSetIterable iter X.env x = pure x := by intro _; rfl) (hs1 : ∀ env x, foldedSetIterable iter1 env x = pure x := by intro _ _; rfl) :
    PS X (.Assign [.Name y py] (.ListComp elt [⟨tg, iter, ifs, 0⟩, ⟨tg1, iter1, ifs1, 0⟩] scope pos) spos) (tS X W (sAsg (mLc2 it (own.map (·.2)) g c it1 vs1 g1 c1 e tl) (gN i))) := by
  refine PS.imp (ps_setLc2 (wi1 := tI X W0 it1) (tt := tT X W0 c) (tt1 := tT X W0 c1) (te := tD X W0 e) hc hN hy hyl hsw hi ok hv hg ht hi1 hg1 ht1 he hs hs1) fun Dn σ H h => ?_
  obtain ⟨F, r, R, env, M, hE, hS, hp⟩ := h
  refine tD_lc2 T hcg hcg1 (W := W) ?_
  refine tX.imp (thenS_bind hE hS hp) fun x H1 ⟨F1, r1, M1, d, s1, p1, hE1, hS1, R1, hp1⟩ => ?_
  exact hp1 F1 r1 H1 _ (Sub.refl _) (List.prefix_refl _) (hE1.set R1 i) hS1
end
end EV
set_option maxHeartbeats 4000000
/-! methods, makers and x[i] that errors may leave -/
namespace EV
open PySem PySem.Spec PyProof.Rows L2
variable [Tbl]
structure MetXAt (P : Program) (w : World) (K : PySem.W.Frag) (mg : Str → Option Value) (base : Heap) (k : Nat) (c m : Str) (n : Nat) (Fn : DFn) : Prop where
  at_ : ∃ C f fd ps, mg c = some (.ref C) ∧ Cls K C ∧ Meth K C m f ∧ Binds K fd ps [] ∧ ps.length = n ∧ FnG P w K mg base (L2.CX P w) k f fd ps (spD ⟨K, mg⟩ n Fn)
  ar : ∀ ds M, ds.length ≠ n → Fn ds M = .bad
structure NewXAt (P : Program) (w : World) (K : PySem.W.Frag) (mg : Str → Option Value) (base : Heap) (k : Nat) (c : Str) (n : Nat) (Fn : DFn) : Prop where
  at_ : ∃ C f fd ps, mg c = some (.ref C) ∧ Mk K C f ∧ Binds K fd ps [] ∧ ps.length = n ∧ FnG P w K mg base (L2.CX P w) k f fd ps (spD ⟨K, mg⟩ n Fn)
  ar : ∀ ds M, ds.length ≠ n → Fn ds M = .bad
structure ItmXAt (P : Program) (w : World) (K : PySem.W.Frag) (mg : Str → Option Value) (base : Heap) (k : Nat) (c : Str) (Fn : DFn) : Prop where
  at_ : ∃ C f fd ps, mg c = some (.ref C) ∧ Meth K C "__getitem__" f ∧ PySem.W.fnIn K f = true ∧ Binds K fd ps [] ∧ ps.length = 2 ∧ FnG P w K mg base (L2.CX P w) k f fd ps (spD ⟨K, mg⟩ 2 Fn)
section
variable {P : Program} {w : World} {K : PySem.W.Frag} {mg : Str → Option Value} {base : Heap} {c m qual : Str} {st : Stmt} {N ps : List Str} {j k n : Nat} {fin : Nat → D → Sto → Out D} {b : DS} {Fn : DFn}
theorem MetXAt.at0 (h : MetXAt P w K mg base k c m n Fn) : MetAt P w K mg base k c m n Fn :=
  let ⟨C, f, fd, ps, a, b, d, e, l, z⟩ := h.at_
  ⟨⟨C, f, fd, ps, a, b, d, e, l, z.calm⟩, h.ar⟩
theorem NewXAt.at0 (h : NewXAt P w K mg base k c n Fn) : NewAt P w K mg base k c n Fn :=
  let ⟨C, f, fd, ps, a, b, e, l, z⟩ := h.at_
  ⟨⟨C, f, fd, ps, a, b, e, l, z.calm⟩, h.ar⟩
theorem ItmXAt.at0 (h : ItmXAt P w K mg base k c Fn) : ItmAt P w K mg base k c Fn :=
  let ⟨C, f, fd, ps, a, b, d, e, l, z⟩ := h.at_
  ⟨⟨C, f, fd, ps, a, b, d, e, l, z.calm⟩⟩
theorem MetXAt.mono (h : MetXAt P w K mg base j c m n Fn) (hk : j ≤ k) : MetXAt P w K mg base k c m n Fn :=
  let ⟨C, f, fd, ps, a, b, d, e, l, z⟩ := h.at_
  ⟨⟨C, f, fd, ps, a, b, d, e, l, z.mono hk⟩, h.ar⟩
theorem NewXAt.mono (h : NewXAt P w K mg base j c n Fn) (hk : j ≤ k) : NewXAt P w K mg base k c n Fn :=
  let ⟨C, f, fd, ps, a, b, e, l, z⟩ := h.at_
  ⟨⟨C, f, fd, ps, a, b, e, l, z.mono hk⟩, h.ar⟩
theorem ItmXAt.mono (h : ItmXAt P w K mg base j c Fn) (hk : j ≤ k) : ItmXAt P w K mg base k c Fn :=
  let ⟨C, f, fd, ps, a, b, d, e, l, z⟩ := h.at_
  ⟨⟨C, f, fd, ps, a, b, d, e, l, z.mono hk⟩⟩
/-- what a body that errors may leave is to show -/
abbrev BodyX (P : Program) (w : World) (K : PySem.W.Frag) (mg : Str → Option Value) (base : Heap) (N : List Str) (qual : Str) (st : Stmt) (k : Nat) (b : DS) (f : Addr) : Prop :=
  ∀ (cdv : Value) (A : Around) (outer : List Env) (s : Shared) (H : Hp) (E : XK), Room k (A.deeper (envOfC qual (defScope st) s.heap.objs.size f cdv)) → A.guards = some [] →
      Takes (cxOf (L2.CX P w) P w K mg base N qual (defScope st) f cdv A outer s H E) (fun cls d _ H => E cls d H) →
      PassesOwn (model P w) (cxOf (L2.CX P w) P w K mg base N qual (defScope st) f cdv A outer s H E).A (cxOf (L2.CX P w) P w K mg base N qual (defScope st) f cdv A outer s H E).env (cxOf (L2.CX P w) P w K mg base N qual (defScope st) f cdv A outer s H E).xe →
      PSs (cxOf (L2.CX P w) P w K mg base N qual (defScope st) f cdv A outer s H E) (defBody st) (tS (cxOf (L2.CX P w) P w K mg base N qual (defScope st) f cdv A outer s H E) (fun cls d _ H => E cls d H) b)
theorem MetXAt.mk' (hfin : FinOk fin) (T : MDef K mg c m qual st ps) (S : FnScope N ps (defScope st)) (hb : ∀ f, BodyX P w K mg base N qual st k b f) : MetXAt P w K mg base (k + 1) c m ps.length (fnD ps.length N.length fin b) := by
  obtain ⟨C, f, fd, h1, h2, h3, h4, h5, h6⟩ := T
  exact ⟨⟨C, f, fd, ps, h1, h2, h3, h6, rfl, fnX_ok hfin h5 S (hb f)⟩, fun ds M h => by unfold fnD; rw [if_neg h]⟩
theorem NewXAt.mk' (hfin : FinOk fin) (T : NDef K mg c qual st ps) (S : FnScope N ps (defScope st)) (hb : ∀ f, BodyX P w K mg base N qual st k b f) : NewXAt P w K mg base (k + 1) c ps.length (fnD ps.length N.length fin b) := by
  obtain ⟨C, f, fd, h1, h2, h5, h6⟩ := T
  exact ⟨⟨C, f, fd, ps, h1, h2, h6, rfl, fnX_ok hfin h5 S (hb f)⟩, fun ds M h => by unfold fnD; rw [if_neg h]⟩
theorem ItmXAt.mk' (hfin : FinOk fin) (T : MDef K mg c "__getitem__" qual st ps) (hp : ps.length = 2) (S : FnScope N ps (defScope st)) (hb : ∀ f, BodyX P w K mg base N qual st k b f) : ItmXAt P w K mg base (k + 1) c (fnD ps.length N.length fin b) := by
  obtain ⟨C, f, fd, h1, h2, h3, h4, h5, h6⟩ := T
  have := fnX_ok (P := P) (w := w) (base := base) hfin h5 S (hb f)
  refine ⟨⟨C, f, fd, ps, h1, h3, h4, h6, hp, ?_⟩⟩
  rw [hp] at this ⊢
  exact this
end
def mMethX (c m : Str) (Fn : DFn) (o : DE) (as : DA) : DE := fun env M => (o env M).bind fun d M1 => match insD M1 c d with
  | some fs => if (fs.lookup m).isNone = true then (as env M1).bind fun ds M2 => Fn (d :: ds) M2 else .bad
  | none => .bad
def mNewX (c : Str) (Fn : DFn) (as : DA) : DE := fun env M => (as env M).bind fun ds M1 => (Fn (.ref M1.length :: ds) (M1 ++ [.ins c []])).bind fun d M2 => match d with
  | .non => finF M1.length (.ref M1.length) M2
  | _ => .bad
def mIxOX (c : Str) (Fn : DFn) (a b : DE) : DE := fun env M => (a env M).bind fun d M1 => (b env M1).bind fun i M2 => match insD M2 c d with
  | some _ => Fn [d, i] M2
  | none => .bad
section
variable {X : Cx} {W : EXK} {pos apos p : Pos} {o e : Expr} {es : List Expr} {mo me : DE} {mas : DA} {c m f : Str} {k n : Nat} {Fn : DFn}
theorem ev_methX {pl : Sem Bool} (F : MetXAt X.prog X.w X.K X.mg X.base k c m n Fn) (hr : Room k X.A) (hgd : X.A.guards = some []) (tk : Takes X W) (ho : PE X o (tD X W mo)) (ha : PA X (e :: es) (tA X W mas))
    (hst : starEach (e :: es) X.env = (false, eval e X.env) :: starEach es X.env := by rfl) (hpl : (backTo pos (starEach es X.env)).any (·.1) = false := by rfl)
    (ht : eval (.Call (.Attribute o m apos) (e :: es) [] pos) X.env = (do
      let obj ← eval o X.env
      standAt apos.atName
      let (g, fst) ← holding [obj] (getMethod obj m pl)
      callWith pos g fst (backTo pos (starEach (e :: es) X.env)) (backToKw pos (keywordEach [] X.env))) := by rfl) :
    PE X (.Call (.Attribute o m apos) (e :: es) [] pos) (tD X W (mMethX c m Fn mo mas)) := by
  obtain ⟨C, g, fd, ps, hC, hcl, hme, hb, hps, G⟩ := F.at_
  refine ⟨fun pins s σ H Q I h => ?_⟩
  obtain ⟨F0, r, R, env, M, hE, hS, hp⟩ := h
  refine PySem.W.methodCall_KW (pl := pl) (thn (ho.run pins s σ H _ I (tX.bind OKx.mono' hE hS hp)) fun u s1 ⟨x, H1, I1, rx, q⟩ => ?_) ht
  obtain ⟨F1, r1, M1, d, s1', p1, hE1, hS1, R1, hp1⟩ := q
  cases e1 : insD M1 c d with
  | none => rw [e1] at hp1; exact hp1.elim
  | some fs =>
    rw [e1] at hp1
    dsimp only at hp1
    split at hp1
    · rename_i hno
      rw [Option.isNone_iff_eq_none] at hno
      obtain ⟨a, C', dx, vfs, rfl, hC', hH, hF⟩ := insD_rep hS1 R1 e1
      have : C' = C := by
        have := hC'.symm.trans hC
        cases this
        rfl
      subst this
      obtain rfl : u = Value.ref a := rx
      refine getmeth_ok I1 hH hcl hme (hF.none hno) ?_
      refine PySem.W.callWith_K (first := [.ref a]) (h₀ := X.base) I.ok.mod.kin hme.kp (thn (ha.run pos pins s1 σ H1 _ I1 (tX.bind OKx.mono' hE1 hS1 hp1)) fun us s2 ⟨vs, H2, I2, r2, q2⟩ => ⟨I2.kIn, ?_⟩) hst hpl
      obtain ⟨F2, r2', M2, ds, s2', p2, hE2, hS2, R2, hp2⟩ := q2
      exact run_fnGX (us := .ref a :: us) (vs := .ref a :: vs) G hr hgd hb tk I2 (.cons rfl r2) ⟨by rw [List.length_cons, R2.length]; exact len_of F.ar hp2, F2, r2', R, M2, d :: ds, .cons (R1.mono s2' p2) R2, hS2, hp2⟩
    · exact hp1.elim
theorem ev_methX0 {pl : Sem Bool} (F : MetXAt X.prog X.w X.K X.mg X.base k c m n Fn) (hr : Room k X.A) (hgd : X.A.guards = some []) (tk : Takes X W) (ho : PE X o (tD X W mo))
    (ht : eval (.Call (.Attribute o m apos) [] [] pos) X.env = (do
      let obj ← eval o X.env
      standAt apos.atName
      let (g, fst) ← holding [obj] (getMethod obj m pl)
      callWith pos g fst (backTo pos (starEach [] X.env)) (backToKw pos (keywordEach [] X.env))) := by rfl) :
    PE X (.Call (.Attribute o m apos) [] [] pos) (tD X W (mMethX c m Fn mo aNil)) := by
  obtain ⟨C, g, fd, ps, hC, hcl, hme, hb, hps, G⟩ := F.at_
  refine ⟨fun pins s σ H Q I h => ?_⟩
  obtain ⟨F0, r, R, env, M, hE, hS, hp⟩ := h
  refine PySem.W.methodCall_KW (pl := pl) (thn (ho.run pins s σ H _ I (tX.bind OKx.mono' hE hS hp)) fun u s1 ⟨x, H1, I1, rx, q⟩ => ?_) ht
  obtain ⟨F1, r1, M1, d, s1', p1, hE1, hS1, R1, hp1⟩ := q
  cases e1 : insD M1 c d with
  | none => rw [e1] at hp1; exact hp1.elim
  | some fs =>
    rw [e1] at hp1
    dsimp only at hp1
    split at hp1
    · rename_i hno
      rw [Option.isNone_iff_eq_none] at hno
      obtain ⟨a, C', dx, vfs, rfl, hC', hH, hF⟩ := insD_rep hS1 R1 e1
      have : C' = C := by
        have := hC'.symm.trans hC
        cases this
        rfl
      subst this
      obtain rfl : u = Value.ref a := rx
      refine getmeth_ok I1 hH hcl hme (hF.none hno) ?_
      have hps2 : (Fn [d] M1).post _ _ := hp1
      exact PySem.W.callWith_K0 (first := [.ref a]) I1.kIn hme.kp (run_fnGX (us := [.ref a]) (vs := [.ref a]) G hr hgd hb tk I1 (.cons rfl .nil) ⟨len_of F.ar hps2, F1, r1, R, M1, [d], .one R1, hS1, hps2⟩)
    · exact hp1.elim
theorem run_makeGX {C g : Addr} {fd : FuncData} {ps : List Str} {pins : List (Addr × Obj)} {σ : L2.St} {H : Hp} {s : Shared} {Q : VK} {us : List Value} {vs : List V} (Mm : Mk X.K C g) (F : FnG X.prog X.w X.K X.mg X.base (L2.CX X.prog X.w) k g fd ps (spD (gd X) n Fn)) (hr : Room (k + 1) X.A) (hgd : X.A.guards = some []) (hb : Binds X.K fd ps [])
    (tk : Takes X W) (I : Inv X pins σ H s) (r : Vals vs us)
    (h : ∀ x dx, H x = none → H dx = none → dx ≠ x → spD (gd X) n Fn (.ref x :: vs) (upd (upd H dx (.own x)) x (.ins C dx [])) (fun v H2 => v = .non ∧ Q (.ref x) H2) fun cls d H => W cls d σ H) :
    wpAny (model X.prog X.w) X.A (call (.ref C) us) (EP X pins σ Q) X.xe s := by
  have hq := h (s.heap.objs.size + 1) s.heap.objs.size (I.hok.fresh (Nat.le_succ _)) (I.hok.fresh (Nat.le_refl _)) (Nat.ne_of_lt (Nat.lt_succ_self _))
  have J := Inv.made (C := C) I
  have r2 : Vals (V.ref (s.heap.objs.size + 1) :: vs) (Value.ref (s.heap.objs.size + 1) :: us) := .cons rfl r
  have hl : (Value.ref (s.heap.objs.size + 1) :: us).length = ps.length := by
    rw [← r2.length]
    exact F.len _ _ _ _ hq
  have hb' := hb _ (Value.ref (s.heap.objs.size + 1) :: us) J.kIn (by rw [List.append_nil]; exact hl)
  rw [List.append_nil] at hb'
  refine wpAny_call (make_map (f := g) I.kIn Mm.makes Mm.init (beq_iff_eq.mp Mm.fn) (codeAny_mono (F.run _ X.stack _ _ ⟨Value.ref (s.heap.objs.size + 1) :: us, []⟩ (Value.ref (s.heap.objs.size + 1) :: us) _ _ _ (hr.make C us []) hgd
    (J.env0.make C us []) hb' r2 hq) fun res s' hq' => ?_))
  cases res with
  | error e => exact tk e s' (XE.of_call J (fun _ _ _ z => z) hq')
  | ok fl =>
    cases fl with
    | ret u =>
      obtain ⟨v, H', I3, rv, ev, q3⟩ := J.after hq'
      subst ev
      exact ⟨rv, V.ref (s.heap.objs.size + 1), H', I3, rfl, q3⟩
    | next => exact False.elim hq'
    | brk => exact False.elim hq'
    | cont => exact False.elim hq'
theorem newX_sp {F0 H1 : Hp} {r0 : List Addr} {R : Hp} {M1 : Sto} {ds : List D} {vs : List V} {C : Addr} {Q : VK} {σ : L2.St} (hn : ∀ {ds : List D} {M : Sto} {P : D → Sto → Prop} {Y : Exn → Sto → Prop}, (Fn ds M).post P Y → ds.length = n) (hC : X.mg c = some (.ref C)) (hS : StoR (gd X) F0 r0 R M1 H1) (hR : Reps (gd X) F0 r0 ds vs)
    (hp : ((Fn (.ref M1.length :: ds) (M1 ++ [.ins c []])).bind fun d M2 => match d with
      | .non => finF M1.length (.ref M1.length) M2
      | _ => .bad).post (OKx Rep (gd X) F0 r0 R Q) (EXc (gd X) F0 r0 R W σ)) (x dx : Addr) (hx : H1 x = none) (hdx : H1 dx = none) (hne : dx ≠ x) :
    spD (gd X) n Fn (.ref x :: vs) (upd (upd H1 dx (.own x)) x (.ins C dx [])) (fun v H2 => v = .non ∧ Q (.ref x) H2) fun cls d H => W cls d σ H := by
  have hb := Out.post_bind hp
  have S1 := hS.froz (p := dx) (u := .own x) hdx
  have sub1 : Sub F0 (upd F0 dx (.own x)) := fun a o e => by
    rw [upd_ne (ne_of_none (hS.sub _ _ e) hdx)]; exact e
  have S2 := S1.live (p := x) (u := .ins C dx []) (by rw [upd_ne (Ne.symm hne)]; exact hx) (o := .ins c []) fun H' hH' => ⟨C, dx, [], hC, hH', RepF.nil⟩
  refine ⟨by rw [List.length_cons, hR.length]; exact hn hb, _, _, R, _, .ref M1.length :: ds, .cons ?_ (hR.mono sub1 (List.prefix_append ..)), S2, Out.post_imp hb (fun d M2 q => ?_) fun e M2 q => ?_⟩
  · unfold Rep
    exact ⟨x, by rw [hS.len, List.getElem?_append_right (Nat.le_refl _), Nat.sub_self]; rfl, rfl⟩
  · intro F' r' H' v s p S z
    cases d <;> try exact q.elim
    rw [rep_non] at z
    refine ⟨z, ?_⟩
    have hrx : Rep (gd X) F' r' (.ref M1.length) (.ref x) := by
      unfold Rep
      refine ⟨x, pre_get p ?_, rfl⟩
      rw [hS.len, List.getElem?_append_right (Nat.le_refl _), Nat.sub_self]; rfl
    obtain ⟨F2, r2, d2, M3, s2, p2, S3, R3, h3⟩ := finF_ok (gd X) F' r' R M2 H' M1.length _ _ _ _ (by rw [hS.len]; exact hS.og.2.length_le) S hrx q
    refine h3 F2 r2 H' _ (sub1.trans (s.trans s2)) ?_ S3 R3
    refine List.IsPrefix.trans ?_ p2
    obtain ⟨t, ht⟩ := p
    rw [← ht, hS.len, List.append_assoc, List.take_append_of_le_length (Nat.le_refl _), List.take_length]
    exact List.prefix_refl _
  · intro F' r' H' cls dd s p S z
    exact q F' r' H' cls dd (sub1.trans s) (List.IsPrefix.trans (List.prefix_append _ _) p) S z
theorem ev_newX (N : NewXAt X.prog X.w X.K X.mg X.base k c n Fn) (hr : Room (k + 1) X.A) (hgd : X.A.guards = some []) (tk : Takes X W) (hg : Gl X c) (ha : PA X (e :: es) (tA X W mas)) (hdb : (c == ("__debug__" : Str)) = false := by decide)
    (he : starEach (e :: es) X.env = (false, eval e X.env) :: starEach es X.env := by rfl) (hpl : (backTo pos (starEach es X.env)).any (·.1) = false := by rfl) :
    PE X (.Call (.Name c p) (e :: es) [] pos) (tD X W (mNewX c Fn mas)) := by
  obtain ⟨C, f, fd, ps, hC, hmk, hb, hps, G⟩ := N.at_
  refine ⟨fun pins s σ H Q I h => ?_⟩
  obtain ⟨F0, r, R, env, M, hE, hS, hp⟩ := h
  refine wpAny_Call_Name_kw (ld_glob I hg hC ?_ hdb)
  refine PySem.W.callWith_K (h₀ := X.base) I.ok.mod.kin hmk.kp (thn (ha.run pos pins s σ H _ I (tX.bind OKx.mono' hE hS hp)) fun us s1 ⟨vs, H1, I1, r1, q⟩ => ⟨I1.kIn, ?_⟩) he hpl
  obtain ⟨F1, r1', M1, ds, s1', p1, hE1, hS1, R1, hp1⟩ := q
  exact run_makeGX hmk G hr hgd hb tk I1 r1 (newX_sp (len_of N.ar) hC hS1 R1 hp1)
theorem ev_ixOX {a b : Expr} {ma mb : DE} {pos : Pos} (N : ItmXAt X.prog X.w X.K X.mg X.base k c Fn) (hr : Room (k + 1) X.A) (hgd : X.A.guards = some []) (tk : Takes X W) (ha : PE X a (tD X W ma)) (hb : PE X b (tD X W mb))
    (hsl : ∀ (x : Addr) (i : Value), subscripted b true (.ref x) i = runValue (.builtin "lifetime.subscript" ⟨[.ref x, i], []⟩) := by intros; with_unfolding_all rfl) : PE X (.Subscript a b pos) (tD X W (mIxOX c Fn ma mb)) := by
  refine ⟨fun pins s σ H Q I h => ?_⟩
  obtain ⟨F0, r, R, env, M, hE, hS, hp⟩ := h
  refine Subscript_ (thn (ha.run pins s σ H _ I (tX.bind OKx.mono' hE hS hp)) fun v s1 ⟨x, H1, I1, rx, q⟩ => ?_)
  obtain ⟨F1, r1, M1, d, s1', p1, hE1, hS1, R1, hp1⟩ := q
  refine thn (hb.run pins s1 σ H1 _ I1 (tX.bind OKx.mono' hE1 hS1 hp1)) fun u s2 ⟨y, H2, I2, ry, q2⟩ => ?_
  obtain ⟨F2, r2, M2, i, s2', p2, hE2, hS2, R2, hp2⟩ := q2
  cases e : insD M2 c d with
  | none => rw [e] at hp2; exact hp2.elim
  | some fs =>
    rw [e] at hp2
    obtain ⟨C, g, fd, ps, hC, hme, hfi, hbi, hps, G⟩ := N.at_
    have R1' := R1.mono s2' p2
    obtain ⟨z, C', dx, vfs, rfl, hC', hH, hF⟩ := insD_rep hS2 R1' e
    have : C' = C := by
      have := hC'.symm.trans hC
      cases this
      rfl
    subst this
    obtain rfl : v = Value.ref z := rx
    obtain ⟨mA, O, _⟩ := ins_get I2.hok hH
    obtain ⟨od, J, _⟩ := O.look
    obtain ⟨m, hFr⟩ := I2.fr
    have hps2 : (Fn [d, i] M2).post _ _ := hp2
    have hbi' := hbi s2 [.ref z, u] I2.kIn (by rw [List.append_nil, hps]; rfl)
    rw [List.append_nil] at hbi'
    refine PySem.W.sub_K hFr I2.ok.mod.kin J hme.at_ hfi hme.fn (wpAny_call (codeAny_mono (G.run X.A.in1 X.stack s2 H2 ⟨[.ref z, u], []⟩ [.ref z, u] [.ref z, y] Q (fun cls d H => W cls d σ H) hr.in1 hgd I2.env0.in1 hbi' (.cons (show RelV (.ref z) (.ref z) from rfl) (.cons ry .nil)) ⟨rfl, F2, r2, R, M2, [d, i], .cons R1' (.cons R2 .nil), hS2, hps2⟩) fun res s' hq => ?_)) (hsl z u)
    cases res with
    | error e => exact tk e s' (XE.of_call I2 (fun _ _ _ z => z) hq)
    | ok fl =>
      cases fl with
      | ret u => exact I2.after hq
      | next => exact False.elim hq
      | brk => exact False.elim hq
      | cont => exact False.elim hq
end
end EV
set_option maxHeartbeats 4000000
/-! what reads no live object runs on an empty store: the rest of the store is reserved for the while -/
namespace EV
open PySem PySem.Spec PyProof.Rows L2
variable [Tbl]
/-- reserved: what was, and the live objects -/
noncomputable def hidR (R H : Hp) (r : List Addr) : Hp := fun a => open Classical in if a ∈ r then H a else R a
section
variable {G : Gd} {F F' H H' R : Hp} {r r' : List Addr} {M M' : Sto}
theorem hidR_in {a : Addr} (h : a ∈ r) : hidR R H r a = H a := by unfold hidR; rw [if_pos h]
theorem hidR_out {a : Addr} (h : a ∉ r) : hidR R H r a = R a := by unfold hidR; rw [if_neg h]
theorem StoR.outR (S : StoR G F r R M H) {a : Addr} {o : HO} (e : R a = some o) : a ∉ r := fun h => by rw [S.rr a h] at e; cases e
theorem StoR.hide (h0 : Tbl.r = []) (S : StoR G F r R M H) : StoR G F [] (hidR R H r) [] H := by
  refine ⟨rfl, List.nodup_nil, S.sub, fun a o e => ?_, fun a ha => absurd ha (by simp), fun a ha => absurd ha (by simp), fun a o e => ?_, fun n a o h1 h2 => absurd h1 (by simp), ⟨S.ax.nt, ⟨fun a u e => ?_, fun p hp => ?_⟩, S.ax.tb⟩, ⟨S.og.1, by rw [h0]; exact List.prefix_refl _⟩⟩
  · by_cases h : a ∈ r
    · rw [hidR_in h] at e; exact e
    · rw [hidR_out h] at e; exact S.res _ _ e
  · by_cases h : a ∈ r
    · exact S.fr a h
    · rw [hidR_out h] at e; exact S.fx _ _ e
  · by_cases h : a ∈ r
    · rw [hidR_in h] at e
      obtain ⟨n, hn⟩ := List.mem_iff_getElem?.mp h
      obtain ⟨u', hu', ok⟩ := S.okAt hn
      rw [e] at hu'
      cases hu'
      exact okF_ne ok
    · rw [hidR_out h] at e; exact S.ax.nr.nr a u e
  · have z := S.ax.nr.cd p hp
    rw [hidR_out (S.outR z)]
    exact z
theorem StoR.unhide (S : StoR G F r R M H) (s : Sub F F') (S' : StoR G F' r' (hidR R H r) M' H') : StoR G F' r R M H' := by
  have kp : ∀ a ∈ r, ∀ u, H a = some u → H' a = some u := fun a ha u e => S'.res a u (by rw [hidR_in ha]; exact e)
  refine ⟨S.len, S.nd, S'.sub, fun a o e => ?_, fun a ha => ?_, S.rr, fun a o e => ?_, fun n a o h1 h2 => ?_, ⟨S'.ax.nt, S.ax.nr, S'.ax.tb⟩, ⟨S'.og.1, S.og.2⟩⟩
  · exact S'.res a o (by rw [hidR_out (S.outR e)]; exact e)
  · obtain ⟨n, hn⟩ := List.mem_iff_getElem?.mp ha
    obtain ⟨u, hu, _⟩ := S.okAt hn
    exact S'.fx a u (by rw [hidR_in ha]; exact hu)
  · exact S'.fx a o (by rw [hidR_out (S.outR e)]; exact e)
  · exact (S.at_ n a o h1 h2).mono s (List.prefix_refl _) (kp a (List.mem_of_getElem? h1))
end
/-- the slots that are read -/
def maskD : List Bool → DEnv → DEnv
  | _, [] => []
  | true :: bs, o :: os => o :: maskD bs os
  | false :: bs, _ :: os => none :: maskD bs os
  | [], _ :: os => none :: maskD [] os
/-- no live objects in the slots -/
def closedE : DEnv → Bool
  | [] => true
  | some d :: os => below 0 d && !d.isCur && closedE os
  | none :: os => closedE os
def mClo (bs : List Bool) (m : DE) : DE := fun env M => if closedE (maskD bs env) = true then (match m (maskD bs env) [] with
  | .ok d _ => if below 0 d = true then .ok d M else .bad
  | _ => .bad) else .bad
def tClo (bs : List Bool) (m : DT) : DT := fun env M => if closedE (maskD bs env) = true then (match m (maskD bs env) [] with
  | .ok k _ => .ok k M
  | _ => .bad) else .bad
theorem maskD_get : ∀ {bs : List Bool} {env : DEnv} {i : Nat} {d : D}, (maskD bs env)[i]? = some (some d) → env[i]? = some (some d)
  | bs, [], i, d, h => by
    have : maskD bs [] = [] := by cases bs <;> rfl
    rw [this] at h; exact h
  | true :: bs, o :: os, 0, d, h => h
  | true :: bs, o :: os, i + 1, d, h => by
    have h : (maskD bs os)[i]? = some (some d) := h
    have h := maskD_get (bs := bs) (env := os) h
    exact h
  | false :: bs, o :: os, 0, d, h => by cases h
  | false :: bs, o :: os, i + 1, d, h => by
    have h : (maskD bs os)[i]? = some (some d) := h
    have h := maskD_get (bs := bs) (env := os) h
    exact h
  | [], o :: os, 0, d, h => by cases h
  | [], o :: os, i + 1, d, h => by
    have h : (maskD [] os)[i]? = some (some d) := h
    have h := maskD_get (bs := []) (env := os) h
    exact h
theorem maskD_len : ∀ (bs : List Bool) (env : DEnv), (maskD bs env).length = env.length
  | bs, [] => by cases bs <;> rfl
  | true :: bs, o :: os => by show (maskD bs os).length + 1 = _; rw [maskD_len bs os]; rfl
  | false :: bs, o :: os => by show (maskD bs os).length + 1 = _; rw [maskD_len bs os]; rfl
  | [], o :: os => by show (maskD [] os).length + 1 = _; rw [maskD_len [] os]; rfl
theorem closedE_at : ∀ {env : DEnv} {i : Nat} {d : D}, closedE env = true → env[i]? = some (some d) → below 0 d = true ∧ d.isCur = false
  | [], i, d, h, e => by cases e
  | some x :: os, 0, d, h, e => by
    cases e
    unfold closedE at h
    simp only [Bool.and_eq_true, Bool.not_eq_true'] at h
    exact ⟨h.1.1, h.1.2⟩
  | some x :: os, i + 1, d, h, e => by
    unfold closedE at h
    simp only [Bool.and_eq_true] at h
    have e : os[i]? = some (some d) := e
    exact closedE_at h.2 e
  | none :: os, 0, d, h, e => by cases e
  | none :: os, i + 1, d, h, e => by
    have h : closedE os = true := h
    have e : os[i]? = some (some d) := e
    exact closedE_at h e
theorem EnvR.mask {G : Gd} {F : Hp} {r : List Addr} {env : DEnv} {σ : L2.St} (h : EnvR G F r env σ) (bs : List Bool) (hc : closedE (maskD bs env) = true) : EnvR G F [] (maskD bs env) σ := by
  refine ⟨by rw [maskD_len]; exact h.1, fun i d e => ?_⟩
  obtain ⟨v, h1, h2⟩ := h.2 i d (maskD_get e)
  obtain ⟨b, c⟩ := closedE_at hc e
  refine ⟨v, h1, RepV.of ?_⟩
  have := Rep.cut (k := 0) (h2.val c) b
  rw [List.take_zero] at this
  exact this
section
variable {X : Cx} {W : EXK}
theorem ev_clo {e : Expr} {m : DE} (h0 : Tbl.r = []) (bs : List Bool) (h : PE X e (tD X W m)) : PE X e (tD X W (mClo bs m)) := by
  refine PE.imp h fun σ H Q q => ?_
  obtain ⟨F, r, R, env, M, hE, hS, hp⟩ := q
  unfold mClo at hp
  split at hp
  case isFalse => exact hp.elim
  rename_i hc
  refine ⟨F, [], hidR R H r, maskD bs env, [], hE.mask bs hc, hS.hide h0, ?_⟩
  split at hp
  case h_2 => exact hp.elim
  rename_i d M0 em
  rw [em]
  split at hp
  case isFalse => exact hp.elim
  rename_i hb
  intro F' r' H' v s p S' R'
  have c := Rep.cut (k := 0) R' hb
  rw [List.take_zero] at c
  exact hp F' r H' v s (List.prefix_refl _) (hS.unhide s S') (c.mono (Sub.refl _) List.nil_prefix)
theorem evt_clo {e : Expr} {m : DT} (h0 : Tbl.r = []) (bs : List Bool) (h : PT X e (tT X W m)) : PT X e (tT X W (tClo bs m)) := by
  refine PT.imp h fun σ H Q q => ?_
  obtain ⟨F, r, R, env, M, hE, hS, hp⟩ := q
  unfold tClo at hp
  split at hp
  case isFalse => exact hp.elim
  rename_i hc
  refine ⟨F, [], hidR R H r, maskD bs env, [], hE.mask bs hc, hS.hide h0, ?_⟩
  split at hp
  case h_2 => exact hp.elim
  rename_i k M0 em
  rw [em]
  intro F' r' H' v s p S' R'
  exact hp F' r H' v s (List.prefix_refl _) (hS.unhide s S') R'
end
/-! ### what is checked of them -/
def chkC (m : DE) (env : DEnv) : Bool := closedE env && match m env [] with
  | .ok d _ => below 0 d && !d.isCur
  | _ => false
def valC (m : DE) (env : DEnv) : D := match m env [] with
  | .ok d _ => d
  | _ => .non
def chkF (m : DT) (env : DEnv) : Bool := closedE env && match m env [] with
  | .ok k _ => !k
  | _ => false
def chkT (m : DE) (env : DEnv) : Bool := closedE env && match m env [] with
  | .ok (.bl k) _ => k
  | _ => false
omit [Tbl] in
theorem mClo_ok {bs : List Bool} {m : DE} {env : DEnv} {M : Sto} (h : chkC m (maskD bs env) = true) : mClo bs m env M = .ok (valC m (maskD bs env)) M := by
  unfold chkC at h
  rw [Bool.and_eq_true] at h
  unfold mClo valC
  rw [if_pos h.1]
  obtain ⟨_, h⟩ := h
  split at h
  · rename_i d M0 e
    rw [Bool.and_eq_true] at h
    try rw [e]
    show (if below 0 d = true then _ else _) = _
    rw [if_pos h.1]
  · cases h
omit [Tbl] in
theorem valC_cur {m : DE} {env : DEnv} (h : chkC m env = true) : (valC m env).isCur = false ∧ below 0 (valC m env) = true := by
  unfold chkC at h
  rw [Bool.and_eq_true] at h
  unfold valC
  obtain ⟨_, h⟩ := h
  split at h
  · rename_i d M0 e
    rw [Bool.and_eq_true, Bool.not_eq_true'] at h
    try rw [e]
    exact ⟨h.2, h.1⟩
  · cases h
omit [Tbl] in
theorem tClo_f {bs : List Bool} {m : DT} {env : DEnv} {M : Sto} (h : chkF m (maskD bs env) = true) : tClo bs m env M = .ok false M := by
  unfold chkF at h
  rw [Bool.and_eq_true] at h
  unfold tClo
  rw [if_pos h.1]
  obtain ⟨_, h⟩ := h
  split at h
  · rename_i k M0 e
    rw [Bool.not_eq_true'] at h
    subst h
    first | rfl | rw [e]
  · cases h
omit [Tbl] in
theorem mClo_t {bs : List Bool} {m : DE} {env : DEnv} {M : Sto} (h : chkT m (maskD bs env) = true) : mClo bs m env M = .ok (.bl true) M := by
  unfold chkT at h
  rw [Bool.and_eq_true] at h
  unfold mClo
  rw [if_pos h.1]
  obtain ⟨_, h⟩ := h
  split at h
  · rename_i k M0 e
    subst h
    first | rfl | (rw [e]; rfl)
  · cases h
end EV
set_option maxHeartbeats 4000000
/-! the same where some live lists are read or changed, their items closed -/
namespace EV
open PySem PySem.Spec PyProof.Rows L2
/-- codes: 0 dropped, 1 read, 2 a live list -/
def refO : Option D → Option Nat
  | some (.ref n) => some n
  | _ => none
def clS : Option D → Bool
  | some d => below 0 d && !d.isCur
  | none => true
def maskL : List Nat → DEnv → Nat → DEnv × List Nat
  | _, [], _ => ([], [])
  | cs, o :: os, k => if cs.headD 0 = 1 then (o :: (maskL cs.tail os k).1, (maskL cs.tail os k).2) else match (if cs.headD 0 = 2 then refO o else none) with
    | some n => (some (.ref k) :: (maskL cs.tail os (k + 1)).1, n :: (maskL cs.tail os (k + 1)).2)
    | none => (none :: (maskL cs.tail os k).1, (maskL cs.tail os k).2)
def closedO : Ob → Bool
  | .lst xs => belows 0 xs
  | _ => false
def pickO (M : Sto) : List Nat → Option Sto
  | [] => some []
  | n :: ns => match M[n]?, pickO M ns with
    | some o, some os => if closedO o = true then some (o :: os) else none
    | _, _ => none
def putO (M : Sto) : List Nat → Sto → Option Sto
  | [], _ => some M
  | n :: ns, o :: os => if closedO o = true then (putO M ns os).map fun M' => M'.set n o else none
  | _ :: _, [] => none
def okL : List Nat → DEnv → Bool
  | _, [] => true
  | cs, o :: os => (if cs.headD 0 = 1 then clS o else true) && okL cs.tail os
def mCloL (cs : List Nat) (m : DE) : DE := fun env M => if okL cs env = true ∧ (maskL cs env 0).2.Nodup then (match pickO M (maskL cs env 0).2 with
  | some M0 => (match m (maskL cs env 0).1 M0 with
    | .ok d M1 => if below 0 d = true then (match putO M (maskL cs env 0).2 M1 with
      | some M' => .ok d M'
      | none => .bad) else .bad
    | _ => .bad)
  | none => .bad) else .bad
def tCloL (cs : List Nat) (m : DT) : DT := fun env M => if okL cs env = true ∧ (maskL cs env 0).2.Nodup then (match pickO M (maskL cs env 0).2 with
  | some M0 => (match m (maskL cs env 0).1 M0 with
    | .ok d M1 => (match putO M (maskL cs env 0).2 M1 with
      | some M' => .ok d M'
      | none => .bad)
    | _ => .bad)
  | none => .bad) else .bad
theorem maskL_nil (cs : List Nat) (k : Nat) : maskL cs [] k = ([], []) := by unfold maskL; rfl
theorem refO_some {o : Option D} {n : Nat} (h : refO o = some n) : o = some (.ref n) := by
  unfold refO at h
  split at h
  · cases h; rfl
  · cases h
theorem maskL_at : ∀ {env : DEnv} {cs : List Nat} {k i : Nat} {d : D}, okL cs env = true → (maskL cs env k).1[i]? = some (some d) → (env[i]? = some (some d) ∧ below 0 d = true ∧ d.isCur = false) ∨ ∃ n j, d = .ref (k + j) ∧ env[i]? = some (some (.ref n)) ∧ (maskL cs env k).2[j]? = some n
  | [], cs, k, i, d, c, h => by rw [maskL_nil] at h; cases h
  | o :: os, cs, k, i, d, c, h => by
    unfold okL at c
    rw [Bool.and_eq_true] at c
    obtain ⟨c1, c'⟩ := c
    unfold maskL at h ⊢
    by_cases h1 : cs.headD 0 = 1
    · rw [if_pos h1] at h c1 ⊢
      cases i with
      | zero =>
        have h : some o = some (some d) := h
        cases h
        have c : (below 0 d && !d.isCur) = true := c1
        simp only [Bool.and_eq_true, Bool.not_eq_true'] at c
        exact .inl ⟨rfl, c.1, c.2⟩
      | succ i =>
        rcases maskL_at (env := os) (i := i) c' h with z | ⟨n, j, z1, z2, z3⟩
        · exact .inl z
        · exact .inr ⟨n, j, z1, z2, z3⟩
    · rw [if_neg h1] at h ⊢
      cases e2 : (if cs.headD 0 = 2 then refO o else none) with
      | some n =>
        rw [e2] at h
        have eo : o = some (.ref n) := by
          split at e2
          · exact refO_some e2
          · cases e2
        cases i with
        | zero =>
          have h : some (some (D.ref k)) = some (some d) := h
          cases h
          exact .inr ⟨n, 0, rfl, by rw [eo]; rfl, rfl⟩
        | succ i =>
          rcases maskL_at (env := os) (i := i) c' h with z | ⟨m, j, z1, z2, z3⟩
          · exact .inl z
          · exact .inr ⟨m, j + 1, by rw [z1]; congr 1; omega, z2, z3⟩
      | none =>
        rw [e2] at h
        cases i with
        | zero => cases h
        | succ i =>
          rcases maskL_at (env := os) (i := i) c' h with z | ⟨m, j, z1, z2, z3⟩
          · exact .inl z
          · exact .inr ⟨m, j, z1, z2, z3⟩
theorem maskL_len : ∀ (env : DEnv) (cs : List Nat) (k : Nat), (maskL cs env k).1.length = env.length
  | [], cs, k => by rw [maskL_nil]
  | o :: os, cs, k => by
    unfold maskL
    split
    · show (maskL _ os k).1.length + 1 = _; rw [maskL_len os]; rfl
    · split
      · show (maskL _ os (k + 1)).1.length + 1 = _; rw [maskL_len os]; rfl
      · show (maskL _ os k).1.length + 1 = _; rw [maskL_len os]; rfl
theorem pickO_len : ∀ {ns : List Nat} {M M0 : Sto}, pickO M ns = some M0 → M0.length = ns.length
  | [], M, M0, h => by cases h; rfl
  | n :: ns, M, M0, h => by
    unfold pickO at h
    split at h
    · rename_i o os e1 e2
      split at h
      · cases h; rw [List.length_cons, pickO_len e2]; rfl
      · cases h
    · cases h
theorem pickO_at : ∀ {ns : List Nat} {M M0 : Sto} {i n : Nat} {o : Ob}, pickO M ns = some M0 → ns[i]? = some n → M0[i]? = some o → M[n]? = some o ∧ closedO o = true
  | [], M, M0, i, n, o, h, e, f => by cases e
  | m :: ns, M, M0, i, n, o, h, e, f => by
    unfold pickO at h
    split at h
    · rename_i o1 os e1 e2
      split at h
      · rename_i hc
        cases h
        cases i with
        | zero =>
          cases e
          cases f
          exact ⟨e1, hc⟩
        | succ i =>
          have e : ns[i]? = some n := e
          have f : os[i]? = some o := f
          exact pickO_at e2 e f
      · cases h
    · cases h
theorem putO_len : ∀ {ns : List Nat} {M M1 M' : Sto}, putO M ns M1 = some M' → M'.length = M.length
  | [], M, M1, M', h => by cases h; rfl
  | n :: ns, M, [], M', h => by cases h
  | n :: ns, M, o :: os, M', h => by
    unfold putO at h
    split at h
    · obtain ⟨M2, e, rfl⟩ := Option.map_eq_some_iff.mp h
      rw [List.length_set, putO_len e]
    · cases h
theorem putO_at : ∀ {ns : List Nat} {M M1 M' : Sto} {n : Nat} {o : Ob}, putO M ns M1 = some M' → M'[n]? = some o → (n ∉ ns ∧ M[n]? = some o) ∨ ∃ i : Nat, ns[i]? = some n ∧ M1[i]? = some o ∧ closedO o = true
  | [], M, M1, M', n, o, h, e => by cases h; exact .inl ⟨by simp, e⟩
  | m :: ns, M, [], M', n, o, h, e => by cases h
  | m :: ns, M, o1 :: os, M', n, o, h, e => by
    unfold putO at h
    split at h
    · rename_i hc
      obtain ⟨M2, e2, rfl⟩ := Option.map_eq_some_iff.mp h
      by_cases hn : n = m
      · subst hn
        have hl : n < M2.length := by
          have := (List.getElem?_eq_some_iff.mp e).1
          rw [List.length_set] at this
          exact this
        rw [List.getElem?_set_self hl] at e
        cases e
        exact .inr ⟨0, rfl, rfl, hc⟩
      · rw [List.getElem?_set_ne (fun z => hn z.symm)] at e
        rcases putO_at e2 e with ⟨z1, z2⟩ | ⟨i, z1, z2, z3⟩
        · exact .inl ⟨fun z => by rcases List.mem_cons.mp z with q | q; exact hn q; exact z1 q, z2⟩
        · exact .inr ⟨i + 1, z1, z2, z3⟩
    · cases h
variable [Tbl]
section
variable {G : Gd} {F F' H H' R : Hp} {r r' : List Addr} {M M' : Sto}
theorem ObR.closed {a : Addr} {o : Ob} (h : ObR G F r H a o) (c : closedO o = true) : ObR G F [] H a o := by
  cases o with
  | lst xs =>
    obtain ⟨vs, h1, h2⟩ := h
    have := Reps.cut (k := 0) h2 c
    rw [List.take_zero] at this
    exact ⟨vs, h1, this⟩
  | dct _ => cases c
  | ins _ _ => cases c
end
/-- reserved: what was, and the live objects but some -/
noncomputable def hidL (R H : Hp) (r as : List Addr) : Hp := fun a => open Classical in if a ∈ r ∧ a ∉ as then H a else R a
section
variable {G : Gd} {F F' H H' R : Hp} {r r' : List Addr} {M M' : Sto} {as : List Addr}
theorem hidL_in {a : Addr} (h : a ∈ r) (h' : a ∉ as) : hidL R H r as a = H a := by unfold hidL; rw [if_pos ⟨h, h'⟩]
theorem hidL_out {a : Addr} (h : a ∉ r ∨ a ∈ as) : hidL R H r as a = R a := by
  unfold hidL
  rw [if_neg (fun z => h.elim (fun q => q z.1) fun q => z.2 q)]
/-- the addresses at some places -/
def adrs (r : List Addr) (ns : List Nat) : List Addr := ns.filterMap fun n => r[n]?
theorem adrs_get : ∀ {ns : List Nat} (_ : ∀ n ∈ ns, n < r.length) (i : Nat), (adrs r ns)[i]? = match ns[i]? with
    | some n => r[n]?
    | none => none
  | [], _, i => by simp [adrs]
  | n :: ns, h, i => by
    have hn := h n List.mem_cons_self
    have e : adrs r (n :: ns) = r[n] :: adrs r ns := by
      unfold adrs
      rw [List.filterMap_cons_some (List.getElem?_eq_getElem hn)]
    rw [e]
    cases i with
    | zero => show some r[n] = r[n]?; rw [List.getElem?_eq_getElem hn]
    | succ i => exact adrs_get (fun m hm => h m (List.mem_cons_of_mem _ hm)) i
theorem adrs_len : ∀ {ns : List Nat} (_ : ∀ n ∈ ns, n < r.length), (adrs r ns).length = ns.length
  | [], _ => rfl
  | n :: ns, h => by
    have hn := h n List.mem_cons_self
    unfold adrs
    rw [List.filterMap_cons_some (List.getElem?_eq_getElem hn), List.length_cons, List.length_cons]
    congr 1
    exact adrs_len fun m hm => h m (List.mem_cons_of_mem _ hm)
theorem adrs_mem {ns : List Nat} {a : Addr} (h : a ∈ adrs r ns) : a ∈ r := by
  obtain ⟨n, _, e⟩ := List.mem_filterMap.mp h
  exact List.mem_of_getElem? e
theorem adrs_nd (hr : r.Nodup) : ∀ {ns : List Nat} (_ : ∀ n ∈ ns, n < r.length), ns.Nodup → (adrs r ns).Nodup
  | [], _, _ => List.nodup_nil
  | n :: ns, h, hd => by
    have hn := h n List.mem_cons_self
    have e : adrs r (n :: ns) = r[n] :: adrs r ns := by
      unfold adrs
      rw [List.filterMap_cons_some (List.getElem?_eq_getElem hn)]
    rw [e, List.nodup_cons]
    rw [List.nodup_cons] at hd
    refine ⟨fun hm => ?_, adrs_nd hr (fun m hm => h m (List.mem_cons_of_mem _ hm)) hd.2⟩
    obtain ⟨m, hm1, em⟩ := List.mem_filterMap.mp hm
    obtain ⟨l, e2⟩ := List.getElem?_eq_some_iff.mp em
    have := (List.getElem_inj hr).mp e2
    subst this
    exact hd.1 hm1
theorem StoR.hideL (h0 : Tbl.r = []) (S : StoR G F r R M H) {ns : List Nat} {M0 : Sto} (hp : pickO M ns = some M0) (hd : ns.Nodup) (hb : ∀ n ∈ ns, n < r.length) : StoR G F (adrs r ns) (hidL R H r (adrs r ns)) M0 H := by
  refine ⟨by rw [pickO_len hp, adrs_len hb], adrs_nd S.nd hb hd, S.sub, fun a o e => ?_, fun a ha => S.fr a (adrs_mem ha), fun a ha => ?_, fun a o e => ?_, fun n a o h1 h2 => ?_, ⟨S.ax.nt, ⟨fun a u e => ?_, fun p hp => ?_⟩, S.ax.tb⟩, ⟨S.og.1, by rw [h0]; exact List.nil_prefix⟩⟩
  · by_cases h : a ∈ r ∧ a ∉ adrs r ns
    · rw [hidL_in h.1 h.2] at e; exact e
    · rw [hidL_out (by by_cases q : a ∈ r; exact .inr (Classical.byContradiction fun z => h ⟨q, z⟩); exact .inl q)] at e; exact S.res _ _ e
  · rw [hidL_out (.inr ha)]; exact S.rr a (adrs_mem ha)
  · by_cases h : a ∈ r
    · exact S.fr a h
    · rw [hidL_out (.inl h)] at e; exact S.fx _ _ e
  · rw [adrs_get hb] at h1
    cases en : ns[n]? with
    | none => rw [en] at h1; cases h1
    | some m =>
      rw [en] at h1
      obtain ⟨z1, z2⟩ := pickO_at hp en h2
      exact ((S.at_ m a o h1 z1).closed z2).mono (Sub.refl _) List.nil_prefix fun u e => e
  · by_cases h : a ∈ r ∧ a ∉ adrs r ns
    · rw [hidL_in h.1 h.2] at e
      obtain ⟨n, hn⟩ := List.mem_iff_getElem?.mp h.1
      obtain ⟨u', hu', ok⟩ := S.okAt hn
      rw [e] at hu'
      cases hu'
      exact okF_ne ok
    · rw [hidL_out (by by_cases q : a ∈ r; exact .inr (Classical.byContradiction fun z => h ⟨q, z⟩); exact .inl q)] at e; exact S.ax.nr.nr a u e
  · have z := S.ax.nr.cd p hp
    rw [hidL_out (.inl (S.outR z))]
    exact z
theorem StoR.unhideL (S : StoR G F r R M H) {ns : List Nat} {M1 : Sto} (hb : ∀ n ∈ ns, n < r.length) (s : Sub F F') (p : adrs r ns <+: r') (S' : StoR G F' r' (hidL R H r (adrs r ns)) M1 H') (hp : putO M ns M1 = some M') : StoR G F' r R M' H' := by
  have kp : ∀ a ∈ r, a ∉ adrs r ns → ∀ u, H a = some u → H' a = some u := fun a ha h u e => S'.res a u (by rw [hidL_in ha h]; exact e)
  refine ⟨by rw [putO_len hp]; exact S.len, S.nd, S'.sub, fun a o e => ?_, fun a ha => ?_, S.rr, fun a o e => ?_, fun n a o h1 h2 => ?_, ⟨S'.ax.nt, S.ax.nr, S'.ax.tb⟩, ⟨S'.og.1, S.og.2⟩⟩
  · exact S'.res a o (by rw [hidL_out (.inl (S.outR e))]; exact e)
  · by_cases h : a ∈ adrs r ns
    · exact S'.fr a (p.subset h)
    · obtain ⟨n, hn⟩ := List.mem_iff_getElem?.mp ha
      obtain ⟨u, hu, _⟩ := S.okAt hn
      exact S'.fx a u (by rw [hidL_in ha h]; exact hu)
  · exact S'.fx a o (by rw [hidL_out (.inl (S.outR e))]; exact e)
  · rcases putO_at hp h2 with ⟨z1, z2⟩ | ⟨i, z1, z2, z3⟩
    · refine (S.at_ n a o h1 z2).mono s (List.prefix_refl _) (kp a (List.mem_of_getElem? h1) fun hm => ?_)
      obtain ⟨m, hm1, em⟩ := List.mem_filterMap.mp hm
      obtain ⟨l1, e1⟩ := List.getElem?_eq_some_iff.mp h1
      obtain ⟨l2, e2⟩ := List.getElem?_eq_some_iff.mp em
      have := (List.getElem_inj S.nd).mp (e1.trans e2.symm)
      subst this
      exact z1 hm1
    · have h3 : r'[i]? = some a := by
        refine pre_get p ?_
        rw [adrs_get hb, z1]
        exact h1
      exact ((S'.at_ i a o h3 z2).closed z3).mono (Sub.refl _) List.nil_prefix fun u e => e
theorem EnvR.maskL {env : DEnv} {σ : L2.St} (h : EnvR G F r env σ) (cs : List Nat) (hb : ∀ n ∈ (EV.maskL cs env 0).2, n < r.length) (hc : okL cs env = true) : EnvR G F (adrs r (EV.maskL cs env 0).2) (EV.maskL cs env 0).1 σ := by
  refine ⟨by rw [maskL_len]; exact h.1, fun i d e => ?_⟩
  rcases maskL_at hc e with ⟨z, b, c⟩ | ⟨n, j, z1, z2, z3⟩
  · obtain ⟨v, h1, h2⟩ := h.2 i d z
    refine ⟨v, h1, RepV.of ?_⟩
    have := Rep.cut (k := 0) (h2.val c) b
    rw [List.take_zero] at this
    exact this.mono (Sub.refl _) List.nil_prefix
  · subst z1
    obtain ⟨v, h1, h2⟩ := h.2 i _ z2
    refine ⟨v, h1, ?_⟩
    have h2 : Rep G F r (.ref n) v := h2.val rfl
    rw [rep_ref] at h2
    obtain ⟨a, ha, hv⟩ := h2
    refine RepV.of ?_
    rw [rep_ref]
    refine ⟨a, ?_, hv⟩
    rw [adrs_get hb, Nat.zero_add, z3]
    exact ha
end
theorem pickO_lt : ∀ {ns : List Nat} {M M0 : Sto}, pickO M ns = some M0 → ∀ n ∈ ns, n < M.length
  | [], M, M0, h, n, hn => absurd hn (by simp)
  | m :: ns, M, M0, h, n, hn => by
    unfold pickO at h
    split at h
    · rename_i o os e1 e2
      split at h
      · rcases List.mem_cons.mp hn with rfl | hn
        · exact (List.getElem?_eq_some_iff.mp e1).1
        · exact pickO_lt e2 n hn
      · cases h
    · cases h
section
variable {X : Cx} {W : EXK}
theorem ev_cloL {e : Expr} {m : DE} (h0 : Tbl.r = []) (cs : List Nat) (h : PE X e (tD X W m)) : PE X e (tD X W (mCloL cs m)) := by
  refine PE.imp h fun σ H Q q => ?_
  obtain ⟨F, r, R, env, M, hE, hS, hp⟩ := q
  unfold mCloL at hp
  split at hp
  case isFalse => exact hp.elim
  rename_i hc
  split at hp
  case h_2 => exact hp.elim
  rename_i M0 ep
  have hb : ∀ n ∈ (maskL cs env 0).2, n < r.length := fun n hn => by rw [← hS.len]; exact pickO_lt ep n hn
  refine ⟨F, _, _, _, M0, hE.maskL cs hb hc.1, hS.hideL h0 ep hc.2 hb, ?_⟩
  split at hp
  case h_2 => exact hp.elim
  rename_i d M1 em
  rw [em]
  split at hp
  case isFalse => exact hp.elim
  rename_i hbl
  split at hp
  case h_2 => exact hp.elim
  rename_i M' eo
  intro F' r' H' v s p S' R'
  have c := Rep.cut (k := 0) R' hbl
  rw [List.take_zero] at c
  exact hp F' r H' v s (List.prefix_refl _) (hS.unhideL hb s p S' eo) (c.mono (Sub.refl _) List.nil_prefix)
theorem evt_cloL {e : Expr} {m : DT} (h0 : Tbl.r = []) (cs : List Nat) (h : PT X e (tT X W m)) : PT X e (tT X W (tCloL cs m)) := by
  refine PT.imp h fun σ H Q q => ?_
  obtain ⟨F, r, R, env, M, hE, hS, hp⟩ := q
  unfold tCloL at hp
  split at hp
  case isFalse => exact hp.elim
  rename_i hc
  split at hp
  case h_2 => exact hp.elim
  rename_i M0 ep
  have hb : ∀ n ∈ (maskL cs env 0).2, n < r.length := fun n hn => by rw [← hS.len]; exact pickO_lt ep n hn
  refine ⟨F, _, _, _, M0, hE.maskL cs hb hc.1, hS.hideL h0 ep hc.2 hb, ?_⟩
  split at hp
  case h_2 => exact hp.elim
  rename_i d M1 em
  rw [em]
  split at hp
  case h_2 => exact hp.elim
  rename_i M' eo
  intro F' r' H' v s p S' R'
  exact hp F' r H' v s (List.prefix_refl _) (hS.unhideL hb s p S' eo) R'
end
/-! ### a maker called on what is closed, its arguments drawn -/
def cloO (o : Out D) (M : Sto) : Out D := match o with
  | .ok d _ => if below 0 d = true then .ok d M else .bad
  | .exc e _ => if belowF 0 e.fs = true then .exc e M else .bad
  | .bad => .bad
def mNewXC (c : Str) (Fn : DFn) (as : DA) : DE := fun env M => (as env M).bind fun ds M1 => if belows 0 ds = true then cloO ((Fn (.ref 0 :: ds) [.ins c []]).bind fun d M2 => match d with
  | .non => finF 0 (.ref 0) M2
  | _ => .bad) M1 else .bad
section
variable {X : Cx} {W : EXK} {pos p : Pos} {e : Expr} {es : List Expr} {mas : DA} {c : Str} {k n : Nat} {Fn : DFn}
theorem cloO_post {F R H : Hp} {r : List Addr} {M : Sto} {o : Out D} {Q : VK} {σ : L2.St} (S : StoR (gd X) F r R M H) (h : (cloO o M).post (OKx Rep (gd X) F r R Q) (EXc (gd X) F r R W σ)) :
    o.post (OKx Rep (gd X) F [] (hidR R H r) Q) (EXc (gd X) F [] (hidR R H r) W σ) := by
  cases o with
  | bad => exact h.elim
  | ok d M1 =>
    unfold cloO at h
    dsimp only at h
    split at h
    · rename_i hb
      intro F' r' H' v s p S' R'
      have c := Rep.cut (k := 0) R' hb
      rw [List.take_zero] at c
      exact h F' r H' v s (List.prefix_refl _) (S.unhide s S') (c.mono (Sub.refl _) List.nil_prefix)
    · exact h.elim
  | exc x M1 =>
    unfold cloO at h
    dsimp only at h
    split at h
    · rename_i hb
      intro F' r' H' cls dd s p S' E'
      refine h F' r H' cls dd s (List.prefix_refl _) (S.unhide s S') ?_
      obtain ⟨C, e1, e2, e3⟩ := E'
      refine ⟨C, e1, e2, ?_⟩
      cases dd with
      | none => exact e3
      | some dx =>
        obtain ⟨vfs, z1, z2⟩ := e3
        have c := RepF.cut (k := 0) z2 hb
        rw [List.take_zero] at c
        exact ⟨vfs, z1, c.mono (Sub.refl _) List.nil_prefix⟩
    · exact h.elim
theorem ev_newXC (h0 : Tbl.r = []) (N : NewXAt X.prog X.w X.K X.mg X.base k c n Fn) (hr : Room (k + 1) X.A) (hgd : X.A.guards = some []) (tk : Takes X W) (hg : Gl X c) (ha : PA X (e :: es) (tA X W mas)) (hdb : (c == ("__debug__" : Str)) = false := by decide)
    (he : starEach (e :: es) X.env = (false, eval e X.env) :: starEach es X.env := by rfl) (hpl : (backTo pos (starEach es X.env)).any (·.1) = false := by rfl) :
    PE X (.Call (.Name c p) (e :: es) [] pos) (tD X W (mNewXC c Fn mas)) := by
  obtain ⟨C, f, fd, ps, hC, hmk, hb, hps, G⟩ := N.at_
  refine ⟨fun pins s σ H Q I h => ?_⟩
  obtain ⟨F0, r, R, env, M, hE, hS, hp⟩ := h
  refine wpAny_Call_Name_kw (ld_glob I hg hC ?_ hdb)
  refine PySem.W.callWith_K (h₀ := X.base) I.ok.mod.kin hmk.kp (thn (ha.run pos pins s σ H _ I (tX.bind OKx.mono' hE hS hp)) fun us s1 ⟨vs, H1, I1, r1, q⟩ => ⟨I1.kIn, ?_⟩) he hpl
  obtain ⟨F1, r1', M1, ds, s1', p1, hE1, hS1, R1, hp1⟩ := q
  by_cases hbl : belows 0 ds = true
  case neg => rw [if_neg hbl] at hp1; exact hp1.elim
  rw [if_pos hbl] at hp1
  have R0 := Reps.cut (k := 0) R1 hbl
  rw [List.take_zero] at R0
  exact run_makeGX hmk G hr hgd hb tk I1 r1 (newX_sp (len_of N.ar) hC (hS1.hide h0) R0 (cloO_post hS1 hp1))
end
end EV
set_option maxHeartbeats 4000000
/-! what is closed, in plain evaluation -/
namespace EV
open PySem PySem.Spec PyProof.Rows L2
def eqBs (g : D → D → Bool) : List D → List D → Bool
  | [], [] => true
  | x :: xs, y :: ys => g x y && eqBs g xs ys
  | _, _ => false
def eqBf (g : D → D → Bool) : List (Str × D) → List (Str × D) → Bool
  | [], [] => true
  | (a, x) :: xs, (b, y) :: ys => decide (a = b) && (g x y && eqBf g xs ys)
  | _, _ => false
/-- the same value, as far as that is told -/
def eqB : Nat → D → D → Bool
  | 0, _, _ => false
  | f + 1, a, b => match a, b with
    | .non, .non => true
    | .bl x, .bl y => x == y
    | .int i, .int j => decide (i = j)
    | .str x, .str y => decide (x = y)
    | .tup xs, .tup ys => eqBs (eqB f) xs ys
    | .lst xs, .lst ys => eqBs (eqB f) xs ys
    | .obj c fs, .obj d gs => decide (c = d) && eqBf (eqB f) fs gs
    | .dct [], .dct [] => true
    | _, _ => false
theorem eqBs_ok {g : D → D → Bool} (h : ∀ a b, g a b = true → a = b) : ∀ {xs ys : List D}, eqBs g xs ys = true → xs = ys
  | [], [], _ => rfl
  | x :: xs, y :: ys, e => by
    unfold eqBs at e
    rw [Bool.and_eq_true] at e
    rw [h _ _ e.1, eqBs_ok h e.2]
  | [], _ :: _, e => by cases e
  | _ :: _, [], e => by cases e
theorem eqBf_ok {g : D → D → Bool} (h : ∀ a b, g a b = true → a = b) : ∀ {xs ys : List (Str × D)}, eqBf g xs ys = true → xs = ys
  | [], [], _ => rfl
  | (a, x) :: xs, (b, y) :: ys, e => by
    unfold eqBf at e
    rw [Bool.and_eq_true, Bool.and_eq_true, decide_eq_true_eq] at e
    rw [e.1, h _ _ e.2.1, eqBf_ok h e.2.2]
  | [], _ :: _, e => by cases e
  | _ :: _, [], e => by cases e
theorem eqB_ok : ∀ {f : Nat} {a b : D}, eqB f a b = true → a = b
  | 0, a, b, e => by cases e
  | f + 1, a, b, e => by
    have ih : ∀ a b, eqB f a b = true → a = b := fun a b => @eqB_ok f a b
    unfold eqB at e
    split at e
    · rfl
    · rw [beq_iff_eq] at e; rw [e]
    · rw [decide_eq_true_eq] at e; rw [e]
    · rw [decide_eq_true_eq] at e; rw [e]
    · rw [eqBs_ok ih e]
    · rw [eqBs_ok ih e]
    · rw [Bool.and_eq_true, decide_eq_true_eq] at e; rw [e.1, eqBf_ok ih e.2]
    · rfl
    · cases e
/-- each value once, where that is told -/
def dd : List D → List D
  | [] => []
  | x :: xs => if (dd xs).any (fun y => eqB 12 y x) = true then dd xs else x :: dd xs
theorem mem_dd : ∀ {xs : List D} {x : D}, x ∈ xs → x ∈ dd xs
  | y :: ys, x, h => by
    unfold dd
    split
    · rename_i ha
      rcases List.mem_cons.mp h with rfl | h
      · obtain ⟨z, hz, e⟩ := List.any_eq_true.mp ha
        rw [← eqB_ok e]; exact hz
      · exact mem_dd h
    · rcases List.mem_cons.mp h with rfl | h
      · exact List.mem_cons_self
      · exact List.mem_cons_of_mem _ (mem_dd h)
/-- a menu: what a closed expression lists -/
def chkM (m : DE) (env : DEnv) : Bool := closedE env && match m env [] with
  | .ok (.lst xs) _ => belows 0 xs && decide (0 < xs.length) && decide (xs.length < 1000) && xs.all fun x => !x.isCur
  | _ => false
def lstC (m : DE) (env : DEnv) : List D := match m env [] with
  | .ok (.lst xs) _ => xs
  | _ => []
theorem chkM_ok {bs : List Bool} {m : DE} {env : DEnv} {M : Sto} (h : chkM m (maskD bs env) = true) : mClo bs m env M = .ok (.lst (lstC m (maskD bs env))) M ∧ belows 0 (lstC m (maskD bs env)) = true ∧ 0 < (lstC m (maskD bs env)).length ∧ (lstC m (maskD bs env)).length < 1000 ∧ ∀ x ∈ lstC m (maskD bs env), x.isCur = false := by
  unfold chkM at h
  rw [Bool.and_eq_true] at h
  unfold mClo lstC
  rw [if_pos h.1]
  obtain ⟨_, h⟩ := h
  split at h
  · rename_i xs M0 e
    simp only [Bool.and_eq_true, decide_eq_true_eq, List.all_eq_true, Bool.not_eq_true'] at h
    refine ⟨?_, h.1.1.1, h.1.1.2, h.1.2, h.2⟩
    rw [e]
    show (if below 0 (.lst xs) = true then _ else _) = _
    rw [if_pos (by unfold below; exact h.1.1.1)]
  · cases h
/-- a closed expression whose value is known -/
def chkV (m : DE) (env : DEnv) (v : D) : Bool := closedE env && match m env [] with
  | .ok d _ => below 0 d && !d.isCur && eqB 12 d v
  | _ => false
theorem chkV_ok {bs : List Bool} {m : DE} {env : DEnv} {M : Sto} {v : D} (h : chkV m (maskD bs env) v = true) : mClo bs m env M = .ok v M ∧ below 0 v = true ∧ v.isCur = false := by
  unfold chkV at h
  rw [Bool.and_eq_true] at h
  unfold mClo
  rw [if_pos h.1]
  obtain ⟨_, h⟩ := h
  split at h
  · rename_i d M0 e
    simp only [Bool.and_eq_true, Bool.not_eq_true'] at h
    have hd := eqB_ok h.2
    subst hd
    refine ⟨?_, h.1.1, h.1.2⟩
    try rw [e]
    show (if below 0 d = true then _ else _) = _
    rw [if_pos h.1.1]
  · cases h
mutual
theorem below_up {j k : Nat} (h : j ≤ k) : ∀ {d : D}, below j d = true → below k d = true
  | .non, _ => rfl
  | .bl _, _ => rfl
  | .int _, _ => rfl
  | .str _, _ => rfl
  | .ty _, _ => rfl
  | .cur _, _ => rfl
  | .tup xs, e => by unfold below at e ⊢; exact belows_up h e
  | .lst xs, e => by unfold below at e ⊢; exact belows_up h e
  | .dct xs, e => by unfold below at e ⊢; exact belowK_up h e
  | .obj c xs, e => by unfold below at e ⊢; exact belowF_up h e
  | .dtu xs, e => by unfold below at e ⊢; exact belowT_up h e
  | .ref n, e => by
    unfold below at e ⊢
    rw [decide_eq_true_eq] at e ⊢
    omega
theorem belows_up {j k : Nat} (h : j ≤ k) : ∀ {d : List D}, belows j d = true → belows k d = true
  | [], _ => rfl
  | x :: xs, e => by
    unfold belows at e ⊢
    rw [Bool.and_eq_true] at e ⊢
    exact ⟨below_up h e.1, belows_up h e.2⟩
theorem belowK_up {j k : Nat} (h : j ≤ k) : ∀ {d : List (Key × D)}, belowK j d = true → belowK k d = true
  | [], _ => rfl
  | (_, x) :: xs, e => by
    unfold belowK at e ⊢
    rw [Bool.and_eq_true] at e ⊢
    exact ⟨below_up h e.1, belowK_up h e.2⟩
theorem belowF_up {j k : Nat} (h : j ≤ k) : ∀ {d : List (Str × D)}, belowF j d = true → belowF k d = true
  | [], _ => rfl
  | (_, x) :: xs, e => by
    unfold belowF at e ⊢
    rw [Bool.and_eq_true] at e ⊢
    exact ⟨below_up h e.1, belowF_up h e.2⟩
theorem belowT_up {j k : Nat} (h : j ≤ k) : ∀ {d : List (List Key × D)}, belowT j d = true → belowT k d = true
  | [], _ => rfl
  | (_, x) :: xs, e => by
    unfold belowT at e ⊢
    rw [Bool.and_eq_true] at e ⊢
    exact ⟨below_up h e.1, belowT_up h e.2⟩
end
section
variable {bs : List Bool} {cs : List Nat} {m : DE} {mt : DT} {env env1 env2 : DEnv} {M : Sto} {i p : Nat} {q : DS} {N : DEnv → Sto → Prop} {R : D → Sto → Prop} {Bk Ct : DEnv → Sto → Prop}
theorem cl_set (he : maskD bs env = env1) (hc : chkC m env1 = true) (hs : env.set i (some (valC m env1)) = env2) (k : ws (q env2 M) N R Bk Ct) : ws (sSeq (sAsg (mClo bs m) (gN i)) q env M) N R Bk Ct := by
  subst he hs
  refine ws_seq ?_
  unfold sAsg
  rw [mClo_ok hc]
  exact k
theorem cl_if {a : DS} (he : maskD bs env = env1) (hc : chkF mt env1 = true) (k : ws (q env M) N R Bk Ct) : ws (sSeq (sIf (tClo bs mt) a sNil) q env M) N R Bk Ct := by
  subst he
  refine ws_seq ?_
  unfold sIf
  rw [tClo_f hc]
  exact k
theorem cl_ret (he : maskD bs env = env1) (hc : chkT m env1 = true) (k : R (.bl true) M) : ws (sRet (mClo bs m) env M) N R Bk Ct := by
  subst he
  unfold sRet
  rw [mClo_t hc]
  exact k
theorem cl_new1 (he : maskD bs env = env1) (hc : chkC m env1 = true) (k : ∀ p M', p = M.length → M' = M ++ [.lst [valC m env1]] → ws (q (env.set i (some (.ref p))) M') N R Bk Ct) : ws (sSeq (sAsg (mLstM (aCons (mClo bs m) aNil)) (gN i)) q env M) N R Bk Ct := by
  subst he
  refine ws_seq (ws_set ?_)
  unfold mLstM
  have e : aCons (mClo bs m) aNil env M = .ok [valC m (maskD bs env)] M := aCons_ok (mClo_ok hc) aNil_ok
  rw [e]
  show wp (if [valC m (maskD bs env)].length ≤ lim ∧ belows M.length [valC m (maskD bs env)] = true then Out.ok (D.ref M.length) (M ++ [.lst [valC m (maskD bs env)]]) else .bad) _
  rw [if_pos ⟨by show 1 ≤ lim; decide, by unfold belows; rw [below_up (Nat.zero_le _) (valC_cur hc).2]; rfl⟩]
  exact k _ _ rfl rfl
theorem cl_new0 (k : ∀ p M', p = M.length → M' = M ++ [.lst []] → ws (q (env.set i (some (.ref p))) M') N R Bk Ct) : ws (sSeq (sAsg (mLstM aNil) (gN i)) q env M) N R Bk Ct := by
  refine ws_seq (ws_set ?_)
  exact k _ _ rfl rfl
theorem cl_app {ts : List D} (hv : env[i]? = some (some (.ref p))) (hM : M[p]? = some (.lst ts)) (hl : ts.length < 1000) (he : maskD bs env = env1) (hc : chkC m env1 = true) (k : ws (q env (M.set p (.lst (ts ++ [valC m env1])))) N R Bk Ct) : ws (sSeq (sExpr (mLm dApp (mVar i) (aCons (mClo bs m) aNil))) q env M) N R Bk Ct := by
  subst he
  refine ws_seq ?_
  have e1 : mVar i env M = .ok (.ref p) M := mVar_ok hv
  have e2 : aCons (mClo bs m) aNil env M = .ok [valC m (maskD bs env)] M := aCons_ok (mClo_ok hc) aNil_ok
  have e3 : lstD M (.ref p) = some ts := by unfold lstD; simp only [hM]
  have e4 : dApp (.ref p) [valC m (maskD bs env)] M = .ok .non (M.set p (.lst (ts ++ [valC m (maskD bs env)]))) := by
    unfold dApp
    have : livD M (.ref p) = some (p, ts) := by unfold livD; simp only [hM]
    rw [this]
    show (if ts.length < lim ∧ below p (valC m (maskD bs env)) = true then Out.ok D.non _ else .bad) = _
    rw [if_pos ⟨Nat.lt_trans hl (by unfold lim; decide), below_up (Nat.zero_le _) (valC_cur hc).2⟩]
  have e : sExpr (mLm dApp (mVar i) (aCons (mClo bs m) aNil)) env M = .nx env (M.set p (.lst (ts ++ [valC m (maskD bs env)]))) := by
    refine sExpr_ok (d := .non) ?_
    unfold mLm
    rw [e1]
    show (if (lstD M (.ref p)).isSome = true then _ else _) = _
    rw [e3, if_pos (show (some ts).isSome = true from rfl), e2]
    show noExc (dApp (.ref p) [valC m (maskD bs env)] M) = _
    rw [e4]
    rfl
  rw [e]
  exact k
end
/-! ### live lists that are read -/
def AtL (M : Sto) : List Nat → List (List D) → Prop
  | [], [] => True
  | n :: ns, ts :: tss => M[n]? = some (.lst ts) ∧ AtL M ns tss
  | _, _ => False
def eqSto : Sto → List (List D) → Bool
  | [], [] => true
  | .lst xs :: M, ts :: tss => eqBs (eqB 12) xs ts && eqSto M tss
  | _, _ => false
theorem eqSto_ok : ∀ {M : Sto} {tss : List (List D)}, eqSto M tss = true → M = tss.map Ob.lst
  | [], [], _ => rfl
  | .lst xs :: M, ts :: tss, h => by
    unfold eqSto at h
    rw [Bool.and_eq_true] at h
    rw [List.map_cons, eqBs_ok (fun _ _ => eqB_ok) h.1, eqSto_ok h.2]
  | [], _ :: _, h => by cases h
  | .lst _ :: _, [], h => by cases h
  | .dct _ :: _, [], h => by cases h
  | .dct _ :: _, _ :: _, h => by cases h
  | .ins _ _ :: _, [], h => by cases h
  | .ins _ _ :: _, _ :: _, h => by cases h
theorem pick_at : ∀ {ns : List Nat} {tss : List (List D)} {M : Sto}, AtL M ns tss → tss.all (belows 0) = true → pickO M ns = some (tss.map Ob.lst)
  | [], [], M, h, b => rfl
  | n :: ns, ts :: tss, M, h, b => by
    rw [List.all_cons, Bool.and_eq_true] at b
    unfold pickO
    rw [h.1, pick_at h.2 b.2]
    show (if belows 0 ts = true then _ else _) = _
    rw [if_pos b.1]
    rfl
  | [], _ :: _, _, h, _ => h.elim
  | _ :: _, [], _, h, _ => h.elim
theorem set_same {M : Sto} {n : Nat} {o : Ob} (h : M[n]? = some o) : M.set n o = M := by
  apply List.ext_getElem?
  intro i
  by_cases e : i = n
  · subst e
    rw [List.getElem?_set_self (List.getElem?_eq_some_iff.mp h).1, h]
  · rw [List.getElem?_set_ne (fun z => e z.symm)]
theorem put_at : ∀ {ns : List Nat} {tss : List (List D)} {M : Sto}, AtL M ns tss → tss.all (belows 0) = true → putO M ns (tss.map Ob.lst) = some M
  | [], [], M, h, b => rfl
  | n :: ns, ts :: tss, M, h, b => by
    rw [List.all_cons, Bool.and_eq_true] at b
    show (if closedO (.lst ts) = true then (putO M ns (tss.map Ob.lst)).map fun M' => M'.set n (.lst ts) else none) = _
    rw [if_pos (show closedO (.lst ts) = true from b.1), put_at h.2 b.2, Option.map_some, set_same h.1]
  | [], _ :: _, _, h, _ => h.elim
  | _ :: _, [], _, h, _ => h.elim
def chkFL (m : DT) (env : DEnv) (tss : List (List D)) : Bool := tss.all (belows 0) && match m env (tss.map Ob.lst) with
  | .ok k M => !k && eqSto M tss
  | _ => false
def chkTL (m : DE) (env : DEnv) (tss : List (List D)) : Bool := tss.all (belows 0) && match m env (tss.map Ob.lst) with
  | .ok (.bl k) M => k && eqSto M tss
  | _ => false
def chkCL (m : DE) (env : DEnv) (tss : List (List D)) : Bool := tss.all (belows 0) && match m env (tss.map Ob.lst) with
  | .ok d M => below 0 d && !d.isCur && eqSto M tss
  | _ => false
def valCL (m : DE) (env : DEnv) (tss : List (List D)) : D := match m env (tss.map Ob.lst) with
  | .ok d _ => d
  | _ => .non
section
variable {cs : List Nat} {m : DE} {mt : DT} {env env1 env2 : DEnv} {M : Sto} {i p : Nat} {q : DS} {N : DEnv → Sto → Prop} {R : D → Sto → Prop} {Bk Ct : DEnv → Sto → Prop} {ns : List Nat} {tss : List (List D)}
theorem tCloL_f (ho : okL cs env = true) (he : maskL cs env 0 = (env1, ns)) (hd : ns.Nodup) (hA : AtL M ns tss) (hc : chkFL mt env1 tss = true) : tCloL cs mt env M = .ok false M := by
  unfold chkFL at hc
  rw [Bool.and_eq_true] at hc
  obtain ⟨b, hc⟩ := hc
  unfold tCloL
  rw [he, if_pos ⟨ho, hd⟩]
  dsimp only
  rw [pick_at hA b]
  dsimp only
  split at hc
  · rename_i k M1 e
    rw [Bool.and_eq_true, Bool.not_eq_true'] at hc
    obtain ⟨hc, hs⟩ := hc
    have hs := eqSto_ok hs
    subst hs hc
    try rw [e]
    try dsimp only
    rw [put_at hA b]
  · cases hc
theorem mCloL_t (ho : okL cs env = true) (he : maskL cs env 0 = (env1, ns)) (hd : ns.Nodup) (hA : AtL M ns tss) (hc : chkTL m env1 tss = true) : mCloL cs m env M = .ok (.bl true) M := by
  unfold chkTL at hc
  rw [Bool.and_eq_true] at hc
  obtain ⟨b, hc⟩ := hc
  unfold mCloL
  rw [he, if_pos ⟨ho, hd⟩]
  dsimp only
  rw [pick_at hA b]
  dsimp only
  split at hc
  · rename_i k M1 e
    rw [Bool.and_eq_true] at hc
    obtain ⟨hc, hs⟩ := hc
    have hs := eqSto_ok hs
    subst hs hc
    try rw [e]
    try dsimp only
    rw [put_at hA b]
    rfl
  · cases hc
theorem mCloL_ok (ho : okL cs env = true) (he : maskL cs env 0 = (env1, ns)) (hd : ns.Nodup) (hA : AtL M ns tss) (hc : chkCL m env1 tss = true) : mCloL cs m env M = .ok (valCL m env1 tss) M := by
  unfold chkCL at hc
  rw [Bool.and_eq_true] at hc
  obtain ⟨b, hc⟩ := hc
  unfold mCloL valCL
  rw [he, if_pos ⟨ho, hd⟩]
  dsimp only
  rw [pick_at hA b]
  dsimp only
  split at hc
  · rename_i k M1 e
    rw [Bool.and_eq_true, Bool.and_eq_true] at hc
    obtain ⟨hc, hs⟩ := hc
    have hs := eqSto_ok hs
    subst hs
    try rw [e]
    try dsimp only
    rw [put_at hA b, if_pos hc.1]
  · cases hc
theorem cl_ifL {a : DS} (ho : okL cs env = true) (he : maskL cs env 0 = (env1, ns)) (hd : ns.Nodup) (hA : AtL M ns tss) (hc : chkFL mt env1 tss = true) (k : ws (q env M) N R Bk Ct) : ws (sSeq (sIf (tCloL cs mt) a sNil) q env M) N R Bk Ct := by
  refine ws_seq ?_
  unfold sIf
  rw [tCloL_f ho he hd hA hc]
  exact k
theorem cl_retL (ho : okL cs env = true) (he : maskL cs env 0 = (env1, ns)) (hd : ns.Nodup) (hA : AtL M ns tss) (hc : chkTL m env1 tss = true) (k : R (.bl true) M) : ws (sRet (mCloL cs m) env M) N R Bk Ct := by
  unfold sRet
  rw [mCloL_t ho he hd hA hc]
  exact k
theorem cl_setL (ho : okL cs env = true) (he : maskL cs env 0 = (env1, ns)) (hd : ns.Nodup) (hA : AtL M ns tss) (hc : chkCL m env1 tss = true) (hs : env.set i (some (valCL m env1 tss)) = env2) (k : ws (q env2 M) N R Bk Ct) : ws (sSeq (sAsg (mCloL cs m) (gN i)) q env M) N R Bk Ct := by
  subst hs
  refine ws_seq ?_
  unfold sAsg
  rw [mCloL_ok ho he hd hA hc]
  exact k
end
end EV
set_option maxHeartbeats 4000000
/-! dicts that are read -/
namespace EV
open PySem PySem.Spec PyProof.Rows L2
/-- the items of a dict -/
def dctD (M : Sto) : D → Option (List (Key × D))
  | .dct kvs => some kvs
  | .ref n => match M[n]? with
    | some (.dct kvs) => some kvs
    | _ => none
  | _ => none
def lookD : List (Key × D) → Key → Option D
  | [], _ => none
  | (k, v) :: r, x => if k = x then some v else lookD r x
variable [Tbl]
theorem dctD_rep {G : Gd} {F : Hp} {r : List Addr} {R : Hp} {M : Sto} {H : Hp} {d : D} {v : V} {kvs : List (Key × D)} (S : StoR G F r R M H) (q : Rep G F r d v) (e : dctD M d = some kvs) :
    ∃ a kws, v = .ref a ∧ H a = some (.dK kws) ∧ RepK G F r kvs kws := by
  cases d <;> first | (cases e; done) | skip
  · cases e
    rw [rep_dct] at q
    obtain ⟨a, vs, e, q1, q2⟩ := q
    exact ⟨a, vs, e, S.sub _ _ q1, q2⟩
  · rename_i n
    rw [rep_ref] at q
    obtain ⟨a, ha, ev⟩ := q
    unfold dctD at e
    simp only at e
    split at e
    · rename_i ys eo
      cases e
      obtain ⟨vs, h1, h2⟩ := S.at_ n a _ ha eo
      exact ⟨a, vs, ev, h1, h2.mono (Sub.refl _) (take_pre _ _)⟩
    · cases e
theorem look_rep {G : Gd} {F : Hp} {r : List Addr} {k : Key} : ∀ {d : List (Key × D)} {v : List (Key × V)}, RepK G F r d v → match lookD d k with
    | none => valV v k = none
    | some x => ∃ y, valV v k = some y ∧ Rep G F r x y
  | [], v, h => by
    unfold RepK at h
    subst h
    rfl
  | (k', x) :: xs, vs, h => by
    unfold RepK at h
    obtain ⟨v, w, rfl, a, b⟩ := h
    by_cases hk : k' = k
    · subst hk
      unfold lookD
      rw [if_pos rfl]
      exact ⟨v, by simp [valV], a⟩
    · unfold lookD
      rw [if_neg hk]
      have e : valV ((k', v) :: w) k = valV w k := by simp [valV, hk]
      rw [e]
      exact look_rep b
def dIxD : Op2 := fun a b M => match dctD M a with
  | some kvs => (match keyD b with
    | some k => (match lookD kvs k with
      | some v => .ok v M
      | none => .bad)
    | none => .bad)
  | none => dIx a b M
def dInG (neg : Bool) : Op2 := fun a b M => match dctD M b with
  | some kvs => (match keyD a with
    | some k => .ok (.bl (if neg then !(lookD kvs k).isSome else (lookD kvs k).isSome)) M
    | none => .bad)
  | none => dInF neg a b M
def dLenD : OpL := fun xs M => match xs with
  | [x] => (match dctD M x with
    | some kvs => .ok (.int kvs.length) M
    | none => dLen [x] M)
  | _ => .bad
section
variable {X : Cx}
theorem r_ixD (hu : X.A.units + 64 < cLine) : IxR X (rD2 X dIxD) := by
  have hu1 : X.A.units + 1 < cLine := by omega
  intro value slice pins s σ H x y v u Q I rx ry hq hs
  obtain ⟨F, r, R, M, a, b, S, ra, rb, hp⟩ := hq
  unfold dIxD at hp
  split at hp
  · rename_i kvs ed
    split at hp
    · rename_i k ek
      split at hp
      · rename_i w el
        obtain ⟨p, kws, rfl, hH, hR⟩ := dctD_rep S ra ed
        obtain rfl : v = Value.ref p := rx
        have z := look_rep (k := k) hR
        rw [el] at z
        obtain ⟨y', e1, e2⟩ := z
        have g : DGet H p (kV k) (some y') := by rw [← e1]; exact DGet.k hH
        have ey := keyD_rep rb ek
        subst ey
        have hT := dict_typeIs I g
        unfold subscriptTail
        refine wpAny_bind ?_
        rw [getitemInPython_of_ne hT.not_modules]
        refine wpAny_bind (wpAny_specialOf hT PySem.F.slot_dict_getitem.lookup ?_)
        have fin : wpAny (model X.prog X.w) X.A (subscripted slice false (.ref p) u) (fun r s₃ => wpAny (model X.prog X.w) X.A (letTemporaryGo value (.ref p) r >>= fun _ => pure r) (EP X pins σ Q) X.xe s₃) X.xe s := by
          rw [hs]
          refine wpAny_operating (d_getItem hu1 I g ry fun w' s' I' rw' => ?_)
          refine wpAny_bind (wpAny_letTemporaryGo (wpAny_pure ?_))
          exact ⟨y', H, I', rw', hp F r H y' (Sub.refl _) (List.prefix_refl _) S e2⟩
        first
          | exact wpAny_pure (wpAny_bind fin)
          | exact wpAny_bind (wpAny_pure (wpAny_bind fin))
          | exact wpAny_bind fin
      · exact hp.elim
    · exact hp.elim
  · exact r_ix value slice pins s σ H x y v u Q I rx ry ⟨F, r, R, M, a, b, S, ra, rb, hp⟩ hs
theorem r_inG (hu : X.A.units + 64 < cLine) : S2 X (compareOp .In) (dInG false) := by
  have hu1 : X.A.units + 1 < cLine := by omega
  intro pins s σ H x y v u Q I rx ry hq
  obtain ⟨F, r, R, M, a, b, S, ra, rb, hp⟩ := hq
  unfold dInG at hp
  split at hp
  · rename_i kvs ed
    split at hp
    · rename_i k ek
      obtain ⟨p, kws, rfl, hH, hR⟩ := dctD_rep S rb ed
      obtain rfl : u = Value.ref p := ry
      have ey := keyD_rep ra ek
      subst ey
      have z := look_rep (k := k) hR
      have e : (valV kws k).isSome = (lookD kvs k).isSome := by
        cases el : lookD kvs k with
        | none => rw [el] at z; rw [z]; rfl
        | some w => rw [el] at z; obtain ⟨y', e1, _⟩ := z; rw [e1]; rfl
      refine d_in hu1 I (DGet.k hH) rx fun s' I' => ?_
      rw [e]
      exact ⟨.bl _, H, I', rfl, OKx.flat hp S (.bl _)⟩
    · exact hp.elim
  · exact r_inF pins s σ H x y v u Q I rx ry ⟨F, r, R, M, a, b, S, ra, rb, hp⟩
theorem r_notInG (hu : X.A.units + 64 < cLine) : S2 X (compareOp .NotIn) (dInG true) := by
  have hu1 : X.A.units + 1 < cLine := by omega
  intro pins s σ H x y v u Q I rx ry hq
  obtain ⟨F, r, R, M, a, b, S, ra, rb, hp⟩ := hq
  unfold dInG at hp
  split at hp
  · rename_i kvs ed
    split at hp
    · rename_i k ek
      obtain ⟨p, kws, rfl, hH, hR⟩ := dctD_rep S rb ed
      obtain rfl : u = Value.ref p := ry
      have ey := keyD_rep ra ek
      subst ey
      have z := look_rep (k := k) hR
      have e : (valV kws k).isSome = (lookD kvs k).isSome := by
        cases el : lookD kvs k with
        | none => rw [el] at z; rw [z]; rfl
        | some w => rw [el] at z; obtain ⟨y', e1, _⟩ := z; rw [e1]; rfl
      refine d_notIn hu1 I (DGet.k hH) rx fun s' I' => ?_
      rw [e]
      exact ⟨.bl _, H, I', rfl, OKx.flat hp S (.bl _)⟩
    · exact hp.elim
  · exact r_notInF pins s σ H x y v u Q I rx ry ⟨F, r, R, M, a, b, S, ra, rb, hp⟩
theorem RepK.length {G : Gd} {F : Hp} {r : List Addr} : ∀ {d : List (Key × D)} {v : List (Key × V)}, RepK G F r d v → v.length = d.length
  | [], v, h => by
    unfold RepK at h
    subst h
    rfl
  | (k', x) :: xs, vs, h => by
    unfold RepK at h
    obtain ⟨v, w, rfl, a, b⟩ := h
    rw [List.length_cons, List.length_cons, RepK.length b]
theorem r_lenD : SL X (.builtin "len") dLenD := by
  intro pins s σ H xs us Q I rv hq
  obtain ⟨F, r, R, M, as, S, ra, hp⟩ := hq
  unfold dLenD at hp
  split at hp
  · rename_i d
    split at hp
    · rename_i kvs ed
      obtain ⟨v, rfl, q1⟩ := ra.inv1
      obtain ⟨p, kws, rfl, hH, hR⟩ := dctD_rep S q1 ed
      rw [Vals.ref1 rv]
      refine d_len I (.inl hH) fun t s' I' => ⟨.int kws.length, H, I', ⟨t, rfl⟩, ?_⟩
      rw [hR.length]
      exact OKx.flat hp S (.int _)
    · exact r_len pins s σ H xs us Q I rv ⟨F, r, R, M, _, S, ra, hp⟩
  · exact hp.elim
end
end EV
set_option maxHeartbeats 4000000
/-! dict(pairs) where the keys are tuples -/
namespace EV
open PySem PySem.Spec PyProof.Rows L2
abbrev KA := List Key × Addr × Value
section
variable {prog : Program} {w : World}
abbrev tkd (prog : Program) (w : World) : HeapKind prog w (List Key) := tupleKind (mixKind prog w)
def foldH (acc rest : List KA) : List KA := rest.foldl (fun xs q => storedH xs q.1 q.2.1 q.2.2) acc
theorem tk_at {h h2 : Heap} {k : List Key} {b : Addr} (x : (tkd prog w).is h k b) (kp : ∀ o, h.get? b = some o → h2.get? b = some o) : (tkd prog w).is h2 k b := by
  obtain ⟨o, its, n, e, r⟩ := x
  exact ⟨o, its, n, kp o e, r⟩
theorem dh_at {h h2 : Heap} {S : Addr} {xs : List KA} (x : h.DictOfH (tkd prog w) S xs) (kp : ∀ b o, h.get? b = some o → h2.get? b = some o) : h2.DictOfH (tkd prog w) S xs := by
  obtain ⟨o, es, ep, e1, e2, e3, e4, e5, e6⟩ := x
  exact ⟨o, es, ep, kp S o e1, e2, e3, e4, fun y hy => tk_at (e5 y hy) (kp _), e6⟩
theorem storedH_len (xs : List KA) (k : List Key) (b : Addr) (v : Value) : (storedH xs k b v).length ≤ xs.length + 1 := by
  unfold storedH
  split
  · rw [List.length_map]; exact Nat.le_succ _
  · rw [List.length_append]; exact Nat.le_refl _
/-- a pair of the list: its tuple, its key's tuple -/
structure PairAt (prog : Program) (w : World) (h : Heap) (items : Array Value) (j : Nat) (q : KA) (S I : Addr) : Prop where
  at_ : ∃ p : Addr, items[j]? = some (.ref p) ∧ p ≠ S ∧ p ≠ I ∧ IsTup h p #[.ref q.2.1, q.2.2]
  key : (tkd prog w).is h q.1 q.2.1
  kS : q.2.1 ≠ S
  kI : q.2.1 ≠ I
theorem PairAt.keep {h h2 : Heap} {items : Array Value} {j : Nat} {q : KA} {S I : Addr} (x : PairAt prog w h items j q S I) (kp : ∀ b o, b ≠ S → b ≠ I → h.get? b = some o → h2.get? b = some o) : PairAt prog w h2 items j q S I := by
  obtain ⟨p, e1, e2, e3, ⟨o, e4, e5⟩⟩ := x.at_
  exact ⟨⟨p, e1, e2, e3, ⟨o, kp p o e2 e3 e4, e5⟩⟩, tk_at x.key fun o e => kp _ o x.kS x.kI e, x.kS, x.kI⟩
theorem pairs_loop {A : Around} {R : Result → Shared → Prop} {S I l : Addr} {items : Array Value} {res : Value} (calm : A.handled = none) (room : A.in1.units < cLine) (n1 : l ≠ I) (n2 : S ≠ I) (n3 : S ≠ l) :
    ∀ (todo : List KA) (i : Nat) (done : List KA) (ix : Int) (t : Tok) (s : Shared), items.size = i + todo.length → done.length + todo.length ≤ sizeLine →
      (∀ (j : Nat) (q : KA), todo[j]? = some q → PairAt prog w s.heap items (i + j) q S I) → s.heap.IsListIter I l i → s.heap.IsList l items → s.heap.DictOfH (tkd prog w) S done →
      (∀ h2 tk, h2.DictOfH (tkd prog w) S (foldH done todo) → (∀ b o, b ≠ S → b ≠ I → s.heap.get? b = some o → h2.get? b = some o) → R (.ok (.ret res)) { s with heap := h2, toks := tk }) →
      codeAny (model prog w) A (.builtin "dict.update.loop" ⟨[.ref S, .ref I, .int ix t, res], []⟩) R s
  | [], i, done, ix, t, s, hz, _, _, hi, hl, hm, hR => by
    refine codeAny_builtin L2.ud_entry ?_
    rw [Around.under_plainId L2.ud_plain _]
    show wpAny _ A.in1 (pyNext (.ref I) >>= _) _ _ s
    refine wpAny_bind (wpAny_pyNext_list_end (A := A.in1) calm hi hl (by rw [List.length_nil] at hz; exact Array.getElem?_eq_none (by omega)) fun h2 he => ?_)
    show wpAny _ A.in1 (Builtin.Dict.addKeywords S [] >>= _) _ _ _
    refine wpAny_bind (wpAny_pure (wpAny_pure (hR h2 s.toks ?_ fun b o _ hb e => he b o hb e)))
    obtain ⟨o, es, ep, e1, e2, e3, e4, e5, e6⟩ := hm
    refine ⟨o, es, ep, he S o n2 e1, e2, e3, e4, fun y hy => ?_, e6⟩
    have z := e5 y hy
    obtain ⟨o2, its, n, g1, g2⟩ := id z
    refine tk_at z fun o3 g => he _ o3 (fun c => ?_) g
    obtain ⟨oi, c1, c2, _⟩ := hi
    rw [c, c1] at g1
    cases g1
    have := g2.1
    rw [c2] at this
    exact absurd this (by decide)
  | q :: todo, i, done, ix, t, s, hz, hn, hp, hi, hl, hm, hR => by
    have P := hp 0 q rfl
    obtain ⟨p, hb, pS, pI, tp⟩ := P.at_
    rw [List.length_cons] at hz hn
    refine codeAny_builtin L2.ud_entry ?_
    rw [Around.under_plainId L2.ud_plain _]
    show wpAny _ A.in1 (pyNext (.ref I) >>= _) _ _ s
    refine wpAny_bind (wpAny_pyNext_list_item (x := .ref p) hi hl (by simpa using hb) fun h1 hi1 hs1 => ?_)
    have kp1 : ∀ b o, b ≠ I → s.heap.get? b = some o → h1.get? b = some o := fun b o z e => hs1.extBut b o z e
    have tp1 : IsTup h1 p #[.ref q.2.1, q.2.2] := tp.extBut hs1.extBut pI
    have hl1 : h1.IsList l items := hl.extBut hs1.extBut n1
    have P1 : ∀ (j : Nat) (q' : KA), todo[j]? = some q' → PairAt prog w h1 items (i + 1 + j) q' S I := fun j q' e => by
      rw [show i + 1 + j = i + (j + 1) by omega]
      exact (hp (j + 1) q' (by simpa using e)).keep fun b o _ z g => kp1 b o z g
    have hm1 : h1.DictOfH (tkd prog w) S done := by
      obtain ⟨o, es, ep, e1, e2, e3, e4, e5, e6⟩ := hm
      refine ⟨o, es, ep, kp1 S o n2 e1, e2, e3, e4, fun y hy => ?_, e6⟩
      have z := e5 y hy
      obtain ⟨o2, its, n, g1, g2⟩ := id z
      refine tk_at z fun o3 g => kp1 _ o3 (fun c => ?_) g
      obtain ⟨oi, c1, c2, _⟩ := hi
      rw [c, c1] at g1
      cases g1
      have := g2.1
      rw [c2] at this
      exact absurd this (by decide)
    have key1 : (tkd prog w).is h1 q.1 q.2.1 := tk_at P.key fun o e => kp1 _ o P.kI e
    obtain ⟨o, ho, hc, n, hd⟩ := id tp1
    show wpAny _ A.in1 (holding [Value.ref p] _ >>= _) _ _ _
    refine wpAny_bind (wpAny_holding (wpAny_bind (wpAny_tryCatch ?_)))
    unfold Builtin.Dict.pairItems
    refine wpAny_bind (wpAny_typeOf (T := "tuple") ⟨o, ho, hc⟩ ?_)
    rw [if_pos (by first | decide | rfl | simp)]
    refine wpAny_bind (wpAny_seqItems ho hd (wpAny_pure ?_))
    show wpAny _ A.in1 (holding [.ref q.2.1, q.2.2] (dictSet S (.ref q.2.1) q.2.2)) _ _ _
    refine wpAny_holding (wpAny_dictSet_heap (knd := tkd prog w) (k := q.1) room key1 hm1 (fun h2 hm2 hs2 => ?_) (by omega))
    have kp2 : ∀ b o, b ≠ S → h1.get? b = some o → h2.get? b = some o := fun b o z e => hs2.extBut b o z e
    refine wpAny_pure ⟨plainId_quiet L2.ud_plain _, pairs_loop (items := items) calm room n1 n2 n3 todo (i + 1) (storedH done q.1 q.2.1 q.2.2) (ix + 1) 0 _ (show items.size = i + 1 + todo.length by omega) ?_ (fun j q' e => (P1 j q' e).keep fun b o z _ g => kp2 b o z g) (hi1.at fun o' e => kp2 I o' (Ne.symm n2) e) (hl1.extBut hs2.extBut (Ne.symm n3)) hm2
      fun h3 tk hd3 k3 => hR h3 tk hd3 fun b o z1 z2 e => k3 b o z1 z2 (kp2 b o z1 (kp1 b o z2 e))⟩
    have z := storedH_len done q.1 q.2.1 q.2.2
    omega
theorem dict_of_pairs {A : Around} {E : Value → Shared → Prop} {s : Shared} {l : Addr} {ol : Obj} {items : Array Value} {n : Nat} {todo : List KA} {Q : Value → Shared → Prop} (calm : A.handled = none) (room : A.in1.in1.units < cLine) (el : s.heap.get? l = some ol) (ec : ol.cls = .type "list") (ed : ol.dict = none)
    (edat : ol.data = .seq items n) (hz : items.size = todo.length) (hn : todo.length ≤ sizeLine)
    (hp : ∀ (j : Nat) (q : KA), todo[j]? = some q → ∃ p : Addr, items[j]? = some (.ref p) ∧ IsTup s.heap p #[.ref q.2.1, q.2.2] ∧ (tkd prog w).is s.heap q.1 q.2.1)
    (hQ : ∀ h2 tk, h2.DictOfH (tkd prog w) s.heap.objs.size (foldH [] todo) → (∀ b o, s.heap.get? b = some o → h2.get? b = some o) → Q (.ref s.heap.objs.size) { s with heap := h2, toks := tk }) :
    wpAny (model prog w) A (call (.type "dict") [.ref l]) Q E s := by
  let S0 := s.heap.objs.size
  let h0 := s.heap.push { cls := .type "dict", data := .dict #[] }
  refine callType_codes (Q₁ := fun obj s₁ => obj = .ref S0 ∧ s₁ = { s with heap := h0 }) PySem.F.kt_called_dict (PySem.F.kt_typeCall_dict_1 _) PySem.F.entry_dict_init (kt_code_dict_new _ ⟨rfl, rfl⟩) ?_
  rintro obj s₁ ⟨rfl, rfl⟩
  have d0 : h0.DictOfH (tkd prog w) S0 [] := Heap.DictOfH.new s.heap
  have kp0 : ∀ b o, s.heap.get? b = some o → h0.get? b = some o := fun b o e => Heap.get?_push_of_some _ e
  have ty0 : Shared.TypeIs { s with heap := h0 } (.ref S0) "dict" := Heap.DictOfH.typeIs (s := { s with heap := h0 }) d0
  refine ⟨ty0, PySem.F.args_dict_init_2 _ _, ?_⟩
  unfold Builtin.«dict.__init__»
  refine wpAny_bind ?_
  unfold Builtin.Dict.selfAndRest
  refine wpAny_bind (wpAny_notOrdered_dict ty0 ?_)
  show wpAny _ _ (pure (S0, [Value.ref l])) _ _ _
  refine wpAny_pure ?_
  show wpAny _ _ (Builtin.Dict.updateFrom "dict.__init__" S0 (.ref l) [] .none) _ _ _
  unfold Builtin.Dict.updateFrom
  refine wpAny_bind (wpAny_typeOf (T := "list") ⟨ol, kp0 _ _ el, ec⟩ ?_)
  rw [if_pos (by first | decide | rfl | simp)]
  refine wpAny_bind (L2.miss_list (kp0 _ _ el) ec edat ed calm fun h1 tk1 kp1 => ?_)
  rw [if_pos (show (none : Option Value).isNone = true from rfl)]
  refine wpAny_bind (wpAny_rule ?_)
  have l1 : h1.IsList l items := ⟨ol, kp1 _ _ (kp0 _ _ el), ec, n, edat⟩
  have z1 : S0 < h1.objs.size := Heap.lt_size (kp1 _ _ (show h0.get? S0 = some { cls := .type "dict", data := .dict #[] } from Heap.get?_push_size _ rfl))
  refine wpAny_bind (wpAny_pyIter_list l1 ?_)
  let I0 := h1.objs.size
  have kp2 : ∀ b o, h1.get? b = some o → (h1.push { cls := .type "list_iterator", data := .fields #[.ref l, .int 0 0] }).get? b = some o := fun b o e => Heap.get?_push_of_some _ e
  have kpA : ∀ b o, s.heap.get? b = some o → (h1.push { cls := .type "list_iterator", data := .fields #[.ref l, .int 0 0] }).get? b = some o := fun b o e => kp2 b o (kp1 b o (kp0 b o e))
  have lS : l < S0 := Heap.lt_size el
  have run := pairs_loop (prog := prog) (w := w) (A := A.in1) (R := wants (fun r s₂ => r = .none ∧ Q (.ref S0) s₂) E) (S := S0) (I := I0) (l := l) (items := items) (res := Value.none) calm room
    (Nat.ne_of_lt (Nat.lt_trans lS z1)) (Nat.ne_of_lt z1) (Nat.ne_of_gt lS) todo 0 [] 0 0
    { s with heap := h1.push { cls := .type "list_iterator", data := .fields #[.ref l, .int 0 0] }, toks := tk1 } (by rw [hz, Nat.zero_add]) (by rw [List.length_nil, Nat.zero_add]; exact hn)
    (fun j q e => by
      obtain ⟨p, e1, e2, e3⟩ := hp j q e
      have hpS : p < S0 := e2.lt
      have hkS : q.2.1 < S0 := by obtain ⟨o, _, _, g, _⟩ := id e3; exact Heap.lt_size g
      exact ⟨⟨p, by rw [Nat.zero_add]; exact e1, Nat.ne_of_lt hpS, Nat.ne_of_lt (Nat.lt_trans hpS z1), e2.keeps fun c o z => kpA _ _ z⟩, tk_at e3 fun o z => kpA _ _ z, Nat.ne_of_lt hkS, Nat.ne_of_lt (Nat.lt_trans hkS z1)⟩)
    ⟨_, Heap.get?_push_size _ rfl, rfl, rfl⟩ (l1.at fun o e => kp2 _ _ e) (dh_at (dh_at d0 kp1) kp2)
    (fun h2 tk d2 k2 => ⟨rfl, hQ h2 tk d2 fun b o e => k2 b o (Nat.ne_of_lt (Heap.lt_size e)) (Nat.ne_of_lt (Nat.lt_trans (Heap.lt_size e) z1)) (kpA _ _ e)⟩)
  first
    | exact wpAny_pure ⟨plainId_quiet L2.ud_plain _, run⟩
    | exact wpAny_bind (wpAny_pure (wpAny_pure ⟨plainId_quiet L2.ud_plain _, run⟩))
end
end EV
namespace EV
open PySem PySem.Spec PyProof.Rows L2
/-- the keys of a tuple -/
def keysOf : List D → Option (List Key)
  | [] => some []
  | x :: xs => match keyD x, keysOf xs with
    | some k, some ks => some (k :: ks)
    | _, _ => none
/-- (key tuple, value) -/
def pairT : D → Option (List Key × D)
  | .tup [.tup ks, v] => match keysOf ks with
    | some kk => some (kk, v)
    | none => none
  | _ => none
def pairsT : List D → Option (List (List Key × D))
  | [] => some []
  | x :: xs => match pairT x, pairsT xs with
    | some p, some ps => some (p :: ps)
    | _, _ => none
def putTD (kvs : List (List Key × D)) (k : List Key) (v : D) : List (List Key × D) := if kvs.any (fun kv => decide (kv.1 = k)) then kvs.map (fun kv => if kv.1 = k then (kv.1, v) else kv) else kvs ++ [(k, v)]
def mergeT (kvs : List (List Key × D)) (more : List (List Key × D)) : List (List Key × D) := more.foldl (fun acc kv => putTD acc kv.1 kv.2) kvs
def lookT : List (List Key × D) → List Key → Option D
  | [], _ => none
  | (k, v) :: r, x => if k = x then some v else lookT r x
/-- dict(list of pairs whose keys are tuples) -/
def dDictT : OpL := fun xs M => match xs with
  | [x] => (match lstD M x with
    | some ds => (match pairsT ds with
      | some kvs => if kvs.length ≤ lim then .ok (.dtu (mergeT [] kvs)) M else .bad
      | none => .bad)
    | none => .bad)
  | _ => .bad
/-- d[(..)] -/
def dIxT : Op2 := fun a b M => match a, b with
  | .dtu kvs, .tup ks => (match keysOf ks with
    | some k => (match lookT kvs k with
      | some v => .ok v M
      | none => .bad)
    | none => .bad)
  | _, _ => .bad
variable [Tbl]
section
variable {G : Gd} {F H R : Hp} {r : List Addr} {M : Sto}
theorem keysOf_rep : ∀ {ks : List D} {vs : List V} {kk : List Key}, Reps G F r ks vs → keysOf ks = some kk → vs = kk.map kV
  | [], vs, kk, h, e => by
    cases e
    exact h.inv0
  | x :: xs, vs, kk, h, e => by
    obtain ⟨v, w, rfl, a, b⟩ := h.inv
    unfold keysOf at e
    split at e
    · rename_i k ks e1 e2
      cases e
      rw [keyD_rep a e1, keysOf_rep b e2]
      rfl
    · cases e
theorem RepT.nil : RepT G F r [] [] := by unfold RepT; rfl
theorem RepT.cons {k : List Key} {d : D} {v : V} {ds : List (List Key × D)} {vs : List (List Key × V)} (h : Rep G F r d v) (h' : RepT G F r ds vs) : RepT G F r ((k, d) :: ds) ((k, v) :: vs) := by
  unfold RepT
  exact ⟨v, vs, rfl, h, h'⟩
theorem RepT.append : ∀ {d : List (List Key × D)} {v : List (List Key × V)} {d' : List (List Key × D)} {v' : List (List Key × V)}, RepT G F r d v → RepT G F r d' v' → RepT G F r (d ++ d') (v ++ v')
  | [], v, d', v', h, h' => by
    unfold RepT at h
    subst h
    exact h'
  | (k, x) :: xs, vs, d', v', h, h' => by
    unfold RepT at h
    obtain ⟨v, w, rfl, a, b⟩ := h
    exact RepT.cons a (RepT.append b h')
theorem RepT.any (k : List Key) : ∀ {d : List (List Key × D)} {v : List (List Key × V)}, RepT G F r d v → (v.any fun kv => decide (kv.1 = k)) = d.any fun kv => decide (kv.1 = k)
  | [], v, h => by
    unfold RepT at h
    subst h
    rfl
  | (k', x) :: xs, vs, h => by
    unfold RepT at h
    obtain ⟨v, w, rfl, a, b⟩ := h
    rw [List.any_cons, List.any_cons, RepT.any k b]
theorem RepT.repl {k : List Key} {y : D} {u : V} (q : Rep G F r y u) : ∀ {d : List (List Key × D)} {v : List (List Key × V)}, RepT G F r d v → RepT G F r (d.map fun kv => if kv.1 = k then (kv.1, y) else kv) (v.map fun kv => if kv.1 = k then (kv.1, u) else kv)
  | [], v, h => by
    unfold RepT at h
    subst h
    exact RepT.nil
  | (k', x) :: xs, vs, h => by
    unfold RepT at h
    obtain ⟨w, ws, rfl, a, b⟩ := h
    rw [List.map_cons, List.map_cons]
    by_cases hk : k' = k
    · rw [if_pos hk, if_pos hk]
      exact RepT.cons q (RepT.repl q b)
    · rw [if_neg hk, if_neg hk]
      exact RepT.cons a (RepT.repl q b)
theorem RepT.put {k : List Key} {y : D} {u : V} (q : Rep G F r y u) {d : List (List Key × D)} {v : List (List Key × V)} (h : RepT G F r d v) : RepT G F r (putTD d k y) (putK v k u) := by
  unfold putTD putK
  rw [h.any k]
  split
  · exact h.repl q
  · exact h.append (RepT.cons q RepT.nil)
theorem RepT.look {k : List Key} : ∀ {d : List (List Key × D)} {v : List (List Key × V)}, RepT G F r d v → match lookT d k with
    | none => valV v k = none
    | some x => ∃ y, valV v k = some y ∧ Rep G F r x y
  | [], v, h => by
    unfold RepT at h
    subst h
    rfl
  | (k', x) :: xs, vs, h => by
    unfold RepT at h
    obtain ⟨v, w, rfl, a, b⟩ := h
    by_cases hk : k' = k
    · subst hk
      unfold lookT
      rw [if_pos rfl]
      exact ⟨v, by simp [valV], a⟩
    · unfold lookT
      rw [if_neg hk]
      have e : valV ((k', v) :: w) k = valV w k := by simp [valV, hk]
      rw [e]
      exact RepT.look b
theorem putT_len (kvs : List (List Key × V)) (k : List Key) (v : V) : (putK kvs k v).length ≤ kvs.length + 1 := length_putK kvs k v
/-- the pairs as they lie -/
inductive PrsR (G : Gd) (F : Hp) (r : List Addr) : List (List Key × D) → List (List Key × Addr × V) → List Addr → Prop
  | nil : PrsR G F r [] [] []
  | cons {k : List Key} {d : D} {b p : Addr} {v : V} {ds vs ps} : F p = some (.tup [.ref b, v]) → F b = some (.tup (k.map kV)) → Rep G F r d v → PrsR G F r ds vs ps → PrsR G F r ((k, d) :: ds) ((k, b, v) :: vs) (p :: ps)
theorem pairsT_rep : ∀ {ds : List D} {vs : List V} {kvs : List (List Key × D)}, Reps G F r ds vs → pairsT ds = some kvs → ∃ qs ps, vs = ps.map V.ref ∧ PrsR G F r kvs qs ps
  | [], vs, kvs, h, e => by
    cases e
    cases h.inv0
    exact ⟨[], [], rfl, .nil⟩
  | x :: xs, vs, kvs, h, e => by
    obtain ⟨v, w, rfl, a, b⟩ := h.inv
    unfold pairsT at e
    split at e
    · rename_i p0 ps0 e1 e2
      cases e
      obtain ⟨qs, ps, rfl, hq⟩ := pairsT_rep b e2
      unfold pairT at e1
      split at e1
      · rename_i ks u
        split at e1
        · rename_i kk ek
          cases e1
          rw [rep_tup] at a
          obtain ⟨p, ws, rfl, hp, hr⟩ := a
          obtain ⟨v1, v2, rfl, r1, r2⟩ := hr.inv2
          rw [rep_tup] at r1
          obtain ⟨b, us, rfl, hb, hk⟩ := r1
          have := keysOf_rep hk ek
          subst this
          exact ⟨(kk, b, v2) :: qs, p :: ps, rfl, .cons hp hb r2 hq⟩
        · cases e1
      · cases e1
    · cases e
end
section
variable {X : Cx} {W : EXK} {pos : Pos}
theorem foldH_kt {H : Hp} : ∀ {qs : List (List Key × Addr × V)} {us : List KA} {kvs : List (List Key × V)} {xs : List KA}, Paired (fun q u => q.1 = u.1 ∧ q.2.1 = u.2.1 ∧ RelV q.2.2 u.2.2 ∧ H q.2.1 = some (.tup (q.1.map kV))) qs us → KT H kvs xs →
    KT H (qs.foldl (fun acc q => putK acc q.1 q.2.2) kvs) (foldH xs us)
  | [], us, kvs, xs, h, k => by cases h; exact k
  | q :: qs, us, kvs, xs, h, k => by
    cases h with
    | cons a b =>
      rename_i u us
      obtain ⟨e1, e2, e3, e4⟩ := a
      show KT H (qs.foldl _ (putK kvs q.1 q.2.2)) (foldH (storedH xs u.1 u.2.1 u.2.2) us)
      refine foldH_kt b ?_
      rw [← e1]
      exact k.put q.1 (by rw [← e2]; exact e4) e3
theorem fold_len : ∀ (qs : List (List Key × Addr × V)) (kvs : List (List Key × V)), (qs.foldl (fun acc q => putK acc q.1 q.2.2) kvs).length ≤ kvs.length + qs.length
  | [], kvs => Nat.le_refl _
  | q :: qs, kvs => by
    have h := fold_len qs (putK kvs q.1 q.2.2)
    have h2 := putT_len kvs q.1 q.2.2
    show (qs.foldl _ (putK kvs q.1 q.2.2)).length ≤ _
    rw [List.length_cons]
    omega
theorem fold_rep {G : Gd} {F : Hp} {r : List Addr} {kvs : List (List Key × D)} {qs : List (List Key × Addr × V)} {ps : List Addr} (h : PrsR G F r kvs qs ps) : ∀ {d : List (List Key × D)} {v : List (List Key × V)}, RepT G F r d v → RepT G F r (mergeT d kvs) (qs.foldl (fun acc q => putK acc q.1 q.2.2) v) := by
  induction h with
  | nil => exact fun h => h
  | cons h1 h2 h3 h4 ih => exact fun h => ih (h.put h3)
theorem PrsR.len {G : Gd} {F : Hp} {r : List Addr} {kvs : List (List Key × D)} {qs : List (List Key × Addr × V)} {ps : List Addr} (h : PrsR G F r kvs qs ps) : qs.length = kvs.length ∧ ps.length = kvs.length := by
  induction h with
  | nil => exact ⟨rfl, rfl⟩
  | cons _ _ _ _ ih => exact ⟨by rw [List.length_cons, List.length_cons, ih.1], by rw [List.length_cons, List.length_cons, ih.2]⟩
theorem prs_heap {pins : List (Addr × Obj)} {σ : L2.St} {H F : Hp} {s : Shared} {G : Gd} {r : List Addr} (I : Inv X pins σ H s) (sub : Sub F H) : ∀ {kvs : List (List Key × D)} {qs : List (List Key × Addr × V)} {ps : List Addr}, PrsR G F r kvs qs ps →
    ∃ us : List KA, Paired (fun q u => q.1 = u.1 ∧ q.2.1 = u.2.1 ∧ RelV q.2.2 u.2.2 ∧ H q.2.1 = some (.tup (q.1.map kV))) qs us ∧ us.length = ps.length ∧
      ∀ (j : Nat) (q : KA), us[j]? = some q → ∃ p : Addr, (ps.map Value.ref)[j]? = some (.ref p) ∧ IsTup s.heap p #[.ref q.2.1, q.2.2] ∧ (tkd X.prog X.w).is s.heap q.1 q.2.1
  | _, _, _, .nil => ⟨[], .nil, rfl, fun j q e => by cases e⟩
  | _, _, _, .cons (k := k) (b := b) (p := p) (v := v) h1 h2 h3 h4 => by
    obtain ⟨us, hp, hl, ha⟩ := prs_heap I sub h4
    obtain ⟨its, rv, ht, _⟩ := I.tuple (SqT.of (sub _ _ h1) : SqT X.K H p [.ref b, v])
    obtain ⟨u, y, ei, ru, ry⟩ := vals2 rv
    subst ei
    obtain rfl : u = Value.ref b := ru
    refine ⟨(k, b, y) :: us, .cons ⟨rfl, rfl, ry, sub _ _ h2⟩ hp, by rw [List.length_cons, List.length_cons, hl], fun j q e => ?_⟩
    cases j with
    | zero =>
      have e' : (k, b, y) = q := Option.some.inj e
      subst e'
      exact ⟨p, rfl, ht, key_of I.hok (sub _ _ h2)⟩
    | succ j =>
      obtain ⟨p', e1, e2, e3⟩ := ha j q (by simpa using e)
      exact ⟨p', by simpa using e1, e2, e3⟩
theorem r_dictT (hc : X.calm = true) (hu : X.A.units + 64 < cLine) : SL X (.type "dict") dDictT := by
  intro pins s σ H xs us Q I rv hq
  obtain ⟨F, r, R, M, as, S, ra, hp⟩ := hq
  unfold dDictT at hp
  split at hp
  case h_2 => exact hp.elim
  rename_i x
  split at hp
  case h_2 => exact hp.elim
  rename_i ds e1
  split at hp
  case h_2 => exact hp.elim
  rename_i kvs e2
  split at hp
  case isFalse => exact hp.elim
  rename_i hl
  obtain ⟨v, rfl, q1⟩ := ra.inv1
  obtain ⟨a, vs, rfl, q2, q3⟩ := lstD_rep S q1 e1
  obtain ⟨qs, ps, rfl, hP⟩ := pairsT_rep q3 e2
  rw [Vals.ref1 rv]
  obtain ⟨its, rv2, pl, hz⟩ := I.list q2.sq
  have ei := refs_at rv2
  subst ei
  obtain ⟨o, n, ho, hcl, hd, hdat⟩ := pl
  obtain ⟨ks, hK, hkl, hka⟩ := prs_heap I S.sub hP
  have hlen := hP.len
  refine dict_of_pairs (todo := ks) (I.ok.hd hc) ?_ ho hcl hd hdat (by simp [hkl]) (by rw [hkl, hlen.2]; exact Nat.le_trans hl (lim_ok (Nat.le_refl _))) (fun j q e => ?_) fun h2 tk d2 kp => ?_
  · simp only [Around.in1_units]; omega
  · obtain ⟨p, g1, g2, g3⟩ := hka j q e
    exact ⟨p, by simpa using g1, g2, g3⟩
  · have hm : (s.heap.objs.size == sysModules) = false := beq_eq_false_iff_ne.mpr (Nat.ne_of_gt I.big)
    have hH : H s.heap.objs.size = none := I.hok.fresh (Nat.le_refl _)
    obtain ⟨od, es, ep, g1, g2, g3, g4, g5, g6⟩ := d2
    have kt : KT H (qs.foldl (fun acc q => putK acc q.1 q.2.2) []) (foldH [] ks) := foldH_kt hK .nil
    have hll := fold_len qs []
    have hlim : (qs.foldl (fun acc q => putK acc q.1 q.2.2) []).length ≤ sizeLine := by
      rw [List.length_nil, Nat.zero_add, hlen.1] at hll
      exact Nat.le_trans hll (Nat.le_trans hl (lim_ok (Nat.le_refl _)))
    refine ⟨.ref s.heap.objs.size, upd H s.heap.objs.size (.dT (qs.foldl (fun acc q => putK acc q.1 q.2.2) [])), I.laid (t' := tk) kp (Nat.le_refl _) ⟨hlim, hm, foldH [] ks, kt.keeps fun b ys e => ?_, od, es, ep, g1, g2, g3, g4, g6⟩, rfl, ?_⟩
    · rw [upd_ne (ne_of_none e hH)]; exact e
    · have hF : F s.heap.objs.size = none := (S.notR hH).1
      refine hp _ r _ _ (Sub.upd hF) (List.prefix_refl _) (S.froz (u := .dT (qs.foldl (fun acc q => putK acc q.1 q.2.2) [])) hH) ?_
      rw [rep_dtu]
      exact ⟨_, _, rfl, upd_same, (fold_rep hP RepT.nil).mono (Sub.upd hF) (List.prefix_refl _)⟩
theorem r_ixT (hu : X.A.units + 64 < cLine) : IxR X (rD2 X dIxT) := by
  have hu1 : X.A.units + 1 < cLine := by omega
  intro value slice pins s σ H x y v u Q I rx ry hq hs
  obtain ⟨F, r, R, M, a, b, S, ra, rb, hp⟩ := hq
  unfold dIxT at hp
  split at hp
  case h_2 => exact hp.elim
  rename_i kvs ks
  split at hp
  case h_2 => exact hp.elim
  rename_i k ek
  split at hp
  case h_2 => exact hp.elim
  rename_i w el
  rw [rep_dtu] at ra
  obtain ⟨p, kws, rfl, hF, hR⟩ := ra
  rw [rep_tup] at rb
  obtain ⟨q, vs, rfl, hB, hK⟩ := rb
  have := keysOf_rep hK ek
  subst this
  obtain rfl : v = Value.ref p := rx
  have z := RepT.look (k := k) hR
  rw [el] at z
  obtain ⟨y', e1, e2⟩ := z
  have g : DGet H p (.ref q) (some y') := by rw [← e1]; exact DGet.t (S.sub _ _ hF) (S.sub _ _ hB)
  have hT := dict_typeIs I g
  unfold subscriptTail
  refine wpAny_bind ?_
  rw [getitemInPython_of_ne hT.not_modules]
  refine wpAny_bind (wpAny_specialOf hT PySem.F.slot_dict_getitem.lookup ?_)
  have fin : wpAny (model X.prog X.w) X.A (subscripted slice false (.ref p) u) (fun r s₃ => wpAny (model X.prog X.w) X.A (letTemporaryGo value (.ref p) r >>= fun _ => pure r) (EP X pins σ Q) X.xe s₃) X.xe s := by
    rw [hs]
    refine wpAny_operating (d_getItem hu1 I g ry fun w' s' I' rw' => ?_)
    refine wpAny_bind (wpAny_letTemporaryGo (wpAny_pure ?_))
    exact ⟨y', H, I', rw', hp F r H y' (Sub.refl _) (List.prefix_refl _) S e2⟩
  first
    | exact wpAny_pure (wpAny_bind fin)
    | exact wpAny_bind (wpAny_pure (wpAny_bind fin))
    | exact wpAny_bind fin
end
end EV
namespace Law
open PySem PySem.Spec PyProof.Rows L2 EV
def topS (i : Nat) : Stmt := PySem.Challenge.pw_onebetween_k08_errors_of_webs.main.body.getD i (.Pass ⟨0, 0, 0, 0⟩)
def clsS (i j : Nat) : Stmt := match topS i with
  | .ClassDef _ _ _ b _ _ _ _ _ _ _ => b.getD j (.Pass ⟨0, 0, 0, 0⟩)
  | s => s
abbrev s_is_integer : Stmt := topS 3
abbrev N_is_integer : List Str := ["value"]
abbrev P_is_integer : List Str := ["value"]
theorem sc_is_integer : FnScope N_is_integer P_is_integer (defScope s_is_integer) := ⟨rfl, rfl, rfl, by decide +kernel, rfl, by decide +kernel, by decide +kernel⟩
abbrev s_is_count : Stmt := topS 4
abbrev N_is_count : List Str := ["value"]
abbrev P_is_count : List Str := ["value"]
theorem sc_is_count : FnScope N_is_count P_is_count (defScope s_is_count) := ⟨rfl, rfl, rfl, by decide +kernel, rfl, by decide +kernel, by decide +kernel⟩
abbrev s_is_place : Stmt := topS 12
abbrev N_is_place : List Str := ["value", "total"]
abbrev P_is_place : List Str := ["value", "total"]
theorem sc_is_place : FnScope N_is_place P_is_place (defScope s_is_place) := ⟨rfl, rfl, rfl, by decide +kernel, rfl, by decide +kernel, by decide +kernel⟩
abbrev s_is_row : Stmt := topS 13
abbrev N_is_row : List Str := ["value", "total", "place", "one", "other"]
abbrev P_is_row : List Str := ["value", "total"]
theorem sc_is_row : FnScope N_is_row P_is_row (defScope s_is_row) := ⟨rfl, rfl, rfl, by decide +kernel, rfl, by decide +kernel, by decide +kernel⟩
abbrev s_are_rows : Stmt := topS 14
abbrev N_are_rows : List Str := ["value", "row"]
abbrev P_are_rows : List Str := ["value"]
theorem sc_are_rows : FnScope N_are_rows P_are_rows (defScope s_are_rows) := ⟨rfl, rfl, rfl, by decide +kernel, rfl, by decide +kernel, by decide +kernel⟩
abbrev s_require_place : Stmt := topS 15
abbrev N_require_place : List Str := ["web", "place"]
abbrev P_require_place : List Str := ["web", "place"]
theorem sc_require_place : FnScope N_require_place P_require_place (defScope s_require_place) := ⟨rfl, rfl, rfl, by decide +kernel, rfl, by decide +kernel, by decide +kernel⟩
abbrev s_columns_of : Stmt := topS 16
abbrev N_columns_of : List Str := ["rows", "found", "place", "row", "one", "column"]
abbrev P_columns_of : List Str := ["rows"]
theorem sc_columns_of : FnScope N_columns_of P_columns_of (defScope s_columns_of) := ⟨rfl, rfl, rfl, by decide +kernel, rfl, by decide +kernel, by decide +kernel⟩
abbrev s_is_order : Stmt := topS 17
abbrev N_is_order : List Str := ["value", "total", "place"]
abbrev P_is_order : List Str := ["value", "total"]
theorem sc_is_order : FnScope N_is_order P_is_order (defScope s_is_order) := ⟨rfl, rfl, rfl, by decide +kernel, rfl, by decide +kernel, by decide +kernel⟩
abbrev s_Web_init_d : Stmt := clsS 18 0
abbrev N_Web_init_d : List Str := ["self", "rows"]
abbrev P_Web_init_d : List Str := ["self", "rows"]
theorem sc_Web_init_d : FnScope N_Web_init_d P_Web_init_d (defScope s_Web_init_d) := ⟨rfl, rfl, rfl, by decide +kernel, rfl, by decide +kernel, by decide +kernel⟩
abbrev s_Web_renamed : Stmt := clsS 18 9
abbrev N_Web_renamed : List Str := ["self", "names", "total", "found", "place", "row", "one"]
abbrev P_Web_renamed : List Str := ["self", "names"]
theorem sc_Web_renamed : FnScope N_Web_renamed P_Web_renamed (defScope s_Web_renamed) := ⟨rfl, rfl, rfl, by decide +kernel, rfl, by decide +kernel, by decide +kernel⟩
abbrev s_Web_with_tie : Stmt := clsS 18 10
abbrev N_Web_with_tie : List Str := ["self", "one", "other"]
abbrev P_Web_with_tie : List Str := ["self", "one", "other"]
theorem sc_Web_with_tie : FnScope N_Web_with_tie P_Web_with_tie (defScope s_Web_with_tie) := ⟨rfl, rfl, rfl, by decide +kernel, rfl, by decide +kernel, by decide +kernel⟩
abbrev s_Web_without_tie : Stmt := clsS 18 11
abbrev N_Web_without_tie : List Str := ["self", "one", "other", "place"]
abbrev P_Web_without_tie : List Str := ["self", "one", "other"]
theorem sc_Web_without_tie : FnScope N_Web_without_tie P_Web_without_tie (defScope s_Web_without_tie) := ⟨rfl, rfl, rfl, by decide +kernel, rfl, by decide +kernel, by decide +kernel⟩
abbrev s_Web_with_row : Stmt := clsS 18 12
abbrev N_Web_with_row : List Str := ["self", "place", "row"]
abbrev P_Web_with_row : List Str := ["self", "place", "row"]
theorem sc_Web_with_row : FnScope N_Web_with_row P_Web_with_row (defScope s_Web_with_row) := ⟨rfl, rfl, rfl, by decide +kernel, rfl, by decide +kernel, by decide +kernel⟩
abbrev s_Web_exchanged : Stmt := clsS 18 13
abbrev N_Web_exchanged : List Str := ["self", "place", "row"]
abbrev P_Web_exchanged : List Str := ["self", "place", "row"]
theorem sc_Web_exchanged : FnScope N_Web_exchanged P_Web_exchanged (defScope s_Web_exchanged) := ⟨rfl, rfl, rfl, by decide +kernel, rfl, by decide +kernel, by decide +kernel⟩
abbrev s_Web_part : Stmt := clsS 18 14
abbrev N_Web_part : List Str := ["self", "places", "numbers", "rows", "number", "place", "one"]
abbrev P_Web_part : List Str := ["self", "places"]
theorem sc_Web_part : FnScope N_Web_part P_Web_part (defScope s_Web_part) := ⟨rfl, rfl, rfl, by decide +kernel, rfl, by decide +kernel, by decide +kernel⟩
abbrev s_Web_getitem_d : Stmt := clsS 18 15
abbrev N_Web_getitem_d : List Str := ["self", "place"]
abbrev P_Web_getitem_d : List Str := ["self", "place"]
theorem sc_Web_getitem_d : FnScope N_Web_getitem_d P_Web_getitem_d (defScope s_Web_getitem_d) := ⟨rfl, rfl, rfl, by decide +kernel, rfl, by decide +kernel, by decide +kernel⟩
abbrev s_Web_contains_d : Stmt := clsS 18 16
abbrev N_Web_contains_d : List Str := ["self", "value", "total"]
abbrev P_Web_contains_d : List Str := ["self", "value"]
theorem sc_Web_contains_d : FnScope N_Web_contains_d P_Web_contains_d (defScope s_Web_contains_d) := ⟨rfl, rfl, rfl, by decide +kernel, rfl, by decide +kernel, by decide +kernel⟩
abbrev s_Web_len_d : Stmt := clsS 18 17
abbrev N_Web_len_d : List Str := ["self"]
abbrev P_Web_len_d : List Str := ["self"]
theorem sc_Web_len_d : FnScope N_Web_len_d P_Web_len_d (defScope s_Web_len_d) := ⟨rfl, rfl, rfl, by decide +kernel, rfl, by decide +kernel, by decide +kernel⟩
abbrev s__law_dice : Stmt := topS 20
abbrev N__law_dice : List Str := ["script", "spot", "cell", "left"]
abbrev P__law_dice : List Str := ["script", "spot"]
theorem sc__law_dice : FnScope N__law_dice P__law_dice (defScope s__law_dice) := ⟨rfl, rfl, rfl, by decide +kernel, rfl, by decide +kernel, by decide +kernel⟩
abbrev s__law_roll : Stmt := topS 21
abbrev N__law_roll : List Str := ["dice", "total", "found", "one", "two"]
abbrev P__law_roll : List Str := ["dice", "total"]
theorem sc__law_roll : FnScope N__law_roll P__law_roll (defScope s__law_roll) := ⟨rfl, rfl, rfl, by decide +kernel, rfl, by decide +kernel, by decide +kernel⟩
abbrev s__law_pick : Stmt := topS 22
abbrev N__law_pick : List Str := ["dice", "items"]
abbrev P__law_pick : List Str := ["dice", "items"]
theorem sc__law_pick : FnScope N__law_pick P__law_pick (defScope s__law_pick) := ⟨rfl, rfl, rfl, by decide +kernel, rfl, by decide +kernel, by decide +kernel⟩
abbrev s__law_met : Stmt := topS 23
abbrev N__law_met : List Str := ["call", "e"]
abbrev P__law_met : List Str := ["call"]
theorem sc__law_met : FnScope N__law_met P__law_met (defScope s__law_met) := ⟨rfl, rfl, rfl, by decide +kernel, rfl, by decide +kernel, by decide +kernel⟩
abbrev s__law_first : Stmt := topS 24
abbrev N__law_first : List Str := ["words", "found", "word"]
abbrev P__law_first : List Str := ["words"]
theorem sc__law_first : FnScope N__law_first P__law_first (defScope s__law_first) := ⟨rfl, rfl, rfl, by decide +kernel, rfl, by decide +kernel, by decide +kernel⟩
abbrev s__law_place_word : Stmt := topS 25
abbrev N__law_place_word : List Str := ["value"]
abbrev P__law_place_word : List Str := ["value"]
theorem sc__law_place_word : FnScope N__law_place_word P__law_place_word (defScope s__law_place_word) := ⟨rfl, rfl, rfl, by decide +kernel, rfl, by decide +kernel, by decide +kernel⟩
abbrev s__law_rows_right : Stmt := topS 26
abbrev N__law_rows_right : List Str := ["dice", "odd", "rows"]
abbrev P__law_rows_right : List Str := ["dice"]
theorem sc__law_rows_right : FnScope N__law_rows_right P__law_rows_right (defScope s__law_rows_right) := ⟨rfl, rfl, rfl, by decide +kernel, rfl, by decide +kernel, by decide +kernel⟩
abbrev s__law_right : Stmt := topS 27
abbrev N__law_right : List Str := ["dice", "web", "odd", "one", "other", "words", "is_tie", "late", "fine", "row", "wrong", "names", "due", "told", "some"]
abbrev P__law_right : List Str := ["dice", "web"]
theorem sc__law_right : FnScope N__law_right P__law_right (defScope s__law_right) := ⟨rfl, rfl, rfl, by decide +kernel, rfl, by decide +kernel, by decide +kernel⟩
abbrev s_law : Stmt := topS 28
abbrev N_law : List Str := ["script", "web", "spot", "dice", "turn", "told"]
abbrev P_law : List Str := ["script"]
theorem sc_law : FnScope N_law P_law (defScope s_law) := ⟨rfl, rfl, rfl, by decide +kernel, rfl, by decide +kernel, by decide +kernel⟩
def c_LIMIT : Int := 100000000000000000000000000000000000000000000000000000000000000000000000000000000000000000000000000000000000000000000000000000000000000000000000000000000000000000000000000000000000000000000000000000000
def c_MAX_PLACES : Int := 256
def MS_InvalidNumber : List (Str × Bool) := [("InvalidNumber", true), ("InvalidOperation", false), ("InvalidWeb", false)]
def MS_InvalidOperation : List (Str × Bool) := [("InvalidNumber", false), ("InvalidOperation", true), ("InvalidWeb", false)]
def MS_InvalidWeb : List (Str × Bool) := [("InvalidNumber", false), ("InvalidOperation", false), ("InvalidWeb", true)]
def b__law_dice : DS :=
  (sSeq (sAsg (mIf (tst (m2 dLt (mVar 1) (mL dLen (aCons (mVar 0) aNil)))) (mL dInt (aCons (m2 dIx (mVar 0) (mVar 1)) aNil)) (m2 dAdd (m2 dMul (mK (.int 73)) (mVar 1)) (mK (.int 37)))) (gN 2))
  (sSeq (sAsg (m2 dMod (mL dMax2 (aCons (mK (.int 0)) (aCons (m2 dSub (mL dAbs (aCons (mVar 2) aNil)) (m2 dPow (mK (.int 10)) (mK (.int 15)))) aNil))) (m2 dMul (m2 dPow (mK (.int 10)) (mK (.int 60))) (m2 dPow (mK (.int 10)) (mK (.int 60))))) (gN 3))
  (sRet (mLstM (aCons (mVar 3) (aCons (m2 dAdd (m2 dAdd (m2 dAdd (m2 dMul (m2 dMod (mL dAbs (aCons (mVar 2) aNil)) (mK (.int 1152921504606846809))) (mK (.int 47))) (m2 dMul (mK (.int 1013)) (mVar 1))) (m2 dMul (mK (.int 37)) (mL dInt (aCons (m2 dLt (mVar 2) (mK (.int 0))) aNil)))) (mK (.int 13))) (aCons (mK (.int 0)) aNil)))))))
@[irreducible] def F__law_dice : DFn := fnD P__law_dice.length N__law_dice.length finO b__law_dice
def b__law_roll : DS :=
  (sSeq (sIf (tst (m2 dGt (m2 dIx (mVar 0) (mK (.int 0))) (mK (.int 0)))) (sSeq (sAsg (m2 dMod (mL dInt (aCons (m2 dIx (mVar 0) (mK (.int 0))) aNil)) (mVar 1)) (gN 2))
  (sSeq (sAsg (m2 dDiv (m2 dIx (mVar 0) (mK (.int 0))) (mVar 1)) (gS putL (mVar 0) (mK (.int 0))))
  (sRet (mVar 2)))) sNil)
  (sSeq (sAsg (m2 dAdd (m2 dIx (mVar 0) (mK (.int 2))) (mK (.int 1))) (gS putL (mVar 0) (mK (.int 2))))
  (sSeq (sAsg (m2 dMod (mL dInt (aCons (m2 dAdd (m2 dIx (mVar 0) (mK (.int 1))) (m2 dMul (mK (.int 86028121)) (m2 dIx (mVar 0) (mK (.int 2))))) aNil)) (mK (.int 2305843009213693669))) (gN 3))
  (sSeq (sAsg (m2 dAdd (m2 dMul (m2 dMod (mL dInt (aCons (m2 dAdd (m2 dMul (mVar 3) (mVar 3)) (m2 dMul (mK (.int 97)) (m2 dIx (mVar 0) (mK (.int 2))))) aNil)) (mK (.int 1152921504606846779))) (mK (.int 7368787))) (mVar 3)) (gN 4))
  (sRet (m2 dMod (mL dInt (aCons (m2 dDiv (mVar 4) (mK (.int 131072))) aNil)) (mVar 1)))))))
@[irreducible] def F__law_roll : DFn := fnD P__law_roll.length N__law_roll.length finP b__law_roll
def b__law_pick : DS :=
  (sRet (m2 dIx (mVar 1) (mCall F__law_roll (aCons (mVar 0) (aCons (mL dLen (aCons (mVar 1) aNil)) aNil)))))
@[irreducible] def F__law_pick : DFn := fnD P__law_pick.length N__law_pick.length finP b__law_pick
def b__law_met (call : Lm) : DS :=
  (sSeq (sTry (sExpr (mLamC call)) [⟨MS_InvalidWeb, none, fun ex => (sRet (mK (.str "web")))⟩, ⟨MS_InvalidOperation, none, fun ex => (sRet (mK (.str "operation")))⟩, ⟨MS_InvalidNumber, some 1, fun ex => (sRet (m2 dAdd (mK (.str "number ")) (mL dReprK (aCons (mXf 1 "InvalidNumber" "value" ex) aNil))))⟩])
  (sRet (mK (.str ""))))
@[irreducible] def F__law_met : Lm → Sto → Out D := fnLam N__law_met.length finP b__law_met
def b_is_integer : DS :=
  (sRet (mAnd (mL dIsi (aCons (mVar 0) (aCons (mK (.ty .int)) aNil))) (mAnd (mNot (mL dIsi (aCons (mVar 0) (aCons (mK (.ty .bool)) aNil)))) (mCh dLt dLt (m1 dNeg (mK (.int c_LIMIT))) (mVar 0) (mK (.int c_LIMIT))))))
@[irreducible] def F_is_integer : DFn := fnD P_is_integer.length N_is_integer.length finP b_is_integer
def b_is_count : DS :=
  (sRet (mAnd (mCall F_is_integer (aCons (mVar 0) aNil)) (m2 dGe (mVar 0) (mK (.int 0)))))
@[irreducible] def F_is_count : DFn := fnD P_is_count.length N_is_count.length finP b_is_count
def b_is_place : DS :=
  (sRet (mAnd (mCall F_is_count (aCons (mVar 0) aNil)) (m2 dLt (mVar 0) (mVar 1))))
@[irreducible] def F_is_place : DFn := fnD P_is_place.length N_is_place.length finP b_is_place
def b_is_row : DS :=
  (sSeq (sIf (nOr (nNot (tst (mL dIsi (aCons (mVar 0) (aCons (mK (.ty .tuple)) aNil))))) (nNot (tst (mL dAll (aCons (mLc (mSeq (mVar 0)) [2] (cg1 2) cYes (mCall F_is_place (aCons (mVar 2) (aCons (mVar 1) aNil)))) aNil))))) (sRet (mK (.bl false))) sNil)
  (sRet (mL dAll (aCons (mLc (mZipT (aCons (mVar 0) (aCons (mSl (dSl toLst) (mVar 0) (oSome (mK (.int 1))) oNone) aNil))) [3, 4] (cgN [3, 4]) cYes (m2 dLt (mVar 3) (mVar 4))) aNil))))
@[irreducible] def F_is_row : DFn := fnD P_is_row.length N_is_row.length finP b_is_row
def b_are_rows : DS :=
  (sSeq (sIf (nOr (nNot (tst (mL dIsi (aCons (mVar 0) (aCons (mK (.ty .tuple)) aNil))))) (nNot (tst (mCh dLe dLe (mK (.int 1)) (mL dLen (aCons (mVar 0) aNil)) (mK (.int c_MAX_PLACES)))))) (sRet (mK (.bl false))) sNil)
  (sRet (mL dAll (aCons (mLc (mSeq (mVar 0)) [1] (cg1 1) cYes (mCall F_is_row (aCons (mVar 1) (aCons (mL dLen (aCons (mVar 0) aNil)) aNil)))) aNil))))
@[irreducible] def F_are_rows : DFn := fnD P_are_rows.length N_are_rows.length finP b_are_rows
def b_columns_of : DS :=
  (sSeq (sAsg (mLcM (mSeq (mVar 0)) [3] (cg1 3) cYes (mLstM aNil)) (gN 1))
  (sSeq (sFor (mEnumT (aCons (mVar 0) aNil)) (gNs [2, 3])
  (sFor (mSeq (mVar 3)) (gN 4)
  (sExpr (mLm dApp (m2 dIx (mVar 1) (mVar 4)) (aCons (mVar 2) aNil)))))
  (sRet (mL dTupOf (aCons (mLc (mSeq (mVar 1)) [5] (cg1 5) cYes (mL dTupOf (aCons (mVar 5) aNil))) aNil)))))
@[irreducible] def F_columns_of : DFn := fnD P_columns_of.length N_columns_of.length finP b_columns_of
def b_Web_init_d : DS :=
  (sSeq (sIf (nNot (tst (mCall F_are_rows (aCons (mVar 1) aNil)))) (sRaiseM "InvalidWeb") sNil)
  (sSeq (sFldD "Web" "own_rows" (mVar 1) (mVar 0))
  (sFldD "Web" "own_columns" (mCall F_columns_of (aCons (mVar 1) aNil)) (mVar 0))))
@[irreducible] def F_Web_init_d : DFn := fnD P_Web_init_d.length N_Web_init_d.length finP b_Web_init_d
def e__law_rows_right_0 : DE := (mLst (aCons (mK .non) (aCons (mK (.int 0)) (aCons (mTup aNil) (aCons (mLst (aCons (mTup (aCons (mK (.int 0)) aNil)) aNil)) (aCons (mK (.str "0")) (aCons (mTup (aCons (mTup (aCons (mK (.int 1)) aNil)) aNil)) (aCons (mTup (aCons (mTup (aCons (mK (.int 0)) (aCons (mK (.int 0)) aNil))) aNil)) (aCons (mTup (aCons (mTup (aCons (mK (.int 0)) aNil)) (aCons (mTup (aCons (mK (.int 2)) aNil)) aNil))) (aCons (mTup (aCons (mTup (aCons (mK (.int 1)) (aCons (mK (.int 0)) aNil))) (aCons (mTup aNil) aNil))) aNil))))))))))
def e__law_rows_right_1 : DE := (m2 dAdd (mVar 1) (mLst (aCons (mTup (aCons (mTup (aCons (m1 dNeg (mK (.int 1))) aNil)) aNil)) (aCons (mTup (aCons (mTup (aCons (mK (.bl true)) aNil)) aNil)) (aCons (mTup (aCons (mK .non) aNil)) (aCons (mTup (aCons mDct0 aNil)) (aCons (mTup (aCons (mTup (aCons (mK (.int 0)) aNil)) (aCons (mLst (aCons (mK (.int 1)) aNil)) aNil))) (aCons (mTup (aCons (mTup (aCons (mK (.int 0)) aNil)) (aCons (mK (.int 1)) aNil))) (aCons (mTup (aCons (mTup (aCons (mK (.str "0")) aNil)) aNil)) (aCons mDct0 aNil))))))))))
def e__law_rows_right_2 : DE := (m2 dAdd (mVar 1) (mLst (aCons (mTup (aCons (mTup (aCons (mK (.int 0)) aNil)) (aCons (mTup (aCons (m2 dPow (mK (.int 10)) (mK (.int 60))) aNil)) aNil))) (aCons (mTup (aCons (mTup (aCons (mTup (aCons (mK (.int 0)) aNil)) aNil)) aNil)) (aCons (mTup (aCons (mTup (aCons (mK (.int 0)) (aCons (mK .non) aNil))) aNil)) (aCons (mTup (aCons (mTup (aCons (mK (.int 1)) (aCons (mK (.int 1)) aNil))) (aCons (mTup (aCons (mK (.int 0)) aNil)) aNil))) aNil))))))
def e__law_rows_right_3 : DE := (m2 dEq (mLc (mSeq (mTup (aCons (mTup (aCons (mTup aNil) aNil)) (aCons (mTup (aCons (mTup (aCons (mK (.int 0)) aNil)) aNil)) (aCons (mTup (aCons (mTup (aCons (mK (.int 0)) (aCons (mK (.int 1)) aNil))) (aCons (mTup (aCons (mK (.int 0)) (aCons (mK (.int 1)) aNil))) aNil))) aNil))))) [2] (cg1 2) cYes (mLamCall F__law_met (mNewX "Web" F_Web_init_d (aCons (mVar 2) aNil)))) (m2 dMul (mLst (aCons (mK (.str "")) aNil)) (mK (.int 3))))
def b__law_rows_right : DS :=
  (sSeq (sAsg (mClo [false, false, false] e__law_rows_right_0) (gN 1))
  (sSeq (sAsg (mClo [false, true, false] e__law_rows_right_1) (gN 1))
  (sSeq (sAsg (mClo [false, true, false] e__law_rows_right_2) (gN 1))
  (sSeq (sIf (tst (m2 dNe (mLamCall F__law_met (mNewXC "Web" F_Web_init_d (aCons (mCall F__law_pick (aCons (mVar 0) (aCons (mVar 1) aNil))) aNil))) (mK (.str "web")))) (sRet (mK (.bl false))) sNil)
  (sRet (mClo [false, false, false] e__law_rows_right_3))))))
@[irreducible] def F__law_rows_right : DFn := fnD P__law_rows_right.length N__law_rows_right.length finP b__law_rows_right
def b__law_place_word : DS :=
  (sRet (mIf (tst (m2 (dInF false) (mL dReprK (aCons (mVar 0) aNil)) (mTup (aCons (mK (.str "0")) (aCons (mK (.str "1")) (aCons (mK (.str "2")) (aCons (mK (.str "3")) aNil))))))) (mK (.str "")) (m2 dAdd (mK (.str "number ")) (mL dReprK (aCons (mVar 0) aNil)))))
@[irreducible] def F__law_place_word : DFn := fnD P__law_place_word.length N__law_place_word.length finP b__law_place_word
def b__law_first : DS :=
  (sSeq (sAsg (mLc (mSeq (mVar 0)) [2] (cg1 2) (tst (m2 dNe (mVar 2) (mK (.str "")))) (mVar 2)) (gN 1))
  (sRet (mIf (tst (m2 dNe (mVar 1) (mLst aNil))) (m2 dIx (mVar 1) (mK (.int 0))) (mK (.str "")))))
@[irreducible] def F__law_first : DFn := fnD P__law_first.length N__law_first.length finP b__law_first
def b_Web_contains_d : DS :=
  (sSeq (sIf (nOr (nNot (tst (mL dIsi (aCons (mVar 1) (aCons (mK (.ty .tuple)) aNil))))) (tst (m2 dNe (mL dLen (aCons (mVar 1) aNil)) (mK (.int 2))))) (sRet (mK (.bl false))) sNil)
  (sSeq (sAsg (mL dLen (aCons (mFld "Web" "own_rows" (mVar 0)) aNil)) (gN 2))
  (sRet (mAnd (mCall F_is_place (aCons (m2 dIx (mVar 1) (mK (.int 0))) (aCons (mVar 2) aNil))) (mAnd (mCall F_is_place (aCons (m2 dIx (mVar 1) (mK (.int 1))) (aCons (mVar 2) aNil))) (m2 (dInF false) (m2 dIx (mVar 1) (mK (.int 1))) (m2 dIx (mFld "Web" "own_rows" (mVar 0)) (m2 dIx (mVar 1) (mK (.int 0))))))))))
@[irreducible] def F_Web_contains_d : DFn := fnD P_Web_contains_d.length N_Web_contains_d.length finP b_Web_contains_d
def b_require_place : DS :=
  (sIf (nNot (tst (mCall F_is_place (aCons (mVar 1) (aCons (mL dLen (aCons (mFld "Web" "own_rows" (mVar 0)) aNil)) aNil))))) (sRaiseV "InvalidNumber" "value" (mVar 1)) sNil)
@[irreducible] def F_require_place : DFn := fnD P_require_place.length N_require_place.length finP b_require_place
def b_Web_exchanged : DS :=
  (sRet (mNewX "Web" F_Web_init_d (aCons (mTup (aStar (mSl (dSl toLst) (mFld "Web" "own_rows" (mVar 0)) oNone (oSome (mVar 1))) (aCons (mVar 2) (aStar (mSl (dSl toLst) (mFld "Web" "own_rows" (mVar 0)) (oSome (m2 dAdd (mVar 1) (mK (.int 1)))) oNone) aNil)))) aNil)))
@[irreducible] def F_Web_exchanged : DFn := fnD P_Web_exchanged.length N_Web_exchanged.length finP b_Web_exchanged
def b_Web_with_tie : DS :=
  (sSeq (sExpr (mCallX F_require_place (aCons (mVar 0) (aCons (mVar 1) aNil))))
  (sSeq (sExpr (mCallX F_require_place (aCons (mVar 0) (aCons (mVar 2) aNil))))
  (sSeq (sIf (tst (m2 (dInF false) (mVar 2) (m2 dIx (mFld "Web" "own_rows" (mVar 0)) (mVar 1)))) (sRaiseM "InvalidOperation") sNil)
  (sRet (mMethX "Web" "exchanged" F_Web_exchanged (mVar 0) (aCons (mVar 1) (aCons (mL dTupOf (aCons (mL (dSortI toLst) (aCons (mLst (aStar (m2 dIx (mFld "Web" "own_rows" (mVar 0)) (mVar 1)) (aCons (mVar 2) aNil))) aNil)) aNil)) aNil)))))))
@[irreducible] def F_Web_with_tie : DFn := fnD P_Web_with_tie.length N_Web_with_tie.length finP b_Web_with_tie
def b_Web_without_tie : DS :=
  (sSeq (sExpr (mCallX F_require_place (aCons (mVar 0) (aCons (mVar 1) aNil))))
  (sSeq (sExpr (mCallX F_require_place (aCons (mVar 0) (aCons (mVar 2) aNil))))
  (sSeq (sIf (tst (m2 (dInF true) (mVar 2) (m2 dIx (mFld "Web" "own_rows" (mVar 0)) (mVar 1)))) (sRaiseM "InvalidOperation") sNil)
  (sRet (mMethX "Web" "exchanged" F_Web_exchanged (mVar 0) (aCons (mVar 1) (aCons (mL dTupOf (aCons (mLc (mSeq (m2 dIx (mFld "Web" "own_rows" (mVar 0)) (mVar 1))) [3] (cg1 3) (tst (m2 dNe (mVar 3) (mVar 2))) (mVar 3)) aNil)) aNil)))))))
@[irreducible] def F_Web_without_tie : DFn := fnD P_Web_without_tie.length N_Web_without_tie.length finP b_Web_without_tie
def b_Web_with_row : DS :=
  (sSeq (sExpr (mCallX F_require_place (aCons (mVar 0) (aCons (mVar 1) aNil))))
  (sSeq (sIf (nNot (tst (mCall F_is_row (aCons (mVar 2) (aCons (mL dLen (aCons (mFld "Web" "own_rows" (mVar 0)) aNil)) aNil))))) (sRaiseM "InvalidOperation") sNil)
  (sRet (mMethX "Web" "exchanged" F_Web_exchanged (mVar 0) (aCons (mVar 1) (aCons (mVar 2) aNil))))))
@[irreducible] def F_Web_with_row : DFn := fnD P_Web_with_row.length N_Web_with_row.length finP b_Web_with_row
def b_Web_part : DS :=
  (sSeq (sIf (nOr (nNot (tst (mCall F_is_row (aCons (mVar 1) (aCons (mL dLen (aCons (mFld "Web" "own_rows" (mVar 0)) aNil)) aNil))))) (tst (m2 dEq (mVar 1) (mTup aNil)))) (sRaiseM "InvalidOperation") sNil)
  (sSeq (sAsg (mDc (mEnumT (aCons (mVar 1) aNil)) [4, 5] (cgN [4, 5]) cYes (mVar 5) (mVar 4)) (gN 2))
  (sSeq (sAsg (mLc (mSeq (mVar 1)) [5] (cg1 5) cYes (mL dTupOf (aCons (mLc (mSeq (m2 dIx (mFld "Web" "own_rows" (mVar 0)) (mVar 5))) [6] (cg1 6) (tst (m2 (dInG false) (mVar 6) (mVar 2))) (m2 dIxD (mVar 2) (mVar 6))) aNil))) (gN 3))
  (sRet (mNewX "Web" F_Web_init_d (aCons (mL dTupOf (aCons (mVar 3) aNil)) aNil))))))
@[irreducible] def F_Web_part : DFn := fnD P_Web_part.length N_Web_part.length finP b_Web_part
def b_Web_getitem_d : DS :=
  (sSeq (sExpr (mCallX F_require_place (aCons (mVar 0) (aCons (mVar 1) aNil))))
  (sRet (m2 dIx (mFld "Web" "own_rows" (mVar 0)) (mVar 1))))
@[irreducible] def F_Web_getitem_d : DFn := fnD P_Web_getitem_d.length N_Web_getitem_d.length finP b_Web_getitem_d
def b_is_order : DS :=
  (sSeq (sIf (nOr (nNot (tst (mL dIsi (aCons (mVar 0) (aCons (mK (.ty .tuple)) aNil))))) (nNot (tst (mL dAll (aCons (mLc (mSeq (mVar 0)) [2] (cg1 2) cYes (mCall F_is_place (aCons (mVar 2) (aCons (mVar 1) aNil)))) aNil))))) (sRet (mK (.bl false))) sNil)
  (sRet (mAnd (m2 dEq (mL dLen (aCons (mVar 0) aNil)) (mVar 1)) (m2 dEq (mL dLenD (aCons (mDc (mSeq (mVar 0)) [2] (cg1 2) cYes (mVar 2) (mK (.bl true))) aNil)) (mVar 1)))))
@[irreducible] def F_is_order : DFn := fnD P_is_order.length N_is_order.length finP b_is_order
def b_Web_renamed : DS :=
  (sSeq (sAsg (mL dLen (aCons (mFld "Web" "own_rows" (mVar 0)) aNil)) (gN 2))
  (sSeq (sIf (nNot (tst (mCall F_is_order (aCons (mVar 1) (aCons (mVar 2) aNil))))) (sRaiseM "InvalidOperation") sNil)
  (sSeq (sAsg (m2 (dMulL toLstM) (mLst (aCons (mTup aNil) aNil)) (mVar 2)) (gN 3))
  (sSeq (sFor (mEnumT (aCons (mFld "Web" "own_rows" (mVar 0)) aNil)) (gNs [4, 5])
  (sAsg (mL dTupOf (aCons (mL (dSortI toLst) (aCons (mLc (mSeq (mVar 5)) [6] (cg1 6) cYes (m2 dIx (mVar 1) (mVar 6))) aNil)) aNil)) (gS putL (mVar 3) (m2 dIx (mVar 1) (mVar 4)))))
  (sRet (mNewX "Web" F_Web_init_d (aCons (mL dTupOf (aCons (mVar 3) aNil)) aNil)))))))
@[irreducible] def F_Web_renamed : DFn := fnD P_Web_renamed.length N_Web_renamed.length finP b_Web_renamed
def e__law_right_0 : DE := (mLst (aCons (mK (.int 4)) (aCons (m1 dNeg (mK (.int 1))) (aCons (mK .non) (aCons (mK (.bl true)) (aCons (mK (.str "0")) (aCons (mTup (aCons (mK (.int 0)) aNil)) (aCons (mLst aNil) (aCons mDct0 (aCons (m2 dPow (mK (.int 10)) (mK (.int 60))) aNil))))))))))
def e__law_right_1 : DE := (m2 dAdd (m2 dMul (mLst (aCons (mK (.int 0)) (aCons (mK (.int 1)) (aCons (mK (.int 3)) aNil)))) (mK (.int 3))) (mVar 2))
def e__law_right_2 : DE := (m2 dAdd (m2 dMul (mLst (aCons (mK (.int 0)) (aCons (mK (.int 1)) (aCons (mK (.int 3)) aNil)))) (mK (.int 3))) (mVar 2))
def e__law_right_3 : DE := (mLst (aCons (mCall F__law_place_word (aCons (mVar 3) aNil)) (aCons (mCall F__law_place_word (aCons (mVar 4) aNil)) aNil)))
def e__law_right_4 : DE := (mAnd (m2 dEq (mVar 5) (mLst (aCons (mK (.str "")) (aCons (mK (.str "")) aNil)))) (m2 (dInO "Web" F_Web_contains_d) (mTup (aCons (mVar 3) (aCons (mVar 4) aNil))) (mVar 1)))
def e__law_right_5 : DE := (mIf (tst (mVar 6)) (mK (.str "operation")) (mK (.str "")))
def e__law_right_6 : DT := (tst (m2 dNe (mLamCall F__law_met (mMethX "Web" "with_tie" F_Web_with_tie (mVar 1) (aCons (mVar 3) (aCons (mVar 4) aNil)))) (mCall F__law_first (aCons (m2 dAdd (mVar 5) (mLst (aCons (mVar 7) aNil))) aNil))))
def e__law_right_7 : DE := (mIf (nAnd (tst (m2 dEq (mVar 5) (mLst (aCons (mK (.str "")) (aCons (mK (.str "")) aNil))))) (nNot (tst (mVar 6)))) (mK (.str "operation")) (mK (.str "")))
def e__law_right_8 : DT := (tst (m2 dNe (mLamCall F__law_met (mMethX "Web" "without_tie" F_Web_without_tie (mVar 1) (aCons (mVar 3) (aCons (mVar 4) aNil)))) (mCall F__law_first (aCons (m2 dAdd (mVar 5) (mLst (aCons (mVar 7) aNil))) aNil))))
def e__law_right_9 : DE := (mLst (aCons (mTup aNil) (aCons (mTup (aCons (mK (.int 0)) aNil)) (aCons (mTup (aCons (mK (.int 1)) (aCons (mK (.int 3)) aNil))) (aCons (mTup (aCons (mK (.int 0)) (aCons (mK (.int 1)) (aCons (mK (.int 2)) (aCons (mK (.int 3)) aNil))))) aNil)))))
def e__law_right_10 : DE := (m2 dAdd (m2 dMul (mVar 8) (mK (.int 2))) (mLst (aCons (mK .non) (aCons (mK (.int 0)) (aCons (mLst (aCons (mK (.int 0)) aNil)) (aCons (mTup (aCons (mK (.int 1)) (aCons (mK (.int 0)) aNil))) (aCons (mTup (aCons (mK (.int 0)) (aCons (mK (.int 0)) aNil))) (aCons (mTup (aCons (mK (.int 4)) aNil)) (aCons (mTup (aCons (m1 dNeg (mK (.int 1))) aNil)) (aCons (mK (.str "01")) (aCons (mTup (aCons (mK .non) aNil)) (aCons (mTup (aCons (mK (.bl true)) aNil)) (aCons mDct0 (aCons (mTup (aCons (mTup (aCons (mK (.int 0)) aNil)) aNil)) aNil))))))))))))))
def e__law_right_11 : DE := (mIf (tst (m2 (dInF false) (mL dReprK (aCons (mVar 9) aNil)) (mLc (mSeq (mVar 8)) [14] (cg1 14) cYes (mL dReprK (aCons (mVar 14) aNil))))) (mK (.str "")) (mK (.str "operation")))
def e__law_right_12 : DT := (tst (m2 dNe (mLamCall F__law_met (mMethX "Web" "with_row" F_Web_with_row (mVar 1) (aCons (mVar 3) (aCons (mVar 9) aNil)))) (mCall F__law_first (aCons (mLst (aCons (m2 dIx (mVar 5) (mK (.int 0))) (aCons (mVar 7) aNil))) aNil))))
def e__law_right_13 : DE := (mIf (tst (m2 (dInF false) (mL dReprK (aCons (mVar 9) aNil)) (mLc (mSeq (mSl (dSl toLst) (mVar 8) (oSome (mK (.int 1))) oNone)) [14] (cg1 14) cYes (mL dReprK (aCons (mVar 14) aNil))))) (mK (.str "")) (mK (.str "operation")))
def e__law_right_14 : DT := (tst (m2 dNe (mLamCall F__law_met (mMethX "Web" "part" F_Web_part (mVar 1) (aCons (mVar 9) aNil))) (mVar 7)))
def e__law_right_15 : DT := (tst (m2 dNe (mLamCall F__law_met (mIxOX "Web" F_Web_getitem_d (mVar 1) (mVar 4))) (m2 dIx (mVar 5) (mK (.int 1)))))
def e__law_right_16 : DE := (mLst (aCons (mK .non) (aCons (mTup aNil) (aCons (mTup (aCons (mK (.int 0)) (aCons (mK (.int 1)) (aCons (mK (.int 2)) aNil)))) (aCons (mLst (aCons (mK (.int 0)) (aCons (mK (.int 1)) (aCons (mK (.int 2)) (aCons (mK (.int 3)) aNil))))) (aCons (mTup (aCons (mK (.int 0)) (aCons (mK (.int 1)) (aCons (mK (.int 2)) (aCons (mK (.int 2)) aNil))))) (aCons (mTup (aCons (mK (.int 0)) (aCons (mK (.int 1)) (aCons (mK (.int 2)) (aCons (mK (.int 4)) aNil))))) (aCons (mTup (aCons (mK (.int 0)) (aCons (mK (.int 1)) (aCons (mK (.int 2)) (aCons (mK (.int 3)) (aCons (mK (.int 4)) aNil)))))) aNil))))))))
def e__law_right_17 : DE := (m2 dAdd (mLst (aCons (mTup (aCons (mK (.int 0)) (aCons (mK (.int 1)) (aCons (mK (.int 2)) (aCons (mK (.int 3)) aNil))))) (aCons (mTup (aCons (mK (.int 3)) (aCons (mK (.int 1)) (aCons (mK (.int 0)) (aCons (mK (.int 2)) aNil))))) aNil))) (mVar 10))
def e__law_right_18 : DE := (mIf (tst (m2 (dInF false) (mL dReprK (aCons (mVar 11) aNil)) (mTup (aCons (mK (.str "(0, 1, 2, 3)")) (aCons (mK (.str "(3, 1, 0, 2)")) aNil))))) (mK (.str "")) (mK (.str "operation")))
def e__law_right_19 : DE := (mLst (aCons (mTup (aCons (mK (.int 0)) (aCons (mK (.bl true)) (aCons (mK (.int 2)) (aCons (mK (.int 3)) aNil))))) (aCons (mK (.str "0123")) (aCons mDct0 (aCons (mK (.int 4)) (aCons (m2 dMul (mTup (aCons (mK .non) aNil)) (mK (.int 4))) (aCons (mTup (aCons (mTup (aCons (mK (.int 0)) (aCons (mK (.int 1)) (aCons (mK (.int 2)) (aCons (mK (.int 3)) aNil))))) aNil)) aNil)))))))
def e__law_right_20 : DE := (mLst (aCons (mLamCall F__law_met (mMethX "Web" "renamed" F_Web_renamed (mVar 1) (aCons (mVar 11) aNil))) (aCons (mVar 12) aNil)))
def e__law_right_21 : DE := (mAnd (m2 dEq (m2 dIx (mVar 13) (mK (.int 0))) (m2 dIx (mVar 13) (mK (.int 1)))) (m2 dEq (mLamCall F__law_met (mMethX "Web" "renamed" F_Web_renamed (mVar 1) (aCons (mVar 2) aNil))) (mK (.str "operation"))))
def b__law_right : DS :=
  (sSeq (sAsg (mClo [false, false, false, false, false, false, false, false, false, false, false, false, false, false, false] e__law_right_0) (gN 2))
  (sSeq (sAsg (mTup (aCons (mCall F__law_pick (aCons (mVar 0) (aCons (mClo [false, false, true, false, false, false, false, false, false, false, false, false, false, false, false] e__law_right_2) aNil))) (aCons (mCall F__law_pick (aCons (mVar 0) (aCons (mClo [false, false, true, false, false, false, false, false, false, false, false, false, false, false, false] e__law_right_1) aNil))) aNil))) (gNs [3, 4]))
  (sSeq (sAsg (mClo [false, false, false, true, true, false, false, false, false, false, false, false, false, false, false] e__law_right_3) (gN 5))
  (sSeq (sAsg (mClo [false, true, false, true, true, true, false, false, false, false, false, false, false, false, false] e__law_right_4) (gN 6))
  (sSeq (sAsg (mClo [false, false, false, false, false, false, true, false, false, false, false, false, false, false, false] e__law_right_5) (gN 7))
  (sSeq (sIf (tClo [false, true, false, true, true, true, false, true, false, false, false, false, false, false, false] e__law_right_6) (sRet (mK (.bl false))) sNil)
  (sSeq (sAsg (mClo [false, false, false, false, false, true, true, false, false, false, false, false, false, false, false] e__law_right_7) (gN 7))
  (sSeq (sIf (tClo [false, true, false, true, true, true, false, true, false, false, false, false, false, false, false] e__law_right_8) (sRet (mK (.bl false))) sNil)
  (sSeq (sAsg (mClo [false, false, false, false, false, false, false, false, false, false, false, false, false, false, false] e__law_right_9) (gN 8))
  (sSeq (sAsg (mCall F__law_pick (aCons (mVar 0) (aCons (mClo [false, false, false, false, false, false, false, false, true, false, false, false, false, false, false] e__law_right_10) aNil))) (gN 9))
  (sSeq (sAsg (mClo [false, false, false, false, false, false, false, false, true, true, false, false, false, false, false] e__law_right_11) (gN 7))
  (sSeq (sIf (tClo [false, true, false, true, false, true, false, true, false, true, false, false, false, false, false] e__law_right_12) (sRet (mK (.bl false))) sNil)
  (sSeq (sAsg (mClo [false, false, false, false, false, false, false, false, true, true, false, false, false, false, false] e__law_right_13) (gN 7))
  (sSeq (sIf (tClo [false, true, false, false, false, false, false, true, false, true, false, false, false, false, false] e__law_right_14) (sRet (mK (.bl false))) sNil)
  (sSeq (sIf (tClo [false, true, false, false, true, true, false, false, false, false, false, false, false, false, false] e__law_right_15) (sRet (mK (.bl false))) sNil)
  (sSeq (sAsg (mClo [false, false, false, false, false, false, false, false, false, false, false, false, false, false, false] e__law_right_16) (gN 10))
  (sSeq (sAsg (mCall F__law_pick (aCons (mVar 0) (aCons (mClo [false, false, false, false, false, false, false, false, false, false, true, false, false, false, false] e__law_right_17) aNil))) (gN 11))
  (sSeq (sAsg (mClo [false, false, false, false, false, false, false, false, false, false, false, true, false, false, false] e__law_right_18) (gN 12))
  (sSeq (sAsg (mCall F__law_pick (aCons (mVar 0) (aCons (mClo [false, false, false, false, false, false, false, false, false, false, false, false, false, false, false] e__law_right_19) aNil))) (gN 2))
  (sSeq (sAsg (mClo [false, true, false, false, false, false, false, false, false, false, false, true, true, false, false] e__law_right_20) (gN 13))
  (sRet (mClo [false, true, true, false, false, false, false, false, false, false, false, false, false, true, false] e__law_right_21))))))))))))))))))))))
@[irreducible] def F__law_right : DFn := fnD P__law_right.length N__law_right.length finP b__law_right
def b_Web_len_d : DS :=
  (sRet (mL dLen (aCons (mFld "Web" "own_rows" (mVar 0)) aNil)))
@[irreducible] def F_Web_len_d : DFn := fnD P_Web_len_d.length N_Web_len_d.length finP b_Web_len_d
def e_law_0 : DE := (mNew "Web" F_Web_init_d (aCons (mTup (aCons (mTup (aCons (mK (.int 0)) (aCons (mK (.int 1)) aNil))) (aCons (mTup (aCons (mK (.int 2)) (aCons (mK (.int 3)) aNil))) (aCons (mTup (aCons (mK (.int 0)) (aCons (mK (.int 1)) aNil))) (aCons (mTup (aCons (mK (.int 2)) (aCons (mK (.int 3)) aNil))) aNil))))) aNil))
def e_law_1 : DE := (mLamCall F__law_met (mNewX "Web" F_Web_init_d (aCons (m2 dMul (mTup (aCons (mTup (aCons (mK (.int 255)) aNil)) aNil)) (mK (.int 256))) aNil)))
def e_law_2 : DE := (mLamCall F__law_met (mNewX "Web" F_Web_init_d (aCons (m2 dMul (mTup (aCons (mTup aNil) aNil)) (mK (.int 257))) aNil)))
def e_law_3 : DE := (mAnd (m2 dEq (mVar 5) (mLst (aCons (mK (.str "")) (aCons (mK (.str "web")) aNil)))) (m2 dEq (mL (dLenO "Web" F_Web_len_d) (aCons (mNew "Web" F_Web_init_d (aCons (m2 dMul (mTup (aCons (mTup aNil) aNil)) (mK (.int 256))) aNil)) aNil)) (mK (.int 256))))
def b_law : DS :=
  (sSeq (sAsg (mClo [false, false, false, false, false, false] e_law_0) (gN 1))
  (sSeq (sFor (mRng1 (aCons (mL dMax2 (aCons (mK (.int 1)) (aCons (mL dMin2 (aCons (mK (.int 8)) (aCons (mL dLen (aCons (mVar 0) aNil)) aNil))) aNil))) aNil)) (gN 2)
  (sSeq (sAsg (mCall F__law_dice (aCons (mVar 0) (aCons (mVar 2) aNil))) (gN 3))
  (sFor (mRng1 (aCons (mK (.int 3)) aNil)) (gN 4)
  (sIf (nOr (nNot (tst (mCall F__law_rows_right (aCons (mVar 3) aNil)))) (nNot (tst (mCall F__law_right (aCons (mVar 3) (aCons (mVar 1) aNil)))))) (sRet (mK (.bl false))) sNil))))
  (sSeq (sAsg (mLstM (aCons (mClo [false, false, false, false, false, false] e_law_1) aNil)) (gN 5))
  (sSeq (sExpr (mLm dApp (mVar 5) (aCons (mClo [false, false, false, false, false, false] e_law_2) aNil)))
  (sRet (mCloL [0, 0, 0, 0, 0, 2] e_law_3))))))
@[irreducible] def F_law : DFn := fnD P_law.length N_law.length finP b_law
/-- what stands in the module -/
structure Txt (K : PySem.W.Frag) (mg : Str → Option Value) (base : Heap) : Prop where
  z_abs : mg "abs" = none
  z_all : mg "all" = none
  z_bool : mg "bool" = none
  z_enumerate : mg "enumerate" = none
  z_int : mg "int" = none
  z_isinstance : mg "isinstance" = none
  z_len : mg "len" = none
  z_max : mg "max" = none
  z_min : mg "min" = none
  z_range : mg "range" = none
  z_repr : mg "repr" = none
  z_sorted : mg "sorted" = none
  z_tuple : mg "tuple" = none
  z_zip : mg "zip" = none
  c_LIMIT : ∃ t, mg "LIMIT" = some (.int c_LIMIT t)
  c_MAX_PLACES : ∃ t, mg "MAX_PLACES" = some (.int c_MAX_PLACES t)
  f_Web_own_columns : FldAt K mg "Web" "own_columns"
  f_Web_own_rows : FldAt K mg "Web" "own_rows"
  sys : SysB base
  ev_InvalidNumber : ErrV K mg "InvalidNumber" "value"
  em_InvalidOperation : ErrM K mg "InvalidOperation"
  em_InvalidWeb : ErrM K mg "InvalidWeb"
  xf_InvalidNumber_value : XfAt K mg "InvalidNumber" "value"
  cl_InvalidNumber : ClA K mg "InvalidNumber" MS_InvalidNumber
  cl_InvalidOperation : ClA K mg "InvalidOperation" MS_InvalidOperation
  cl_InvalidWeb : ClA K mg "InvalidWeb" MS_InvalidWeb
  d_is_integer : DefAt K mg "is_integer" s_is_integer P_is_integer
  d_is_count : DefAt K mg "is_count" s_is_count P_is_count
  d_is_place : DefAt K mg "is_place" s_is_place P_is_place
  d_is_row : DefAt K mg "is_row" s_is_row P_is_row
  d_are_rows : DefAt K mg "are_rows" s_are_rows P_are_rows
  d_require_place : DefAt K mg "require_place" s_require_place P_require_place
  d_columns_of : DefAt K mg "columns_of" s_columns_of P_columns_of
  d_is_order : DefAt K mg "is_order" s_is_order P_is_order
  d_Web_init_d : NDef K mg "Web" "Web.__init__" s_Web_init_d P_Web_init_d
  d_Web_renamed : MDef K mg "Web" "renamed" "Web.renamed" s_Web_renamed P_Web_renamed
  d_Web_with_tie : MDef K mg "Web" "with_tie" "Web.with_tie" s_Web_with_tie P_Web_with_tie
  d_Web_without_tie : MDef K mg "Web" "without_tie" "Web.without_tie" s_Web_without_tie P_Web_without_tie
  d_Web_with_row : MDef K mg "Web" "with_row" "Web.with_row" s_Web_with_row P_Web_with_row
  d_Web_exchanged : MDef K mg "Web" "exchanged" "Web.exchanged" s_Web_exchanged P_Web_exchanged
  d_Web_part : MDef K mg "Web" "part" "Web.part" s_Web_part P_Web_part
  d_Web_getitem_d : MDef K mg "Web" "__getitem__" "Web.__getitem__" s_Web_getitem_d P_Web_getitem_d
  d_Web_contains_d : MDef K mg "Web" "__contains__" "Web.__contains__" s_Web_contains_d P_Web_contains_d
  d_Web_len_d : MDef K mg "Web" "__len__" "Web.__len__" s_Web_len_d P_Web_len_d
  d__law_dice : DefAt K mg "_law_dice" s__law_dice P__law_dice
  d__law_roll : DefAt K mg "_law_roll" s__law_roll P__law_roll
  d__law_pick : DefAt K mg "_law_pick" s__law_pick P__law_pick
  d__law_met : DefAt K mg "_law_met" s__law_met P__law_met
  d__law_first : DefAt K mg "_law_first" s__law_first P__law_first
  d__law_place_word : DefAt K mg "_law_place_word" s__law_place_word P__law_place_word
  d__law_rows_right : DefAt K mg "_law_rows_right" s__law_rows_right P__law_rows_right
  d__law_right : DefAt K mg "_law_right" s__law_right P__law_right
  d_law : DefAt K mg "law" s_law P_law
/-- where lambdas are made -/
structure Lms [Tbl] (K : PySem.W.Frag) (mg : Str → Option Value) (base : Heap) : Prop where
  r0 : Tbl.r = []
  l__law_rows_right : ∀ f cdv, mg "_law_rows_right" = some (.ref f) → CodeFor K f cdv → LamAt base mg cdv (("_law_rows_right" : Str) ++ ".<locals>." ++ "<lambda>")
  l__law_right : ∀ f cdv, mg "_law_right" = some (.ref f) → CodeFor K f cdv → LamAt base mg cdv (("_law_right" : Str) ++ ".<locals>." ++ "<lambda>")
  l_law : ∀ f cdv, mg "law" = some (.ref f) → CodeFor K f cdv → LamAt base mg cdv (("law" : Str) ++ ".<locals>." ++ "<lambda>")
variable [Tbl]
section
variable {P : Program} {w : World} {K : PySem.W.Frag} {mg : Str → Option Value} {base : Heap}
set_option maxHeartbeats 4000000 in
theorem ok__law_dice (T : Txt K mg base) {k : Nat} (hk : 1 ≤ k) : FnAt P w K mg base k "_law_dice" P__law_dice.length F__law_dice := by
  obtain ⟨f, fd, Fn, hm, hb⟩ := T.d__law_dice
  unfold F__law_dice
  refine FnAt.mono (FnAt.mk' (k := 0) (b := b__law_dice) finO_ok Fn hm hb sc__law_dice ?_) hk
  intro cdv A outer s H E hr hgd
  have sc := sc__law_dice
  have hu := hr.units
  exact (evs_cons (evs_set (i := 2) sc.nd rfl (Or.inl rfl) (ev_if (evt_cmp r_lt (ev_var 1) (ev_callB r_len (by rfl) T.z_len bb_len (eva_cons (ev_var 0) eva_nil)) (nomark _)) (ev_callT r_int (by rfl) T.z_int bt_int (eva_cons (ev_ix r_ix (ev_var 0) (ev_var 1)) eva_nil)) (ev_bin r_add (ev_bin r_mul ev_int (ev_var 1)) ev_int)))
      (evs_cons (evs_set (i := 3) sc.nd rfl (Or.inl rfl) (ev_bin r_mod (ev_callB (r_max2 rfl) (by rfl) T.z_max bb_max (eva_cons ev_int (eva_cons (ev_bin r_sub (ev_callB r_abs (by rfl) T.z_abs bb_abs (eva_cons (ev_var 2) eva_nil)) (ev_bin r_pow ev_int ev_int)) eva_nil))) (ev_bin r_mul (ev_bin r_pow ev_int ev_int) (ev_bin r_pow ev_int ev_int))))
      (evs_one (evs_ret (ev_lstM (eva_cons (ev_var 3) (eva_cons (ev_bin r_add (ev_bin r_add (ev_bin r_add (ev_bin r_mul (ev_bin r_mod (ev_callB r_abs (by rfl) T.z_abs bb_abs (eva_cons (ev_var 2) eva_nil)) ev_int) ev_int) (ev_bin r_mul ev_int (ev_var 1))) (ev_bin r_mul ev_int (ev_callT r_int (by rfl) T.z_int bt_int (eva_cons (ev_cmp r_lt (ev_var 2) ev_int (nomark _)) eva_nil)))) ev_int) (eva_cons ev_int eva_nil))))))))
set_option maxHeartbeats 4000000 in
theorem ok__law_roll (T : Txt K mg base) {k : Nat} (hk : 1 ≤ k) : FnAt P w K mg base k "_law_roll" P__law_roll.length F__law_roll := by
  obtain ⟨f, fd, Fn, hm, hb⟩ := T.d__law_roll
  unfold F__law_roll
  refine FnAt.mono (FnAt.mk' (k := 0) (b := b__law_roll) finP_ok Fn hm hb sc__law_roll ?_) hk
  intro cdv A outer s H E hr hgd
  have sc := sc__law_roll
  have hu := hr.units
  exact (evs_cons (evs_if (evt_cmp r_gt (ev_ix r_ix (ev_var 0) ev_int) ev_int (nomark _)) (evs_cons (evs_set (i := 2) sc.nd rfl (Or.inl rfl) (ev_bin r_mod (ev_callT r_int (by rfl) T.z_int bt_int (eva_cons (ev_ix r_ix (ev_var 0) ev_int) eva_nil)) (ev_var 1)))
      (evs_cons (evs_asg (ev_bin r_div (ev_ix r_ix (ev_var 0) ev_int) (ev_var 1)) (evg_sub (W := W0) (ev_var 0) ev_int s_putL))
      (evs_one (evs_ret (ev_var 2))))) evs_nil)
      (evs_cons (evs_asg (ev_bin r_add (ev_ix r_ix (ev_var 0) ev_int) ev_int) (evg_sub (W := W0) (ev_var 0) ev_int s_putL))
      (evs_cons (evs_set (i := 3) sc.nd rfl (Or.inl rfl) (ev_bin r_mod (ev_callT r_int (by rfl) T.z_int bt_int (eva_cons (ev_bin r_add (ev_ix r_ix (ev_var 0) ev_int) (ev_bin r_mul ev_int (ev_ix r_ix (ev_var 0) ev_int))) eva_nil)) ev_int))
      (evs_cons (evs_set (i := 4) sc.nd rfl (Or.inl rfl) (ev_bin r_add (ev_bin r_mul (ev_bin r_mod (ev_callT r_int (by rfl) T.z_int bt_int (eva_cons (ev_bin r_add (ev_bin r_mul (ev_var 3) (ev_var 3)) (ev_bin r_mul ev_int (ev_ix r_ix (ev_var 0) ev_int))) eva_nil)) ev_int) ev_int) (ev_var 3)))
      (evs_one (evs_ret (ev_bin r_mod (ev_callT r_int (by rfl) T.z_int bt_int (eva_cons (ev_bin r_div (ev_var 4) ev_int) eva_nil)) (ev_var 1))))))))
set_option maxHeartbeats 4000000 in
theorem ok__law_pick (T : Txt K mg base) {k : Nat} (hk : 2 ≤ k) : FnAt P w K mg base k "_law_pick" P__law_pick.length F__law_pick := by
  obtain ⟨f, fd, Fn, hm, hb⟩ := T.d__law_pick
  unfold F__law_pick
  refine FnAt.mono (FnAt.mk' (k := 1) (b := b__law_pick) finP_ok Fn hm hb sc__law_pick ?_) hk
  intro cdv A outer s H E hr hgd
  have sc := sc__law_pick
  have hu := hr.units
  exact (evs_one (evs_ret (ev_ix r_ix (ev_var 1) (ev_call (ok__law_roll T (by decide)) hr hgd (by rfl) (eva_cons (ev_var 0) (eva_cons (ev_callB r_len (by rfl) T.z_len bb_len (eva_cons (ev_var 1) eva_nil)) eva_nil))))))
set_option maxHeartbeats 4000000 in
omit [Tbl] in
theorem okL__law_met (T : Txt K mg base) {k : Nat} (hk : 0 ≤ k) : LamFn P w K mg base k "_law_met" F__law_met := by
  obtain ⟨f, fd, Fn, hm, hb⟩ := T.d__law_met
  unfold F__law_met
  refine LamFn.mono ⟨⟨s__law_met, f, fd, N__law_met, "call", finP, b__law_met, Fn, hm, hb, sc__law_met, rfl, Or.inl rfl, by decide, by decide, fun i => @finP_ok i, rfl, ?_⟩⟩ hk
  intro call cdv A outer s H E i2 hr hgd act
  have sc := sc__law_met
  have hu := hr.units
  exact (evs_cons (evs_try rfl rfl sc.nd (LamX.takes0 (X := _)) (fun W2 pn xe tkT poT => (evs_one (evs_expr (act _ _ _ _ _ tkT)))) (.pl ⟨by rfl, by decide, .inl T.cl_InvalidWeb.choose_spec.1⟩ T.cl_InvalidWeb.choose_spec.2 (fun i2 a oe cls d pn ex hz hf hx => (evs_one (evs_ret ev_str))) (.pl ⟨by rfl, by decide, .inl T.cl_InvalidOperation.choose_spec.1⟩ T.cl_InvalidOperation.choose_spec.2 (fun i2 a oe cls d pn ex hz hf hx => (evs_one (evs_ret ev_str))) (.as (i := 1) ⟨by rfl, by decide, .inl T.cl_InvalidNumber.choose_spec.1⟩ T.cl_InvalidNumber.choose_spec.2 rfl rfl (fun i2 a oe cls d pn ex hz hf ha hx => (evs_one (evs_ret (ev_bin r_add ev_str (ev_callB (r_reprK hgd hu T.sys) (by rfl) T.z_repr bb_repr (eva_cons (ev_xf (i := 1) T.xf_InvalidNumber_value rfl (Or.inl rfl) hz hf ha hx) eva_nil)))))) .nil))))
      (evs_one (evs_ret ev_str)))
set_option maxHeartbeats 4000000 in
theorem ok_is_integer (T : Txt K mg base) {k : Nat} (hk : 1 ≤ k) : FnAt P w K mg base k "is_integer" P_is_integer.length F_is_integer := by
  obtain ⟨f, fd, Fn, hm, hb⟩ := T.d_is_integer
  unfold F_is_integer
  refine FnAt.mono (FnAt.mk' (k := 0) (b := b_is_integer) finP_ok Fn hm hb sc_is_integer ?_) hk
  intro cdv A outer s H E hr hgd
  have sc := sc_is_integer
  have hu := hr.units
  exact (evs_one (evs_ret (ev_and (ev_callB r_isi (by rfl) T.z_isinstance bb_isinstance (eva_cons (ev_var 0) (eva_cons (ev_ty (n := .int) (by rfl) T.z_int bt_int) eva_nil))) (ev_and (ev_not (ev_callB r_isi (by rfl) T.z_isinstance bb_isinstance (eva_cons (ev_var 0) (eva_cons (ev_ty (n := .bool) (by rfl) T.z_bool bt_bool) eva_nil)))) (ev_one (ev_chain r_lt r_lt (ev_un r_neg (ev_gint (by rfl) T.c_LIMIT)) (ev_var 0) (ev_gint (by rfl) T.c_LIMIT)))))))
set_option maxHeartbeats 4000000 in
theorem ok_is_count (T : Txt K mg base) {k : Nat} (hk : 2 ≤ k) : FnAt P w K mg base k "is_count" P_is_count.length F_is_count := by
  obtain ⟨f, fd, Fn, hm, hb⟩ := T.d_is_count
  unfold F_is_count
  refine FnAt.mono (FnAt.mk' (k := 1) (b := b_is_count) finP_ok Fn hm hb sc_is_count ?_) hk
  intro cdv A outer s H E hr hgd
  have sc := sc_is_count
  have hu := hr.units
  exact (evs_one (evs_ret (ev_and (ev_call (ok_is_integer T (by decide)) hr hgd (by rfl) (eva_cons (ev_var 0) eva_nil)) (ev_one (ev_cmp r_ge (ev_var 0) ev_int (nomark _))))))
set_option maxHeartbeats 4000000 in
theorem ok_is_place (T : Txt K mg base) {k : Nat} (hk : 3 ≤ k) : FnAt P w K mg base k "is_place" P_is_place.length F_is_place := by
  obtain ⟨f, fd, Fn, hm, hb⟩ := T.d_is_place
  unfold F_is_place
  refine FnAt.mono (FnAt.mk' (k := 2) (b := b_is_place) finP_ok Fn hm hb sc_is_place ?_) hk
  intro cdv A outer s H E hr hgd
  have sc := sc_is_place
  have hu := hr.units
  exact (evs_one (evs_ret (ev_and (ev_call (ok_is_count T (by decide)) hr hgd (by rfl) (eva_cons (ev_var 0) eva_nil)) (ev_one (ev_cmp r_lt (ev_var 0) (ev_var 1) (nomark _))))))
set_option maxHeartbeats 4000000 in
theorem ok_is_row (T : Txt K mg base) {k : Nat} (hk : 4 ≤ k) : FnAt P w K mg base k "is_row" P_is_row.length F_is_row := by
  obtain ⟨f, fd, Fn, hm, hb⟩ := T.d_is_row
  unfold F_is_row
  refine FnAt.mono (FnAt.mk' (k := 3) (b := b_is_row) finP_ok Fn hm hb sc_is_row ?_) hk
  intro cdv A outer s H E hr hgd
  have sc := sc_is_row
  have hu := hr.units
  exact (evs_cons (evs_if (evw_or (evt_not (evt_val (ev_callB r_isi (by rfl) T.z_isinstance bb_isinstance (eva_cons (ev_var 0) (eva_cons (ev_ty (n := .tuple) (by rfl) T.z_tuple bt_tuple) eva_nil))))) (evw_or1 (evt_not (evt_val (ev_callB (r_all rfl) (by rfl) T.z_all bb_all (eva_cons (ev_lc0 (own := [("place", 2)]) toLst_ok rfl sc.nd (evi_seq (ev_var 0)) (blkOk_by (N := N_is_row) (sc := defScope s_is_row) (by decide +kernel)) (cgt_one (by decide)) (fun _ _ _ _ _ => pg_name (i := 2) sc.nd rfl (by first | exact Or.inl rfl | exact Or.inr rfl)) (fun _ _ _ _ _ => evp_nil) (fun _ _ _ _ _ => (ev_call (ok_is_place T (by decide)) hr hgd (by rfl) (eva_cons (ev_var 2) (eva_cons (ev_var 1) eva_nil))))) eva_nil)))))).pt (evs_one (evs_ret ev_bl)) evs_nil)
      (evs_one (evs_ret (ev_callB (r_all rfl) (by rfl) T.z_all bb_all (eva_cons (ev_lc0 (own := [("one", 3), ("other", 4)]) toLst_ok rfl sc.nd (evi_zipT (by rfl) T.z_zip (eva_cons (ev_var 0) (eva_cons (ev_sl (r_sl toLst_ok) (ev_var 0) (evo_some ev_int) evo_none) eva_nil))) (blkOk_by (N := N_is_row) (sc := defScope s_is_row) (by decide +kernel)) (cgt_tup (by decide)) (fun _ _ _ _ _ => pg_tup rfl (Slots.pgs (slot_cons (i := 3) sc.nd rfl (by first | exact Or.inl rfl | exact Or.inr rfl) (slot_cons (i := 4) sc.nd rfl (by first | exact Or.inl rfl | exact Or.inr rfl) .nil))) rfl rfl) (fun _ _ _ _ _ => evp_nil) (fun _ _ _ _ _ => (ev_cmp r_lt (ev_var 3) (ev_var 4) (nomark _)))) eva_nil)))))
set_option maxHeartbeats 4000000 in
theorem ok_are_rows (T : Txt K mg base) {k : Nat} (hk : 5 ≤ k) : FnAt P w K mg base k "are_rows" P_are_rows.length F_are_rows := by
  obtain ⟨f, fd, Fn, hm, hb⟩ := T.d_are_rows
  unfold F_are_rows
  refine FnAt.mono (FnAt.mk' (k := 4) (b := b_are_rows) finP_ok Fn hm hb sc_are_rows ?_) hk
  intro cdv A outer s H E hr hgd
  have sc := sc_are_rows
  have hu := hr.units
  exact (evs_cons (evs_if (evw_or (evt_not (evt_val (ev_callB r_isi (by rfl) T.z_isinstance bb_isinstance (eva_cons (ev_var 0) (eva_cons (ev_ty (n := .tuple) (by rfl) T.z_tuple bt_tuple) eva_nil))))) (evw_or1 (evt_not (evt_chain r_le r_le ev_int (ev_callB r_len (by rfl) T.z_len bb_len (eva_cons (ev_var 0) eva_nil)) (ev_gint (by rfl) T.c_MAX_PLACES))))).pt (evs_one (evs_ret ev_bl)) evs_nil)
      (evs_one (evs_ret (ev_callB (r_all rfl) (by rfl) T.z_all bb_all (eva_cons (ev_lc0 (own := [("row", 1)]) toLst_ok rfl sc.nd (evi_seq (ev_var 0)) (blkOk_by (N := N_are_rows) (sc := defScope s_are_rows) (by decide +kernel)) (cgt_one (by decide)) (fun _ _ _ _ _ => pg_name (i := 1) sc.nd rfl (by first | exact Or.inl rfl | exact Or.inr rfl)) (fun _ _ _ _ _ => evp_nil) (fun _ _ _ _ _ => (ev_call (ok_is_row T (by decide)) hr hgd (by rfl) (eva_cons (ev_var 1) (eva_cons (ev_callB r_len (by rfl) T.z_len bb_len (eva_cons (ev_var 0) eva_nil)) eva_nil))))) eva_nil)))))
set_option maxHeartbeats 4000000 in
theorem ok_columns_of (T : Txt K mg base) {k : Nat} (hk : 1 ≤ k) : FnAt P w K mg base k "columns_of" P_columns_of.length F_columns_of := by
  obtain ⟨f, fd, Fn, hm, hb⟩ := T.d_columns_of
  unfold F_columns_of
  refine FnAt.mono (FnAt.mk' (k := 0) (b := b_columns_of) finP_ok Fn hm hb sc_columns_of ?_) hk
  intro cdv A outer s H E hr hgd
  have sc := sc_columns_of
  have hu := hr.units
  exact (evs_cons (evs_setLc0 (own := [("row", 3)]) (i := 1) toLstM_ok rfl sc.nd rfl rfl (sw_true rfl rfl rfl (by decide +kernel)) (evi_seq (ev_var 0)) (blkOk_by (N := N_columns_of) (sc := defScope s_columns_of) (by decide +kernel)) (cgt_one (by decide)) (fun _ _ _ _ _ => pg_name (i := 3) sc.nd rfl (by first | exact Or.inl rfl | exact Or.inr rfl)) (fun _ _ _ _ _ => evp_nil) (fun _ _ _ _ _ => (ev_lstM eva_nil)))
      (evs_cons (evs_for PassesOwn.never rfl (evi_enumT (by rfl) T.z_enumerate (eva_cons (ev_var 0) eva_nil)) (evg_names rfl (slot_cons (i := 2) sc.nd rfl (Or.inl rfl) (slot_cons (i := 3) sc.nd rfl (Or.inl rfl) .nil)))
      (evs_one (evs_for PassesOwn.never rfl (evi_seq (ev_var 3)) (evg_name (i := 4) sc.nd rfl (Or.inl rfl))
      (evs_one (evs_expr (ev_lm PySem.F.slot_list_append PySem.F.type_list_append m_app (ev_ix r_ix (ev_var 1) (ev_var 4)) (eva_cons (ev_var 2) eva_nil)))))))
      (evs_one (evs_ret (ev_callT r_tupOf (by rfl) T.z_tuple bt_tuple (eva_cons (ev_lc0 (own := [("column", 5)]) toLst_ok rfl sc.nd (evi_seq (ev_var 1)) (blkOk_by (N := N_columns_of) (sc := defScope s_columns_of) (by decide +kernel)) (cgt_one (by decide)) (fun _ _ _ _ _ => pg_name (i := 5) sc.nd rfl (by first | exact Or.inl rfl | exact Or.inr rfl)) (fun _ _ _ _ _ => evp_nil) (fun _ _ _ _ _ => (ev_callT r_tupOf (by rfl) T.z_tuple bt_tuple (eva_cons (ev_var 5) eva_nil)))) eva_nil))))))
set_option maxHeartbeats 4000000 in
theorem ok_Web_init_d (T : Txt K mg base) {k : Nat} (hk : 6 ≤ k) : NewXAt P w K mg base k "Web" P_Web_init_d.length F_Web_init_d := by
  unfold F_Web_init_d
  refine NewXAt.mono (NewXAt.mk' (k := 5) (b := b_Web_init_d) finP_ok T.d_Web_init_d sc_Web_init_d ?_) hk
  intro f cdv A outer s H E hr hgd tk po
  have sc := sc_Web_init_d
  have hu := hr.units
  exact (evs_cons (evs_if (evt_not (evt_val (ev_call (ok_are_rows T (by decide)) hr hgd (by rfl) (eva_cons (ev_var 1) eva_nil)))) (evs_one (evs_raiseM T.em_InvalidWeb rfl tk (by rfl))) evs_nil)
      (evs_cons (evs_fld T.f_Web_own_rows (ev_var 1) (ev_var 0))
      (evs_one (evs_fld T.f_Web_own_columns (ev_call (ok_columns_of T (by decide)) hr hgd (by rfl) (eva_cons (ev_var 1) eva_nil)) (ev_var 0)))))
set_option maxHeartbeats 4000000 in
theorem ok__law_rows_right (T : Txt K mg base) (LM : Lms K mg base) {k : Nat} (hk : 10 ≤ k) : FnAt P w K mg base k "_law_rows_right" P__law_rows_right.length F__law_rows_right := by
  obtain ⟨f, fd, Fn, hm, hb⟩ := T.d__law_rows_right
  unfold F__law_rows_right
  refine FnAt.mono (FnAt.mkC (k := 9) (b := b__law_rows_right) finP_ok Fn hm hb sc__law_rows_right ?_) hk
  intro cdv A outer s H E hcf hr hgd
  have lamA := LM.l__law_rows_right f cdv hm hcf
  have sc := sc__law_rows_right
  have hu := hr.units
  exact (evs_cons (evs_set (i := 1) sc.nd rfl (Or.inr rfl) (ev_clo LM.r0 [false, false, false] (ev_lst (eva_cons ev_non (eva_cons ev_int (eva_cons (ev_tup eva_nil) (eva_cons (ev_lst (eva_cons (ev_tup (eva_cons ev_int eva_nil)) eva_nil)) (eva_cons ev_str (eva_cons (ev_tup (eva_cons (ev_tup (eva_cons ev_int eva_nil)) eva_nil)) (eva_cons (ev_tup (eva_cons (ev_tup (eva_cons ev_int (eva_cons ev_int eva_nil))) eva_nil)) (eva_cons (ev_tup (eva_cons (ev_tup (eva_cons ev_int eva_nil)) (eva_cons (ev_tup (eva_cons ev_int eva_nil)) eva_nil))) (eva_cons (ev_tup (eva_cons (ev_tup (eva_cons ev_int (eva_cons ev_int eva_nil))) (eva_cons (ev_tup eva_nil) eva_nil))) eva_nil))))))))))))
      (evs_cons (evs_set (i := 1) sc.nd rfl (Or.inr rfl) (ev_clo LM.r0 [false, true, false] (ev_bin r_add (ev_var 1) (ev_lst (eva_cons (ev_tup (eva_cons (ev_tup (eva_cons (ev_un r_neg ev_int) eva_nil)) eva_nil)) (eva_cons (ev_tup (eva_cons (ev_tup (eva_cons ev_bl eva_nil)) eva_nil)) (eva_cons (ev_tup (eva_cons ev_non eva_nil)) (eva_cons (ev_tup (eva_cons ev_dnew eva_nil)) (eva_cons (ev_tup (eva_cons (ev_tup (eva_cons ev_int eva_nil)) (eva_cons (ev_lst (eva_cons ev_int eva_nil)) eva_nil))) (eva_cons (ev_tup (eva_cons (ev_tup (eva_cons ev_int eva_nil)) (eva_cons ev_int eva_nil))) (eva_cons (ev_tup (eva_cons (ev_tup (eva_cons ev_str eva_nil)) eva_nil)) (eva_cons ev_dnew eva_nil))))))))))))
      (evs_cons (evs_set (i := 1) sc.nd rfl (Or.inr rfl) (ev_clo LM.r0 [false, true, false] (ev_bin r_add (ev_var 1) (ev_lst (eva_cons (ev_tup (eva_cons (ev_tup (eva_cons ev_int eva_nil)) (eva_cons (ev_tup (eva_cons (ev_bin r_pow ev_int ev_int) eva_nil)) eva_nil))) (eva_cons (ev_tup (eva_cons (ev_tup (eva_cons (ev_tup (eva_cons ev_int eva_nil)) eva_nil)) eva_nil)) (eva_cons (ev_tup (eva_cons (ev_tup (eva_cons ev_int (eva_cons ev_non eva_nil))) eva_nil)) (eva_cons (ev_tup (eva_cons (ev_tup (eva_cons ev_int (eva_cons ev_int eva_nil))) (eva_cons (ev_tup (eva_cons ev_int eva_nil)) eva_nil))) eva_nil))))))))
      (evs_cons (evs_if (evt_cmp (r_ne hu) (ev_lamcall (k := 7) (okL__law_met T (by decide)) hr hgd (by rfl) lamA (LamX.lamS_by (sc := defScope s__law_rows_right) (by decide +kernel)) rfl (fun _ _ _ _ _ => rfl) (fun A outer s H E f c hr hgd tkL => (ev_newXC LM.r0 (ok_Web_init_d T (by decide)) hr hgd tkL (by rfl) (eva_cons (ev_call (ok__law_pick T (by decide)) hr hgd (by rfl) (eva_cons (ev_var 0) (eva_cons (ev_var 1) eva_nil))) eva_nil)))) ev_str (nomark _)) (evs_one (evs_ret ev_bl)) evs_nil)
      (evs_one (evs_ret (ev_clo LM.r0 [false, false, false] (ev_cmp (r_eq hu) (ev_lc0 (own := [("rows", 2)]) toLst_ok rfl sc.nd (evi_seq (ev_tup (eva_cons (ev_tup (eva_cons (ev_tup eva_nil) eva_nil)) (eva_cons (ev_tup (eva_cons (ev_tup (eva_cons ev_int eva_nil)) eva_nil)) (eva_cons (ev_tup (eva_cons (ev_tup (eva_cons ev_int (eva_cons ev_int eva_nil))) (eva_cons (ev_tup (eva_cons ev_int (eva_cons ev_int eva_nil))) eva_nil))) eva_nil))))) (blkOk_by (N := N__law_rows_right) (sc := defScope s__law_rows_right) (by decide +kernel)) (cgt_one (by decide)) (fun _ _ _ _ _ => pg_name (i := 2) sc.nd rfl (by first | exact Or.inl rfl | exact Or.inr rfl)) (fun _ _ _ _ _ => evp_nil) (fun _ _ _ _ _ => (ev_lamcall (k := 7) (okL__law_met T (by decide)) hr hgd (by rfl) lamA (by exact LamX.lamS_by (by first | rfl | decide +kernel)) rfl (fun _ _ _ _ _ => rfl) (fun A outer s H E f c hr hgd tkL => (ev_newX (ok_Web_init_d T (by decide)) hr hgd tkL (by rfl) (eva_cons (ev_var 2) eva_nil)))))) (ev_bin r_mul (ev_lst (eva_cons ev_str eva_nil)) ev_int) (nomark _)))))))))
set_option maxHeartbeats 4000000 in
theorem ok__law_place_word (T : Txt K mg base) {k : Nat} (hk : 1 ≤ k) : FnAt P w K mg base k "_law_place_word" P__law_place_word.length F__law_place_word := by
  obtain ⟨f, fd, Fn, hm, hb⟩ := T.d__law_place_word
  unfold F__law_place_word
  refine FnAt.mono (FnAt.mk' (k := 0) (b := b__law_place_word) finP_ok Fn hm hb sc__law_place_word ?_) hk
  intro cdv A outer s H E hr hgd
  have sc := sc__law_place_word
  have hu := hr.units
  exact (evs_one (evs_ret (ev_if (evt_cmp r_inF (ev_callB (r_reprK hgd hu T.sys) (by rfl) T.z_repr bb_repr (eva_cons (ev_var 0) eva_nil)) (ev_tup (eva_cons ev_str (eva_cons ev_str (eva_cons ev_str (eva_cons ev_str eva_nil))))) (by rfl)) ev_str (ev_bin r_add ev_str (ev_callB (r_reprK hgd hu T.sys) (by rfl) T.z_repr bb_repr (eva_cons (ev_var 0) eva_nil))))))
set_option maxHeartbeats 4000000 in
theorem ok__law_first (T : Txt K mg base) {k : Nat} (hk : 1 ≤ k) : FnAt P w K mg base k "_law_first" P__law_first.length F__law_first := by
  obtain ⟨f, fd, Fn, hm, hb⟩ := T.d__law_first
  unfold F__law_first
  refine FnAt.mono (FnAt.mk' (k := 0) (b := b__law_first) finP_ok Fn hm hb sc__law_first ?_) hk
  intro cdv A outer s H E hr hgd
  have sc := sc__law_first
  have hu := hr.units
  exact (evs_cons (evs_setLc0 (own := [("word", 2)]) (i := 1) toLst_ok rfl sc.nd rfl rfl (sw_true rfl rfl rfl (by decide +kernel)) (evi_seq (ev_var 0)) (blkOk_by (N := N__law_first) (sc := defScope s__law_first) (by decide +kernel)) (cgt_one (by decide)) (fun _ _ _ _ _ => pg_name (i := 2) sc.nd rfl (by first | exact Or.inl rfl | exact Or.inr rfl)) (fun _ _ _ _ _ => evp_one (evt_cmp (r_ne hu) (ev_var 2) ev_str (nomark _))) (fun _ _ _ _ _ => (ev_var 2)))
      (evs_one (evs_ret (ev_if (evt_cmp (r_ne hu) (ev_var 1) (ev_lst eva_nil) (nomark _)) (ev_ix r_ix (ev_var 1) ev_int) ev_str))))
set_option maxHeartbeats 4000000 in
theorem ok_Web_contains_d (T : Txt K mg base) {k : Nat} (hk : 4 ≤ k) : MetAt P w K mg base k "Web" "__contains__" P_Web_contains_d.length F_Web_contains_d := by
  unfold F_Web_contains_d
  refine MetAt.mono (MetAt.mk' (k := 3) (b := b_Web_contains_d) finP_ok T.d_Web_contains_d sc_Web_contains_d ?_) hk
  intro f cdv A outer s H E hr hgd
  have sc := sc_Web_contains_d
  have hu := hr.units
  exact (evs_cons (evs_if (evw_or (evt_not (evt_val (ev_callB r_isi (by rfl) T.z_isinstance bb_isinstance (eva_cons (ev_var 1) (eva_cons (ev_ty (n := .tuple) (by rfl) T.z_tuple bt_tuple) eva_nil))))) (evw_or1 (evt_cmp (r_ne hu) (ev_callB r_len (by rfl) T.z_len bb_len (eva_cons (ev_var 1) eva_nil)) ev_int (nomark _)))).pt (evs_one (evs_ret ev_bl)) evs_nil)
      (evs_cons (evs_set (i := 2) sc.nd rfl (Or.inl rfl) (ev_callB r_len (by rfl) T.z_len bb_len (eva_cons (ev_fld T.f_Web_own_rows (ev_var 0)) eva_nil)))
      (evs_one (evs_ret (ev_and (ev_call (ok_is_place T (by decide)) hr hgd (by rfl) (eva_cons (ev_ix r_ix (ev_var 1) ev_int) (eva_cons (ev_var 2) eva_nil))) (ev_and (ev_call (ok_is_place T (by decide)) hr hgd (by rfl) (eva_cons (ev_ix r_ix (ev_var 1) ev_int) (eva_cons (ev_var 2) eva_nil))) (ev_one (ev_cmp r_inF (ev_ix r_ix (ev_var 1) ev_int) (ev_ix r_ix (ev_fld T.f_Web_own_rows (ev_var 0)) (ev_ix r_ix (ev_var 1) ev_int)) (by rfl)))))))))
set_option maxHeartbeats 4000000 in
theorem ok_require_place (T : Txt K mg base) {k : Nat} (hk : 4 ≤ k) : FnXAt P w K mg base k "require_place" P_require_place.length F_require_place := by
  obtain ⟨f, fd, Fn, hm, hb⟩ := T.d_require_place
  unfold F_require_place
  refine FnXAt.mono (FnXAt.mk' (k := 3) (b := b_require_place) finP_ok Fn hm hb sc_require_place ?_) hk
  intro cdv A outer s H E hr hgd tk po
  have sc := sc_require_place
  have hu := hr.units
  exact (evs_one (evs_if (evt_not (evt_val (ev_call (ok_is_place T (by decide)) hr hgd (by rfl) (eva_cons (ev_var 1) (eva_cons (ev_callB r_len (by rfl) T.z_len bb_len (eva_cons (ev_fld T.f_Web_own_rows (ev_var 0)) eva_nil)) eva_nil))))) (evs_one (evs_raiseV T.ev_InvalidNumber hr rfl tk (ev_var 1) (by rfl))) evs_nil))
set_option maxHeartbeats 4000000 in
theorem ok_Web_exchanged (T : Txt K mg base) {k : Nat} (hk : 8 ≤ k) : MetXAt P w K mg base k "Web" "exchanged" P_Web_exchanged.length F_Web_exchanged := by
  unfold F_Web_exchanged
  refine MetXAt.mono (MetXAt.mk' (k := 7) (b := b_Web_exchanged) finP_ok T.d_Web_exchanged sc_Web_exchanged ?_) hk
  intro f cdv A outer s H E hr hgd tk po
  have sc := sc_Web_exchanged
  have hu := hr.units
  exact (evs_one (evs_ret (ev_newX (ok_Web_init_d T (by decide)) hr hgd tk (by rfl) (eva_cons (ev_tup (eva_star (ev_sl (r_sl toLst_ok) (ev_fld T.f_Web_own_rows (ev_var 0)) evo_none (evo_some (ev_var 1))) (eva_cons (ev_var 2) (eva_star (ev_sl (r_sl toLst_ok) (ev_fld T.f_Web_own_rows (ev_var 0)) (evo_some (ev_bin r_add (ev_var 1) ev_int)) evo_none) eva_nil)))) eva_nil))))
set_option maxHeartbeats 4000000 in
theorem ok_Web_with_tie (T : Txt K mg base) {k : Nat} (hk : 9 ≤ k) : MetXAt P w K mg base k "Web" "with_tie" P_Web_with_tie.length F_Web_with_tie := by
  unfold F_Web_with_tie
  refine MetXAt.mono (MetXAt.mk' (k := 8) (b := b_Web_with_tie) finP_ok T.d_Web_with_tie sc_Web_with_tie ?_) hk
  intro f cdv A outer s H E hr hgd tk po
  have sc := sc_Web_with_tie
  have hu := hr.units
  exact (evs_cons (evs_expr (ev_callX (ok_require_place T (by decide)) hr hgd tk (by rfl) (eva_cons (ev_var 0) (eva_cons (ev_var 1) eva_nil))))
      (evs_cons (evs_expr (ev_callX (ok_require_place T (by decide)) hr hgd tk (by rfl) (eva_cons (ev_var 0) (eva_cons (ev_var 2) eva_nil))))
      (evs_cons (evs_if (evt_cmp r_inF (ev_var 2) (ev_ix r_ix (ev_fld T.f_Web_own_rows (ev_var 0)) (ev_var 1)) (by rfl)) (evs_one (evs_raiseM T.em_InvalidOperation rfl tk (by rfl))) evs_nil)
      (evs_one (evs_ret (ev_methX (ok_Web_exchanged T (by decide)) hr hgd tk (ev_var 0) (eva_cons (ev_var 1) (eva_cons (ev_callT r_tupOf (by rfl) T.z_tuple bt_tuple (eva_cons (ev_callB (r_sortI toLst_ok) (by rfl) T.z_sorted bb_sorted (eva_cons (ev_lst (eva_star (ev_ix r_ix (ev_fld T.f_Web_own_rows (ev_var 0)) (ev_var 1)) (eva_cons (ev_var 2) eva_nil))) eva_nil)) eva_nil)) eva_nil))))))))
set_option maxHeartbeats 4000000 in
theorem ok_Web_without_tie (T : Txt K mg base) {k : Nat} (hk : 9 ≤ k) : MetXAt P w K mg base k "Web" "without_tie" P_Web_without_tie.length F_Web_without_tie := by
  unfold F_Web_without_tie
  refine MetXAt.mono (MetXAt.mk' (k := 8) (b := b_Web_without_tie) finP_ok T.d_Web_without_tie sc_Web_without_tie ?_) hk
  intro f cdv A outer s H E hr hgd tk po
  have sc := sc_Web_without_tie
  have hu := hr.units
  exact (evs_cons (evs_expr (ev_callX (ok_require_place T (by decide)) hr hgd tk (by rfl) (eva_cons (ev_var 0) (eva_cons (ev_var 1) eva_nil))))
      (evs_cons (evs_expr (ev_callX (ok_require_place T (by decide)) hr hgd tk (by rfl) (eva_cons (ev_var 0) (eva_cons (ev_var 2) eva_nil))))
      (evs_cons (evs_if (evt_cmp r_notInF (ev_var 2) (ev_ix r_ix (ev_fld T.f_Web_own_rows (ev_var 0)) (ev_var 1)) (by rfl)) (evs_one (evs_raiseM T.em_InvalidOperation rfl tk (by rfl))) evs_nil)
      (evs_one (evs_ret (ev_methX (ok_Web_exchanged T (by decide)) hr hgd tk (ev_var 0) (eva_cons (ev_var 1) (eva_cons (ev_callT r_tupOf (by rfl) T.z_tuple bt_tuple (eva_cons (ev_lc0 (own := [("place", 3)]) toLst_ok rfl sc.nd (evi_seq (ev_ix r_ix (ev_fld T.f_Web_own_rows (ev_var 0)) (ev_var 1))) (blkOk_by (N := N_Web_without_tie) (sc := defScope s_Web_without_tie) (by decide +kernel)) (cgt_one (by decide)) (fun _ _ _ _ _ => pg_name (i := 3) sc.nd rfl (by first | exact Or.inl rfl | exact Or.inr rfl)) (fun _ _ _ _ _ => evp_one (evt_cmp (r_ne hu) (ev_var 3) (ev_var 2) (nomark _))) (fun _ _ _ _ _ => (ev_var 3))) eva_nil)) eva_nil))))))))
set_option maxHeartbeats 4000000 in
theorem ok_Web_with_row (T : Txt K mg base) {k : Nat} (hk : 9 ≤ k) : MetXAt P w K mg base k "Web" "with_row" P_Web_with_row.length F_Web_with_row := by
  unfold F_Web_with_row
  refine MetXAt.mono (MetXAt.mk' (k := 8) (b := b_Web_with_row) finP_ok T.d_Web_with_row sc_Web_with_row ?_) hk
  intro f cdv A outer s H E hr hgd tk po
  have sc := sc_Web_with_row
  have hu := hr.units
  exact (evs_cons (evs_expr (ev_callX (ok_require_place T (by decide)) hr hgd tk (by rfl) (eva_cons (ev_var 0) (eva_cons (ev_var 1) eva_nil))))
      (evs_cons (evs_if (evt_not (evt_val (ev_call (ok_is_row T (by decide)) hr hgd (by rfl) (eva_cons (ev_var 2) (eva_cons (ev_callB r_len (by rfl) T.z_len bb_len (eva_cons (ev_fld T.f_Web_own_rows (ev_var 0)) eva_nil)) eva_nil))))) (evs_one (evs_raiseM T.em_InvalidOperation rfl tk (by rfl))) evs_nil)
      (evs_one (evs_ret (ev_methX (ok_Web_exchanged T (by decide)) hr hgd tk (ev_var 0) (eva_cons (ev_var 1) (eva_cons (ev_var 2) eva_nil)))))))
set_option maxHeartbeats 4000000 in
theorem ok_Web_part (T : Txt K mg base) {k : Nat} (hk : 8 ≤ k) : MetXAt P w K mg base k "Web" "part" P_Web_part.length F_Web_part := by
  unfold F_Web_part
  refine MetXAt.mono (MetXAt.mk' (k := 7) (b := b_Web_part) finP_ok T.d_Web_part sc_Web_part ?_) hk
  intro f cdv A outer s H E hr hgd tk po
  have sc := sc_Web_part
  have hu := hr.units
  exact (evs_cons (evs_if (evw_or (evt_not (evt_val (ev_call (ok_is_row T (by decide)) hr hgd (by rfl) (eva_cons (ev_var 1) (eva_cons (ev_callB r_len (by rfl) T.z_len bb_len (eva_cons (ev_fld T.f_Web_own_rows (ev_var 0)) eva_nil)) eva_nil))))) (evw_or1 (evt_cmp (r_eq hu) (ev_var 1) (ev_tup eva_nil) (nomark _)))).pt (evs_one (evs_raiseM T.em_InvalidOperation rfl tk (by rfl))) evs_nil)
      (evs_cons (evs_set (i := 2) sc.nd rfl (Or.inr rfl) (ev_dc (own := [("number", 4), ("place", 5)]) rfl sc.nd (evi_enumT (by rfl) T.z_enumerate (eva_cons (ev_var 1) eva_nil)) (blkOk_by (N := N_Web_part) (sc := defScope s_Web_part) (by decide +kernel)) (cgt_tup (by decide)) (fun _ _ _ _ _ => pg_tup rfl (Slots.pgs (slot_cons (i := 4) sc.nd rfl (by first | exact Or.inl rfl | exact Or.inr rfl) (slot_cons (i := 5) sc.nd rfl (by first | exact Or.inl rfl | exact Or.inr rfl) .nil))) rfl rfl) (fun _ _ _ _ _ => evp_nil) (fun _ _ _ _ _ => (ev_var 5)) (fun _ _ _ _ _ => (ev_var 4))))
      (evs_cons (evs_setLc0 (own := [("place", 5)]) (i := 3) toLst_ok rfl sc.nd rfl rfl (sw_true rfl rfl rfl (by decide +kernel)) (evi_seq (ev_var 1)) (blkOk_by (N := N_Web_part) (sc := defScope s_Web_part) (by decide +kernel)) (cgt_one (by decide)) (fun _ _ _ _ _ => pg_name (i := 5) sc.nd rfl (by first | exact Or.inl rfl | exact Or.inr rfl)) (fun _ _ _ _ _ => evp_nil) (fun _ _ _ _ _ => (ev_callT r_tupOf (by rfl) T.z_tuple bt_tuple (eva_cons (ev_lc0 (own := [("one", 6)]) toLst_ok rfl sc.nd (evi_seq (ev_ix r_ix (ev_fld T.f_Web_own_rows (ev_var 0)) (ev_var 5))) (blkOk_by (N := N_Web_part) (sc := (_ : Scope)) (by first | rfl | decide +kernel)) (cgt_one (by decide)) (fun _ _ _ _ _ => pg_name (i := 6) sc.nd rfl (by first | exact Or.inl rfl | exact Or.inr rfl)) (fun _ _ _ _ _ => evp_one (evt_cmp (r_inG hu) (ev_var 6) (ev_var 2) (by rfl))) (fun _ _ _ _ _ => (ev_ix (r_ixD hu) (ev_var 2) (ev_var 6)))) eva_nil))))
      (evs_one (evs_ret (ev_newX (ok_Web_init_d T (by decide)) hr hgd tk (by rfl) (eva_cons (ev_callT r_tupOf (by rfl) T.z_tuple bt_tuple (eva_cons (ev_var 3) eva_nil)) eva_nil)))))))
set_option maxHeartbeats 4000000 in
theorem ok_Web_getitem_d (T : Txt K mg base) {k : Nat} (hk : 5 ≤ k) : ItmXAt P w K mg base k "Web" F_Web_getitem_d := by
  unfold F_Web_getitem_d
  refine ItmXAt.mono (ItmXAt.mk' (k := 4) (b := b_Web_getitem_d) finP_ok T.d_Web_getitem_d rfl sc_Web_getitem_d ?_) hk
  intro f cdv A outer s H E hr hgd tk po
  have sc := sc_Web_getitem_d
  have hu := hr.units
  exact (evs_cons (evs_expr (ev_callX (ok_require_place T (by decide)) hr hgd tk (by rfl) (eva_cons (ev_var 0) (eva_cons (ev_var 1) eva_nil))))
      (evs_one (evs_ret (ev_ix r_ix (ev_fld T.f_Web_own_rows (ev_var 0)) (ev_var 1)))))
set_option maxHeartbeats 4000000 in
theorem ok_is_order (T : Txt K mg base) {k : Nat} (hk : 4 ≤ k) : FnAt P w K mg base k "is_order" P_is_order.length F_is_order := by
  obtain ⟨f, fd, Fn, hm, hb⟩ := T.d_is_order
  unfold F_is_order
  refine FnAt.mono (FnAt.mk' (k := 3) (b := b_is_order) finP_ok Fn hm hb sc_is_order ?_) hk
  intro cdv A outer s H E hr hgd
  have sc := sc_is_order
  have hu := hr.units
  exact (evs_cons (evs_if (evw_or (evt_not (evt_val (ev_callB r_isi (by rfl) T.z_isinstance bb_isinstance (eva_cons (ev_var 0) (eva_cons (ev_ty (n := .tuple) (by rfl) T.z_tuple bt_tuple) eva_nil))))) (evw_or1 (evt_not (evt_val (ev_callB (r_all rfl) (by rfl) T.z_all bb_all (eva_cons (ev_lc0 (own := [("place", 2)]) toLst_ok rfl sc.nd (evi_seq (ev_var 0)) (blkOk_by (N := N_is_order) (sc := defScope s_is_order) (by decide +kernel)) (cgt_one (by decide)) (fun _ _ _ _ _ => pg_name (i := 2) sc.nd rfl (by first | exact Or.inl rfl | exact Or.inr rfl)) (fun _ _ _ _ _ => evp_nil) (fun _ _ _ _ _ => (ev_call (ok_is_place T (by decide)) hr hgd (by rfl) (eva_cons (ev_var 2) (eva_cons (ev_var 1) eva_nil))))) eva_nil)))))).pt (evs_one (evs_ret ev_bl)) evs_nil)
      (evs_one (evs_ret (ev_and (ev_cmp (r_eq hu) (ev_callB r_len (by rfl) T.z_len bb_len (eva_cons (ev_var 0) eva_nil)) (ev_var 1) (nomark _)) (ev_one (ev_cmp (r_eq hu) (ev_callB r_lenD (by rfl) T.z_len bb_len (eva_cons (ev_dc (own := [("place", 2)]) rfl sc.nd (evi_seq (ev_var 0)) (blkOk_by (N := N_is_order) (sc := defScope s_is_order) (by decide +kernel)) (cgt_one (by decide)) (fun _ _ _ _ _ => pg_name (i := 2) sc.nd rfl (by first | exact Or.inl rfl | exact Or.inr rfl)) (fun _ _ _ _ _ => evp_nil) (fun _ _ _ _ _ => (ev_var 2)) (fun _ _ _ _ _ => ev_bl)) eva_nil)) (ev_var 1) (nomark _)))))))
set_option maxHeartbeats 4000000 in
theorem ok_Web_renamed (T : Txt K mg base) {k : Nat} (hk : 8 ≤ k) : MetXAt P w K mg base k "Web" "renamed" P_Web_renamed.length F_Web_renamed := by
  unfold F_Web_renamed
  refine MetXAt.mono (MetXAt.mk' (k := 7) (b := b_Web_renamed) finP_ok T.d_Web_renamed sc_Web_renamed ?_) hk
  intro f cdv A outer s H E hr hgd tk po
  have sc := sc_Web_renamed
  have hu := hr.units
  exact (evs_cons (evs_set (i := 2) sc.nd rfl (Or.inl rfl) (ev_callB r_len (by rfl) T.z_len bb_len (eva_cons (ev_fld T.f_Web_own_rows (ev_var 0)) eva_nil)))
      (evs_cons (evs_if (evt_not (evt_val (ev_call (ok_is_order T (by decide)) hr hgd (by rfl) (eva_cons (ev_var 1) (eva_cons (ev_var 2) eva_nil))))) (evs_one (evs_raiseM T.em_InvalidOperation rfl tk (by rfl))) evs_nil)
      (evs_cons (evs_set (i := 3) sc.nd rfl (Or.inl rfl) (ev_bin (r_mulL toLstM_ok) (ev_lst (eva_cons (ev_tup eva_nil) eva_nil)) (ev_var 2)))
      (evs_cons (evs_for po rfl (evi_enumT (by rfl) T.z_enumerate (eva_cons (ev_fld T.f_Web_own_rows (ev_var 0)) eva_nil)) (evg_names rfl (slot_cons (i := 4) sc.nd rfl (Or.inl rfl) (slot_cons (i := 5) sc.nd rfl (Or.inl rfl) .nil)))
      (evs_one (evs_asg (ev_callT r_tupOf (by rfl) T.z_tuple bt_tuple (eva_cons (ev_callB (r_sortI toLst_ok) (by rfl) T.z_sorted bb_sorted (eva_cons (ev_lc0 (own := [("one", 6)]) toLst_ok rfl sc.nd (evi_seq (ev_var 5)) (blkOk_by (N := N_Web_renamed) (sc := defScope s_Web_renamed) (by decide +kernel)) (cgt_one (by decide)) (fun _ _ _ _ _ => pg_name (i := 6) sc.nd rfl (by first | exact Or.inl rfl | exact Or.inr rfl)) (fun _ _ _ _ _ => evp_nil) (fun _ _ _ _ _ => (ev_ix r_ix (ev_var 1) (ev_var 6)))) eva_nil)) eva_nil)) (evg_sub (W := W0) (ev_var 3) (ev_ix r_ix (ev_var 1) (ev_var 4)) s_putL))))
      (evs_one (evs_ret (ev_newX (ok_Web_init_d T (by decide)) hr hgd tk (by rfl) (eva_cons (ev_callT r_tupOf (by rfl) T.z_tuple bt_tuple (eva_cons (ev_var 3) eva_nil)) eva_nil))))))))
set_option maxHeartbeats 4000000 in
theorem ok__law_right (T : Txt K mg base) (LM : Lms K mg base) {k : Nat} (hk : 12 ≤ k) : FnAt P w K mg base k "_law_right" P__law_right.length F__law_right := by
  obtain ⟨f, fd, Fn, hm, hb⟩ := T.d__law_right
  unfold F__law_right
  refine FnAt.mono (FnAt.mkC (k := 11) (b := b__law_right) finP_ok Fn hm hb sc__law_right ?_) hk
  intro cdv A outer s H E hcf hr hgd
  have lamA := LM.l__law_right f cdv hm hcf
  have sc := sc__law_right
  have hu := hr.units
  exact (evs_cons (evs_set (i := 2) sc.nd rfl (Or.inr rfl) (ev_clo LM.r0 [false, false, false, false, false, false, false, false, false, false, false, false, false, false, false] (ev_lst (eva_cons ev_int (eva_cons (ev_un r_neg ev_int) (eva_cons ev_non (eva_cons ev_bl (eva_cons ev_str (eva_cons (ev_tup (eva_cons ev_int eva_nil)) (eva_cons (ev_lst eva_nil) (eva_cons ev_dnew (eva_cons (ev_bin r_pow ev_int ev_int) eva_nil))))))))))))
      (evs_cons (evs_asg (ev_tup (eva_cons (ev_call (ok__law_pick T (by decide)) hr hgd (by rfl) (eva_cons (ev_var 0) (eva_cons (ev_clo LM.r0 [false, false, true, false, false, false, false, false, false, false, false, false, false, false, false] (ev_bin r_add (ev_bin r_mul (ev_lst (eva_cons ev_int (eva_cons ev_int (eva_cons ev_int eva_nil)))) ev_int) (ev_var 2))) eva_nil))) (eva_cons (ev_call (ok__law_pick T (by decide)) hr hgd (by rfl) (eva_cons (ev_var 0) (eva_cons (ev_clo LM.r0 [false, false, true, false, false, false, false, false, false, false, false, false, false, false, false] (ev_bin r_add (ev_bin r_mul (ev_lst (eva_cons ev_int (eva_cons ev_int (eva_cons ev_int eva_nil)))) ev_int) (ev_var 2))) eva_nil))) eva_nil))) (evg_names rfl (slot_cons (i := 3) sc.nd rfl (Or.inr rfl) (slot_cons (i := 4) sc.nd rfl (Or.inr rfl) .nil))))
      (evs_cons (evs_set (i := 5) sc.nd rfl (Or.inl rfl) (ev_clo LM.r0 [false, false, false, true, true, false, false, false, false, false, false, false, false, false, false] (ev_lst (eva_cons (ev_call (ok__law_place_word T (by decide)) hr hgd (by rfl) (eva_cons (ev_var 3) eva_nil)) (eva_cons (ev_call (ok__law_place_word T (by decide)) hr hgd (by rfl) (eva_cons (ev_var 4) eva_nil)) eva_nil)))))
      (evs_cons (evs_set (i := 6) sc.nd rfl (Or.inl rfl) (ev_clo LM.r0 [false, true, false, true, true, true, false, false, false, false, false, false, false, false, false] (ev_and (ev_cmp (r_eq hu) (ev_var 5) (ev_lst (eva_cons ev_str (eva_cons ev_str eva_nil))) (nomark _)) (ev_one (ev_cmp (r_inO (ok_Web_contains_d T (by decide)) hr hgd) (ev_tup (eva_cons (ev_var 3) (eva_cons (ev_var 4) eva_nil))) (ev_var 1) (by rfl))))))
      (evs_cons (evs_set (i := 7) sc.nd rfl (Or.inl rfl) (ev_clo LM.r0 [false, false, false, false, false, false, true, false, false, false, false, false, false, false, false] (ev_if (evt_val (ev_var 6)) ev_str ev_str)))
      (evs_cons (evs_if (evt_clo LM.r0 [false, true, false, true, true, true, false, true, false, false, false, false, false, false, false] (evt_cmp (r_ne hu) (ev_lamcall (k := 9) (okL__law_met T (by decide)) hr hgd (by rfl) lamA (LamX.lamS_by (sc := defScope s__law_right) (by decide +kernel)) rfl (fun _ _ _ _ _ => rfl) (fun A outer s H E f c hr hgd tkL => (ev_methX (ok_Web_with_tie T (by decide)) hr hgd tkL (ev_var 1) (eva_cons (ev_var 3) (eva_cons (ev_var 4) eva_nil))))) (ev_call (ok__law_first T (by decide)) hr hgd (by rfl) (eva_cons (ev_bin r_add (ev_var 5) (ev_lst (eva_cons (ev_var 7) eva_nil))) eva_nil)) (nomark _))) (evs_one (evs_ret ev_bl)) evs_nil)
      (evs_cons (evs_set (i := 7) sc.nd rfl (Or.inl rfl) (ev_clo LM.r0 [false, false, false, false, false, true, true, false, false, false, false, false, false, false, false] (ev_if (evw_and (evt_cmp (r_eq hu) (ev_var 5) (ev_lst (eva_cons ev_str (eva_cons ev_str eva_nil))) (nomark _)) (evw_and1 (evt_not (evt_val (ev_var 6))))).pt ev_str ev_str)))
      (evs_cons (evs_if (evt_clo LM.r0 [false, true, false, true, true, true, false, true, false, false, false, false, false, false, false] (evt_cmp (r_ne hu) (ev_lamcall (k := 9) (okL__law_met T (by decide)) hr hgd (by rfl) lamA (LamX.lamS_by (sc := defScope s__law_right) (by decide +kernel)) rfl (fun _ _ _ _ _ => rfl) (fun A outer s H E f c hr hgd tkL => (ev_methX (ok_Web_without_tie T (by decide)) hr hgd tkL (ev_var 1) (eva_cons (ev_var 3) (eva_cons (ev_var 4) eva_nil))))) (ev_call (ok__law_first T (by decide)) hr hgd (by rfl) (eva_cons (ev_bin r_add (ev_var 5) (ev_lst (eva_cons (ev_var 7) eva_nil))) eva_nil)) (nomark _))) (evs_one (evs_ret ev_bl)) evs_nil)
      (evs_cons (evs_set (i := 8) sc.nd rfl (Or.inl rfl) (ev_clo LM.r0 [false, false, false, false, false, false, false, false, false, false, false, false, false, false, false] (ev_lst (eva_cons (ev_tup eva_nil) (eva_cons (ev_tup (eva_cons ev_int eva_nil)) (eva_cons (ev_tup (eva_cons ev_int (eva_cons ev_int eva_nil))) (eva_cons (ev_tup (eva_cons ev_int (eva_cons ev_int (eva_cons ev_int (eva_cons ev_int eva_nil))))) eva_nil)))))))
      (evs_cons (evs_set (i := 9) sc.nd rfl (Or.inr rfl) (ev_call (ok__law_pick T (by decide)) hr hgd (by rfl) (eva_cons (ev_var 0) (eva_cons (ev_clo LM.r0 [false, false, false, false, false, false, false, false, true, false, false, false, false, false, false] (ev_bin r_add (ev_bin r_mul (ev_var 8) ev_int) (ev_lst (eva_cons ev_non (eva_cons ev_int (eva_cons (ev_lst (eva_cons ev_int eva_nil)) (eva_cons (ev_tup (eva_cons ev_int (eva_cons ev_int eva_nil))) (eva_cons (ev_tup (eva_cons ev_int (eva_cons ev_int eva_nil))) (eva_cons (ev_tup (eva_cons ev_int eva_nil)) (eva_cons (ev_tup (eva_cons (ev_un r_neg ev_int) eva_nil)) (eva_cons ev_str (eva_cons (ev_tup (eva_cons ev_non eva_nil)) (eva_cons (ev_tup (eva_cons ev_bl eva_nil)) (eva_cons ev_dnew (eva_cons (ev_tup (eva_cons (ev_tup (eva_cons ev_int eva_nil)) eva_nil)) eva_nil))))))))))))))) eva_nil))))
      (evs_cons (evs_set (i := 7) sc.nd rfl (Or.inl rfl) (ev_clo LM.r0 [false, false, false, false, false, false, false, false, true, true, false, false, false, false, false] (ev_if (evt_cmp r_inF (ev_callB (r_reprK hgd hu T.sys) (by rfl) T.z_repr bb_repr (eva_cons (ev_var 9) eva_nil)) (ev_lc0 (own := [("some", 14)]) toLst_ok rfl sc.nd (evi_seq (ev_var 8)) (blkOk_by (N := N__law_right) (sc := defScope s__law_right) (by decide +kernel)) (cgt_one (by decide)) (fun _ _ _ _ _ => pg_name (i := 14) sc.nd rfl (by first | exact Or.inl rfl | exact Or.inr rfl)) (fun _ _ _ _ _ => evp_nil) (fun _ _ _ _ _ => (ev_callB (r_reprK hgd hu T.sys) (by rfl) T.z_repr bb_repr (eva_cons (ev_var 14) eva_nil)))) (by rfl)) ev_str ev_str)))
      (evs_cons (evs_if (evt_clo LM.r0 [false, true, false, true, false, true, false, true, false, true, false, false, false, false, false] (evt_cmp (r_ne hu) (ev_lamcall (k := 9) (okL__law_met T (by decide)) hr hgd (by rfl) lamA (LamX.lamS_by (sc := defScope s__law_right) (by decide +kernel)) rfl (fun _ _ _ _ _ => rfl) (fun A outer s H E f c hr hgd tkL => (ev_methX (ok_Web_with_row T (by decide)) hr hgd tkL (ev_var 1) (eva_cons (ev_var 3) (eva_cons (ev_var 9) eva_nil))))) (ev_call (ok__law_first T (by decide)) hr hgd (by rfl) (eva_cons (ev_lst (eva_cons (ev_ix r_ix (ev_var 5) ev_int) (eva_cons (ev_var 7) eva_nil))) eva_nil)) (nomark _))) (evs_one (evs_ret ev_bl)) evs_nil)
      (evs_cons (evs_set (i := 7) sc.nd rfl (Or.inl rfl) (ev_clo LM.r0 [false, false, false, false, false, false, false, false, true, true, false, false, false, false, false] (ev_if (evt_cmp r_inF (ev_callB (r_reprK hgd hu T.sys) (by rfl) T.z_repr bb_repr (eva_cons (ev_var 9) eva_nil)) (ev_lc0 (own := [("some", 14)]) toLst_ok rfl sc.nd (evi_seq (ev_sl (r_sl toLst_ok) (ev_var 8) (evo_some ev_int) evo_none)) (blkOk_by (N := N__law_right) (sc := defScope s__law_right) (by decide +kernel)) (cgt_one (by decide)) (fun _ _ _ _ _ => pg_name (i := 14) sc.nd rfl (by first | exact Or.inl rfl | exact Or.inr rfl)) (fun _ _ _ _ _ => evp_nil) (fun _ _ _ _ _ => (ev_callB (r_reprK hgd hu T.sys) (by rfl) T.z_repr bb_repr (eva_cons (ev_var 14) eva_nil)))) (by rfl)) ev_str ev_str)))
      (evs_cons (evs_if (evt_clo LM.r0 [false, true, false, false, false, false, false, true, false, true, false, false, false, false, false] (evt_cmp (r_ne hu) (ev_lamcall (k := 9) (okL__law_met T (by decide)) hr hgd (by rfl) lamA (LamX.lamS_by (sc := defScope s__law_right) (by decide +kernel)) rfl (fun _ _ _ _ _ => rfl) (fun A outer s H E f c hr hgd tkL => (ev_methX (ok_Web_part T (by decide)) hr hgd tkL (ev_var 1) (eva_cons (ev_var 9) eva_nil)))) (ev_var 7) (nomark _))) (evs_one (evs_ret ev_bl)) evs_nil)
      (evs_cons (evs_if (evt_clo LM.r0 [false, true, false, false, true, true, false, false, false, false, false, false, false, false, false] (evt_cmp (r_ne hu) (ev_lamcall (k := 9) (okL__law_met T (by decide)) hr hgd (by rfl) lamA (LamX.lamS_by (sc := defScope s__law_right) (by decide +kernel)) rfl (fun _ _ _ _ _ => rfl) (fun A outer s H E f c hr hgd tkL => (ev_ixOX (ok_Web_getitem_d T (by decide)) hr hgd tkL (ev_var 1) (ev_var 4)))) (ev_ix r_ix (ev_var 5) ev_int) (nomark _))) (evs_one (evs_ret ev_bl)) evs_nil)
      (evs_cons (evs_set (i := 10) sc.nd rfl (Or.inl rfl) (ev_clo LM.r0 [false, false, false, false, false, false, false, false, false, false, false, false, false, false, false] (ev_lst (eva_cons ev_non (eva_cons (ev_tup eva_nil) (eva_cons (ev_tup (eva_cons ev_int (eva_cons ev_int (eva_cons ev_int eva_nil)))) (eva_cons (ev_lst (eva_cons ev_int (eva_cons ev_int (eva_cons ev_int (eva_cons ev_int eva_nil))))) (eva_cons (ev_tup (eva_cons ev_int (eva_cons ev_int (eva_cons ev_int (eva_cons ev_int eva_nil))))) (eva_cons (ev_tup (eva_cons ev_int (eva_cons ev_int (eva_cons ev_int (eva_cons ev_int eva_nil))))) (eva_cons (ev_tup (eva_cons ev_int (eva_cons ev_int (eva_cons ev_int (eva_cons ev_int (eva_cons ev_int eva_nil)))))) eva_nil))))))))))
      (evs_cons (evs_set (i := 11) sc.nd rfl (Or.inr rfl) (ev_call (ok__law_pick T (by decide)) hr hgd (by rfl) (eva_cons (ev_var 0) (eva_cons (ev_clo LM.r0 [false, false, false, false, false, false, false, false, false, false, true, false, false, false, false] (ev_bin r_add (ev_lst (eva_cons (ev_tup (eva_cons ev_int (eva_cons ev_int (eva_cons ev_int (eva_cons ev_int eva_nil))))) (eva_cons (ev_tup (eva_cons ev_int (eva_cons ev_int (eva_cons ev_int (eva_cons ev_int eva_nil))))) eva_nil))) (ev_var 10))) eva_nil))))
      (evs_cons (evs_set (i := 12) sc.nd rfl (Or.inl rfl) (ev_clo LM.r0 [false, false, false, false, false, false, false, false, false, false, false, true, false, false, false] (ev_if (evt_cmp r_inF (ev_callB (r_reprK hgd hu T.sys) (by rfl) T.z_repr bb_repr (eva_cons (ev_var 11) eva_nil)) (ev_tup (eva_cons ev_str (eva_cons ev_str eva_nil))) (by rfl)) ev_str ev_str)))
      (evs_cons (evs_set (i := 2) sc.nd rfl (Or.inr rfl) (ev_call (ok__law_pick T (by decide)) hr hgd (by rfl) (eva_cons (ev_var 0) (eva_cons (ev_clo LM.r0 [false, false, false, false, false, false, false, false, false, false, false, false, false, false, false] (ev_lst (eva_cons (ev_tup (eva_cons ev_int (eva_cons ev_bl (eva_cons ev_int (eva_cons ev_int eva_nil))))) (eva_cons ev_str (eva_cons ev_dnew (eva_cons ev_int (eva_cons (ev_bin r_mul (ev_tup (eva_cons ev_non eva_nil)) ev_int) (eva_cons (ev_tup (eva_cons (ev_tup (eva_cons ev_int (eva_cons ev_int (eva_cons ev_int (eva_cons ev_int eva_nil))))) eva_nil)) eva_nil)))))))) eva_nil))))
      (evs_cons (evs_set (i := 13) sc.nd rfl (Or.inl rfl) (ev_clo LM.r0 [false, true, false, false, false, false, false, false, false, false, false, true, true, false, false] (ev_lst (eva_cons (ev_lamcall (k := 9) (okL__law_met T (by decide)) hr hgd (by rfl) lamA (LamX.lamS_by (sc := defScope s__law_right) (by decide +kernel)) rfl (fun _ _ _ _ _ => rfl) (fun A outer s H E f c hr hgd tkL => (ev_methX (ok_Web_renamed T (by decide)) hr hgd tkL (ev_var 1) (eva_cons (ev_var 11) eva_nil)))) (eva_cons (ev_var 12) eva_nil)))))
      (evs_one (evs_ret (ev_clo LM.r0 [false, true, true, false, false, false, false, false, false, false, false, false, false, true, false] (ev_and (ev_cmp (r_eq hu) (ev_ix r_ix (ev_var 13) ev_int) (ev_ix r_ix (ev_var 13) ev_int) (nomark _)) (ev_one (ev_cmp (r_eq hu) (ev_lamcall (k := 9) (okL__law_met T (by decide)) hr hgd (by rfl) lamA (LamX.lamS_by (sc := defScope s__law_right) (by decide +kernel)) rfl (fun _ _ _ _ _ => rfl) (fun A outer s H E f c hr hgd tkL => (ev_methX (ok_Web_renamed T (by decide)) hr hgd tkL (ev_var 1) (eva_cons (ev_var 2) eva_nil)))) ev_str (nomark _)))))))))))))))))))))))))))
set_option maxHeartbeats 4000000 in
theorem ok_Web_len_d (T : Txt K mg base) {k : Nat} (hk : 1 ≤ k) : MetAt P w K mg base k "Web" "__len__" P_Web_len_d.length F_Web_len_d := by
  unfold F_Web_len_d
  refine MetAt.mono (MetAt.mk' (k := 0) (b := b_Web_len_d) finP_ok T.d_Web_len_d sc_Web_len_d ?_) hk
  intro f cdv A outer s H E hr hgd
  have sc := sc_Web_len_d
  have hu := hr.units
  exact (evs_one (evs_ret (ev_callB r_len (by rfl) T.z_len bb_len (eva_cons (ev_fld T.f_Web_own_rows (ev_var 0)) eva_nil))))
set_option maxHeartbeats 4000000 in
theorem okG_law (T : Txt K mg base) (LM : Lms K mg base) {f : Addr} {fd : FuncData} (hm : mg "law" = some (.ref f)) (Fn : L2.Fun K "law" "law" s_law f fd) : FnG P w K mg base CX0 13 f fd P_law (spD0 ⟨K, mg⟩ P_law.length F_law) := by
  unfold F_law
  refine fnD_okC (k := 12) (b := b_law) finP_ok Fn sc_law ?_
  intro cdv A outer s H E hcf hr hgd
  have lamA := LM.l_law f cdv hm hcf
  have sc := sc_law
  have hu := hr.units
  exact (evs_cons (evs_set (i := 1) sc.nd rfl (Or.inl rfl) (ev_clo LM.r0 [false, false, false, false, false, false] (ev_new (ok_Web_init_d T (by decide)).at0 hr hgd (by rfl) (eva_cons (ev_tup (eva_cons (ev_tup (eva_cons ev_int (eva_cons ev_int eva_nil))) (eva_cons (ev_tup (eva_cons ev_int (eva_cons ev_int eva_nil))) (eva_cons (ev_tup (eva_cons ev_int (eva_cons ev_int eva_nil))) (eva_cons (ev_tup (eva_cons ev_int (eva_cons ev_int eva_nil))) eva_nil))))) eva_nil))))
      (evs_cons (evs_for PassesOwn.never rfl (evi_range1 (by rfl) T.z_range (eva_cons (ev_callB (r_max2 rfl) (by rfl) T.z_max bb_max (eva_cons ev_int (eva_cons (ev_callB (r_min2 rfl) (by rfl) T.z_min bb_min (eva_cons ev_int (eva_cons (ev_callB r_len (by rfl) T.z_len bb_len (eva_cons (ev_var 0) eva_nil)) eva_nil))) eva_nil))) eva_nil)) (evg_name (i := 2) sc.nd rfl (Or.inl rfl))
      (evs_cons (evs_set (i := 3) sc.nd rfl (Or.inl rfl) (ev_call (ok__law_dice T (by decide)) hr hgd (by rfl) (eva_cons (ev_var 0) (eva_cons (ev_var 2) eva_nil))))
      (evs_one (evs_for PassesOwn.never rfl (evi_range1 (by rfl) T.z_range (eva_cons ev_int eva_nil)) (evg_name (i := 4) sc.nd rfl (Or.inl rfl))
      (evs_one (evs_if (evw_or (evt_not (evt_val (ev_call (ok__law_rows_right T LM (by decide)) hr hgd (by rfl) (eva_cons (ev_var 3) eva_nil)))) (evw_or1 (evt_not (evt_val (ev_call (ok__law_right T LM (by decide)) hr hgd (by rfl) (eva_cons (ev_var 3) (eva_cons (ev_var 1) eva_nil))))))).pt (evs_one (evs_ret ev_bl)) evs_nil))))))
      (evs_cons (evs_set (i := 5) sc.nd rfl (Or.inl rfl) (ev_lstM (eva_cons (ev_clo LM.r0 [false, false, false, false, false, false] (ev_lamcall (k := 10) (okL__law_met T (by decide)) hr hgd (by rfl) lamA (LamX.lamS_by (sc := defScope s_law) (by decide +kernel)) rfl (fun _ _ _ _ _ => rfl) (fun A outer s H E f c hr hgd tkL => (ev_newX (ok_Web_init_d T (by decide)) hr hgd tkL (by rfl) (eva_cons (ev_bin r_mul (ev_tup (eva_cons (ev_tup (eva_cons ev_int eva_nil)) eva_nil)) ev_int) eva_nil))))) eva_nil)))
      (evs_cons (evs_expr (ev_lm PySem.F.slot_list_append PySem.F.type_list_append m_app (ev_var 5) (eva_cons (ev_clo LM.r0 [false, false, false, false, false, false] (ev_lamcall (k := 10) (okL__law_met T (by decide)) hr hgd (by rfl) lamA (LamX.lamS_by (sc := defScope s_law) (by decide +kernel)) rfl (fun _ _ _ _ _ => rfl) (fun A outer s H E f c hr hgd tkL => (ev_newX (ok_Web_init_d T (by decide)) hr hgd tkL (by rfl) (eva_cons (ev_bin r_mul (ev_tup (eva_cons (ev_tup eva_nil) eva_nil)) ev_int) eva_nil))))) eva_nil)))
      (evs_one (evs_ret (ev_cloL LM.r0 [0, 0, 0, 0, 0, 2] (ev_and (ev_cmp (r_eq hu) (ev_var 5) (ev_lst (eva_cons ev_str (eva_cons ev_str eva_nil))) (nomark _)) (ev_one (ev_cmp (r_eq hu) (ev_callB (r_lenO (ok_Web_len_d T (by decide)) hr hgd) (by rfl) T.z_len bb_len (eva_cons (ev_new (ok_Web_init_d T (by decide)).at0 hr hgd (by rfl) (eva_cons (ev_bin r_mul (ev_tup (eva_cons (ev_tup eva_nil) eva_nil)) ev_int) eva_nil)) eva_nil)) ev_int (nomark _)))))))))))
end
set_option maxHeartbeats 0 in
omit [Tbl] in
theorem all_mk {l : PySem.W.OpenLaw} {q : Program} {w : World} {K : PySem.W.Frag} {h : Heap} {mg : Str → Option Value} {fa : Addr} (X : K.In h) (G : h.Ns mainGlobals mg) (hfa : mg "law" = some (.ref fa))
    (TF : ∀ (y : Str) (e : DefRec) (c P : Addr), (recsOf q).find? (fun e => e.name == y) = some e → PySem.W.tabIn K y = some (c, P) → PySem.W.CodeHd h c P ∧ h.get? P = some { cls := .none, data := .fields #[] })
    {od0 an0 : Option Addr} {sl0 : Array (Option Value)} {oc0 kV0 dc0 pm0 cd0 ct0 : Value} {f0 : Addr}
    {od1 an1 : Option Addr} {sl1 : Array (Option Value)} {oc1 kV1 dc1 pm1 cd1 ct1 : Value} {f1 : Addr}
    {od2 an2 : Option Addr} {sl2 : Array (Option Value)} {oc2 kV2 dc2 pm2 cd2 ct2 : Value} {f2 : Addr}
    {od3 an3 : Option Addr} {sl3 : Array (Option Value)} {oc3 kV3 dc3 pm3 cd3 ct3 : Value} {f3 : Addr}
    {od4 an4 : Option Addr} {sl4 : Array (Option Value)} {oc4 kV4 dc4 pm4 cd4 ct4 : Value} {f4 : Addr}
    {od5 an5 : Option Addr} {sl5 : Array (Option Value)} {oc5 kV5 dc5 pm5 cd5 ct5 : Value} {f5 : Addr}
    {od6 an6 : Option Addr} {sl6 : Array (Option Value)} {oc6 kV6 dc6 pm6 cd6 ct6 : Value} {f6 : Addr}
    {od7 an7 : Option Addr} {sl7 : Array (Option Value)} {oc7 kV7 dc7 pm7 cd7 ct7 : Value} {f7 : Addr}
    {od8 an8 : Option Addr} {sl8 : Array (Option Value)} {oc8 kV8 dc8 pm8 cd8 ct8 : Value} {f8 : Addr}
    {od9 an9 : Option Addr} {sl9 : Array (Option Value)} {oc9 kV9 dc9 pm9 cd9 ct9 : Value} {f9 : Addr}
    {od10 an10 : Option Addr} {sl10 : Array (Option Value)} {oc10 kV10 dc10 pm10 cd10 ct10 : Value} {f10 : Addr}
    {od11 an11 : Option Addr} {sl11 : Array (Option Value)} {oc11 kV11 dc11 pm11 cd11 ct11 : Value} {f11 : Addr}
    {od12 an12 : Option Addr} {sl12 : Array (Option Value)} {oc12 kV12 dc12 pm12 cd12 ct12 : Value} {f12 : Addr}
    {od13 an13 : Option Addr} {sl13 : Array (Option Value)} {oc13 kV13 dc13 pm13 cd13 ct13 : Value} {f13 : Addr}
    {od14 an14 : Option Addr} {sl14 : Array (Option Value)} {oc14 kV14 dc14 pm14 cd14 ct14 : Value} {f14 : Addr}
    {od15 an15 : Option Addr} {sl15 : Array (Option Value)} {oc15 kV15 dc15 pm15 cd15 ct15 : Value} {f15 : Addr}
    {od16 an16 : Option Addr} {sl16 : Array (Option Value)} {oc16 kV16 dc16 pm16 cd16 ct16 : Value} {f16 : Addr}
    {od17 an17 : Option Addr} {sl17 : Array (Option Value)} {oc17 kV17 dc17 pm17 cd17 ct17 : Value} {f17 : Addr}
    {od18 an18 : Option Addr} {sl18 : Array (Option Value)} {oc18 kV18 dc18 pm18 cd18 ct18 : Value} {f18 : Addr}
    {od19 an19 : Option Addr} {sl19 : Array (Option Value)} {oc19 kV19 dc19 pm19 cd19 ct19 : Value} {f19 : Addr}
    {od20 an20 : Option Addr} {sl20 : Array (Option Value)} {oc20 kV20 dc20 pm20 cd20 ct20 : Value} {f20 : Addr}
    {od21 an21 : Option Addr} {sl21 : Array (Option Value)} {oc21 kV21 dc21 pm21 cd21 ct21 : Value} {f21 : Addr}
    {od22 an22 : Option Addr} {sl22 : Array (Option Value)} {oc22 kV22 dc22 pm22 cd22 ct22 : Value} {f22 : Addr}
    {od23 an23 : Option Addr} {sl23 : Array (Option Value)} {oc23 kV23 dc23 pm23 cd23 ct23 : Value} {f23 : Addr}
    {od24 an24 : Option Addr} {sl24 : Array (Option Value)} {oc24 kV24 dc24 pm24 cd24 ct24 : Value} {f24 : Addr}
    {od25 an25 : Option Addr} {sl25 : Array (Option Value)} {oc25 kV25 dc25 pm25 cd25 ct25 : Value} {f25 : Addr}
    {od26 an26 : Option Addr} {sl26 : Array (Option Value)} {oc26 kV26 dc26 pm26 cd26 ct26 : Value} {f26 : Addr}
    {C_Web : Addr}
    (aC_Web : PySem.W.nsIn K mainGlobals "Web" = some (some (.ref C_Web)))
    (pg_Web : PySem.W.plainGet K C_Web Str.empty = true)
    (hd_Web : PySem.W.hasDictIn K C_Web = true)
    (po_Web : PySem.W.plainOver K C_Web = true)
    (sa_Web : PySem.W.findIn K (.ref C_Web) "__setattr__" = some (some (.builtin "object.__setattr__")))
    (mk_Web : PySem.W.makesIn K C_Web = true)
    (kc_Web : PySem.W.keepIn K (.ref C_Web) = true)
    (nf_Web_own_columns : PySem.W.findIn K (.ref C_Web) "own_columns" = some none)
    (nf_Web_own_rows : PySem.W.findIn K (.ref C_Web) "own_rows" = some none)
    (a0 : PySem.W.nsIn K mainGlobals "is_integer" = some (some (.ref f0)))
    (l0 : K.lookup f0 = some ⟨oc0, od0, .func (PySem.W.fnOf "is_integer" "is_integer" (defArgs s_is_integer) (defBody s_is_integer) (defScope s_is_integer) .none kV0 dc0 pm0 an0 cd0 ct0), sl0⟩)
    (c0 : PySem.W.codeIn K cd0 "is_integer" = true)
    (k0 : PySem.W.keepIn K (.ref f0) = true)
    (a1 : PySem.W.nsIn K mainGlobals "is_count" = some (some (.ref f1)))
    (l1 : K.lookup f1 = some ⟨oc1, od1, .func (PySem.W.fnOf "is_count" "is_count" (defArgs s_is_count) (defBody s_is_count) (defScope s_is_count) .none kV1 dc1 pm1 an1 cd1 ct1), sl1⟩)
    (c1 : PySem.W.codeIn K cd1 "is_count" = true)
    (k1 : PySem.W.keepIn K (.ref f1) = true)
    (a2 : PySem.W.nsIn K mainGlobals "is_place" = some (some (.ref f2)))
    (l2 : K.lookup f2 = some ⟨oc2, od2, .func (PySem.W.fnOf "is_place" "is_place" (defArgs s_is_place) (defBody s_is_place) (defScope s_is_place) .none kV2 dc2 pm2 an2 cd2 ct2), sl2⟩)
    (c2 : PySem.W.codeIn K cd2 "is_place" = true)
    (k2 : PySem.W.keepIn K (.ref f2) = true)
    (a3 : PySem.W.nsIn K mainGlobals "is_row" = some (some (.ref f3)))
    (l3 : K.lookup f3 = some ⟨oc3, od3, .func (PySem.W.fnOf "is_row" "is_row" (defArgs s_is_row) (defBody s_is_row) (defScope s_is_row) .none kV3 dc3 pm3 an3 cd3 ct3), sl3⟩)
    (c3 : PySem.W.codeIn K cd3 "is_row" = true)
    (k3 : PySem.W.keepIn K (.ref f3) = true)
    (a4 : PySem.W.nsIn K mainGlobals "are_rows" = some (some (.ref f4)))
    (l4 : K.lookup f4 = some ⟨oc4, od4, .func (PySem.W.fnOf "are_rows" "are_rows" (defArgs s_are_rows) (defBody s_are_rows) (defScope s_are_rows) .none kV4 dc4 pm4 an4 cd4 ct4), sl4⟩)
    (c4 : PySem.W.codeIn K cd4 "are_rows" = true)
    (k4 : PySem.W.keepIn K (.ref f4) = true)
    (a5 : PySem.W.nsIn K mainGlobals "require_place" = some (some (.ref f5)))
    (l5 : K.lookup f5 = some ⟨oc5, od5, .func (PySem.W.fnOf "require_place" "require_place" (defArgs s_require_place) (defBody s_require_place) (defScope s_require_place) .none kV5 dc5 pm5 an5 cd5 ct5), sl5⟩)
    (c5 : PySem.W.codeIn K cd5 "require_place" = true)
    (k5 : PySem.W.keepIn K (.ref f5) = true)
    (a6 : PySem.W.nsIn K mainGlobals "columns_of" = some (some (.ref f6)))
    (l6 : K.lookup f6 = some ⟨oc6, od6, .func (PySem.W.fnOf "columns_of" "columns_of" (defArgs s_columns_of) (defBody s_columns_of) (defScope s_columns_of) .none kV6 dc6 pm6 an6 cd6 ct6), sl6⟩)
    (c6 : PySem.W.codeIn K cd6 "columns_of" = true)
    (k6 : PySem.W.keepIn K (.ref f6) = true)
    (a7 : PySem.W.nsIn K mainGlobals "is_order" = some (some (.ref f7)))
    (l7 : K.lookup f7 = some ⟨oc7, od7, .func (PySem.W.fnOf "is_order" "is_order" (defArgs s_is_order) (defBody s_is_order) (defScope s_is_order) .none kV7 dc7 pm7 an7 cd7 ct7), sl7⟩)
    (c7 : PySem.W.codeIn K cd7 "is_order" = true)
    (k7 : PySem.W.keepIn K (.ref f7) = true)
    (a8 : PySem.W.findIn K (.ref C_Web) "__init__" = some (some (.ref f8)))
    (i8 : PySem.W.isFn K (.ref f8) = true)
    (l8 : K.lookup f8 = some ⟨oc8, od8, .func (PySem.W.fnOf "__init__" "Web.__init__" (defArgs s_Web_init_d) (defBody s_Web_init_d) (defScope s_Web_init_d) .none kV8 dc8 pm8 an8 cd8 ct8), sl8⟩)
    (c8 : PySem.W.codeIn K cd8 "Web.__init__" = true)
    (k8 : PySem.W.keepIn K (.ref f8) = true)
    (a9 : PySem.W.findIn K (.ref C_Web) "renamed" = some (some (.ref f9)))
    (i9 : PySem.W.isFn K (.ref f9) = true)
    (l9 : K.lookup f9 = some ⟨oc9, od9, .func (PySem.W.fnOf "renamed" "Web.renamed" (defArgs s_Web_renamed) (defBody s_Web_renamed) (defScope s_Web_renamed) .none kV9 dc9 pm9 an9 cd9 ct9), sl9⟩)
    (c9 : PySem.W.codeIn K cd9 "Web.renamed" = true)
    (k9 : PySem.W.keepIn K (.ref f9) = true)
    (a10 : PySem.W.findIn K (.ref C_Web) "with_tie" = some (some (.ref f10)))
    (i10 : PySem.W.isFn K (.ref f10) = true)
    (l10 : K.lookup f10 = some ⟨oc10, od10, .func (PySem.W.fnOf "with_tie" "Web.with_tie" (defArgs s_Web_with_tie) (defBody s_Web_with_tie) (defScope s_Web_with_tie) .none kV10 dc10 pm10 an10 cd10 ct10), sl10⟩)
    (c10 : PySem.W.codeIn K cd10 "Web.with_tie" = true)
    (k10 : PySem.W.keepIn K (.ref f10) = true)
    (a11 : PySem.W.findIn K (.ref C_Web) "without_tie" = some (some (.ref f11)))
    (i11 : PySem.W.isFn K (.ref f11) = true)
    (l11 : K.lookup f11 = some ⟨oc11, od11, .func (PySem.W.fnOf "without_tie" "Web.without_tie" (defArgs s_Web_without_tie) (defBody s_Web_without_tie) (defScope s_Web_without_tie) .none kV11 dc11 pm11 an11 cd11 ct11), sl11⟩)
    (c11 : PySem.W.codeIn K cd11 "Web.without_tie" = true)
    (k11 : PySem.W.keepIn K (.ref f11) = true)
    (a12 : PySem.W.findIn K (.ref C_Web) "with_row" = some (some (.ref f12)))
    (i12 : PySem.W.isFn K (.ref f12) = true)
    (l12 : K.lookup f12 = some ⟨oc12, od12, .func (PySem.W.fnOf "with_row" "Web.with_row" (defArgs s_Web_with_row) (defBody s_Web_with_row) (defScope s_Web_with_row) .none kV12 dc12 pm12 an12 cd12 ct12), sl12⟩)
    (c12 : PySem.W.codeIn K cd12 "Web.with_row" = true)
    (k12 : PySem.W.keepIn K (.ref f12) = true)
    (a13 : PySem.W.findIn K (.ref C_Web) "exchanged" = some (some (.ref f13)))
    (i13 : PySem.W.isFn K (.ref f13) = true)
    (l13 : K.lookup f13 = some ⟨oc13, od13, .func (PySem.W.fnOf "exchanged" "Web.exchanged" (defArgs s_Web_exchanged) (defBody s_Web_exchanged) (defScope s_Web_exchanged) .none kV13 dc13 pm13 an13 cd13 ct13), sl13⟩)
    (c13 : PySem.W.codeIn K cd13 "Web.exchanged" = true)
    (k13 : PySem.W.keepIn K (.ref f13) = true)
    (a14 : PySem.W.findIn K (.ref C_Web) "part" = some (some (.ref f14)))
    (i14 : PySem.W.isFn K (.ref f14) = true)
    (l14 : K.lookup f14 = some ⟨oc14, od14, .func (PySem.W.fnOf "part" "Web.part" (defArgs s_Web_part) (defBody s_Web_part) (defScope s_Web_part) .none kV14 dc14 pm14 an14 cd14 ct14), sl14⟩)
    (c14 : PySem.W.codeIn K cd14 "Web.part" = true)
    (k14 : PySem.W.keepIn K (.ref f14) = true)
    (a15 : PySem.W.findIn K (.ref C_Web) "__getitem__" = some (some (.ref f15)))
    (i15 : PySem.W.isFn K (.ref f15) = true)
    (l15 : K.lookup f15 = some ⟨oc15, od15, .func (PySem.W.fnOf "__getitem__" "Web.__getitem__" (defArgs s_Web_getitem_d) (defBody s_Web_getitem_d) (defScope s_Web_getitem_d) .none kV15 dc15 pm15 an15 cd15 ct15), sl15⟩)
    (c15 : PySem.W.codeIn K cd15 "Web.__getitem__" = true)
    (k15 : PySem.W.keepIn K (.ref f15) = true)
    (a16 : PySem.W.findIn K (.ref C_Web) "__contains__" = some (some (.ref f16)))
    (i16 : PySem.W.isFn K (.ref f16) = true)
    (l16 : K.lookup f16 = some ⟨oc16, od16, .func (PySem.W.fnOf "__contains__" "Web.__contains__" (defArgs s_Web_contains_d) (defBody s_Web_contains_d) (defScope s_Web_contains_d) .none kV16 dc16 pm16 an16 cd16 ct16), sl16⟩)
    (c16 : PySem.W.codeIn K cd16 "Web.__contains__" = true)
    (k16 : PySem.W.keepIn K (.ref f16) = true)
    (a17 : PySem.W.findIn K (.ref C_Web) "__len__" = some (some (.ref f17)))
    (i17 : PySem.W.isFn K (.ref f17) = true)
    (l17 : K.lookup f17 = some ⟨oc17, od17, .func (PySem.W.fnOf "__len__" "Web.__len__" (defArgs s_Web_len_d) (defBody s_Web_len_d) (defScope s_Web_len_d) .none kV17 dc17 pm17 an17 cd17 ct17), sl17⟩)
    (c17 : PySem.W.codeIn K cd17 "Web.__len__" = true)
    (k17 : PySem.W.keepIn K (.ref f17) = true)
    (a18 : PySem.W.nsIn K mainGlobals "_law_dice" = some (some (.ref f18)))
    (l18 : K.lookup f18 = some ⟨oc18, od18, .func (PySem.W.fnOf "_law_dice" "_law_dice" (defArgs s__law_dice) (defBody s__law_dice) (defScope s__law_dice) .none kV18 dc18 pm18 an18 cd18 ct18), sl18⟩)
    (c18 : PySem.W.codeIn K cd18 "_law_dice" = true)
    (k18 : PySem.W.keepIn K (.ref f18) = true)
    (a19 : PySem.W.nsIn K mainGlobals "_law_roll" = some (some (.ref f19)))
    (l19 : K.lookup f19 = some ⟨oc19, od19, .func (PySem.W.fnOf "_law_roll" "_law_roll" (defArgs s__law_roll) (defBody s__law_roll) (defScope s__law_roll) .none kV19 dc19 pm19 an19 cd19 ct19), sl19⟩)
    (c19 : PySem.W.codeIn K cd19 "_law_roll" = true)
    (k19 : PySem.W.keepIn K (.ref f19) = true)
    (a20 : PySem.W.nsIn K mainGlobals "_law_pick" = some (some (.ref f20)))
    (l20 : K.lookup f20 = some ⟨oc20, od20, .func (PySem.W.fnOf "_law_pick" "_law_pick" (defArgs s__law_pick) (defBody s__law_pick) (defScope s__law_pick) .none kV20 dc20 pm20 an20 cd20 ct20), sl20⟩)
    (c20 : PySem.W.codeIn K cd20 "_law_pick" = true)
    (k20 : PySem.W.keepIn K (.ref f20) = true)
    (a21 : PySem.W.nsIn K mainGlobals "_law_met" = some (some (.ref f21)))
    (l21 : K.lookup f21 = some ⟨oc21, od21, .func (PySem.W.fnOf "_law_met" "_law_met" (defArgs s__law_met) (defBody s__law_met) (defScope s__law_met) .none kV21 dc21 pm21 an21 cd21 ct21), sl21⟩)
    (c21 : PySem.W.codeIn K cd21 "_law_met" = true)
    (k21 : PySem.W.keepIn K (.ref f21) = true)
    (a22 : PySem.W.nsIn K mainGlobals "_law_first" = some (some (.ref f22)))
    (l22 : K.lookup f22 = some ⟨oc22, od22, .func (PySem.W.fnOf "_law_first" "_law_first" (defArgs s__law_first) (defBody s__law_first) (defScope s__law_first) .none kV22 dc22 pm22 an22 cd22 ct22), sl22⟩)
    (c22 : PySem.W.codeIn K cd22 "_law_first" = true)
    (k22 : PySem.W.keepIn K (.ref f22) = true)
    (a23 : PySem.W.nsIn K mainGlobals "_law_place_word" = some (some (.ref f23)))
    (l23 : K.lookup f23 = some ⟨oc23, od23, .func (PySem.W.fnOf "_law_place_word" "_law_place_word" (defArgs s__law_place_word) (defBody s__law_place_word) (defScope s__law_place_word) .none kV23 dc23 pm23 an23 cd23 ct23), sl23⟩)
    (c23 : PySem.W.codeIn K cd23 "_law_place_word" = true)
    (k23 : PySem.W.keepIn K (.ref f23) = true)
    (a24 : PySem.W.nsIn K mainGlobals "_law_rows_right" = some (some (.ref f24)))
    (l24 : K.lookup f24 = some ⟨oc24, od24, .func (PySem.W.fnOf "_law_rows_right" "_law_rows_right" (defArgs s__law_rows_right) (defBody s__law_rows_right) (defScope s__law_rows_right) .none kV24 dc24 pm24 an24 cd24 ct24), sl24⟩)
    (c24 : PySem.W.codeIn K cd24 "_law_rows_right" = true)
    (k24 : PySem.W.keepIn K (.ref f24) = true)
    (a25 : PySem.W.nsIn K mainGlobals "_law_right" = some (some (.ref f25)))
    (l25 : K.lookup f25 = some ⟨oc25, od25, .func (PySem.W.fnOf "_law_right" "_law_right" (defArgs s__law_right) (defBody s__law_right) (defScope s__law_right) .none kV25 dc25 pm25 an25 cd25 ct25), sl25⟩)
    (c25 : PySem.W.codeIn K cd25 "_law_right" = true)
    (k25 : PySem.W.keepIn K (.ref f25) = true)
    (a26 : PySem.W.nsIn K mainGlobals "law" = some (some (.ref f26)))
    (l26 : K.lookup f26 = some ⟨oc26, od26, .func (PySem.W.fnOf "law" "law" (defArgs s_law) (defBody s_law) (defScope s_law) .none kV26 dc26 pm26 an26 cd26 ct26), sl26⟩)
    (c26 : PySem.W.codeIn K cd26 "law" = true)
    (k26 : PySem.W.keepIn K (.ref f26) = true)
    {C_InvalidNumber : Addr}
    (aC_InvalidNumber : PySem.W.nsIn K mainGlobals "InvalidNumber" = some (some (.ref C_InvalidNumber)))
    (kc_InvalidNumber : PySem.W.keepIn K (.ref C_InvalidNumber) = true)
    (tyC_InvalidNumber : PySem.W.typeIn K (.ref C_InvalidNumber) = some (.type "type"))
    (exC_InvalidNumber : PySem.W.subIn K (.ref C_InvalidNumber) (.type "BaseException") = some true)
    (ga_InvalidNumber : PySem.W.findIn K (.ref C_InvalidNumber) "__getattribute__" = some (some (.builtin "BaseException.__getattribute__")))
    (gg_InvalidNumber : PySem.W.findIn K (.ref C_InvalidNumber) "__getattr__" = some none)
    (hd_InvalidNumber : PySem.W.hasDictIn K C_InvalidNumber = true)
    (no_InvalidNumber : PySem.W.findIn K (.ref C_InvalidNumber) "value" = some none)
    {fI_InvalidNumber : Addr} {oc_InvalidNumber doc_InvalidNumber pm_InvalidNumber cdv_InvalidNumber ct_InvalidNumber : Value} {od_InvalidNumber an_InvalidNumber : Option Addr} {osl_InvalidNumber : Array (Option Value)} {p1_InvalidNumber p2_InvalidNumber q1_InvalidNumber q2_InvalidNumber q3_InvalidNumber q4_InvalidNumber : Pos}
    (ini_InvalidNumber : PySem.W.excInitIn K C_InvalidNumber Er.bIndex.bm Er.bIndex.nw = true)
    (ovr_InvalidNumber : PySem.W.excOver K C_InvalidNumber Er.bIndex.bm = true)
    (sa_InvalidNumber : PySem.W.findIn K (.ref C_InvalidNumber) "__setattr__" = some (some (.builtin "object.__setattr__")))
    (iC_InvalidNumber : PySem.W.findIn K (.ref C_InvalidNumber) "__init__" = some (some (.ref fI_InvalidNumber)))
    (tC_InvalidNumber : PySem.W.typeIn K (.ref fI_InvalidNumber) = some (.type "function"))
    (lI_InvalidNumber : K.lookup fI_InvalidNumber = some ⟨oc_InvalidNumber, od_InvalidNumber, .func (PySem.W.fnOf "__init__" "InvalidNumber.__init__" (Er.iA "value" p1_InvalidNumber p2_InvalidNumber) (Er.iB "value" q1_InvalidNumber q2_InvalidNumber q3_InvalidNumber q4_InvalidNumber) (Er.iS "value") .none .none doc_InvalidNumber pm_InvalidNumber an_InvalidNumber cdv_InvalidNumber ct_InvalidNumber), osl_InvalidNumber⟩)
    (cI_InvalidNumber : PySem.W.codeIn K cdv_InvalidNumber "InvalidNumber.__init__" = true)
    {C_InvalidOperation : Addr}
    (aC_InvalidOperation : PySem.W.nsIn K mainGlobals "InvalidOperation" = some (some (.ref C_InvalidOperation)))
    (kc_InvalidOperation : PySem.W.keepIn K (.ref C_InvalidOperation) = true)
    (tyC_InvalidOperation : PySem.W.typeIn K (.ref C_InvalidOperation) = some (.type "type"))
    (exC_InvalidOperation : PySem.W.subIn K (.ref C_InvalidOperation) (.type "BaseException") = some true)
    (xc_InvalidOperation : PySem.W.excIn K C_InvalidOperation Er.bValue.bm Er.bValue.nw = true)
    {C_InvalidWeb : Addr}
    (aC_InvalidWeb : PySem.W.nsIn K mainGlobals "InvalidWeb" = some (some (.ref C_InvalidWeb)))
    (kc_InvalidWeb : PySem.W.keepIn K (.ref C_InvalidWeb) = true)
    (tyC_InvalidWeb : PySem.W.typeIn K (.ref C_InvalidWeb) = some (.type "type"))
    (exC_InvalidWeb : PySem.W.subIn K (.ref C_InvalidWeb) (.type "BaseException") = some true)
    (xc_InvalidWeb : PySem.W.excIn K C_InvalidWeb Er.bValue.bm Er.bValue.nw = true)
    (xm_InvalidNumber_InvalidNumber : PySem.W.exmOne K (.ref C_InvalidNumber) (.ref C_InvalidNumber) = some true)
    (xm_InvalidOperation_InvalidNumber : PySem.W.exmOne K (.ref C_InvalidOperation) (.ref C_InvalidNumber) = some false)
    (xm_InvalidWeb_InvalidNumber : PySem.W.exmOne K (.ref C_InvalidWeb) (.ref C_InvalidNumber) = some false)
    (xm_InvalidNumber_InvalidOperation : PySem.W.exmOne K (.ref C_InvalidNumber) (.ref C_InvalidOperation) = some false)
    (xm_InvalidOperation_InvalidOperation : PySem.W.exmOne K (.ref C_InvalidOperation) (.ref C_InvalidOperation) = some true)
    (xm_InvalidWeb_InvalidOperation : PySem.W.exmOne K (.ref C_InvalidWeb) (.ref C_InvalidOperation) = some false)
    (xm_InvalidNumber_InvalidWeb : PySem.W.exmOne K (.ref C_InvalidNumber) (.ref C_InvalidWeb) = some false)
    (xm_InvalidOperation_InvalidWeb : PySem.W.exmOne K (.ref C_InvalidOperation) (.ref C_InvalidWeb) = some false)
    (xm_InvalidWeb_InvalidWeb : PySem.W.exmOne K (.ref C_InvalidWeb) (.ref C_InvalidWeb) = some true)
    {cL__law_rows_right pL__law_rows_right : Addr} {eL__law_rows_right : DefRec}
    (ti__law_rows_right : PySem.W.tabIn K "_law_rows_right" = some (cL__law_rows_right, pL__law_rows_right))
    (rc__law_rows_right : (recsOf q).find? (fun e => e.name == ("_law_rows_right" : Str)) = some eL__law_rows_right)
    (nk__law_rows_right : K.lookup pL__law_rows_right = none)
    {cL__law_right pL__law_right : Addr} {eL__law_right : DefRec}
    (ti__law_right : PySem.W.tabIn K "_law_right" = some (cL__law_right, pL__law_right))
    (rc__law_right : (recsOf q).find? (fun e => e.name == ("_law_right" : Str)) = some eL__law_right)
    (nk__law_right : K.lookup pL__law_right = none)
    {cL_law pL_law : Addr} {eL_law : DefRec}
    (ti_law : PySem.W.tabIn K "law" = some (cL_law, pL_law))
    (rc_law : (recsOf q).find? (fun e => e.name == ("law" : Str)) = some eL_law)
    (nk_law : K.lookup pL_law = none)
    (nd__law_right__law_rows_right : pL__law_right ≠ pL__law_rows_right)
    (nd_law__law_rows_right : pL_law ≠ pL__law_rows_right)
    (nd_law__law_right : pL_law ≠ pL__law_right)
    (z_abs : PySem.W.nsIn K mainGlobals "abs" = some none)
    (z_all : PySem.W.nsIn K mainGlobals "all" = some none)
    (z_bool : PySem.W.nsIn K mainGlobals "bool" = some none)
    (z_enumerate : PySem.W.nsIn K mainGlobals "enumerate" = some none)
    (z_int : PySem.W.nsIn K mainGlobals "int" = some none)
    (z_isinstance : PySem.W.nsIn K mainGlobals "isinstance" = some none)
    (z_len : PySem.W.nsIn K mainGlobals "len" = some none)
    (z_max : PySem.W.nsIn K mainGlobals "max" = some none)
    (z_min : PySem.W.nsIn K mainGlobals "min" = some none)
    (z_range : PySem.W.nsIn K mainGlobals "range" = some none)
    (z_repr : PySem.W.nsIn K mainGlobals "repr" = some none)
    (z_sorted : PySem.W.nsIn K mainGlobals "sorted" = some none)
    (z_tuple : PySem.W.nsIn K mainGlobals "tuple" = some none)
    (z_zip : PySem.W.nsIn K mainGlobals "zip" = some none)
    {tk_LIMIT : Tok}
    (g_LIMIT : PySem.W.nsIn K mainGlobals "LIMIT" = some (some (.int c_LIMIT tk_LIMIT)))
    {tk_MAX_PLACES : Tok}
    (g_MAX_PLACES : PySem.W.nsIn K mainGlobals "MAX_PLACES" = some (some (.int c_MAX_PLACES tk_MAX_PLACES)))
    : ∃ (tbl : Tbl) (cs : List (Addr × Addr)) (fd : FuncData), Tbl.F = (fun _ => none) ∧ Tbl.r = [] ∧ Tbl.C = [] ∧ TabsAt K h cs ∧ TblIn cs ∧ (∀ (s : Shared) (u : Value), BindsTo s fd ⟨[u], []⟩ [("script", u)]) ∧ ∀ base : Heap, K.In base → base.Ns mainGlobals mg → SysB base → (∀ p, p ∈ cs → LamX.TabB base mg p.1 p.2) → FnG l.prog w K mg base CX0 13 fa fd ["script"] (spD0 ⟨K, mg⟩ 1 F_law) := by
  have e := hfa.symm.trans (PySem.W.mg_of X G a26)
  cases e
  letI tbl : Tbl := ⟨[(pL__law_rows_right, ("_law_rows_right" : Str) ++ ".<locals>." ++ "<lambda>"), (pL__law_right, ("_law_right" : Str) ++ ".<locals>." ++ "<lambda>"), (pL_law, ("law" : Str) ++ ".<locals>." ++ "<lambda>")], fun _ => none, [], 0, 0, []⟩
  have ta : TabsAt K h [(cL__law_rows_right, pL__law_rows_right), (cL__law_right, pL__law_right), (cL_law, pL_law)] := ⟨fun p hp => (by
    simp only [List.mem_cons, List.not_mem_nil, or_false] at hp
    rcases hp with rfl | rfl | rfl
    · exact (TF _ _ _ _ rc__law_rows_right ti__law_rows_right).2
    · exact (TF _ _ _ _ rc__law_right ti__law_right).2
    · exact (TF _ _ _ _ rc_law ti_law).2), fun p hp => (by
    simp only [List.mem_cons, List.not_mem_nil, or_false] at hp
    rcases hp with rfl | rfl | rfl
    · exact nk__law_rows_right
    · exact nk__law_right
    · exact nk_law), fun p hp => (by
    simp only [List.mem_cons, List.not_mem_nil, or_false] at hp
    rcases hp with rfl | rfl | rfl
    · exact (TF _ _ _ _ rc__law_rows_right ti__law_rows_right).1
    · exact (TF _ _ _ _ rc__law_right ti__law_right).1
    · exact (TF _ _ _ _ rc_law ti_law).1)⟩
  have tin : TblIn [(cL__law_rows_right, pL__law_rows_right), (cL__law_right, pL__law_right), (cL_law, pL_law)] := fun p hp => (by
    have hp : p ∈ [(pL__law_rows_right, ("_law_rows_right" : Str) ++ ".<locals>." ++ "<lambda>"), (pL__law_right, ("_law_right" : Str) ++ ".<locals>." ++ "<lambda>"), (pL_law, ("law" : Str) ++ ".<locals>." ++ "<lambda>")] := hp
    simp only [List.mem_cons, List.not_mem_nil, or_false] at hp
    rcases hp with rfl | rfl | rfl
    · exact (by simp)
    · exact (by simp)
    · exact (by simp))
  refine ⟨tbl, [(cL__law_rows_right, pL__law_rows_right), (cL__law_right, pL__law_right), (cL_law, pL_law)], _, rfl, rfl, rfl, ta, tin, fun s v => BindsTo.of_eq (fd := PySem.W.fnOf "law" "law" (defArgs s_law) (defBody s_law) (defScope s_law) .none kV26 dc26 pm26 an26 cd26 ct26) rfl, fun base _ _ SB TB => ?_⟩
  have T : Txt K mg base := {
    z_abs := PySem.W.mg_none_of X G z_abs
    z_all := PySem.W.mg_none_of X G z_all
    z_bool := PySem.W.mg_none_of X G z_bool
    z_enumerate := PySem.W.mg_none_of X G z_enumerate
    z_int := PySem.W.mg_none_of X G z_int
    z_isinstance := PySem.W.mg_none_of X G z_isinstance
    z_len := PySem.W.mg_none_of X G z_len
    z_max := PySem.W.mg_none_of X G z_max
    z_min := PySem.W.mg_none_of X G z_min
    z_range := PySem.W.mg_none_of X G z_range
    z_repr := PySem.W.mg_none_of X G z_repr
    z_sorted := PySem.W.mg_none_of X G z_sorted
    z_tuple := PySem.W.mg_none_of X G z_tuple
    z_zip := PySem.W.mg_none_of X G z_zip
    c_LIMIT := ⟨_, PySem.W.mg_of X G g_LIMIT⟩
    c_MAX_PLACES := ⟨_, PySem.W.mg_of X G g_MAX_PLACES⟩
    sys := SB
    ev_InvalidNumber := ⟨Er.bIndex, C_InvalidNumber, fI_InvalidNumber, ⟨Er.okIndex, by decide, fun _ _ _ _ _ _ _ _ _ _ _ _ _ _ => rfl, by decide, PySem.W.mg_of X G aC_InvalidNumber, ini_InvalidNumber, ovr_InvalidNumber, sa_InvalidNumber, ga_InvalidNumber, gg_InvalidNumber, no_InvalidNumber, iC_InvalidNumber, tC_InvalidNumber, kc_InvalidNumber, exC_InvalidNumber, tyC_InvalidNumber, hd_InvalidNumber, ⟨_, _, _, _, _, _, _, _, _, _, _, _, _, _, _, lI_InvalidNumber, cI_InvalidNumber⟩⟩⟩
    em_InvalidOperation := ⟨Er.bValue, C_InvalidOperation, Er.okValue.F, xc_InvalidOperation, PySem.W.mg_of X G aC_InvalidOperation, kc_InvalidOperation, exC_InvalidOperation, tyC_InvalidOperation⟩
    em_InvalidWeb := ⟨Er.bValue, C_InvalidWeb, Er.okValue.F, xc_InvalidWeb, PySem.W.mg_of X G aC_InvalidWeb, kc_InvalidWeb, exC_InvalidWeb, tyC_InvalidWeb⟩
    xf_InvalidNumber_value := ⟨C_InvalidNumber, PySem.W.mg_of X G aC_InvalidNumber, ⟨ga_InvalidNumber, gg_InvalidNumber, exC_InvalidNumber, hd_InvalidNumber⟩, no_InvalidNumber⟩
    cl_InvalidNumber := ⟨C_InvalidNumber, PySem.W.mg_of X G aC_InvalidNumber, msOk_cons (PySem.W.mg_of X G aC_InvalidNumber) xm_InvalidNumber_InvalidNumber (msOk_cons (PySem.W.mg_of X G aC_InvalidOperation) xm_InvalidOperation_InvalidNumber (msOk_cons (PySem.W.mg_of X G aC_InvalidWeb) xm_InvalidWeb_InvalidNumber (msOk_nil)))⟩
    cl_InvalidOperation := ⟨C_InvalidOperation, PySem.W.mg_of X G aC_InvalidOperation, msOk_cons (PySem.W.mg_of X G aC_InvalidNumber) xm_InvalidNumber_InvalidOperation (msOk_cons (PySem.W.mg_of X G aC_InvalidOperation) xm_InvalidOperation_InvalidOperation (msOk_cons (PySem.W.mg_of X G aC_InvalidWeb) xm_InvalidWeb_InvalidOperation (msOk_nil)))⟩
    cl_InvalidWeb := ⟨C_InvalidWeb, PySem.W.mg_of X G aC_InvalidWeb, msOk_cons (PySem.W.mg_of X G aC_InvalidNumber) xm_InvalidNumber_InvalidWeb (msOk_cons (PySem.W.mg_of X G aC_InvalidOperation) xm_InvalidOperation_InvalidWeb (msOk_cons (PySem.W.mg_of X G aC_InvalidWeb) xm_InvalidWeb_InvalidWeb (msOk_nil)))⟩
    f_Web_own_columns := ⟨_, PySem.W.mg_of X G aC_Web, ⟨pg_Web, hd_Web, po_Web, sa_Web⟩, nf_Web_own_columns⟩
    f_Web_own_rows := ⟨_, PySem.W.mg_of X G aC_Web, ⟨pg_Web, hd_Web, po_Web, sa_Web⟩, nf_Web_own_rows⟩
    d_is_integer := ⟨_, _, fun_mk (st := s_is_integer) l0 c0 k0, PySem.W.mg_of X G a0, (fun_mk (st := s_is_integer) l0 c0 k0).binds (ps := P_is_integer) fun _ _ _ _ _ _ us hl => match us, hl with | [_], _ => rfl⟩
    d_is_count := ⟨_, _, fun_mk (st := s_is_count) l1 c1 k1, PySem.W.mg_of X G a1, (fun_mk (st := s_is_count) l1 c1 k1).binds (ps := P_is_count) fun _ _ _ _ _ _ us hl => match us, hl with | [_], _ => rfl⟩
    d_is_place := ⟨_, _, fun_mk (st := s_is_place) l2 c2 k2, PySem.W.mg_of X G a2, (fun_mk (st := s_is_place) l2 c2 k2).binds (ps := P_is_place) fun _ _ _ _ _ _ us hl => match us, hl with | [_, _], _ => rfl⟩
    d_is_row := ⟨_, _, fun_mk (st := s_is_row) l3 c3 k3, PySem.W.mg_of X G a3, (fun_mk (st := s_is_row) l3 c3 k3).binds (ps := P_is_row) fun _ _ _ _ _ _ us hl => match us, hl with | [_, _], _ => rfl⟩
    d_are_rows := ⟨_, _, fun_mk (st := s_are_rows) l4 c4 k4, PySem.W.mg_of X G a4, (fun_mk (st := s_are_rows) l4 c4 k4).binds (ps := P_are_rows) fun _ _ _ _ _ _ us hl => match us, hl with | [_], _ => rfl⟩
    d_require_place := ⟨_, _, fun_mk (st := s_require_place) l5 c5 k5, PySem.W.mg_of X G a5, (fun_mk (st := s_require_place) l5 c5 k5).binds (ps := P_require_place) fun _ _ _ _ _ _ us hl => match us, hl with | [_, _], _ => rfl⟩
    d_columns_of := ⟨_, _, fun_mk (st := s_columns_of) l6 c6 k6, PySem.W.mg_of X G a6, (fun_mk (st := s_columns_of) l6 c6 k6).binds (ps := P_columns_of) fun _ _ _ _ _ _ us hl => match us, hl with | [_], _ => rfl⟩
    d_is_order := ⟨_, _, fun_mk (st := s_is_order) l7 c7 k7, PySem.W.mg_of X G a7, (fun_mk (st := s_is_order) l7 c7 k7).binds (ps := P_is_order) fun _ _ _ _ _ _ us hl => match us, hl with | [_, _], _ => rfl⟩
    d_Web_init_d := ⟨_, _, _, PySem.W.mg_of X G aC_Web, ⟨mk_Web, a8, i8, kc_Web⟩, fun_mk (st := s_Web_init_d) l8 c8 k8, (fun_mk (st := s_Web_init_d) l8 c8 k8).binds (ps := P_Web_init_d) fun _ _ _ _ _ _ us hl => match us, hl with | [_, _], _ => rfl⟩
    d_Web_renamed := ⟨_, _, _, PySem.W.mg_of X G aC_Web, ⟨pg_Web, hd_Web, po_Web, sa_Web⟩, ⟨a9, i9, k9⟩, by unfold PySem.W.fnIn; rw [l9], fun_mk (st := s_Web_renamed) l9 c9 k9, (fun_mk (st := s_Web_renamed) l9 c9 k9).binds (ps := P_Web_renamed) fun _ _ _ _ _ _ us hl => match us, hl with | [_, _], _ => rfl⟩
    d_Web_with_tie := ⟨_, _, _, PySem.W.mg_of X G aC_Web, ⟨pg_Web, hd_Web, po_Web, sa_Web⟩, ⟨a10, i10, k10⟩, by unfold PySem.W.fnIn; rw [l10], fun_mk (st := s_Web_with_tie) l10 c10 k10, (fun_mk (st := s_Web_with_tie) l10 c10 k10).binds (ps := P_Web_with_tie) fun _ _ _ _ _ _ us hl => match us, hl with | [_, _, _], _ => rfl⟩
    d_Web_without_tie := ⟨_, _, _, PySem.W.mg_of X G aC_Web, ⟨pg_Web, hd_Web, po_Web, sa_Web⟩, ⟨a11, i11, k11⟩, by unfold PySem.W.fnIn; rw [l11], fun_mk (st := s_Web_without_tie) l11 c11 k11, (fun_mk (st := s_Web_without_tie) l11 c11 k11).binds (ps := P_Web_without_tie) fun _ _ _ _ _ _ us hl => match us, hl with | [_, _, _], _ => rfl⟩
    d_Web_with_row := ⟨_, _, _, PySem.W.mg_of X G aC_Web, ⟨pg_Web, hd_Web, po_Web, sa_Web⟩, ⟨a12, i12, k12⟩, by unfold PySem.W.fnIn; rw [l12], fun_mk (st := s_Web_with_row) l12 c12 k12, (fun_mk (st := s_Web_with_row) l12 c12 k12).binds (ps := P_Web_with_row) fun _ _ _ _ _ _ us hl => match us, hl with | [_, _, _], _ => rfl⟩
    d_Web_exchanged := ⟨_, _, _, PySem.W.mg_of X G aC_Web, ⟨pg_Web, hd_Web, po_Web, sa_Web⟩, ⟨a13, i13, k13⟩, by unfold PySem.W.fnIn; rw [l13], fun_mk (st := s_Web_exchanged) l13 c13 k13, (fun_mk (st := s_Web_exchanged) l13 c13 k13).binds (ps := P_Web_exchanged) fun _ _ _ _ _ _ us hl => match us, hl with | [_, _, _], _ => rfl⟩
    d_Web_part := ⟨_, _, _, PySem.W.mg_of X G aC_Web, ⟨pg_Web, hd_Web, po_Web, sa_Web⟩, ⟨a14, i14, k14⟩, by unfold PySem.W.fnIn; rw [l14], fun_mk (st := s_Web_part) l14 c14 k14, (fun_mk (st := s_Web_part) l14 c14 k14).binds (ps := P_Web_part) fun _ _ _ _ _ _ us hl => match us, hl with | [_, _], _ => rfl⟩
    d_Web_getitem_d := ⟨_, _, _, PySem.W.mg_of X G aC_Web, ⟨pg_Web, hd_Web, po_Web, sa_Web⟩, ⟨a15, i15, k15⟩, by unfold PySem.W.fnIn; rw [l15], fun_mk (st := s_Web_getitem_d) l15 c15 k15, (fun_mk (st := s_Web_getitem_d) l15 c15 k15).binds (ps := P_Web_getitem_d) fun _ _ _ _ _ _ us hl => match us, hl with | [_, _], _ => rfl⟩
    d_Web_contains_d := ⟨_, _, _, PySem.W.mg_of X G aC_Web, ⟨pg_Web, hd_Web, po_Web, sa_Web⟩, ⟨a16, i16, k16⟩, by unfold PySem.W.fnIn; rw [l16], fun_mk (st := s_Web_contains_d) l16 c16 k16, (fun_mk (st := s_Web_contains_d) l16 c16 k16).binds (ps := P_Web_contains_d) fun _ _ _ _ _ _ us hl => match us, hl with | [_, _], _ => rfl⟩
    d_Web_len_d := ⟨_, _, _, PySem.W.mg_of X G aC_Web, ⟨pg_Web, hd_Web, po_Web, sa_Web⟩, ⟨a17, i17, k17⟩, by unfold PySem.W.fnIn; rw [l17], fun_mk (st := s_Web_len_d) l17 c17 k17, (fun_mk (st := s_Web_len_d) l17 c17 k17).binds (ps := P_Web_len_d) fun _ _ _ _ _ _ us hl => match us, hl with | [_], _ => rfl⟩
    d__law_dice := ⟨_, _, fun_mk (st := s__law_dice) l18 c18 k18, PySem.W.mg_of X G a18, (fun_mk (st := s__law_dice) l18 c18 k18).binds (ps := P__law_dice) fun _ _ _ _ _ _ us hl => match us, hl with | [_, _], _ => rfl⟩
    d__law_roll := ⟨_, _, fun_mk (st := s__law_roll) l19 c19 k19, PySem.W.mg_of X G a19, (fun_mk (st := s__law_roll) l19 c19 k19).binds (ps := P__law_roll) fun _ _ _ _ _ _ us hl => match us, hl with | [_, _], _ => rfl⟩
    d__law_pick := ⟨_, _, fun_mk (st := s__law_pick) l20 c20 k20, PySem.W.mg_of X G a20, (fun_mk (st := s__law_pick) l20 c20 k20).binds (ps := P__law_pick) fun _ _ _ _ _ _ us hl => match us, hl with | [_, _], _ => rfl⟩
    d__law_met := ⟨_, _, fun_mk (st := s__law_met) l21 c21 k21, PySem.W.mg_of X G a21, (fun_mk (st := s__law_met) l21 c21 k21).binds (ps := P__law_met) fun _ _ _ _ _ _ us hl => match us, hl with | [_], _ => rfl⟩
    d__law_first := ⟨_, _, fun_mk (st := s__law_first) l22 c22 k22, PySem.W.mg_of X G a22, (fun_mk (st := s__law_first) l22 c22 k22).binds (ps := P__law_first) fun _ _ _ _ _ _ us hl => match us, hl with | [_], _ => rfl⟩
    d__law_place_word := ⟨_, _, fun_mk (st := s__law_place_word) l23 c23 k23, PySem.W.mg_of X G a23, (fun_mk (st := s__law_place_word) l23 c23 k23).binds (ps := P__law_place_word) fun _ _ _ _ _ _ us hl => match us, hl with | [_], _ => rfl⟩
    d__law_rows_right := ⟨_, _, fun_mk (st := s__law_rows_right) l24 c24 k24, PySem.W.mg_of X G a24, (fun_mk (st := s__law_rows_right) l24 c24 k24).binds (ps := P__law_rows_right) fun _ _ _ _ _ _ us hl => match us, hl with | [_], _ => rfl⟩
    d__law_right := ⟨_, _, fun_mk (st := s__law_right) l25 c25 k25, PySem.W.mg_of X G a25, (fun_mk (st := s__law_right) l25 c25 k25).binds (ps := P__law_right) fun _ _ _ _ _ _ us hl => match us, hl with | [_, _], _ => rfl⟩
    d_law := ⟨_, _, fun_mk (st := s_law) l26 c26 k26, PySem.W.mg_of X G a26, (fun_mk (st := s_law) l26 c26 k26).binds (ps := P_law) fun _ _ _ _ _ _ us hl => match us, hl with | [_], _ => rfl⟩
  }
  have LM : Lms K mg base := {
    r0 := rfl
    l__law_rows_right := fun f cdv hm hc => ⟨cL__law_rows_right, pL__law_rows_right, code_is X G ti__law_rows_right hm hc, (show (pL__law_rows_right, _) ∈ [(pL__law_rows_right, ("_law_rows_right" : Str) ++ ".<locals>." ++ "<lambda>"), (pL__law_right, ("_law_right" : Str) ++ ".<locals>." ++ "<lambda>"), (pL_law, ("law" : Str) ++ ".<locals>." ++ "<lambda>")] by simp), fun p hp e => (by
      have hp : p ∈ [(pL__law_rows_right, ("_law_rows_right" : Str) ++ ".<locals>." ++ "<lambda>"), (pL__law_right, ("_law_right" : Str) ++ ".<locals>." ++ "<lambda>"), (pL_law, ("law" : Str) ++ ".<locals>." ++ "<lambda>")] := hp
      simp only [List.mem_cons, List.not_mem_nil, or_false] at hp
      rcases hp with rfl | rfl | rfl
      · rfl
      · exact absurd e nd__law_right__law_rows_right
      · exact absurd e nd_law__law_rows_right), TB (cL__law_rows_right, pL__law_rows_right) (by simp)⟩
    l__law_right := fun f cdv hm hc => ⟨cL__law_right, pL__law_right, code_is X G ti__law_right hm hc, (show (pL__law_right, _) ∈ [(pL__law_rows_right, ("_law_rows_right" : Str) ++ ".<locals>." ++ "<lambda>"), (pL__law_right, ("_law_right" : Str) ++ ".<locals>." ++ "<lambda>"), (pL_law, ("law" : Str) ++ ".<locals>." ++ "<lambda>")] by simp), fun p hp e => (by
      have hp : p ∈ [(pL__law_rows_right, ("_law_rows_right" : Str) ++ ".<locals>." ++ "<lambda>"), (pL__law_right, ("_law_right" : Str) ++ ".<locals>." ++ "<lambda>"), (pL_law, ("law" : Str) ++ ".<locals>." ++ "<lambda>")] := hp
      simp only [List.mem_cons, List.not_mem_nil, or_false] at hp
      rcases hp with rfl | rfl | rfl
      · exact absurd e (Ne.symm nd__law_right__law_rows_right)
      · rfl
      · exact absurd e nd_law__law_right), TB (cL__law_right, pL__law_right) (by simp)⟩
    l_law := fun f cdv hm hc => ⟨cL_law, pL_law, code_is X G ti_law hm hc, (show (pL_law, _) ∈ [(pL__law_rows_right, ("_law_rows_right" : Str) ++ ".<locals>." ++ "<lambda>"), (pL__law_right, ("_law_right" : Str) ++ ".<locals>." ++ "<lambda>"), (pL_law, ("law" : Str) ++ ".<locals>." ++ "<lambda>")] by simp), fun p hp e => (by
      have hp : p ∈ [(pL__law_rows_right, ("_law_rows_right" : Str) ++ ".<locals>." ++ "<lambda>"), (pL__law_right, ("_law_right" : Str) ++ ".<locals>." ++ "<lambda>"), (pL_law, ("law" : Str) ++ ".<locals>." ++ "<lambda>")] := hp
      simp only [List.mem_cons, List.not_mem_nil, or_false] at hp
      rcases hp with rfl | rfl | rfl
      · exact absurd e (Ne.symm nd_law__law_rows_right)
      · exact absurd e (Ne.symm nd_law__law_right)
      · rfl), TB (cL_law, pL_law) (by simp)⟩
  }
  exact okG_law T LM hfa (fun_mk (st := s_law) l26 c26 k26)

end Law
set_option maxHeartbeats 4000000
namespace Law
open PySem PySem.Spec PyProof.Rows L2 EV
local macro_rules | `(tactic| walk_at "wp") => `(tactic| repeat (first
  | with_reducible refine wp_var (by with_unfolding_all rfl) ?_ | with_reducible refine wp_k ?_ | with_reducible refine wp_cons ?_ | with_reducible refine wp_nil ?_ | with_reducible refine wp_m2 ?_ | with_reducible refine wp_mL ?_ | with_reducible refine wp_m1 ?_ | with_reducible refine wp_call ?_ | with_reducible refine wp_call0 ?_
  | with_reducible refine wd_add ?_ | with_reducible refine wd_sub ?_ | with_reducible refine wd_lt ?_ | with_reducible refine wd_le ?_ | with_reducible refine wd_gt ?_ | with_reducible refine wd_ge ?_ | with_reducible refine wd_int ?_ | with_reducible refine wd_intb ?_ | with_reducible refine wd_abs ?_ | with_reducible refine wd_max2 ?_ | with_reducible refine wd_min2 ?_ | with_reducible refine wd_neg ?_ | with_reducible refine wd_inS ?_
  | with_reducible refine wd_pow (by decide +kernel) ?_
  | with_reducible refine ws_seq ?_ | with_reducible refine ws_nil ?_ | with_reducible refine ws_set ?_ | with_reducible refine ws_put ?_ | with_reducible refine ws_par ?_ | with_reducible refine ws_if ?_ | with_reducible refine ws_ret ?_ | with_reducible refine ws_expr ?_
  | with_reducible refine wp_tst ?_ | with_reducible refine wp_if ?_ | with_reducible refine wp_and ?_ | with_reducible refine wp_or ?_ | with_reducible refine wp_not ?_ | with_reducible refine wp_ch ?_ | with_reducible refine wp_lst ?_ | with_reducible refine wp_tup ?_ | with_reducible refine wp_lstM ?_ | with_reducible refine wp_rng1 ?_
  | with_reducible refine ⟨_, rfl, ?_⟩))
local macro_rules | `(tactic| walk_at "e") => `(tactic| repeat (first
  | with_reducible refine wp_var (by with_unfolding_all rfl) ?_ | with_reducible refine wp_k ?_ | with_reducible refine wp_cons ?_ | with_reducible refine wp_nil ?_ | with_reducible refine wp_m2 ?_ | with_reducible refine wp_mL ?_ | with_reducible refine wp_m1 ?_ | with_reducible refine wp_call ?_ | with_reducible refine wp_call0 ?_
  | with_reducible refine wd_add ?_ | with_reducible refine wd_sub ?_ | with_reducible refine wd_lt ?_ | with_reducible refine wd_le ?_ | with_reducible refine wd_gt ?_ | with_reducible refine wd_ge ?_ | with_reducible refine wd_int ?_ | with_reducible refine wd_intb ?_ | with_reducible refine wd_abs ?_ | with_reducible refine wd_max2 ?_ | with_reducible refine wd_min2 ?_ | with_reducible refine wd_neg ?_ | with_reducible refine wd_inS ?_
  | with_reducible refine wd_pow (by decide +kernel) ?_
  | with_reducible refine wp_tst ?_ | with_reducible refine wp_if ?_ | with_reducible refine wp_and ?_ | with_reducible refine wp_or ?_ | with_reducible refine wp_not ?_ | with_reducible refine wp_ch ?_ | with_reducible refine wp_lst ?_ | with_reducible refine wp_tup ?_ | with_reducible refine wp_lstM ?_ | with_reducible refine wp_rng1 ?_
  | with_reducible refine ⟨_, rfl, ?_⟩))
theorem atD_get {xs : List D} {i : Nat} {x : D} (h : xs[i]? = some x) : atD xs (i : Int) = some x := by
  unfold atD
  rw [if_pos (by omega), Int.toNat_natCast]; exact h
theorem wd_modA {i j : Int} {M : Sto} {P : D → Sto → Prop} (hk : 0 < j) (h : ∀ r : Int, 0 ≤ r → r < j → P (.int r) M) : wp (dMod (.int i) (.int j) M) P :=
  wd_mod hk (h _ (Int.emod_nonneg _ (by omega)) (Int.emod_lt_of_pos _ hk))
theorem mul_of {i j : Int} (hi : -(2 ^ 200) < i ∧ i < 2 ^ 200) (hj : -(2 ^ 200) < j ∧ j < 2 ^ 200) : mulOk i j = true := by
  refine mulOk_of (Nat.lt_trans (m := 2 ^ 200) (by omega) (by decide +kernel)) (Nat.lt_trans (m := 2 ^ 200) (by omega) (by decide +kernel))
theorem wd_mulA {i j : Int} {M : Sto} {P : D → Sto → Prop} (hi : -(2 ^ 200) < i ∧ i < 2 ^ 200) (hj : -(2 ^ 200) < j ∧ j < 2 ^ 200) (h : P (.int (i * j)) M) : wp (dMul (.int i) (.int j) M) P :=
  wd_mul (mul_of hi hj) h
theorem dice_wp {ns : List Int} {i : Nat} {M : Sto} {P : D → Sto → Prop} (hi : i < 2 ^ 60) (h : ∀ a b : Int, 0 ≤ a → -(2 ^ 80) < b → b < 2 ^ 80 → P (.ref M.length) (M ++ [.lst [.int a, .int b, .int 0]])) : wp (F__law_dice [.lst (ns.map D.int), .int i] M) P := by
  have go : ∀ c : Int, ws ((sSeq (sAsg (m2 dMod (mL dMax2 (aCons (mK (.int 0)) (aCons (m2 dSub (mL dAbs (aCons (mVar 2) aNil)) (m2 dPow (mK (.int 10)) (mK (.int 15)))) aNil))) (m2 dMul (m2 dPow (mK (.int 10)) (mK (.int 60))) (m2 dPow (mK (.int 10)) (mK (.int 60))))) (gN 3))
  (sRet (mLstM (aCons (mVar 3) (aCons (m2 dAdd (m2 dAdd (m2 dAdd (m2 dMul (m2 dMod (mL dAbs (aCons (mVar 2) aNil)) (mK (.int 1152921504606846809))) (mK (.int 47))) (m2 dMul (mK (.int 1013)) (mVar 1))) (m2 dMul (mK (.int 37)) (mL dInt (aCons (m2 dLt (mVar 2) (mK (.int 0))) aNil)))) (mK (.int 13))) (aCons (mK (.int 0)) aNil)))))) [some (.lst (ns.map D.int)), some (.int i), some (.int c), none] M) (fun _ M' => wp (finO M.length .non M') P) (fun d M' => wp (finO M.length d M') P) (fun _ _ => False) fun _ _ => False := by
    intro c
    walk_at "wp"
    refine wd_mulA (by decide +kernel) (by decide +kernel) ?_
    refine wd_modA (by decide +kernel) ?_
    intro a ha _
    walk_at "wp"
    refine wd_modA (by decide +kernel) ?_
    intro q hq0 hq1
    walk_at "wp"
    refine wd_mulA (by omega) (by decide +kernel) ?_
    walk_at "wp"
    refine wd_mulA (by decide +kernel) (by omega) ?_
    walk_at "wp"
    have hb : (if decide (c < 0) = true then (1 : Int) else 0) = 0 ∨ (if decide (c < 0) = true then (1 : Int) else 0) = 1 := by split <;> simp
    generalize (if decide (c < 0) = true then (1 : Int) else 0) = z at hb
    refine wd_mulA (by decide +kernel) (by omega) ?_
    walk_at "wp"
    refine ⟨⟨Nat.le_of_ble_eq_true rfl, rfl⟩, ?_⟩
    have e : finO M.length (.ref M.length) (M ++ [.lst [.int a, .int (q * 47 + 1013 * i + 37 * z + 13), .int 0]]) = .ok (.ref M.length) (M ++ [.lst [.int a, .int (q * 47 + 1013 * i + 37 * z + 13), .int 0]]) := by
      simp [finO, frz, allD, belows, below]
    refine wp_of_eq e (h _ _ ha (by omega) (by omega))
  unfold F__law_dice
  refine wp_fn rfl ?_
  unfold b__law_dice
  walk_at "wp"
  refine wd_len (by rfl) ?_
  walk_at "wp"
  refine ⟨?_, ?_⟩
  · intro hc
    rw [decide_eq_true_eq, List.length_map] at hc
    have hc' : i < ns.length := by omega
    walk_at "wp"
    refine wd_ix (x := .int ns[i]) (by rfl) (by exact atD_get (by rw [List.getElem?_map, List.getElem?_eq_getElem hc']; rfl)) ?_
    walk_at "e"
    exact go _
  · intro hc
    walk_at "wp"
    refine wd_mulA (by decide +kernel) (by omega) ?_
    walk_at "e"
    exact go _
/-- a row of rolls -/
def Dice (k : Nat) (M : Sto) (n : Nat) : Prop := ∃ a b c : Int, M[n]? = some (.lst [.int a, .int b, .int c]) ∧ 0 ≤ a ∧ -(2 ^ 80) < b ∧ b < 2 ^ 80 ∧ 0 ≤ c ∧ c ≤ k
theorem Dice.mono {k k' : Nat} {M : Sto} {n : Nat} (h : Dice k M n) (hk : k ≤ k') : Dice k' M n := by
  obtain ⟨a, b, c, h1, h2, h3, h4, h5, h6⟩ := h
  exact ⟨a, b, c, h1, h2, h3, h4, h5, by omega⟩
/-- nothing but the row at n has moved -/
def Same (n : Nat) (M M' : Sto) : Prop := M'.length = M.length ∧ ∀ m, m ≠ n → M'[m]? = M[m]?
theorem Same.refl (n : Nat) (M : Sto) : Same n M M := ⟨rfl, fun _ _ => rfl⟩
theorem Same.trans {n : Nat} {M M' M'' : Sto} (h : Same n M M') (h' : Same n M' M'') : Same n M M'' := ⟨h'.1.trans h.1, fun m hm => (h'.2 m hm).trans (h.2 m hm)⟩
theorem Same.set (n : Nat) (M : Sto) (x : Ob) : Same n M (M.set n x) := ⟨List.length_set, fun m hm => List.getElem?_set_ne (Ne.symm hm)⟩
theorem Dice.lt {k : Nat} {M : Sto} {n : Nat} (h : Dice k M n) : n < M.length := by
  obtain ⟨a, b, c, h1, _⟩ := h
  exact (List.getElem?_eq_some_iff.1 h1).1
theorem roll_wp {n k : Nat} {t : Int} {M : Sto} {P : D → Sto → Prop} (hd : Dice k M n) (hk : k < 2 ^ 60) (ht : 0 < t) (hb : t < 2 ^ 60) (h : ∀ (r : Int) (M' : Sto), 0 ≤ r → r < t → Same n M M' → Dice (k + 1) M' n → P (.int r) M') : wp (F__law_roll [.ref n, .int t] M) P := by
  obtain ⟨a, b, c, h1, h2, h3, h4, h5, h6⟩ := hd
  have hn := (List.getElem?_eq_some_iff.1 h1).1
  have hs : seqD M (.ref n) = some [.int a, .int b, .int c] := by simp only [seqD, h1]
  have hput : ∀ (x : D) (i : Nat), i < 3 → below n x = true → putL (.ref n) (.int i) x M = some (M.set n (.lst ([D.int a, .int b, .int c].set i x))) := by
    intro x i hi hx
    simp only [putL, h1, setAt]
    rw [if_pos ⟨by omega, by simp only [List.length_cons, List.length_nil]; omega⟩]
    simp only [Int.toNat_natCast, hx, if_true]
  have hdiv : divOk t = true := divOk_of ht (Nat.lt_trans (m := 2 ^ 60) (by omega) (by decide +kernel))
  unfold F__law_roll
  refine wp_fn rfl ?_
  unfold b__law_roll
  walk_at "wp"
  refine wd_ix (x := .int a) hs (by rfl) ?_
  walk_at "wp"
  refine ⟨?_, ?_⟩
  · intro hc
    rw [decide_eq_true_eq] at hc
    walk_at "wp"
    refine wd_ix (x := .int a) hs (by rfl) ?_
    walk_at "wp"
    refine wd_modA ht ?_
    intro r hr0 hr1
    walk_at "wp"
    refine wd_ix (x := .int a) hs (by rfl) ?_
    walk_at "wp"
    refine wd_div hdiv ?_
    walk_at "wp"
    refine ⟨_, hput _ 0 (by decide) rfl, ?_⟩
    walk_at "wp"
    refine wp_finP rfl List.length_set ?_
    refine h _ _ hr0 hr1 (Same.set _ _ _) ⟨a / t, b, c, ?_, Int.ediv_nonneg h2 (by omega), h3, h4, h5, by omega⟩
    rw [List.getElem?_set_self hn]; rfl
  · intro hc
    walk_at "wp"
    refine wd_ix (x := .int c) hs (by rfl) ?_
    walk_at "wp"
    refine ⟨_, hput _ 2 (by decide) rfl, ?_⟩
    have hs2 : seqD (M.set n (.lst [.int a, .int b, .int (c + 1)])) (.ref n) = some [.int a, .int b, .int (c + 1)] := by simp only [seqD, List.getElem?_set_self hn]
    show ws _ _ _ _ _
    walk_at "wp"
    refine wd_ix (x := .int b) hs2 (by rfl) ?_
    walk_at "wp"
    refine wd_ix (x := .int (c + 1)) hs2 (by rfl) ?_
    refine wd_mulA (by decide +kernel) (by omega) ?_
    walk_at "wp"
    refine wd_modA (by decide +kernel) ?_
    intro one ho0 ho1
    walk_at "wp"
    refine wd_mulA (by omega) (by omega) ?_
    walk_at "wp"
    refine wd_ix (x := .int (c + 1)) hs2 (by rfl) ?_
    refine wd_mulA (by decide +kernel) (by omega) ?_
    walk_at "wp"
    refine wd_modA (by decide +kernel) ?_
    intro two hw0 hw1
    walk_at "wp"
    refine wd_mulA (by omega) (by decide +kernel) ?_
    walk_at "wp"
    refine wd_div (divOk_of (by decide) (by decide +kernel)) ?_
    walk_at "wp"
    refine wd_modA ht ?_
    intro r hr0 hr1
    refine wp_finP rfl List.length_set ?_
    refine h _ _ hr0 hr1 (Same.set _ _ _) ⟨a, b, c + 1, ?_, h2, h3, h4, by omega, by omega⟩
    rw [List.getElem?_set_self hn]; rfl

theorem take_same {n : Nat} {M M' : Sto} (h : Same n M M') : M'.take M.length = M' := by rw [← h.1, List.take_length]
theorem pick_wp {n k : Nat} {xs : List D} {M : Sto} {P : D → Sto → Prop} (hd : Dice k M n) (hk : k < 2 ^ 60) (hl : 0 < xs.length) (hu : xs.length < 1000) (hb : belows M.length xs = true) (h : ∀ (x : D) (M' : Sto), x ∈ xs → Same n M M' → Dice (k + 1) M' n → P x M') : wp (F__law_pick [.ref n, .lst xs] M) P := by
  unfold F__law_pick
  refine wp_fn rfl ?_
  unfold b__law_pick
  walk_at "wp"
  refine wd_len (by rfl) ?_
  walk_at "wp"
  refine roll_wp hd hk (by omega) (by omega) ?_
  intro r M' h0 h1 hs hd'
  have hr : r.toNat < xs.length := by omega
  refine wd_ix (xs := xs) (x := xs[r.toNat]) (by rfl) ?_ ?_
  · unfold atD
    rw [if_pos h0, List.getElem?_eq_getElem hr]
  · refine wp_finP ?_ hs.1 (h _ _ (List.getElem_mem hr) hs hd')
    have : ∀ (ys : List D), belows M.length ys = true → ∀ y ∈ ys, below M.length y = true := by
      intro ys
      induction ys with
      | nil => intro _ y hy; exact absurd hy (by simp)
      | cons z zs ih =>
        intro hz y hy
        rw [belows, Bool.and_eq_true] at hz
        rcases List.mem_cons.1 hy with rfl | hy
        · exact hz.1
        · exact ih hz.2 y hy
    exact this _ hb _ (List.getElem_mem hr)
theorem wn_orT {A : DE} {q : DT} {env : DEnv} {M : Sto} {PT : Bool → Sto → Prop} (h : wp (A env M) fun d M1 => d = .bl true ∧ wp (q env M1) PT) : wp (nOr (nNot (tst A)) q env M) PT := by
  obtain ⟨d, M1, e, rfl, h2⟩ := wp_eq h
  rw [nOr_f (nNot_ok (tst_ok e)) rfl]
  exact h2
theorem wn_notT {A : DE} {env : DEnv} {M : Sto} {PT : Bool → Sto → Prop} (h : wp (A env M) fun d M1 => d = .bl true ∧ PT false M1) : wp (nNot (tst A) env M) PT := by
  obtain ⟨d, M1, e, rfl, h2⟩ := wp_eq h
  exact wp_of_eq (nNot_ok (tst_ok e)) h2
/-- where one stands in a def with a row of rolls -/
structure Trk (M0 : Sto) (n k : Nat) (M : Sto) : Prop where
  lt : n < M0.length
  le : M0.length ≤ M.length
  eq : ∀ m, m < M0.length → m ≠ n → M[m]? = M0[m]?
  dc : Dice k M n
theorem Trk.start {n k : Nat} {M : Sto} (d : Dice k M n) : Trk M n k M := ⟨d.lt, Nat.le_refl _, fun _ _ _ => rfl, d⟩
theorem Trk.pick {M0 M M' : Sto} {n k k' : Nat} (t : Trk M0 n k M) (s : Same n M M') (d : Dice k' M' n) : Trk M0 n k' M' :=
  ⟨t.lt, by rw [s.1]; exact t.le, fun m h1 h2 => by rw [s.2 m h2]; exact t.eq m h1 h2, d⟩
theorem Trk.new {M0 M : Sto} {n k : Nat} (t : Trk M0 n k M) (o : Ob) : Trk M0 n k (M ++ [o]) := by
  have hl := t.dc.lt
  obtain ⟨a, b, c, h1, h2⟩ := t.dc
  refine ⟨t.lt, by rw [List.length_append]; exact Nat.le_trans t.le (Nat.le_add_right _ _), fun m h1 h2 => ?_, a, b, c, ?_, h2⟩
  · rw [List.getElem?_append_left (Nat.lt_of_lt_of_le h1 t.le)]; exact t.eq m h1 h2
  · rw [List.getElem?_append_left hl]; exact h1
theorem Trk.set {M0 M : Sto} {n k p : Nat} (t : Trk M0 n k M) (hp : M0.length ≤ p) (o : Ob) : Trk M0 n k (M.set p o) := by
  have hl := t.lt
  obtain ⟨a, b, c, h1, h2⟩ := t.dc
  refine ⟨t.lt, by rw [List.length_set]; exact t.le, fun m h1 h2 => ?_, a, b, c, ?_, h2⟩
  · rw [List.getElem?_set_ne (by omega)]; exact t.eq m h1 h2
  · rw [List.getElem?_set_ne (by omega)]; exact h1
theorem Trk.end_ {M0 M : Sto} {n k : Nat} (t : Trk M0 n k M) : Same n M0 (M.take M0.length) ∧ Dice k (M.take M0.length) n := by
  have hl := t.le
  have hn := t.lt
  obtain ⟨a, b, c, h1, h2⟩ := t.dc
  refine ⟨⟨by rw [List.length_take]; omega, fun m hm => ?_⟩, a, b, c, by rw [List.getElem?_take, if_pos hn]; exact h1, h2⟩
  rw [List.getElem?_take]
  by_cases c : m < M0.length
  · rw [if_pos c]; exact t.eq m c hm
  · rw [if_neg c, List.getElem?_eq_none (by omega)]
theorem live_pick {M0 M M' : Sto} {n k p : Nat} {o : Ob} (t : Trk M0 n k M) (s : Same n M M') (hp : M0.length ≤ p) (g : M[p]? = some o) : M'[p]? = some o := by
  have := t.lt
  rw [s.2 p (by omega)]; exact g
theorem live_new {M : Sto} {p : Nat} {o : Ob} (e : p = M.length) : (M ++ [o])[p]? = some o := by subst e; simp
theorem live_old {M : Sto} {p : Nat} {o o' : Ob} (g : M[p]? = some o) : (M ++ [o'])[p]? = some o := by
  rw [List.getElem?_append_left (List.getElem?_eq_some_iff.mp g).1]; exact g
theorem live_set {M : Sto} {p : Nat} {o o' : Ob} (g : M[p]? = some o') : (M.set p o)[p]? = some o := List.getElem?_set_self (List.getElem?_eq_some_iff.mp g).1
theorem live_ne {M : Sto} {p p' : Nat} {o o' : Ob} (g : M[p]? = some o) (h : p ≠ p') : (M.set p' o')[p]? = some o := by
  rw [List.getElem?_set_ne (fun z => h z.symm)]; exact g
section
variable {n k : Nat} {bs bs' : List Bool} {m m' : DE} {env env1 env1' env2 : DEnv} {M : Sto} {i j z : Nat} {q : DS} {N : DEnv → Sto → Prop} {R : D → Sto → Prop} {Bk Ct : DEnv → Sto → Prop}
theorem cl_pick (hd : Dice k M n) (hk : k < 2 ^ 60) (h0 : env[z]? = some (some (.ref n))) (he : maskD bs env = env1) (hc : chkM m env1 = true)
    (kk : ∀ x M', x ∈ dd (lstC m env1) → Same n M M' → Dice (k + 1) M' n → ws (q (env.set i (some x)) M') N R Bk Ct) : ws (sSeq (sAsg (mCall F__law_pick (aCons (mVar z) (aCons (mClo bs m) aNil))) (gN i)) q env M) N R Bk Ct := by
  subst he
  obtain ⟨e, b, l1, l2, hcur⟩ := chkM_ok (M := M) hc
  refine ws_seq (ws_set (wp_call (wp_of_eq (aCons_ok (mVar_ok h0) (aCons_ok e aNil_ok)) ?_)))
  exact pick_wp hd hk l1 l2 (belows_up (Nat.zero_le _) b) fun x M' hx s d => kk x M' (mem_dd hx) s d
theorem cl_pick2 (hd : Dice k M n) (hk : k + 1 < 2 ^ 60) (h0 : env[z]? = some (some (.ref n))) (he : maskD bs env = env1) (hc : chkM m env1 = true) (he' : maskD bs' env = env1') (hc' : chkM m' env1' = true)
    (kk : ∀ x y M', x ∈ dd (lstC m env1) → y ∈ dd (lstC m' env1') → Same n M M' → Dice (k + 2) M' n → ws (q ((env.set i (some x)).set j (some y)) M') N R Bk Ct) :
    ws (sSeq (sAsg (mTup (aCons (mCall F__law_pick (aCons (mVar z) (aCons (mClo bs m) aNil))) (aCons (mCall F__law_pick (aCons (mVar z) (aCons (mClo bs' m') aNil))) aNil))) (gNs [i, j])) q env M) N R Bk Ct := by
  subst he he'
  obtain ⟨e, b, l1, l2, hcur⟩ := chkM_ok (M := M) hc
  refine ws_seq (ws_asg (wp_tup (wp_cons (wp_call (wp_of_eq (aCons_ok (mVar_ok h0) (aCons_ok e aNil_ok)) ?_)))))
  refine pick_wp hd (by omega) l1 l2 (belows_up (Nat.zero_le _) b) fun x M1 hx s d => ?_
  obtain ⟨e', b', l1', l2', hcur'⟩ := chkM_ok (M := M1) hc'
  refine wp_cons (wp_call (wp_of_eq (aCons_ok (mVar_ok h0) (aCons_ok e' aNil_ok)) ?_))
  refine pick_wp d hk l1' l2' (belows_up (Nat.zero_le _) b') fun y M2 hy s' d' => ?_
  refine wp_nil ⟨by show 2 ≤ lim; decide, ((env.set i (some x)).set j (some y), M2), rfl, ?_⟩
  exact kk x y M2 (mem_dd hx) (mem_dd hy) (s.trans s') d'
end
/-- the spots of a script -/
theorem spots_wp {K : Int} {ns : List Int} (h : ns.length ≤ 63) {env : DEnv} {M : Sto} {z : Nat} {PS : Src → Sto → Prop} (hK : 0 < K ∧ K < 100) (hv : env[z]? = some (some (.lst (ns.map D.int)))) (k : ∀ xs : List D, (∀ x ∈ xs, ∃ i : Nat, x = .int (i : Int) ∧ i < 2 ^ 60) → PS (.imm xs) M) :
    wp (mRng1 (aCons (mL dMax2 (aCons (mK (.int 1)) (aCons (mL dMin2 (aCons (mK (.int K)) (aCons (mL dLen (aCons (mVar z) aNil)) aNil))) aNil))) aNil) env M) PS := by
  refine wp_rng1 (wp_cons (wp_mL (wp_cons (wp_k (wp_cons (wp_mL (wp_cons (wp_k (wp_cons (wp_mL (wp_cons (wp_var hv (wp_nil ?_)))))))))))))
  refine wd_len (by rfl) (wp_nil (wd_min2 (wp_nil (wd_max2 (wp_nil ⟨_, rfl, ?_, k _ ?_⟩)))))
  · rw [List.length_map]
    have hb : big = 1000000000000 := rfl
    rw [hb]
    constructor <;> split <;> split <;> omega
  · intro x hx
    unfold rngD at hx
    rw [List.mem_map] at hx
    obtain ⟨i, hi, rfl⟩ := hx
    rw [List.mem_range, List.length_map] at hi
    refine ⟨i, by rw [Int.zero_add], ?_⟩
    have : i < 100 := by
      revert hi
      split <;> split <;> omega
    omega
theorem turns_wp {K : Int} {env : DEnv} {M : Sto} {PS : Src → Sto → Prop} (hK : 0 ≤ K ∧ K < 100) (k : PS (.imm (rngD 0 K.toNat)) M) : wp (mRng1 (aCons (mK (.int K)) aNil) env M) PS := by
  have hb : big = 1000000000000 := rfl
  exact wp_rng1 (wp_cons (wp_k (wp_nil ⟨_, rfl, by rw [hb]; omega, k⟩)))
theorem okL_1 {cs : List Nat} {env : DEnv} (h : okL cs env = true) : okL cs env = true := h
theorem belows_cons {x : D} {xs : List D} (h : below 0 x = true) (h' : belows 0 xs = true) : belows 0 (x :: xs) = true := by
  unfold belows; rw [h, h']; rfl
section
variable {env : DEnv} {M : Sto} {i p : Nat} {q : DS} {N : DEnv → Sto → Prop} {R : D → Sto → Prop} {Bk Ct : DEnv → Sto → Prop}
theorem cl_newA {as : DA} {xs : List D} (ha : as env M = .ok xs M) (hl : xs.length ≤ 1000) (hb : belows 0 xs = true) (k : ∀ p M', p = M.length → M' = M ++ [.lst xs] → ws (q (env.set i (some (.ref p))) M') N R Bk Ct) : ws (sSeq (sAsg (mLstM as) (gN i)) q env M) N R Bk Ct := by
  refine ws_seq (ws_set ?_)
  unfold mLstM
  rw [ha]
  show wp (if xs.length ≤ lim ∧ belows M.length xs = true then Out.ok (D.ref M.length) (M ++ [.lst xs]) else .bad) _
  rw [if_pos ⟨Nat.le_trans hl (by unfold lim; decide), belows_up (Nat.zero_le _) hb⟩]
  exact k _ _ rfl rfl
theorem cl_appA {a : DE} {ts ts' : List D} {x : D} (hv : env[i]? = some (some (.ref p))) (hM : M[p]? = some (.lst ts)) (hl : ts.length < 1000) (ha : a env M = .ok x M) (hb : below 0 x = true) (ht : ts ++ [x] = ts') (k : ws (q env (M.set p (.lst ts'))) N R Bk Ct) : ws (sSeq (sExpr (mLm dApp (mVar i) (aCons a aNil))) q env M) N R Bk Ct := by
  subst ht
  refine ws_seq ?_
  have e1 : mVar i env M = .ok (.ref p) M := mVar_ok hv
  have e2 : aCons a aNil env M = .ok [x] M := aCons_ok ha aNil_ok
  have e3 : lstD M (.ref p) = some ts := by unfold lstD; simp only [hM]
  have e4 : dApp (.ref p) [x] M = .ok .non (M.set p (.lst (ts ++ [x]))) := by
    unfold dApp
    have : livD M (.ref p) = some (p, ts) := by unfold livD; simp only [hM]
    rw [this]
    show (if ts.length < lim ∧ below p x = true then Out.ok D.non _ else .bad) = _
    rw [if_pos ⟨Nat.lt_trans hl (by unfold lim; decide), below_up (Nat.zero_le _) hb⟩]
  have e : sExpr (mLm dApp (mVar i) (aCons a aNil)) env M = .nx env (M.set p (.lst (ts ++ [x]))) := by
    refine sExpr_ok (d := .non) ?_
    unfold mLm
    rw [e1]
    show (if (lstD M (.ref p)).isSome = true then _ else _) = _
    rw [e3, if_pos (show (some ts).isSome = true from rfl), e2]
    show noExc (dApp (.ref p) [x] M) = _
    rw [e4]
    rfl
  rw [e]
  exact k
end
theorem in_pieces {xs : List D} {P : D → Prop} {c N : Nat} (hc : 0 < c) (hl : xs.length ≤ N * c) (h : ∀ j, j < N → ∀ x ∈ (xs.drop (j * c)).take c, P x) : ∀ x ∈ xs, P x := by
  intro x hx
  obtain ⟨i, hi, rfl⟩ := List.mem_iff_getElem.mp hx
  have h1 := Nat.div_add_mod i c
  have h2 := Nat.mod_lt i hc
  have h3 : i / c < N := Nat.div_lt_of_lt_mul (by rw [Nat.mul_comm]; omega)
  refine h (i / c) h3 _ (List.mem_iff_getElem?.mpr ⟨i % c, ?_⟩)
  rw [List.getElem?_take, if_pos h2, List.getElem?_drop]
  have : i / c * c + i % c = i := by rw [Nat.mul_comm]; exact h1
  rw [this]
  exact List.getElem?_eq_getElem hi
def lstOf : D → List D
  | .lst xs => xs
  | _ => []
def chkLst (v : D) : Bool := match v with
  | .lst xs => belows 0 xs && decide (0 < xs.length) && decide (xs.length < 1000) && xs.all fun x => !x.isCur
  | _ => false
def chkWeb (x : D) : Bool := belows 0 [x] && match F_Web_init_d [.ref 0, x] [.ins "Web" []] with
  | .exc ⟨c, []⟩ _ => decide (c = "InvalidWeb")
  | _ => false
theorem met_web {call : Lm} {M M' : Sto} (h : call M = .exc ⟨"InvalidWeb", []⟩ M') (hs : M'.length = M.length) : F__law_met call M = .ok (.str "web") M' := by
  have e1 : b__law_met call [some (D.cur true), none] M = .rt (.str "web") M' := by
    unfold b__law_met
    have e0 : mLamC call [some (D.cur true), none] M = .exc ⟨"InvalidWeb", []⟩ M' := h
    refine sSeq_rt ?_
    simp only [sTry, sExpr, e0, Out.thenS]
    rfl
  unfold F__law_met fnLam
  have e5 : b__law_met call (some (D.cur true) :: List.replicate (N__law_met.length - 1) none) M = .rt (.str "web") M' := e1
  rw [e5]
  show finP M.length (.str "web") M' = _
  rw [← hs]
  exact finP_same rfl
theorem rows_open {n k : Nat} {v : D} {env : DEnv} {M : Sto} {q a : DS} {N : DEnv → Sto → Prop} {R : D → Sto → Prop} {Bk Ct : DEnv → Sto → Prop} (hl : chkLst v = true) (hx : ∀ x ∈ dd (lstOf v), chkWeb x = true) (h0 : env[0]? = some (some (.ref n))) (h1 : env[1]? = some (some v)) (hd : Dice k M n) (hk : k < 2 ^ 60)
    (kk : ∀ M', Same n M M' → Dice (k + 1) M' n → ws (q env M') N R Bk Ct) :
    ws (sSeq (sIf (tst (m2 dNe (mLamCall F__law_met (mNewXC "Web" F_Web_init_d (aCons (mCall F__law_pick (aCons (mVar 0) (aCons (mVar 1) aNil))) aNil))) (mK (.str "web")))) a sNil) q env M) N R Bk Ct := by
  unfold chkLst at hl
  split at hl
  case h_2 => cases hl
  rename_i xs
  simp only [Bool.and_eq_true, decide_eq_true_eq] at hl
  have pk : wp ((aCons (mCall F__law_pick (aCons (mVar 0) (aCons (mVar 1) aNil))) aNil) env M) fun ds M' => ∃ x, ds = [x] ∧ x ∈ xs ∧ Same n M M' ∧ Dice (k + 1) M' n := by
    refine wp_cons (wp_call (wp_of_eq (aCons_ok (mVar_ok h0) (aCons_ok (mVar_ok h1) aNil_ok)) ?_))
    exact pick_wp hd hk hl.1.1.2 hl.1.2 (belows_up (Nat.zero_le _) hl.1.1.1) fun x M' hm s d => wp_nil ⟨x, rfl, hm, s, d⟩
  obtain ⟨ds, M', e, x, rfl, hm, s, d⟩ := wp_eq pk
  have cx := hx x (mem_dd hm)
  unfold chkWeb at cx
  rw [Bool.and_eq_true] at cx
  obtain ⟨bx, cx⟩ := cx
  have ex : mNewXC "Web" F_Web_init_d (aCons (mCall F__law_pick (aCons (mVar 0) (aCons (mVar 1) aNil))) aNil) env M = .exc ⟨"InvalidWeb", []⟩ M' := by
    unfold mNewXC
    rw [e]
    show (if belows 0 [x] = true then _ else _) = _
    rw [if_pos bx]
    split at cx
    · rename_i c M2 e2
      rw [decide_eq_true_eq] at cx
      subst cx
      rw [e2]
      rfl
    · cases cx
  have el : mLamCall F__law_met (mNewXC "Web" F_Web_init_d (aCons (mCall F__law_pick (aCons (mVar 0) (aCons (mVar 1) aNil))) aNil)) env M = .ok (.str "web") M' := by
    unfold mLamCall
    rw [met_web (call := fun M' => mNewXC "Web" F_Web_init_d (aCons (mCall F__law_pick (aCons (mVar 0) (aCons (mVar 1) aNil))) aNil) env M') ex s.1]
    rfl
  have et : tst (m2 dNe (mLamCall F__law_met (mNewXC "Web" F_Web_init_d (aCons (mCall F__law_pick (aCons (mVar 0) (aCons (mVar 1) aNil))) aNil))) (mK (.str "web"))) env M = .ok false M' := tst_ok (m2_ok el mK_ok rfl)
  refine ws_seq ?_
  unfold sIf
  rw [et]
  exact kk M' s d
end Law
set_option maxHeartbeats 4000000
namespace Law
open PySem PySem.Spec PyProof.Rows L2 EV
local macro_rules | `(tactic| walk_at "wp") => `(tactic| repeat (first
  | with_reducible refine wp_var (by with_unfolding_all rfl) ?_ | with_reducible refine wp_k ?_ | with_reducible refine wp_cons ?_ | with_reducible refine wp_nil ?_ | with_reducible refine wp_m2 ?_ | with_reducible refine wp_mL ?_ | with_reducible refine wp_m1 ?_ | with_reducible refine wp_call ?_ | with_reducible refine wp_call0 ?_
  | with_reducible refine wd_add ?_ | with_reducible refine wd_sub ?_ | with_reducible refine wd_lt ?_ | with_reducible refine wd_le ?_ | with_reducible refine wd_gt ?_ | with_reducible refine wd_ge ?_ | with_reducible refine wd_int ?_ | with_reducible refine wd_intb ?_ | with_reducible refine wd_abs ?_ | with_reducible refine wd_max2 ?_ | with_reducible refine wd_min2 ?_ | with_reducible refine wd_neg ?_ | with_reducible refine wd_inS ?_
  | with_reducible refine wd_pow (by decide +kernel) ?_
  | with_reducible refine ws_seq ?_ | with_reducible refine ws_nil ?_ | with_reducible refine ws_set ?_ | with_reducible refine ws_put ?_ | with_reducible refine ws_par ?_ | with_reducible refine ws_if ?_ | with_reducible refine ws_ret ?_ | with_reducible refine ws_expr ?_
  | with_reducible refine wp_tst ?_ | with_reducible refine wp_if ?_ | with_reducible refine wp_and ?_ | with_reducible refine wp_or ?_ | with_reducible refine wp_not ?_ | with_reducible refine wp_ch ?_ | with_reducible refine wp_lst ?_ | with_reducible refine wp_tup ?_ | with_reducible refine wp_lstM ?_ | with_reducible refine wp_rng1 ?_
  | with_reducible refine ⟨_, rfl, ?_⟩))
local macro_rules | `(tactic| walk_at "e") => `(tactic| repeat (first
  | with_reducible refine wp_var (by with_unfolding_all rfl) ?_ | with_reducible refine wp_k ?_ | with_reducible refine wp_cons ?_ | with_reducible refine wp_nil ?_ | with_reducible refine wp_m2 ?_ | with_reducible refine wp_mL ?_ | with_reducible refine wp_m1 ?_ | with_reducible refine wp_call ?_ | with_reducible refine wp_call0 ?_
  | with_reducible refine wd_add ?_ | with_reducible refine wd_sub ?_ | with_reducible refine wd_lt ?_ | with_reducible refine wd_le ?_ | with_reducible refine wd_gt ?_ | with_reducible refine wd_ge ?_ | with_reducible refine wd_int ?_ | with_reducible refine wd_intb ?_ | with_reducible refine wd_abs ?_ | with_reducible refine wd_max2 ?_ | with_reducible refine wd_min2 ?_ | with_reducible refine wd_neg ?_ | with_reducible refine wd_inS ?_
  | with_reducible refine wd_pow (by decide +kernel) ?_
  | with_reducible refine wp_tst ?_ | with_reducible refine wp_if ?_ | with_reducible refine wp_and ?_ | with_reducible refine wp_or ?_ | with_reducible refine wp_not ?_ | with_reducible refine wp_ch ?_ | with_reducible refine wp_lst ?_ | with_reducible refine wp_tup ?_ | with_reducible refine wp_lstM ?_ | with_reducible refine wp_rng1 ?_
  | with_reducible refine ⟨_, rfl, ?_⟩))
def v_law_1 : D := valC e_law_0 [none, none, none, none, none, none]
theorem c_law_2 : chkC e_law_0 [none, none, none, none, none, none] = true := by decide +kernel
def v_law_rows_right_1 : D := valC e__law_rows_right_0 [none, none, none]
theorem c_law_rows_right_2 : chkC e__law_rows_right_0 [none, none, none] = true := by decide +kernel
def v_law_rows_right_3 : D := valC e__law_rows_right_1 [none, some v_law_rows_right_1, none]
theorem c_law_rows_right_4 : chkC e__law_rows_right_1 [none, some v_law_rows_right_1, none] = true := by decide +kernel
def v_law_rows_right_5 : D := valC e__law_rows_right_2 [none, some v_law_rows_right_3, none]
theorem c_law_rows_right_6 : chkC e__law_rows_right_2 [none, some v_law_rows_right_3, none] = true := by decide +kernel
theorem c_law_rows_right_7 : chkLst v_law_rows_right_5 = true := by decide +kernel
theorem c_law_rows_right_8 : ∀ x ∈ dd (lstOf v_law_rows_right_5), chkWeb x = true := by decide +kernel
theorem c_law_rows_right_9 : chkT e__law_rows_right_3 [none, none, none] = true := by decide +kernel
set_option maxHeartbeats 4000000 in
theorem R_law_rows_right {n k : Nat} {M : Sto} {P : D → Sto → Prop} (hd : Dice k M n) (hk : k < 2 ^ 50) (h : ∀ M', Same n M M' → Dice (k + 1) M' n → P (.bl true) M') : wp (F__law_rows_right [.ref n] M) P := by
  unfold F__law_rows_right
  refine wp_fn rfl ?_
  unfold b__law_rows_right
  have t0 := Trk.start hd
  refine ws_seq (ws_nxE (e := [some (.ref n), some v_law_rows_right_1, none]) (sSet_ok (d := v_law_rows_right_1) (mClo_ok (m := e__law_rows_right_0) (bs := [false, false, false]) (env := [some (.ref n), none, none]) c_law_rows_right_2)) ?_)
  refine ws_seq (ws_nxE (e := [some (.ref n), some v_law_rows_right_3, none]) (sSet_ok (d := v_law_rows_right_3) (mClo_ok (m := e__law_rows_right_1) (bs := [false, true, false]) (env := [some (.ref n), some v_law_rows_right_1, none]) c_law_rows_right_4)) ?_)
  refine ws_seq (ws_nxE (e := [some (.ref n), some v_law_rows_right_5, none]) (sSet_ok (d := v_law_rows_right_5) (mClo_ok (m := e__law_rows_right_2) (bs := [false, true, false]) (env := [some (.ref n), some v_law_rows_right_3, none]) c_law_rows_right_6)) ?_)
  refine rows_open c_law_rows_right_7 c_law_rows_right_8 rfl rfl (env := [some (.ref n), some v_law_rows_right_5, none]) t0.dc (by omega) ?_
  intro M1 s1 d1
  have t1 := t0.pick s1 d1
  refine cl_ret (env := [some (.ref n), some v_law_rows_right_5, none]) (env1 := [none, none, none]) rfl c_law_rows_right_9 ?_
  exact wp_finP' rfl (h _ t1.end_.1 t1.end_.2)
def v_law_right_1 : D := valC e__law_right_0 [none, none, none, none, none, none, none, none, none, none, none, none, none, none, none]
theorem c_law_right_2 : chkC e__law_right_0 [none, none, none, none, none, none, none, none, none, none, none, none, none, none, none] = true := by decide +kernel
def mn_law_right_3 : List D := dd (lstC e__law_right_2 [none, none, some v_law_right_1, none, none, none, none, none, none, none, none, none, none, none, none])
theorem c_law_right_4 : chkM e__law_right_2 [none, none, some v_law_right_1, none, none, none, none, none, none, none, none, none, none, none, none] = true := by decide +kernel
def mn_law_right_5 : List D := dd (lstC e__law_right_1 [none, none, some v_law_right_1, none, none, none, none, none, none, none, none, none, none, none, none])
theorem c_law_right_6 : chkM e__law_right_1 [none, none, some v_law_right_1, none, none, none, none, none, none, none, none, none, none, none, none] = true := by decide +kernel
def v_law_right_7 (x1 x2 : D) : D := valC e__law_right_3 [none, none, none, some x1, some x2, none, none, none, none, none, none, none, none, none, none]
theorem c_law_right_8 : ∀ x1 ∈ mn_law_right_3, ∀ x2 ∈ mn_law_right_5, chkC e__law_right_3 [none, none, none, some x1, some x2, none, none, none, none, none, none, none, none, none, none] = true := by decide +kernel
def v_law_right_9 (x1 x2 : D) : D := valC e__law_right_4 [none, some v_law_1, none, some x1, some x2, some (v_law_right_7 x1 x2), none, none, none, none, none, none, none, none, none]
theorem c_law_right_10 : ∀ x1 ∈ mn_law_right_3, ∀ x2 ∈ mn_law_right_5, chkC e__law_right_4 [none, some v_law_1, none, some x1, some x2, some (v_law_right_7 x1 x2), none, none, none, none, none, none, none, none, none] = true := by decide +kernel
def v_law_right_11 (x1 x2 : D) : D := valC e__law_right_5 [none, none, none, none, none, none, some (v_law_right_9 x1 x2), none, none, none, none, none, none, none, none]
theorem c_law_right_12 : ∀ x1 ∈ mn_law_right_3, ∀ x2 ∈ mn_law_right_5, chkC e__law_right_5 [none, none, none, none, none, none, some (v_law_right_9 x1 x2), none, none, none, none, none, none, none, none] = true := by decide +kernel
theorem c_law_right_13 : ∀ x1 ∈ mn_law_right_3, ∀ x2 ∈ mn_law_right_5, chkF e__law_right_6 [none, some v_law_1, none, some x1, some x2, some (v_law_right_7 x1 x2), none, some (v_law_right_11 x1 x2), none, none, none, none, none, none, none] = true := by decide +kernel
def v_law_right_14 (x1 x2 : D) : D := valC e__law_right_7 [none, none, none, none, none, some (v_law_right_7 x1 x2), some (v_law_right_9 x1 x2), none, none, none, none, none, none, none, none]
theorem c_law_right_15 : ∀ x1 ∈ mn_law_right_3, ∀ x2 ∈ mn_law_right_5, chkC e__law_right_7 [none, none, none, none, none, some (v_law_right_7 x1 x2), some (v_law_right_9 x1 x2), none, none, none, none, none, none, none, none] = true := by decide +kernel
theorem c_law_right_16 : ∀ x1 ∈ mn_law_right_3, ∀ x2 ∈ mn_law_right_5, chkF e__law_right_8 [none, some v_law_1, none, some x1, some x2, some (v_law_right_7 x1 x2), none, some (v_law_right_14 x1 x2), none, none, none, none, none, none, none] = true := by decide +kernel
def v_law_right_17 : D := valC e__law_right_9 [none, none, none, none, none, none, none, none, none, none, none, none, none, none, none]
theorem c_law_right_18 : chkC e__law_right_9 [none, none, none, none, none, none, none, none, none, none, none, none, none, none, none] = true := by decide +kernel
def mn_law_right_19 : List D := dd (lstC e__law_right_10 [none, none, none, none, none, none, none, none, some v_law_right_17, none, none, none, none, none, none])
theorem c_law_right_20 : chkM e__law_right_10 [none, none, none, none, none, none, none, none, some v_law_right_17, none, none, none, none, none, none] = true := by decide +kernel
def v_law_right_21 (x3 : D) : D := valC e__law_right_11 [none, none, none, none, none, none, none, none, some v_law_right_17, some x3, none, none, none, none, none]
theorem c_law_right_22 : ∀ x3 ∈ mn_law_right_19, chkC e__law_right_11 [none, none, none, none, none, none, none, none, some v_law_right_17, some x3, none, none, none, none, none] = true := by decide +kernel
theorem c_law_right_23_0 : ∀ x1 ∈ (mn_law_right_3.drop 0).take 1, ∀ x2 ∈ mn_law_right_5, ∀ x3 ∈ mn_law_right_19, chkF e__law_right_12 [none, some v_law_1, none, some x1, none, some (v_law_right_7 x1 x2), none, some (v_law_right_21 x3), none, some x3, none, none, none, none, none] = true := by decide +kernel
theorem c_law_right_23_1 : ∀ x1 ∈ (mn_law_right_3.drop 1).take 1, ∀ x2 ∈ mn_law_right_5, ∀ x3 ∈ mn_law_right_19, chkF e__law_right_12 [none, some v_law_1, none, some x1, none, some (v_law_right_7 x1 x2), none, some (v_law_right_21 x3), none, some x3, none, none, none, none, none] = true := by decide +kernel
theorem c_law_right_23_2 : ∀ x1 ∈ (mn_law_right_3.drop 2).take 1, ∀ x2 ∈ mn_law_right_5, ∀ x3 ∈ mn_law_right_19, chkF e__law_right_12 [none, some v_law_1, none, some x1, none, some (v_law_right_7 x1 x2), none, some (v_law_right_21 x3), none, some x3, none, none, none, none, none] = true := by decide +kernel
theorem c_law_right_23_3 : ∀ x1 ∈ (mn_law_right_3.drop 3).take 1, ∀ x2 ∈ mn_law_right_5, ∀ x3 ∈ mn_law_right_19, chkF e__law_right_12 [none, some v_law_1, none, some x1, none, some (v_law_right_7 x1 x2), none, some (v_law_right_21 x3), none, some x3, none, none, none, none, none] = true := by decide +kernel
theorem c_law_right_23_4 : ∀ x1 ∈ (mn_law_right_3.drop 4).take 1, ∀ x2 ∈ mn_law_right_5, ∀ x3 ∈ mn_law_right_19, chkF e__law_right_12 [none, some v_law_1, none, some x1, none, some (v_law_right_7 x1 x2), none, some (v_law_right_21 x3), none, some x3, none, none, none, none, none] = true := by decide +kernel
theorem c_law_right_23_5 : ∀ x1 ∈ (mn_law_right_3.drop 5).take 1, ∀ x2 ∈ mn_law_right_5, ∀ x3 ∈ mn_law_right_19, chkF e__law_right_12 [none, some v_law_1, none, some x1, none, some (v_law_right_7 x1 x2), none, some (v_law_right_21 x3), none, some x3, none, none, none, none, none] = true := by decide +kernel
theorem c_law_right_23_6 : ∀ x1 ∈ (mn_law_right_3.drop 6).take 1, ∀ x2 ∈ mn_law_right_5, ∀ x3 ∈ mn_law_right_19, chkF e__law_right_12 [none, some v_law_1, none, some x1, none, some (v_law_right_7 x1 x2), none, some (v_law_right_21 x3), none, some x3, none, none, none, none, none] = true := by decide +kernel
theorem c_law_right_23_7 : ∀ x1 ∈ (mn_law_right_3.drop 7).take 1, ∀ x2 ∈ mn_law_right_5, ∀ x3 ∈ mn_law_right_19, chkF e__law_right_12 [none, some v_law_1, none, some x1, none, some (v_law_right_7 x1 x2), none, some (v_law_right_21 x3), none, some x3, none, none, none, none, none] = true := by decide +kernel
theorem c_law_right_23_8 : ∀ x1 ∈ (mn_law_right_3.drop 8).take 1, ∀ x2 ∈ mn_law_right_5, ∀ x3 ∈ mn_law_right_19, chkF e__law_right_12 [none, some v_law_1, none, some x1, none, some (v_law_right_7 x1 x2), none, some (v_law_right_21 x3), none, some x3, none, none, none, none, none] = true := by decide +kernel
theorem c_law_right_23_9 : ∀ x1 ∈ (mn_law_right_3.drop 9).take 1, ∀ x2 ∈ mn_law_right_5, ∀ x3 ∈ mn_law_right_19, chkF e__law_right_12 [none, some v_law_1, none, some x1, none, some (v_law_right_7 x1 x2), none, some (v_law_right_21 x3), none, some x3, none, none, none, none, none] = true := by decide +kernel
theorem c_law_right_23_10 : ∀ x1 ∈ (mn_law_right_3.drop 10).take 1, ∀ x2 ∈ mn_law_right_5, ∀ x3 ∈ mn_law_right_19, chkF e__law_right_12 [none, some v_law_1, none, some x1, none, some (v_law_right_7 x1 x2), none, some (v_law_right_21 x3), none, some x3, none, none, none, none, none] = true := by decide +kernel
theorem c_law_right_23_11 : ∀ x1 ∈ (mn_law_right_3.drop 11).take 1, ∀ x2 ∈ mn_law_right_5, ∀ x3 ∈ mn_law_right_19, chkF e__law_right_12 [none, some v_law_1, none, some x1, none, some (v_law_right_7 x1 x2), none, some (v_law_right_21 x3), none, some x3, none, none, none, none, none] = true := by decide +kernel
theorem c_law_right_23 : ∀ x1 ∈ mn_law_right_3, ∀ x2 ∈ mn_law_right_5, ∀ x3 ∈ mn_law_right_19, chkF e__law_right_12 [none, some v_law_1, none, some x1, none, some (v_law_right_7 x1 x2), none, some (v_law_right_21 x3), none, some x3, none, none, none, none, none] = true := in_pieces (c := 1) (N := 12) (by decide) (by decide +kernel) (fun j hj => by
  match j, hj with
  | 0, _ => exact c_law_right_23_0
  | 1, _ => exact c_law_right_23_1
  | 2, _ => exact c_law_right_23_2
  | 3, _ => exact c_law_right_23_3
  | 4, _ => exact c_law_right_23_4
  | 5, _ => exact c_law_right_23_5
  | 6, _ => exact c_law_right_23_6
  | 7, _ => exact c_law_right_23_7
  | 8, _ => exact c_law_right_23_8
  | 9, _ => exact c_law_right_23_9
  | 10, _ => exact c_law_right_23_10
  | 11, _ => exact c_law_right_23_11
  | j + 12, h => exact absurd h (by omega))
def v_law_right_24 (x3 : D) : D := valC e__law_right_13 [none, none, none, none, none, none, none, none, some v_law_right_17, some x3, none, none, none, none, none]
theorem c_law_right_25 : ∀ x3 ∈ mn_law_right_19, chkC e__law_right_13 [none, none, none, none, none, none, none, none, some v_law_right_17, some x3, none, none, none, none, none] = true := by decide +kernel
theorem c_law_right_26 : ∀ x3 ∈ mn_law_right_19, chkF e__law_right_14 [none, some v_law_1, none, none, none, none, none, some (v_law_right_24 x3), none, some x3, none, none, none, none, none] = true := by decide +kernel
theorem c_law_right_27 : ∀ x1 ∈ mn_law_right_3, ∀ x2 ∈ mn_law_right_5, chkF e__law_right_15 [none, some v_law_1, none, none, some x2, some (v_law_right_7 x1 x2), none, none, none, none, none, none, none, none, none] = true := by decide +kernel
def v_law_right_28 : D := valC e__law_right_16 [none, none, none, none, none, none, none, none, none, none, none, none, none, none, none]
theorem c_law_right_29 : chkC e__law_right_16 [none, none, none, none, none, none, none, none, none, none, none, none, none, none, none] = true := by decide +kernel
def mn_law_right_30 : List D := dd (lstC e__law_right_17 [none, none, none, none, none, none, none, none, none, none, some v_law_right_28, none, none, none, none])
theorem c_law_right_31 : chkM e__law_right_17 [none, none, none, none, none, none, none, none, none, none, some v_law_right_28, none, none, none, none] = true := by decide +kernel
def v_law_right_32 (x4 : D) : D := valC e__law_right_18 [none, none, none, none, none, none, none, none, none, none, none, some x4, none, none, none]
theorem c_law_right_33 : ∀ x4 ∈ mn_law_right_30, chkC e__law_right_18 [none, none, none, none, none, none, none, none, none, none, none, some x4, none, none, none] = true := by decide +kernel
def mn_law_right_34 : List D := dd (lstC e__law_right_19 [none, none, none, none, none, none, none, none, none, none, none, none, none, none, none])
theorem c_law_right_35 : chkM e__law_right_19 [none, none, none, none, none, none, none, none, none, none, none, none, none, none, none] = true := by decide +kernel
def v_law_right_36 (x4 : D) : D := valC e__law_right_20 [none, some v_law_1, none, none, none, none, none, none, none, none, none, some x4, some (v_law_right_32 x4), none, none]
theorem c_law_right_37 : ∀ x4 ∈ mn_law_right_30, chkC e__law_right_20 [none, some v_law_1, none, none, none, none, none, none, none, none, none, some x4, some (v_law_right_32 x4), none, none] = true := by decide +kernel
theorem c_law_right_38 : ∀ x4 ∈ mn_law_right_30, ∀ x5 ∈ mn_law_right_34, chkT e__law_right_21 [none, some v_law_1, some x5, none, none, none, none, none, none, none, none, none, none, some (v_law_right_36 x4), none] = true := by decide +kernel
set_option maxHeartbeats 4000000 in
theorem R_law_right {n k : Nat} {M : Sto} {P : D → Sto → Prop} (hd : Dice k M n) (hk : k < 2 ^ 50) (h : ∀ M', Same n M M' → Dice (k + 5) M' n → P (.bl true) M') : wp (F__law_right [.ref n, v_law_1] M) P := by
  unfold F__law_right
  refine wp_fn rfl ?_
  unfold b__law_right
  have t0 := Trk.start hd
  refine ws_seq (ws_nxE (e := [some (.ref n), some v_law_1, some v_law_right_1, none, none, none, none, none, none, none, none, none, none, none, none]) (sSet_ok (d := v_law_right_1) (mClo_ok (m := e__law_right_0) (bs := [false, false, false, false, false, false, false, false, false, false, false, false, false, false, false]) (env := [some (.ref n), some v_law_1, none, none, none, none, none, none, none, none, none, none, none, none, none]) c_law_right_2)) ?_)
  refine cl_pick2 (env := [some (.ref n), some v_law_1, some v_law_right_1, none, none, none, none, none, none, none, none, none, none, none, none]) (env1 := [none, none, some v_law_right_1, none, none, none, none, none, none, none, none, none, none, none, none]) (env1' := [none, none, some v_law_right_1, none, none, none, none, none, none, none, none, none, none, none, none]) t0.dc (by omega) rfl rfl c_law_right_4 rfl c_law_right_6 ?_
  intro x1 x2 M1 hx1 hx2 s1 d1
  replace hx1 : x1 ∈ mn_law_right_3 := hx1
  replace hx2 : x2 ∈ mn_law_right_5 := hx2
  have t1 := t0.pick s1 d1
  refine ws_seq (ws_nxE (e := [some (.ref n), some v_law_1, some v_law_right_1, some x1, some x2, some (v_law_right_7 x1 x2), none, none, none, none, none, none, none, none, none]) (sSet_ok (d := (v_law_right_7 x1 x2)) (mClo_ok (m := e__law_right_3) (bs := [false, false, false, true, true, false, false, false, false, false, false, false, false, false, false]) (env := [some (.ref n), some v_law_1, some v_law_right_1, some x1, some x2, none, none, none, none, none, none, none, none, none, none]) (c_law_right_8 x1 hx1 x2 hx2))) ?_)
  refine ws_seq (ws_nxE (e := [some (.ref n), some v_law_1, some v_law_right_1, some x1, some x2, some (v_law_right_7 x1 x2), some (v_law_right_9 x1 x2), none, none, none, none, none, none, none, none]) (sSet_ok (d := (v_law_right_9 x1 x2)) (mClo_ok (m := e__law_right_4) (bs := [false, true, false, true, true, true, false, false, false, false, false, false, false, false, false]) (env := [some (.ref n), some v_law_1, some v_law_right_1, some x1, some x2, some (v_law_right_7 x1 x2), none, none, none, none, none, none, none, none, none]) (c_law_right_10 x1 hx1 x2 hx2))) ?_)
  refine ws_seq (ws_nxE (e := [some (.ref n), some v_law_1, some v_law_right_1, some x1, some x2, some (v_law_right_7 x1 x2), some (v_law_right_9 x1 x2), some (v_law_right_11 x1 x2), none, none, none, none, none, none, none]) (sSet_ok (d := (v_law_right_11 x1 x2)) (mClo_ok (m := e__law_right_5) (bs := [false, false, false, false, false, false, true, false, false, false, false, false, false, false, false]) (env := [some (.ref n), some v_law_1, some v_law_right_1, some x1, some x2, some (v_law_right_7 x1 x2), some (v_law_right_9 x1 x2), none, none, none, none, none, none, none, none]) (c_law_right_12 x1 hx1 x2 hx2))) ?_)
  refine cl_if (env := [some (.ref n), some v_law_1, some v_law_right_1, some x1, some x2, some (v_law_right_7 x1 x2), some (v_law_right_9 x1 x2), some (v_law_right_11 x1 x2), none, none, none, none, none, none, none]) (env1 := [none, some v_law_1, none, some x1, some x2, some (v_law_right_7 x1 x2), none, some (v_law_right_11 x1 x2), none, none, none, none, none, none, none]) rfl (c_law_right_13 x1 hx1 x2 hx2) ?_
  refine ws_seq (ws_nxE (e := [some (.ref n), some v_law_1, some v_law_right_1, some x1, some x2, some (v_law_right_7 x1 x2), some (v_law_right_9 x1 x2), some (v_law_right_14 x1 x2), none, none, none, none, none, none, none]) (sSet_ok (d := (v_law_right_14 x1 x2)) (mClo_ok (m := e__law_right_7) (bs := [false, false, false, false, false, true, true, false, false, false, false, false, false, false, false]) (env := [some (.ref n), some v_law_1, some v_law_right_1, some x1, some x2, some (v_law_right_7 x1 x2), some (v_law_right_9 x1 x2), some (v_law_right_11 x1 x2), none, none, none, none, none, none, none]) (c_law_right_15 x1 hx1 x2 hx2))) ?_)
  refine cl_if (env := [some (.ref n), some v_law_1, some v_law_right_1, some x1, some x2, some (v_law_right_7 x1 x2), some (v_law_right_9 x1 x2), some (v_law_right_14 x1 x2), none, none, none, none, none, none, none]) (env1 := [none, some v_law_1, none, some x1, some x2, some (v_law_right_7 x1 x2), none, some (v_law_right_14 x1 x2), none, none, none, none, none, none, none]) rfl (c_law_right_16 x1 hx1 x2 hx2) ?_
  refine ws_seq (ws_nxE (e := [some (.ref n), some v_law_1, some v_law_right_1, some x1, some x2, some (v_law_right_7 x1 x2), some (v_law_right_9 x1 x2), some (v_law_right_14 x1 x2), some v_law_right_17, none, none, none, none, none, none]) (sSet_ok (d := v_law_right_17) (mClo_ok (m := e__law_right_9) (bs := [false, false, false, false, false, false, false, false, false, false, false, false, false, false, false]) (env := [some (.ref n), some v_law_1, some v_law_right_1, some x1, some x2, some (v_law_right_7 x1 x2), some (v_law_right_9 x1 x2), some (v_law_right_14 x1 x2), none, none, none, none, none, none, none]) c_law_right_18)) ?_)
  refine cl_pick (env := [some (.ref n), some v_law_1, some v_law_right_1, some x1, some x2, some (v_law_right_7 x1 x2), some (v_law_right_9 x1 x2), some (v_law_right_14 x1 x2), some v_law_right_17, none, none, none, none, none, none]) (env1 := [none, none, none, none, none, none, none, none, some v_law_right_17, none, none, none, none, none, none]) t1.dc (by omega) rfl rfl c_law_right_20 ?_
  intro x3 M2 hx3 s2 d2
  replace hx3 : x3 ∈ mn_law_right_19 := hx3
  have t2 := t1.pick s2 d2
  refine ws_seq (ws_nxE (e := [some (.ref n), some v_law_1, some v_law_right_1, some x1, some x2, some (v_law_right_7 x1 x2), some (v_law_right_9 x1 x2), some (v_law_right_21 x3), some v_law_right_17, some x3, none, none, none, none, none]) (sSet_ok (d := (v_law_right_21 x3)) (mClo_ok (m := e__law_right_11) (bs := [false, false, false, false, false, false, false, false, true, true, false, false, false, false, false]) (env := [some (.ref n), some v_law_1, some v_law_right_1, some x1, some x2, some (v_law_right_7 x1 x2), some (v_law_right_9 x1 x2), some (v_law_right_14 x1 x2), some v_law_right_17, some x3, none, none, none, none, none]) (c_law_right_22 x3 hx3))) ?_)
  refine cl_if (env := [some (.ref n), some v_law_1, some v_law_right_1, some x1, some x2, some (v_law_right_7 x1 x2), some (v_law_right_9 x1 x2), some (v_law_right_21 x3), some v_law_right_17, some x3, none, none, none, none, none]) (env1 := [none, some v_law_1, none, some x1, none, some (v_law_right_7 x1 x2), none, some (v_law_right_21 x3), none, some x3, none, none, none, none, none]) rfl (c_law_right_23 x1 hx1 x2 hx2 x3 hx3) ?_
  refine ws_seq (ws_nxE (e := [some (.ref n), some v_law_1, some v_law_right_1, some x1, some x2, some (v_law_right_7 x1 x2), some (v_law_right_9 x1 x2), some (v_law_right_24 x3), some v_law_right_17, some x3, none, none, none, none, none]) (sSet_ok (d := (v_law_right_24 x3)) (mClo_ok (m := e__law_right_13) (bs := [false, false, false, false, false, false, false, false, true, true, false, false, false, false, false]) (env := [some (.ref n), some v_law_1, some v_law_right_1, some x1, some x2, some (v_law_right_7 x1 x2), some (v_law_right_9 x1 x2), some (v_law_right_21 x3), some v_law_right_17, some x3, none, none, none, none, none]) (c_law_right_25 x3 hx3))) ?_)
  refine cl_if (env := [some (.ref n), some v_law_1, some v_law_right_1, some x1, some x2, some (v_law_right_7 x1 x2), some (v_law_right_9 x1 x2), some (v_law_right_24 x3), some v_law_right_17, some x3, none, none, none, none, none]) (env1 := [none, some v_law_1, none, none, none, none, none, some (v_law_right_24 x3), none, some x3, none, none, none, none, none]) rfl (c_law_right_26 x3 hx3) ?_
  refine cl_if (env := [some (.ref n), some v_law_1, some v_law_right_1, some x1, some x2, some (v_law_right_7 x1 x2), some (v_law_right_9 x1 x2), some (v_law_right_24 x3), some v_law_right_17, some x3, none, none, none, none, none]) (env1 := [none, some v_law_1, none, none, some x2, some (v_law_right_7 x1 x2), none, none, none, none, none, none, none, none, none]) rfl (c_law_right_27 x1 hx1 x2 hx2) ?_
  refine ws_seq (ws_nxE (e := [some (.ref n), some v_law_1, some v_law_right_1, some x1, some x2, some (v_law_right_7 x1 x2), some (v_law_right_9 x1 x2), some (v_law_right_24 x3), some v_law_right_17, some x3, some v_law_right_28, none, none, none, none]) (sSet_ok (d := v_law_right_28) (mClo_ok (m := e__law_right_16) (bs := [false, false, false, false, false, false, false, false, false, false, false, false, false, false, false]) (env := [some (.ref n), some v_law_1, some v_law_right_1, some x1, some x2, some (v_law_right_7 x1 x2), some (v_law_right_9 x1 x2), some (v_law_right_24 x3), some v_law_right_17, some x3, none, none, none, none, none]) c_law_right_29)) ?_)
  refine cl_pick (env := [some (.ref n), some v_law_1, some v_law_right_1, some x1, some x2, some (v_law_right_7 x1 x2), some (v_law_right_9 x1 x2), some (v_law_right_24 x3), some v_law_right_17, some x3, some v_law_right_28, none, none, none, none]) (env1 := [none, none, none, none, none, none, none, none, none, none, some v_law_right_28, none, none, none, none]) t2.dc (by omega) rfl rfl c_law_right_31 ?_
  intro x4 M3 hx4 s3 d3
  replace hx4 : x4 ∈ mn_law_right_30 := hx4
  have t3 := t2.pick s3 d3
  refine ws_seq (ws_nxE (e := [some (.ref n), some v_law_1, some v_law_right_1, some x1, some x2, some (v_law_right_7 x1 x2), some (v_law_right_9 x1 x2), some (v_law_right_24 x3), some v_law_right_17, some x3, some v_law_right_28, some x4, some (v_law_right_32 x4), none, none]) (sSet_ok (d := (v_law_right_32 x4)) (mClo_ok (m := e__law_right_18) (bs := [false, false, false, false, false, false, false, false, false, false, false, true, false, false, false]) (env := [some (.ref n), some v_law_1, some v_law_right_1, some x1, some x2, some (v_law_right_7 x1 x2), some (v_law_right_9 x1 x2), some (v_law_right_24 x3), some v_law_right_17, some x3, some v_law_right_28, some x4, none, none, none]) (c_law_right_33 x4 hx4))) ?_)
  refine cl_pick (env := [some (.ref n), some v_law_1, some v_law_right_1, some x1, some x2, some (v_law_right_7 x1 x2), some (v_law_right_9 x1 x2), some (v_law_right_24 x3), some v_law_right_17, some x3, some v_law_right_28, some x4, some (v_law_right_32 x4), none, none]) (env1 := [none, none, none, none, none, none, none, none, none, none, none, none, none, none, none]) t3.dc (by omega) rfl rfl c_law_right_35 ?_
  intro x5 M4 hx5 s4 d4
  replace hx5 : x5 ∈ mn_law_right_34 := hx5
  have t4 := t3.pick s4 d4
  refine ws_seq (ws_nxE (e := [some (.ref n), some v_law_1, some x5, some x1, some x2, some (v_law_right_7 x1 x2), some (v_law_right_9 x1 x2), some (v_law_right_24 x3), some v_law_right_17, some x3, some v_law_right_28, some x4, some (v_law_right_32 x4), some (v_law_right_36 x4), none]) (sSet_ok (d := (v_law_right_36 x4)) (mClo_ok (m := e__law_right_20) (bs := [false, true, false, false, false, false, false, false, false, false, false, true, true, false, false]) (env := [some (.ref n), some v_law_1, some x5, some x1, some x2, some (v_law_right_7 x1 x2), some (v_law_right_9 x1 x2), some (v_law_right_24 x3), some v_law_right_17, some x3, some v_law_right_28, some x4, some (v_law_right_32 x4), none, none]) (c_law_right_37 x4 hx4))) ?_)
  refine cl_ret (env := [some (.ref n), some v_law_1, some x5, some x1, some x2, some (v_law_right_7 x1 x2), some (v_law_right_9 x1 x2), some (v_law_right_24 x3), some v_law_right_17, some x3, some v_law_right_28, some x4, some (v_law_right_32 x4), some (v_law_right_36 x4), none]) (env1 := [none, some v_law_1, some x5, none, none, none, none, none, none, none, none, none, none, some (v_law_right_36 x4), none]) rfl (c_law_right_38 x4 hx4 x5 hx5) ?_
  exact wp_finP' rfl (h _ t4.end_.1 t4.end_.2)
theorem c_law_3 : chkV e_law_1 [none, none, none, none, none, none] (.str "") = true := by decide +kernel
theorem c_law_4 : chkV e_law_2 [none, none, none, none, none, none] (.str "web") = true := by decide +kernel
theorem c_law_5 : chkTL e_law_3 [none, none, none, none, none, some (.ref 0)] [[(.str ""), (.str "web")]] = true := by decide +kernel
theorem plain_wp (ns : List Int) (hn : ns.length ≤ 63) : wp (F_law [.lst (ns.map D.int)] []) fun d _ => d = .bl true := by
  unfold F_law
  refine wp_fn rfl ?_
  unfold b_law
  refine ws_seq (ws_nxE (e := [some (.lst (ns.map D.int)), some v_law_1, none, none, none, none]) (sSet_ok (d := v_law_1) (mClo_ok (m := e_law_0) (bs := [false, false, false, false, false, false]) (env := [some (.lst (ns.map D.int)), none, none, none, none, none]) c_law_2)) ?_)
  refine ws_seq ?_
  refine ws_for (fun xs e M => (∃ a2 a3 a4 a5, e = [some (.lst (ns.map D.int)), some v_law_1, a2, a3, a4, a5]) ∧ ∀ x ∈ xs, ∃ i : Nat, x = .int (i : Int) ∧ i < 2 ^ 60) ?_ ?_ ?_
  · exact spots_wp (K := 8) (z := 0) hn ⟨by decide, by decide⟩ rfl fun xs hx => ⟨xs, rfl, ⟨_, _, _, _, rfl⟩, hx⟩
  rotate_left
  · intro x xs e M hI
    obtain ⟨⟨a2, a3, a4, a5, rfl⟩, hx⟩ := hI
    obtain ⟨i, rfl, hi⟩ := hx x (List.mem_cons_self ..)
    refine ⟨_, rfl, ?_⟩
    refine ws_seq (ws_set (wp_call (wp_cons (wp_var rfl (wp_cons (wp_var rfl (wp_nil ?_)))))))
    refine dice_wp hi ?_
    intro a b ha hb1 hb2
    have d0 : Dice 0 (M ++ [.lst [.int a, .int b, .int 0]]) M.length := ⟨a, b, 0, by simp, ha, hb1, hb2, by decide, by decide⟩
    generalize (M ++ [Ob.lst [.int a, .int b, .int 0]]) = M0 at d0
    generalize M.length = n at d0
    refine ws_for (fun xs e M => (∃ a2 a4 a5, e = [some (.lst (ns.map D.int)), some v_law_1, a2, some (.ref n), a4, a5]) ∧ ∃ k, Dice k M n ∧ k + 6 * xs.length < 2 ^ 49) ?_ ?_ ?_
    · exact turns_wp ⟨by decide, by decide⟩ ⟨_, rfl, ⟨_, _, _, rfl⟩, 0, d0, by decide +kernel⟩
    · intro e M hI
      obtain ⟨⟨b2, b4, b5, rfl⟩, _⟩ := hI
      exact ⟨⟨_, _, _, _, rfl⟩, fun u hu => hx u (List.mem_cons_of_mem _ hu)⟩
    intro y ys e M hI
    obtain ⟨⟨b2, b4, b5, rfl⟩, k, d0, hk⟩ := hI
    rw [List.length_cons] at hk
    refine ⟨_, rfl, ?_⟩
    refine ws_if ?_
    refine wn_orT (wp_call (wp_cons (wp_var rfl (wp_nil ?_))))
    refine R_law_rows_right d0 (by omega) fun M1 s1 d1 => ⟨rfl, ?_⟩
    refine wn_notT (wp_call (wp_cons (wp_var rfl (wp_cons (wp_var rfl (wp_nil ?_) (valC_cur c_law_2).1)))))
    refine R_law_right d1 (by omega) fun M2 s2 d2 => ⟨rfl, ?_⟩
    refine ⟨fun z => absurd z (by decide), fun _ => ?_⟩
    exact ⟨⟨_, _, _, rfl⟩, _, d2, by omega⟩
  intro e M hI
  obtain ⟨⟨a2, a3, a4, a5, rfl⟩, _⟩ := hI
  refine cl_newA (env := [some (.lst (ns.map D.int)), some v_law_1, a2, a3, a4, a5]) (xs := [(.str "")]) (aCons_ok (chkV_ok (m := e_law_1) (bs := [false, false, false, false, false, false]) (env := [some (.lst (ns.map D.int)), some v_law_1, a2, a3, a4, a5]) c_law_3).1 aNil_ok) (Nat.le_of_ble_eq_true rfl) (belows_cons rfl rfl) ?_
  intro p5 M1 y5 z1
  have g5_1 : M1[p5]? = some (.lst [(.str "")]) := by rw [z1]; exact live_new y5
  refine cl_appA (env := [some (.lst (ns.map D.int)), some v_law_1, a2, a3, a4, some (.ref p5)]) (p := p5) (ts := [(.str "")]) (x := (.str "web")) rfl g5_1 (Nat.le_of_ble_eq_true rfl) (chkV_ok (m := e_law_2) (bs := [false, false, false, false, false, false]) (env := [some (.lst (ns.map D.int)), some v_law_1, a2, a3, a4, some (.ref p5)]) c_law_4).1 rfl (show _ = [(.str ""), (.str "web")] from rfl) ?_
  have g5_2 := live_set (o := .lst [(.str ""), (.str "web")]) g5_1
  generalize M1.set p5 (.lst [(.str ""), (.str "web")]) = M2 at g5_2 ⊢
  refine cl_retL (env := [some (.lst (ns.map D.int)), some v_law_1, a2, a3, a4, some (.ref p5)]) (env1 := [none, none, none, none, none, some (.ref 0)]) (tss := [[(.str ""), (.str "web")]]) (ns := [p5]) (okL_1 rfl) rfl (by simp) ⟨g5_2, trivial⟩ c_law_5 ?_
  exact wp_finP' rfl rfl
theorem plain (ns : List Int) (h : ns.length ≤ 63) : ∃ M, F_law [.lst (ns.map D.int)] [] = .ok (.bl true) M := by
  obtain ⟨a, M, e, rfl⟩ := wp_eq (plain_wp ns h)
  exact ⟨M, e⟩
end Law
open PySem PySem.W PyProof.Rows
set_option maxRecDepth 100000 in
set_option maxHeartbeats 0 in
theorem PySem.Challenge.cw_onebetween_k08_errors_of_webs_holds : PySem.Challenge.rw_onebetween_k08_errors_of_webs.Holds := by
  w_on; o_law; k_head; (case hw => w_witness2)
  k_fill
  refine EV.walkG (l := PySem.Challenge.rw_onebetween_k08_errors_of_webs) (k := 13) (x := "script") (Fn := Law.F_law) (by decide +kernel) rfl rfl ⟨rfl, by decide, by decide⟩ (fun w h Y => by first | exact PySem.W.kIn_of Y | exact PySem.W.km_in_of Y) ?F Law.plain
  case F =>
    intro w mg fa h KX G hmg TF
    refine' Law.all_mk KX G hmg TF ?aC_Web ?pg_Web ?hd_Web ?po_Web ?sa_Web ?mk_Web ?kc_Web ?nf_Web_own_columns ?nf_Web_own_rows ?a0 ?l0 ?c0 ?k0 ?a1 ?l1 ?c1 ?k1 ?a2 ?l2 ?c2 ?k2 ?a3 ?l3 ?c3 ?k3 ?a4 ?l4 ?c4 ?k4 ?a5 ?l5 ?c5 ?k5 ?a6 ?l6 ?c6 ?k6 ?a7 ?l7 ?c7 ?k7 ?a8 ?i8 ?l8 ?c8 ?k8 ?a9 ?i9 ?l9 ?c9 ?k9 ?a10 ?i10 ?l10 ?c10 ?k10 ?a11 ?i11 ?l11 ?c11 ?k11 ?a12 ?i12 ?l12 ?c12 ?k12 ?a13 ?i13 ?l13 ?c13 ?k13 ?a14 ?i14 ?l14 ?c14 ?k14 ?a15 ?i15 ?l15 ?c15 ?k15 ?a16 ?i16 ?l16 ?c16 ?k16 ?a17 ?i17 ?l17 ?c17 ?k17 ?a18 ?l18 ?c18 ?k18 ?a19 ?l19 ?c19 ?k19 ?a20 ?l20 ?c20 ?k20 ?a21 ?l21 ?c21 ?k21 ?a22 ?l22 ?c22 ?k22 ?a23 ?l23 ?c23 ?k23 ?a24 ?l24 ?c24 ?k24 ?a25 ?l25 ?c25 ?k25 ?a26 ?l26 ?c26 ?k26 ?aC_InvalidNumber ?kc_InvalidNumber ?tyC_InvalidNumber ?exC_InvalidNumber ?ga_InvalidNumber ?gg_InvalidNumber ?hd_InvalidNumber ?no_InvalidNumber ?ini_InvalidNumber ?ovr_InvalidNumber ?sa_InvalidNumber ?iC_InvalidNumber ?tC_InvalidNumber ?lI_InvalidNumber ?cI_InvalidNumber ?aC_InvalidOperation ?kc_InvalidOperation ?tyC_InvalidOperation ?exC_InvalidOperation ?xc_InvalidOperation ?aC_InvalidWeb ?kc_InvalidWeb ?tyC_InvalidWeb ?exC_InvalidWeb ?xc_InvalidWeb ?xm_InvalidNumber_InvalidNumber ?xm_InvalidOperation_InvalidNumber ?xm_InvalidWeb_InvalidNumber ?xm_InvalidNumber_InvalidOperation ?xm_InvalidOperation_InvalidOperation ?xm_InvalidWeb_InvalidOperation ?xm_InvalidNumber_InvalidWeb ?xm_InvalidOperation_InvalidWeb ?xm_InvalidWeb_InvalidWeb ?ti__law_rows_right ?rc__law_rows_right ?nk__law_rows_right ?ti__law_right ?rc__law_right ?nk__law_right ?ti_law ?rc_law ?nk_law ?nd__law_right__law_rows_right ?nd_law__law_rows_right ?nd_law__law_right ?z_abs ?z_all ?z_bool ?z_enumerate ?z_int ?z_isinstance ?z_len ?z_max ?z_min ?z_range ?z_repr ?z_sorted ?z_tuple ?z_zip ?g_LIMIT ?g_MAX_PLACES
    (case aC_Web => k_is); (case pg_Web => k_is); (case hd_Web => k_is); (case po_Web => k_is); (case sa_Web => k_is); (case mk_Web => k_is); (case kc_Web => k_is); (case nf_Web_own_columns => k_is); (case nf_Web_own_rows => k_is); (case a0 => k_is); (case l0 => k_is); (case c0 => k_is); (case k0 => k_is); (case a1 => k_is); (case l1 => k_is); (case c1 => k_is); (case k1 => k_is); (case a2 => k_is); (case l2 => k_is); (case c2 => k_is); (case k2 => k_is); (case a3 => k_is); (case l3 => k_is); (case c3 => k_is); (case k3 => k_is); (case a4 => k_is); (case l4 => k_is); (case c4 => k_is); (case k4 => k_is); (case a5 => k_is); (case l5 => k_is); (case c5 => k_is); (case k5 => k_is); (case a6 => k_is); (case l6 => k_is); (case c6 => k_is); (case k6 => k_is); (case a7 => k_is); (case l7 => k_is); (case c7 => k_is); (case k7 => k_is); (case a8 => k_is); (case i8 => k_is); (case l8 => k_is); (case c8 => k_is); (case k8 => k_is); (case a9 => k_is); (case i9 => k_is); (case l9 => k_is); (case c9 => k_is); (case k9 => k_is); (case a10 => k_is); (case i10 => k_is); (case l10 => k_is); (case c10 => k_is); (case k10 => k_is); (case a11 => k_is); (case i11 => k_is); (case l11 => k_is); (case c11 => k_is); (case k11 => k_is); (case a12 => k_is); (case i12 => k_is); (case l12 => k_is); (case c12 => k_is); (case k12 => k_is); (case a13 => k_is); (case i13 => k_is); (case l13 => k_is); (case c13 => k_is); (case k13 => k_is); (case a14 => k_is); (case i14 => k_is); (case l14 => k_is); (case c14 => k_is); (case k14 => k_is); (case a15 => k_is); (case i15 => k_is); (case l15 => k_is); (case c15 => k_is); (case k15 => k_is); (case a16 => k_is); (case i16 => k_is); (case l16 => k_is); (case c16 => k_is); (case k16 => k_is); (case a17 => k_is); (case i17 => k_is); (case l17 => k_is); (case c17 => k_is); (case k17 => k_is); (case a18 => k_is); (case l18 => k_is); (case c18 => k_is); (case k18 => k_is); (case a19 => k_is); (case l19 => k_is); (case c19 => k_is); (case k19 => k_is); (case a20 => k_is); (case l20 => k_is); (case c20 => k_is); (case k20 => k_is); (case a21 => k_is); (case l21 => k_is); (case c21 => k_is); (case k21 => k_is); (case a22 => k_is); (case l22 => k_is); (case c22 => k_is); (case k22 => k_is); (case a23 => k_is); (case l23 => k_is); (case c23 => k_is); (case k23 => k_is); (case a24 => k_is); (case l24 => k_is); (case c24 => k_is); (case k24 => k_is); (case a25 => k_is); (case l25 => k_is); (case c25 => k_is); (case k25 => k_is); (case a26 => k_is); (case l26 => k_is); (case c26 => k_is); (case k26 => k_is); (case aC_InvalidNumber => k_is); (case kc_InvalidNumber => k_is); (case tyC_InvalidNumber => k_is); (case exC_InvalidNumber => k_is); (case ga_InvalidNumber => k_is); (case gg_InvalidNumber => k_is); (case hd_InvalidNumber => k_is); (case no_InvalidNumber => k_is); (case ini_InvalidNumber => kernel_rfl); (case ovr_InvalidNumber => kernel_rfl); (case sa_InvalidNumber => k_is); (case iC_InvalidNumber => k_is); (case tC_InvalidNumber => k_is); (case lI_InvalidNumber => k_is); (case cI_InvalidNumber => k_is); (case aC_InvalidOperation => k_is); (case kc_InvalidOperation => k_is); (case tyC_InvalidOperation => k_is); (case exC_InvalidOperation => k_is); (case xc_InvalidOperation => k_exc); (case aC_InvalidWeb => k_is); (case kc_InvalidWeb => k_is); (case tyC_InvalidWeb => k_is); (case exC_InvalidWeb => k_is); (case xc_InvalidWeb => k_exc); (case xm_InvalidNumber_InvalidNumber => kernel_rfl); (case xm_InvalidOperation_InvalidNumber => kernel_rfl); (case xm_InvalidWeb_InvalidNumber => kernel_rfl); (case xm_InvalidNumber_InvalidOperation => kernel_rfl); (case xm_InvalidOperation_InvalidOperation => kernel_rfl); (case xm_InvalidWeb_InvalidOperation => kernel_rfl); (case xm_InvalidNumber_InvalidWeb => kernel_rfl); (case xm_InvalidOperation_InvalidWeb => kernel_rfl); (case xm_InvalidWeb_InvalidWeb => kernel_rfl); (case ti__law_rows_right => (first | rfl | with_unfolding_all rfl | k_is)); (case rc__law_rows_right => rfl); (case nk__law_rows_right => (first | rfl | with_unfolding_all rfl | k_is)); (case ti__law_right => (first | rfl | with_unfolding_all rfl | k_is)); (case rc__law_right => rfl); (case nk__law_right => (first | rfl | with_unfolding_all rfl | k_is)); (case ti_law => (first | rfl | with_unfolding_all rfl | k_is)); (case rc_law => rfl); (case nk_law => (first | rfl | with_unfolding_all rfl | k_is)); (case nd__law_right__law_rows_right => decide); (case nd_law__law_rows_right => decide); (case nd_law__law_right => decide); (case z_abs => k_is); (case z_all => k_is); (case z_bool => k_is); (case z_enumerate => k_is); (case z_int => k_is); (case z_isinstance => k_is); (case z_len => k_is); (case z_max => k_is); (case z_min => k_is); (case z_range => k_is); (case z_repr => k_is); (case z_sorted => k_is); (case z_tuple => k_is); (case z_zip => k_is); (case g_LIMIT => k_is); (case g_MAX_PLACES => k_is)
