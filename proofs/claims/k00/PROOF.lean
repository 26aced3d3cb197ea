import PyProof.Rows.All
import Wide.All
import OpenK.AllK
import Wide.FinOn
import HandS.ForMost
import HandS.IsInst
import HandS.Zip
import HandS.Star
import HandS.Exc
import HandS.Wide
import HandS.RaiseMore
import HandS.TupMul
import HandS.TupAny
import HandS.Deep
import PySem.Challenge.RW_onebetween_k00_integers_and_letters
import HandS.Codes
set_option Elab.async false
set_option linter.all false
set_option maxRecDepth 100000
set_option maxHeartbeats 4000000
namespace EV
open PySem PySem.Spec PyProof.Rows L2

/-- built-in types -/
inductive TyN where
  | int | bool | str | tuple | list | dict
  deriving DecidableEq
def TyN.s : TyN → String
  | .int => "int"
  | .bool => "bool"
  | .str => "str"
  | .tuple => "tuple"
  | .list => "list"
  | .dict => "dict"
/-- plain values -/
inductive D where
  | non | bl (b : Bool) | int (i : Int) | str (x : Str) | ty (n : TyN)
  | tup (xs : List D) | lst (xs : List D) | dct (kvs : List (Key × D))
  | obj (c : Str) (fs : List (Str × D)) | ref (n : Nat)

/-- live objects -/
inductive Ob where
  | lst (xs : List D) | dct (kvs : List (Key × D)) | ins (c : Str) (fs : List (Str × D))

abbrev Sto := List Ob
abbrev DEnv := List (Option D)
structure Exn where
  c : Str
  fs : List (Str × D)
inductive Out (α : Type) where
  | ok (a : α) (M : Sto) | exc (e : Exn) (M : Sto) | bad
def Out.post {α : Type} (o : Out α) (P : α → Sto → Prop) (X : Exn → Sto → Prop) : Prop := match o with
  | .ok a M => P a M
  | .exc e M => X e M
  | .bad => False
def Out.bind {α β : Type} (o : Out α) (f : α → Sto → Out β) : Out β := match o with
  | .ok a M => f a M
  | .exc e M => .exc e M
  | .bad => .bad
theorem Out.post_bind {α β : Type} {o : Out α} {f : α → Sto → Out β} {P : β → Sto → Prop} {X : Exn → Sto → Prop} (h : (o.bind f).post P X) : o.post (fun a M => (f a M).post P X) X := by
  cases o <;> exact h
theorem Out.post_imp {α : Type} {o : Out α} {P P' : α → Sto → Prop} {X X' : Exn → Sto → Prop} (h : o.post P X) (hp : ∀ a M, P a M → P' a M) (hx : ∀ e M, X e M → X' e M) : o.post P' X' := by
  cases o with
  | ok a M => exact hp _ _ h
  | exc e M => exact hx _ _ h
  | bad => exact h

def Sub (F F' : Hp) : Prop := ∀ a o, F a = some o → F' a = some o
theorem Sub.refl (F : Hp) : Sub F F := fun _ _ h => h
theorem Sub.trans {F G H : Hp} (a : Sub F G) (b : Sub G H) : Sub F H := fun x o h => b x o (a x o h)
theorem Sub.rd {F F' : Hp} (s : Sub F F') {a : Addr} {u : HO} (h : Rd F a u) : Rd F' a u := by
  rcases h with h | ⟨o, h⟩
  · exact .inl (s _ _ h)
  · exact .inr ⟨o, s _ _ h⟩
theorem Sub.sqL {K : PySem.W.Frag} {F F' : Hp} (s : Sub F F') {a : Addr} {xs : List V} (h : SqL K F a xs) : SqL K F' a xs := h.elim (fun z => .inl (s.rd z)) .inr
theorem Sub.sqT {K : PySem.W.Frag} {F F' : Hp} (s : Sub F F') {a : Addr} {xs : List V} (h : SqT K F a xs) : SqT K F' a xs := h.elim (fun z => .inl (s.rd z)) .inr
theorem Sub.upd {F : Hp} {p : Addr} {o : HO} (h : F p = none) : Sub F (upd F p o) := fun b x e => by rw [upd_ne (ne_of_none e h)]; exact e

/-- a list as it lies: tracked, known, or written in the module -/
def LstR (K : PySem.W.Frag) (H : Hp) (a : Addr) (vs : List V) : Prop := Rd H a (.lst vs) ∨ ∃ (its : List Value) (n : Nat), K.lookup a = some { cls := .type "list", data := .seq its.toArray n } ∧ its.length ≤ sizeLine ∧ Vals vs its
theorem LstR.sq {K : PySem.W.Frag} {H : Hp} {a : Addr} {vs : List V} (h : LstR K H a vs) : SqL K H a vs := by
  rcases h with h | ⟨its, n, h1, h2, h3⟩
  · exact .inl h
  · exact .inr ⟨_, its.toArray, n, h1, rfl, rfl, rfl, by simpa using h2, by simpa using h3⟩
theorem LstR.of {K : PySem.W.Frag} {H : Hp} {a : Addr} {vs : List V} (h : H a = some (.lst vs)) : LstR K H a vs := .inl (.inl h)
theorem Sub.lstR {K : PySem.W.Frag} {F F' : Hp} (s : Sub F F') {a : Addr} {xs : List V} (h : LstR K F a xs) : LstR K F' a xs := h.elim (fun z => .inl (s.rd z)) .inr
theorem LstR.exact_ {X : Cx} {pins : List (Addr × Obj)} {σ : L2.St} {H : Hp} {s : Shared} {a : Addr} {vs : List V} (I : Inv X pins σ H s) (h : LstR X.K H a vs) :
    ∃ (its : List Value) (n : Nat), Vals vs its ∧ s.heap.get? a = some { cls := .type "list", data := .seq its.toArray n } ∧ vs.length ≤ sizeLine := by
  rcases h with h | ⟨its, n, h1, h2, h3⟩
  · obtain ⟨z, its, n, r, e⟩ := h.ok I.hok
    exact ⟨its, n, r, e, z⟩
  · exact ⟨its, n, h3, I.kIn _ _ h1, by rw [h3.length]; exact h2⟩
/-- what the classes are -/
structure Gd where
  K : PySem.W.Frag
  mg : Str → Option Value

mutual
def Rep (G : Gd) (F : Hp) (r : List Addr) : D → V → Prop
  | .non, v => v = .non
  | .bl b, v => v = .bl b
  | .int i, v => v = .int i
  | .str x, v => v = .str x
  | .ty n, v => v = .ty n.s
  | .tup xs, v => ∃ a vs, v = .ref a ∧ SqT G.K F a vs ∧ Reps G F r xs vs
  | .lst xs, v => ∃ a vs, v = .ref a ∧ LstR G.K F a vs ∧ Reps G F r xs vs
  | .dct kvs, v => ∃ a kws, v = .ref a ∧ F a = some (.dK kws) ∧ RepK G F r kvs kws
  | .obj c fs, v => ∃ a C dx vfs, v = .ref a ∧ G.mg c = some (.ref C) ∧ F a = some (.ins C dx vfs) ∧ RepF G F r fs vfs
  | .ref n, v => ∃ a, r[n]? = some a ∧ v = .ref a
def Reps (G : Gd) (F : Hp) (r : List Addr) : List D → List V → Prop
  | [], vs => vs = []
  | x :: xs, vs => ∃ v w, vs = v :: w ∧ Rep G F r x v ∧ Reps G F r xs w
def RepK (G : Gd) (F : Hp) (r : List Addr) : List (Key × D) → List (Key × V) → Prop
  | [], vs => vs = []
  | (k, x) :: xs, vs => ∃ v w, vs = (k, v) :: w ∧ Rep G F r x v ∧ RepK G F r xs w
def RepF (G : Gd) (F : Hp) (r : List Addr) : List (Str × D) → List (Str × V) → Prop
  | [], vs => vs = []
  | (k, x) :: xs, vs => ∃ v w, vs = (k, v) :: w ∧ Rep G F r x v ∧ RepF G F r xs w
end

theorem pre_get {r r' : List Addr} (h : r <+: r') {n : Nat} {a : Addr} (e : r[n]? = some a) : r'[n]? = some a := by
  obtain ⟨t, rfl⟩ := h
  obtain ⟨h1, h2⟩ := List.getElem?_eq_some_iff.mp e
  rw [List.getElem?_append_left h1]
  exact e

mutual
theorem Rep.mono {G : Gd} {F F' : Hp} {r r' : List Addr} (s : Sub F F') (p : r <+: r') : ∀ {d : D} {v : V}, Rep G F r d v → Rep G F' r' d v
  | .non, v, h => h
  | .bl b, v, h => h
  | .int i, v, h => h
  | .str x, v, h => h
  | .ty n, v, h => h
  | .tup xs, v, h => by
    unfold Rep at h ⊢
    obtain ⟨a, vs, e, q, z⟩ := h
    exact ⟨a, vs, e, s.sqT q, Reps.mono s p z⟩
  | .lst xs, v, h => by
    unfold Rep at h ⊢
    obtain ⟨a, vs, e, q, z⟩ := h
    exact ⟨a, vs, e, s.lstR q, Reps.mono s p z⟩
  | .dct kvs, v, h => by
    unfold Rep at h ⊢
    obtain ⟨a, vs, e, q, z⟩ := h
    exact ⟨a, vs, e, s _ _ q, RepK.mono s p z⟩
  | .obj c fs, v, h => by
    unfold Rep at h ⊢
    obtain ⟨a, C, dx, vfs, e, m, q, z⟩ := h
    exact ⟨a, C, dx, vfs, e, m, s _ _ q, RepF.mono s p z⟩
  | .ref n, v, h => by
    unfold Rep at h ⊢
    obtain ⟨a, e, z⟩ := h
    exact ⟨a, pre_get p e, z⟩
theorem Reps.mono {G : Gd} {F F' : Hp} {r r' : List Addr} (s : Sub F F') (p : r <+: r') : ∀ {d : List D} {v : List V}, Reps G F r d v → Reps G F' r' d v
  | [], v, h => h
  | x :: xs, vs, h => by
    unfold Reps at h ⊢
    obtain ⟨v, w, e, a, b⟩ := h
    exact ⟨v, w, e, Rep.mono s p a, Reps.mono s p b⟩
theorem RepK.mono {G : Gd} {F F' : Hp} {r r' : List Addr} (s : Sub F F') (p : r <+: r') : ∀ {d : List (Key × D)} {v : List (Key × V)}, RepK G F r d v → RepK G F' r' d v
  | [], v, h => h
  | (k, x) :: xs, vs, h => by
    unfold RepK at h ⊢
    obtain ⟨v, w, e, a, b⟩ := h
    exact ⟨v, w, e, Rep.mono s p a, RepK.mono s p b⟩
theorem RepF.mono {G : Gd} {F F' : Hp} {r r' : List Addr} (s : Sub F F') (p : r <+: r') : ∀ {d : List (Str × D)} {v : List (Str × V)}, RepF G F r d v → RepF G F' r' d v
  | [], v, h => h
  | (k, x) :: xs, vs, h => by
    unfold RepF at h ⊢
    obtain ⟨v, w, e, a, b⟩ := h
    exact ⟨v, w, e, Rep.mono s p a, RepF.mono s p b⟩
end

theorem Reps.length {G : Gd} {F : Hp} {r : List Addr} : ∀ {d : List D} {v : List V}, Reps G F r d v → v.length = d.length
  | [], v, h => by
    unfold Reps at h
    subst h
    rfl
  | x :: xs, vs, h => by
    unfold Reps at h
    obtain ⟨v, w, rfl, a, b⟩ := h
    rw [List.length_cons, List.length_cons, Reps.length b]
theorem Reps.get {G : Gd} {F : Hp} {r : List Addr} : ∀ {d : List D} {v : List V} {i : Nat} {x : D}, Reps G F r d v → d[i]? = some x → ∃ y, v[i]? = some y ∧ Rep G F r x y
  | [], v, i, x, h, e => by simp at e
  | y :: ys, vs, 0, x, h, e => by
    unfold Reps at h
    obtain ⟨v, w, rfl, a, b⟩ := h
    simp at e
    subst e
    exact ⟨v, rfl, a⟩
  | y :: ys, vs, i + 1, x, h, e => by
    unfold Reps at h
    obtain ⟨v, w, rfl, a, b⟩ := h
    obtain ⟨z, e1, e2⟩ := Reps.get (i := i) b (by simpa using e)
    exact ⟨z, by simpa using e1, e2⟩
theorem Reps.append {G : Gd} {F : Hp} {r : List Addr} : ∀ {d : List D} {v : List V} {d' : List D} {v' : List V}, Reps G F r d v → Reps G F r d' v' → Reps G F r (d ++ d') (v ++ v')
  | [], v, d', v', h, h' => by
    unfold Reps at h
    subst h
    exact h'
  | x :: xs, vs, d', v', h, h' => by
    unfold Reps at h
    obtain ⟨v, w, rfl, a, b⟩ := h
    show Reps G F r (x :: (xs ++ d')) (v :: (w ++ v'))
    unfold Reps
    exact ⟨v, _, rfl, a, Reps.append b h'⟩
theorem Reps.one {G : Gd} {F : Hp} {r : List Addr} {d : D} {v : V} (h : Rep G F r d v) : Reps G F r [d] [v] := by
  unfold Reps
  exact ⟨v, [], rfl, h, by unfold Reps; rfl⟩
theorem Reps.take {G : Gd} {F : Hp} {r : List Addr} : ∀ {d : List D} {v : List V} (n : Nat), Reps G F r d v → Reps G F r (d.take n) (v.take n)
  | d, v, 0, h => by unfold Reps; simp
  | [], v, n + 1, h => by
    unfold Reps at h
    subst h
    unfold Reps
    rfl
  | x :: xs, vs, n + 1, h => by
    unfold Reps at h
    obtain ⟨v, w, rfl, a, b⟩ := h
    show Reps G F r (x :: xs.take n) (v :: w.take n)
    unfold Reps
    exact ⟨v, _, rfl, a, Reps.take n b⟩
theorem Reps.drop {G : Gd} {F : Hp} {r : List Addr} : ∀ {d : List D} {v : List V} (n : Nat), Reps G F r d v → Reps G F r (d.drop n) (v.drop n)
  | d, v, 0, h => by simpa using h
  | [], v, n + 1, h => by
    unfold Reps at h
    subst h
    unfold Reps
    simp
  | x :: xs, vs, n + 1, h => by
    unfold Reps at h
    obtain ⟨v, w, rfl, a, b⟩ := h
    exact Reps.drop n b
theorem Reps.set {G : Gd} {F : Hp} {r : List Addr} {y : D} {u : V} (q : Rep G F r y u) : ∀ {d : List D} {v : List V} (n : Nat), Reps G F r d v → Reps G F r (d.set n y) (v.set n u)
  | [], v, n, h => by
    unfold Reps at h
    subst h
    unfold Reps
    simp
  | x :: xs, vs, 0, h => by
    unfold Reps at h
    obtain ⟨v, w, rfl, a, b⟩ := h
    show Reps G F r (y :: xs) (u :: w)
    unfold Reps
    exact ⟨u, w, rfl, q, b⟩
  | x :: xs, vs, n + 1, h => by
    unfold Reps at h
    obtain ⟨v, w, rfl, a, b⟩ := h
    show Reps G F r (x :: xs.set n y) (v :: w.set n u)
    unfold Reps
    exact ⟨v, _, rfl, a, Reps.set q n b⟩
theorem Reps.reverse {G : Gd} {F : Hp} {r : List Addr} : ∀ {d : List D} {v : List V}, Reps G F r d v → Reps G F r d.reverse v.reverse
  | [], v, h => by
    unfold Reps at h
    subst h
    unfold Reps
    simp
  | x :: xs, vs, h => by
    unfold Reps at h
    obtain ⟨v, w, rfl, a, b⟩ := h
    rw [List.reverse_cons, List.reverse_cons]
    exact (Reps.reverse b).append (Reps.one a)
theorem Reps.split {G : Gd} {F : Hp} {r : List Addr} : ∀ {d e : List D} {v : List V}, Reps G F r (d ++ e) v → ∃ v1 v2, v = v1 ++ v2 ∧ Reps G F r d v1 ∧ Reps G F r e v2
  | [], e, v, h => ⟨[], v, rfl, by unfold Reps; rfl, h⟩
  | x :: xs, e, vs, h => by
    have h : Reps G F r (x :: (xs ++ e)) vs := h
    unfold Reps at h
    obtain ⟨v, w, rfl, a, b⟩ := h
    obtain ⟨v1, v2, rfl, p, q⟩ := Reps.split b
    exact ⟨v :: v1, v2, rfl, by unfold Reps; exact ⟨v, v1, rfl, a, p⟩, q⟩
theorem Reps.nil {G : Gd} {F : Hp} {r : List Addr} : Reps G F r [] [] := by unfold Reps; rfl
theorem Reps.cons {G : Gd} {F : Hp} {r : List Addr} {d : D} {v : V} {ds : List D} {vs : List V} (h : Rep G F r d v) (h' : Reps G F r ds vs) : Reps G F r (d :: ds) (v :: vs) := by
  unfold Reps
  exact ⟨v, vs, rfl, h, h'⟩
theorem Reps.inv {G : Gd} {F : Hp} {r : List Addr} {d : D} {ds : List D} {vs : List V} (h : Reps G F r (d :: ds) vs) : ∃ v w, vs = v :: w ∧ Rep G F r d v ∧ Reps G F r ds w := by
  unfold Reps at h
  exact h
theorem Reps.inv0 {G : Gd} {F : Hp} {r : List Addr} {vs : List V} (h : Reps G F r [] vs) : vs = [] := by
  unfold Reps at h
  exact h
theorem Reps.inv1 {G : Gd} {F : Hp} {r : List Addr} {d : D} {vs : List V} (h : Reps G F r [d] vs) : ∃ v, vs = [v] ∧ Rep G F r d v := by
  obtain ⟨v, w, rfl, a, b⟩ := h.inv
  cases b.inv0
  exact ⟨v, rfl, a⟩
theorem Reps.inv2 {G : Gd} {F : Hp} {r : List Addr} {d e : D} {vs : List V} (h : Reps G F r [d, e] vs) : ∃ v w, vs = [v, w] ∧ Rep G F r d v ∧ Rep G F r e w := by
  obtain ⟨v, w, rfl, a, b⟩ := h.inv
  obtain ⟨u, rfl, c⟩ := b.inv1
  exact ⟨v, u, rfl, a, c⟩

/-! ### the store -/
def ObR (G : Gd) (F : Hp) (r : List Addr) (H : Hp) (a : Addr) : Ob → Prop
  | .lst xs => ∃ vs, H a = some (.lst vs) ∧ Reps G F r xs vs
  | .dct kvs => ∃ kws, H a = some (.dK kws) ∧ RepK G F r kvs kws
  | .ins c fs => ∃ C dx vfs, G.mg c = some (.ref C) ∧ H a = some (.ins C dx vfs) ∧ RepF G F r fs vfs
theorem ObR.mono {G : Gd} {F F' H H' : Hp} {r r' : List Addr} {a : Addr} {o : Ob} (s : Sub F F') (p : r <+: r') (e : ∀ u, H a = some u → H' a = some u) (h : ObR G F r H a o) : ObR G F' r' H' a o := by
  cases o with
  | lst xs => obtain ⟨vs, h1, h2⟩ := h; exact ⟨vs, e _ h1, h2.mono s p⟩
  | dct xs => obtain ⟨vs, h1, h2⟩ := h; exact ⟨vs, e _ h1, h2.mono s p⟩
  | ins c fs => obtain ⟨C, dx, vs, h0, h1, h2⟩ := h; exact ⟨C, dx, vs, h0, e _ h1, h2.mono s p⟩
theorem ObR.there {G : Gd} {F H : Hp} {r : List Addr} {a : Addr} {o : Ob} (h : ObR G F r H a o) : ∃ u, H a = some u := by
  cases o with
  | lst xs => obtain ⟨vs, h1, h2⟩ := h; exact ⟨_, h1⟩
  | dct xs => obtain ⟨vs, h1, h2⟩ := h; exact ⟨_, h1⟩
  | ins c fs => obtain ⟨C, dx, vs, h0, h1, h2⟩ := h; exact ⟨_, h1⟩

/-- F frozen, r the live objects' addresses, R reserved, M the store, in the abstract heap H -/
structure StoR (G : Gd) (F : Hp) (r : List Addr) (R : Hp) (M : Sto) (H : Hp) : Prop where
  len : M.length = r.length
  nd : r.Nodup
  sub : Sub F H
  res : Sub R H
  fr : ∀ a, a ∈ r → F a = none
  rr : ∀ a, a ∈ r → R a = none
  fx : ∀ a o, R a = some o → F a = none
  at_ : ∀ n a o, r[n]? = some a → M[n]? = some o → ObR G F (r.take n) H a o

theorem take_pre (r : List Addr) (n : Nat) : r.take n <+: r := List.take_prefix n r
theorem StoR.get {G : Gd} {F : Hp} {r : List Addr} {R : Hp} {M : Sto} {H : Hp} (S : StoR G F r R M H) {n : Nat} {o : Ob} (e : M[n]? = some o) : ∃ a, r[n]? = some a ∧ ObR G F (r.take n) H a o := by
  obtain ⟨h1, h2⟩ := List.getElem?_eq_some_iff.mp e
  have h3 : n < r.length := by rw [← S.len]; exact h1
  exact ⟨r[n], List.getElem?_eq_getElem h3, S.at_ n _ _ (List.getElem?_eq_getElem h3) e⟩
/-- a new frozen object -/
theorem StoR.froz {G : Gd} {F : Hp} {r : List Addr} {R : Hp} {M : Sto} {H : Hp} (S : StoR G F r R M H) {p : Addr} {u : HO} (hp : H p = none) : StoR G (upd F p u) r R M (upd H p u) := by
  have hF : F p = none := by
    cases q : F p with
    | none => rfl
    | some o => rw [S.sub _ _ q] at hp; cases hp
  have hR : R p = none := by
    cases q : R p with
    | none => rfl
    | some o => rw [S.res _ _ q] at hp; cases hp
  have hr : p ∉ r := fun hm => by
    obtain ⟨n, hn, e⟩ := List.getElem_of_mem hm
    have h3 : n < M.length := by rw [S.len]; exact hn
    obtain ⟨u, hu⟩ := (S.at_ n p _ (by rw [← e]; exact List.getElem?_eq_getElem hn) (List.getElem?_eq_getElem h3)).there
    rw [hp] at hu
    cases hu
  refine ⟨S.len, S.nd, fun a o e => ?_, fun a o e => ?_, fun a ha => ?_, S.rr, fun a o e => ?_, fun n a o h1 h2 => ?_⟩
  · by_cases h : a = p
    · subst h
      rw [upd_same] at e ⊢
      exact e
    · rw [upd_ne h] at e ⊢
      exact S.sub _ _ e
  · by_cases h : a = p
    · subst h
      rw [hR] at e
      cases e
    · rw [upd_ne h]
      exact S.res _ _ e
  · rw [upd_ne (show a ≠ p from fun z => hr (by rw [← z]; exact ha))]
    exact S.fr a ha
  · have h : a ≠ p := fun z => by
      subst z
      rw [hR] at e
      cases e
    rw [upd_ne h]
    exact S.fx a o e
  · exact (S.at_ n a o h1 h2).mono (Sub.upd hF) (List.prefix_refl _) fun u e => by rw [upd_ne (ne_of_none e hp)]; exact e
/-- a new live object -/
theorem StoR.live {G : Gd} {F : Hp} {r : List Addr} {R : Hp} {M : Sto} {H : Hp} (S : StoR G F r R M H) {p : Addr} {u : HO} (hp : H p = none) {o : Ob} (ho : ∀ H', H' p = some u → ObR G F r H' p o) : StoR G F (r ++ [p]) R (M ++ [o]) (upd H p u) := by
  have hF : F p = none := by
    cases q : F p with
    | none => rfl
    | some o => rw [S.sub _ _ q] at hp; cases hp
  have hR : R p = none := by
    cases q : R p with
    | none => rfl
    | some o => rw [S.res _ _ q] at hp; cases hp
  have hr : p ∉ r := fun hm => by
    obtain ⟨n, hn, e⟩ := List.getElem_of_mem hm
    have h3 : n < M.length := by rw [S.len]; exact hn
    obtain ⟨u, hu⟩ := (S.at_ n p _ (by rw [← e]; exact List.getElem?_eq_getElem hn) (List.getElem?_eq_getElem h3)).there
    rw [hp] at hu
    cases hu
  refine ⟨by rw [List.length_append, List.length_append, S.len]; rfl, ?_, fun a o e => ?_, fun a o e => ?_, fun a ha => ?_, fun a ha => ?_, S.fx, fun n a o' h1 h2 => ?_⟩
  · rw [List.nodup_append]
    refine ⟨S.nd, by simp, fun a ha b hb => ?_⟩
    have : b = p := by simpa using hb
    subst this
    exact fun z => hr (by rw [← z]; exact ha)
  · rw [upd_ne (ne_of_none e hF)]
    exact S.sub _ _ e
  · rw [upd_ne (ne_of_none e hR)]
    exact S.res _ _ e
  · rcases List.mem_append.mp ha with h | h
    · exact S.fr a h
    · have : a = p := by simpa using h
      subst this
      exact hF
  · rcases List.mem_append.mp ha with h | h
    · exact S.rr a h
    · have : a = p := by simpa using h
      subst this
      exact hR
  · by_cases hn : n < r.length
    · rw [List.getElem?_append_left hn] at h1
      rw [List.getElem?_append_left (by rw [S.len]; exact hn)] at h2
      rw [List.take_append_of_le_length (Nat.le_of_lt hn)]
      exact (S.at_ n a o' h1 h2).mono (Sub.refl _) (List.prefix_refl _) fun u e => by rw [upd_ne (ne_of_none e hp)]; exact e
    · have hl : n < (r ++ [p]).length := (List.getElem?_eq_some_iff.mp h1).1
      rw [List.length_append] at hl
      have hn' : n = r.length := by
        have : [p].length = 1 := rfl
        omega
      subst hn'
      rw [List.getElem?_append_right (Nat.le_refl _), Nat.sub_self] at h1
      rw [List.getElem?_append_right (by rw [S.len]; exact Nat.le_refl _), S.len, Nat.sub_self] at h2
      simp at h1 h2
      subst h1 h2
      rw [List.take_append_of_le_length (Nat.le_refl _), List.take_length]
      exact ho _ upd_same
/-- a live object changed -/
theorem StoR.write {G : Gd} {F : Hp} {r : List Addr} {R : Hp} {M : Sto} {H : Hp} (S : StoR G F r R M H) {n : Nat} {a : Addr} (ha : r[n]? = some a) {u : HO} {o : Ob} (ho : ∀ H', H' a = some u → ObR G F (r.take n) H' a o) : StoR G F r R (M.set n o) (upd H a u) := by
  have hm : a ∈ r := List.mem_of_getElem? ha
  refine ⟨by rw [List.length_set]; exact S.len, S.nd, fun b o e => ?_, fun b o e => ?_, S.fr, S.rr, S.fx, fun k b o' h1 h2 => ?_⟩
  · rw [upd_ne (ne_of_none e (S.fr a hm))]
    exact S.sub _ _ e
  · rw [upd_ne (ne_of_none e (S.rr a hm))]
    exact S.res _ _ e
  · by_cases hk : k = n
    · subst hk
      rw [h1] at ha
      cases ha
      have hlt : k < M.length := by rw [S.len]; exact (List.getElem?_eq_some_iff.mp h1).1
      rw [List.getElem?_set_self hlt] at h2
      cases h2
      exact ho _ upd_same
    · rw [List.getElem?_set_ne (fun z => hk z.symm)] at h2
      have hb : b ≠ a := fun z => by
        subst z
        obtain ⟨l1, e1⟩ := List.getElem?_eq_some_iff.mp h1
        obtain ⟨l2, e2⟩ := List.getElem?_eq_some_iff.mp ha
        exact hk ((List.getElem_inj S.nd).mp (e1.trans e2.symm))
      exact (S.at_ k b o' h1 h2).mono (Sub.refl _) (List.prefix_refl _) fun u e => by rw [upd_ne hb]; exact e
/-- what is young is dropped -/
theorem StoR.cut {G : Gd} {F : Hp} {r : List Addr} {R : Hp} {M : Sto} {H : Hp} (S : StoR G F r R M H) (k : Nat) : StoR G F (r.take k) R (M.take k) H := by
  refine ⟨by rw [List.length_take, List.length_take, S.len], S.nd.sublist (List.take_sublist _ _), S.sub, S.res, fun a ha => S.fr a (List.mem_of_mem_take ha), fun a ha => S.rr a (List.mem_of_mem_take ha), S.fx, fun n a o h1 h2 => ?_⟩
  have hn : n < k := by
    have := (List.getElem?_eq_some_iff.mp h1).1
    rw [List.length_take] at this
    omega
  rw [List.getElem?_take_of_lt hn] at h1 h2
  have e : (r.take k).take n = r.take n := by rw [List.take_take, Nat.min_eq_left (Nat.le_of_lt hn)]
  rw [e]
  exact S.at_ n a o h1 h2

/- references below k alone -/
mutual
def below (k : Nat) : D → Bool
  | .tup xs => belows k xs
  | .lst xs => belows k xs
  | .dct kvs => belowK k kvs
  | .obj _ fs => belowF k fs
  | .ref n => decide (n < k)
  | _ => true
def belows (k : Nat) : List D → Bool
  | [] => true
  | x :: xs => below k x && belows k xs
def belowK (k : Nat) : List (Key × D) → Bool
  | [] => true
  | (_, x) :: xs => below k x && belowK k xs
def belowF (k : Nat) : List (Str × D) → Bool
  | [] => true
  | (_, x) :: xs => below k x && belowF k xs
end
mutual
theorem Rep.cut {G : Gd} {F : Hp} {r : List Addr} {k : Nat} : ∀ {d : D} {v : V}, Rep G F r d v → below k d = true → Rep G F (r.take k) d v
  | .non, v, h, _ => h
  | .bl b, v, h, _ => h
  | .int i, v, h, _ => h
  | .str x, v, h, _ => h
  | .ty n, v, h, _ => h
  | .tup xs, v, h, b => by
    unfold Rep at h ⊢
    obtain ⟨a, vs, e, q, z⟩ := h
    exact ⟨a, vs, e, q, Reps.cut z (by unfold below at b; exact b)⟩
  | .lst xs, v, h, b => by
    unfold Rep at h ⊢
    obtain ⟨a, vs, e, q, z⟩ := h
    exact ⟨a, vs, e, q, Reps.cut z (by unfold below at b; exact b)⟩
  | .dct kvs, v, h, b => by
    unfold Rep at h ⊢
    obtain ⟨a, vs, e, q, z⟩ := h
    exact ⟨a, vs, e, q, RepK.cut z (by unfold below at b; exact b)⟩
  | .obj c fs, v, h, b => by
    unfold Rep at h ⊢
    obtain ⟨a, C, dx, vfs, e, m, q, z⟩ := h
    exact ⟨a, C, dx, vfs, e, m, q, RepF.cut z (by unfold below at b; exact b)⟩
  | .ref n, v, h, b => by
    unfold Rep at h ⊢
    obtain ⟨a, e, z⟩ := h
    unfold below at b
    exact ⟨a, by rw [List.getElem?_take_of_lt (of_decide_eq_true b)]; exact e, z⟩
theorem Reps.cut {G : Gd} {F : Hp} {r : List Addr} {k : Nat} : ∀ {d : List D} {v : List V}, Reps G F r d v → belows k d = true → Reps G F (r.take k) d v
  | [], v, h, _ => h
  | x :: xs, vs, h, b => by
    unfold Reps at h ⊢
    unfold belows at b
    rw [Bool.and_eq_true] at b
    obtain ⟨v, w, e, p, q⟩ := h
    exact ⟨v, w, e, Rep.cut p b.1, Reps.cut q b.2⟩
theorem RepK.cut {G : Gd} {F : Hp} {r : List Addr} {k : Nat} : ∀ {d : List (Key × D)} {v : List (Key × V)}, RepK G F r d v → belowK k d = true → RepK G F (r.take k) d v
  | [], v, h, _ => h
  | (_, x) :: xs, vs, h, b => by
    unfold RepK at h ⊢
    unfold belowK at b
    rw [Bool.and_eq_true] at b
    obtain ⟨v, w, e, p, q⟩ := h
    exact ⟨v, w, e, Rep.cut p b.1, RepK.cut q b.2⟩
theorem RepF.cut {G : Gd} {F : Hp} {r : List Addr} {k : Nat} : ∀ {d : List (Str × D)} {v : List (Str × V)}, RepF G F r d v → belowF k d = true → RepF G F (r.take k) d v
  | [], v, h, _ => h
  | (_, x) :: xs, vs, h, b => by
    unfold RepF at h ⊢
    unfold belowF at b
    rw [Bool.and_eq_true] at b
    obtain ⟨v, w, e, p, q⟩ := h
    exact ⟨v, w, e, Rep.cut p b.1, RepF.cut q b.2⟩
end
end EV
set_option maxHeartbeats 4000000
namespace EV
open PySem PySem.Spec PyProof.Rows L2

abbrev gd (X : Cx) : Gd := ⟨X.K, X.mg⟩
def ExR (G : Gd) (F : Hp) (r : List Addr) (e : Exn) (cls : Value) (d : Option Addr) : Prop :=
  ∃ C, G.mg e.c = some (.ref C) ∧ cls = .ref C ∧ match d with
    | none => e.fs = []
    | some dx => ∃ vfs, F dx = some (.xd vfs) ∧ RepF G F r e.fs vfs
def EnvR (G : Gd) (F : Hp) (r : List Addr) (env : DEnv) (σ : L2.St) : Prop :=
  env.length = σ.length ∧ ∀ (i : Nat) (d : D), env[i]? = some (some d) → ∃ v, σ[i]? = some (some v) ∧ Rep G F r d v
theorem EnvR.mono {G : Gd} {F F' : Hp} {r r' : List Addr} {env : DEnv} {σ : L2.St} (s : Sub F F') (p : r <+: r') (h : EnvR G F r env σ) : EnvR G F' r' env σ :=
  ⟨h.1, fun i d e => let ⟨v, a, b⟩ := h.2 i d e; ⟨v, a, b.mono s p⟩⟩

abbrev Rl (α β : Type) := Gd → Hp → List Addr → α → β → Prop
abbrev RB : Rl Bool Bool := fun _ _ _ a b => a = b
abbrev EXK := Value → Option Addr → L2.St → Hp → Prop
/-- the wish behind an exception -/
def EXc (G : Gd) (F : Hp) (r : List Addr) (R : Hp) (W : EXK) (σ : L2.St) (e : Exn) (M' : Sto) : Prop :=
  ∀ F' r' H' cls d, Sub F F' → r <+: r' → StoR G F' r' R M' H' → ExR G F' r' e cls d → W cls d σ H'
def OKx {α β : Type} (Q : Rl α β) (G : Gd) (F : Hp) (r : List Addr) (R : Hp) (k : β → Hp → Prop) (a : α) (M' : Sto) : Prop :=
  ∀ F' r' H' b, Sub F F' → r <+: r' → StoR G F' r' R M' H' → Q G F' r' a b → k b H'
theorem OKx.mono {α β : Type} {Q : Rl α β} {G : Gd} {F F' : Hp} {r r' : List Addr} {R : Hp} {k : β → Hp → Prop} {a : α} {M : Sto} (s : Sub F F') (p : r <+: r') (h : OKx Q G F r R k a M) : OKx Q G F' r' R k a M :=
  fun F2 r2 H2 b s2 p2 S q => h F2 r2 H2 b (s.trans s2) (p.trans p2) S q
theorem EXc.mono {G : Gd} {F F' : Hp} {r r' : List Addr} {R : Hp} {W : EXK} {σ : L2.St} {e : Exn} {M : Sto} (s : Sub F F') (p : r <+: r') (h : EXc G F r R W σ e M) : EXc G F' r' R W σ e M :=
  fun F2 r2 H2 b d s2 p2 S q => h F2 r2 H2 b d (s.trans s2) (p.trans p2) S q

/-- the reading of a plain computation -/
def tX {α β : Type} (X : Cx) (W : EXK) (Q : Rl α β) (m : DEnv → Sto → Out α) : L2.St → Hp → (β → Hp → Prop) → Prop := fun σ H k =>
  ∃ F r R env M, EnvR (gd X) F r env σ ∧ StoR (gd X) F r R M H ∧ (m env M).post (OKx Q (gd X) F r R k) (EXc (gd X) F r R W σ)
abbrev DE := DEnv → Sto → Out D
abbrev DT := DEnv → Sto → Out Bool
abbrev DA := DEnv → Sto → Out (List D)
abbrev tD (X : Cx) (W : EXK) (m : DE) : TE := tX X W Rep m
abbrev tT (X : Cx) (W : EXK) (m : DT) : TT := tX X W RB m
abbrev tA (X : Cx) (W : EXK) (m : DA) : TA := tX X W Reps m

theorem tX.imp {α β : Type} {X : Cx} {W : EXK} {Q : Rl α β} {m : DEnv → Sto → Out α} {σ : L2.St} {H : Hp} {k k' : β → Hp → Prop} (h : tX X W Q m σ H k) (hk : ∀ b H, k b H → k' b H) : tX X W Q m σ H k' := by
  obtain ⟨F, r, R, env, M, hE, hS, hp⟩ := h
  exact ⟨F, r, R, env, M, hE, hS, Out.post_imp hp (fun a M' q F' r' H' b s p S z => hk _ _ (q F' r' H' b s p S z)) fun _ _ z => z⟩
/-- one computation behind another one -/
theorem tX.bind {α β γ : Type} {X : Cx} {W : EXK} {Q : Rl α β} {m : DEnv → Sto → Out α} {f : α → Sto → Out γ} {P : Hp → List Addr → γ → Sto → Prop} {σ : L2.St} {F H R : Hp} {r : List Addr} {env : DEnv} {M : Sto}
    (mono : ∀ F r F' r' c M, Sub F F' → r <+: r' → P F r c M → P F' r' c M) (hE : EnvR (gd X) F r env σ) (hS : StoR (gd X) F r R M H) (h : ((m env M).bind f).post (P F r) (EXc (gd X) F r R W σ)) :
    tX X W Q m σ H fun b H1 => ∃ F1 r1 M1 a, Sub F F1 ∧ r <+: r1 ∧ EnvR (gd X) F1 r1 env σ ∧ StoR (gd X) F1 r1 R M1 H1 ∧ Q (gd X) F1 r1 a b ∧ (f a M1).post (P F1 r1) (EXc (gd X) F1 r1 R W σ) := by
  refine ⟨F, r, R, env, M, hE, hS, Out.post_imp (Out.post_bind h) (fun a M1 q F' r' H' b s p S z => ?_) fun _ _ z => z⟩
  exact ⟨F', r', M1, a, s, p, hE.mono s p, S, z, Out.post_imp q (fun c M2 y => mono _ _ _ _ _ _ s p y) fun e M2 y => y.mono s p⟩
theorem OKx.mono' {α β : Type} {Q : Rl α β} {G : Gd} {R : Hp} {k : β → Hp → Prop} : ∀ (F : Hp) (r : List Addr) (F' : Hp) (r' : List Addr) (a : α) (M : Sto), Sub F F' → r <+: r' → OKx Q G F r R k a M → OKx Q G F' r' R k a M :=
  fun _ _ _ _ _ _ s p h => h.mono s p

section
variable {X : Cx} {W : EXK}
theorem PE.imp {e : Expr} {t t' : TE} (h : PE X e t) (i : ∀ σ H Q, t' σ H Q → t σ H Q) : PE X e t' := ⟨fun pins s σ H Q I q => h.run pins s σ H Q I (i _ _ _ q)⟩
theorem PT.imp {e : Expr} {t t' : TT} (h : PT X e t) (i : ∀ σ H Q, t' σ H Q → t σ H Q) : PT X e t' := ⟨fun pins s σ H Q I q => h.run pins s σ H Q I (i _ _ _ q)⟩
theorem PW.imp {e : Expr} {t t' : TT} (h : PW X e t) (i : ∀ σ H Q, t' σ H Q → t σ H Q) : PW X e t' := ⟨fun wh pins s σ H Q I q => h.run wh pins s σ H Q I (i _ _ _ q)⟩
theorem PA.imp {es : List Expr} {t t' : TA} (h : PA X es t) (i : ∀ σ H Q, t' σ H Q → t σ H Q) : PA X es t' := ⟨fun pos pins s σ H Q I q => h.run pos pins s σ H Q I (i _ _ _ q)⟩
theorem PS.imp {st : Stmt} {t t' : TS} (h : PS X st t) (i : ∀ D σ H, t' D σ H → t D σ H) : PS X st t' := ⟨fun pins s σ H D I q => h.run pins s σ H D I (i _ _ _ q)⟩
theorem PSs.imp {st : List Stmt} {t t' : TS} (h : PSs X st t) (i : ∀ D σ H, t' D σ H → t D σ H) : PSs X st t' := ⟨fun pins s σ H D I q => h.run pins s σ H D I (i _ _ _ q)⟩
end

/-! ### names, constants -/
def mVar (i : Nat) : DE := fun env M => match env[i]? with
  | some (some d) => .ok d M
  | _ => .bad
def mK (d : D) : DE := fun _ M => .ok d M
section
variable {X : Cx} {W : EXK} {pos : Pos}
theorem tD_k {d : D} {v : V} (σ : L2.St) (H : Hp) (Q : VK) (h : tD X W (mK d) σ H Q) (hv : ∀ F r, Rep (gd X) F r d v) : Q v H := by
  obtain ⟨F, r, R, env, M, hE, hS, hp⟩ := h
  exact hp F r H v (Sub.refl _) (List.prefix_refl _) hS (hv F r)
theorem ev_var (i : Nat) {x : Str} (hN : X.N[i]? = some x := by rfl) (hv : Vis X.env.scope x := by first | exact Or.inl rfl | exact Or.inr (Or.inl rfl) | exact Or.inr (Or.inr rfl)) (hd : (x == ("__debug__" : Str)) = false := by decide)
    (hcd : (x == ("__classdict__" : Str)) = false := by decide) : PE X (.Name x pos) (tD X W (mVar i)) := by
  refine PE.imp (pe_var hN hv hd hcd) fun σ H Q h => ?_
  obtain ⟨F, r, R, env, M, hE, hS, hp⟩ := h
  unfold mVar at hp
  split at hp
  · rename_i d e
    obtain ⟨v, e1, e2⟩ := hE.2 i d e
    exact ⟨v, e1, hp F r H v (Sub.refl _) (List.prefix_refl _) hS e2⟩
  · exact hp.elim
theorem rep_int (G : Gd) (F : Hp) (r : List Addr) (i : Int) (v : V) : Rep G F r (.int i) v = (v = .int i) := by unfold Rep; rfl
theorem rep_bl (G : Gd) (F : Hp) (r : List Addr) (i : Bool) (v : V) : Rep G F r (.bl i) v = (v = .bl i) := by unfold Rep; rfl
theorem rep_str (G : Gd) (F : Hp) (r : List Addr) (i : Str) (v : V) : Rep G F r (.str i) v = (v = .str i) := by unfold Rep; rfl
theorem rep_non (G : Gd) (F : Hp) (r : List Addr) (v : V) : Rep G F r .non v = (v = .non) := by unfold Rep; rfl
theorem rep_ty (G : Gd) (F : Hp) (r : List Addr) (n : TyN) (v : V) : Rep G F r (.ty n) v = (v = .ty n.s) := by unfold Rep; rfl
theorem rep_tup (G : Gd) (F : Hp) (r : List Addr) (xs : List D) (v : V) : Rep G F r (.tup xs) v = ∃ a vs, v = .ref a ∧ SqT G.K F a vs ∧ Reps G F r xs vs := by rw [Rep]
theorem rep_lst (G : Gd) (F : Hp) (r : List Addr) (xs : List D) (v : V) : Rep G F r (.lst xs) v = ∃ a vs, v = .ref a ∧ LstR G.K F a vs ∧ Reps G F r xs vs := by rw [Rep]
theorem rep_dct (G : Gd) (F : Hp) (r : List Addr) (xs : List (Key × D)) (v : V) : Rep G F r (.dct xs) v = ∃ a vs, v = .ref a ∧ F a = some (.dK vs) ∧ RepK G F r xs vs := by rw [Rep]
theorem rep_obj (G : Gd) (F : Hp) (r : List Addr) (c : Str) (xs : List (Str × D)) (v : V) : Rep G F r (.obj c xs) v = ∃ a C dx vfs, v = .ref a ∧ G.mg c = some (.ref C) ∧ F a = some (.ins C dx vfs) ∧ RepF G F r xs vfs := by rw [Rep]
theorem rep_ref (G : Gd) (F : Hp) (r : List Addr) (n : Nat) (v : V) : Rep G F r (.ref n) v = ∃ a, r[n]? = some a ∧ v = .ref a := by rw [Rep]
/-- flat values -/
inductive Flat : D → V → Prop
  | non : Flat .non .non
  | bl (b) : Flat (.bl b) (.bl b)
  | int (i) : Flat (.int i) (.int i)
  | str (x) : Flat (.str x) (.str x)
  | ty (n : TyN) : Flat (.ty n) (.ty n.s)
theorem Flat.rep {d : D} {v : V} (h : Flat d v) (G : Gd) (F : Hp) (r : List Addr) : Rep G F r d v := by
  cases h <;> (unfold Rep; rfl)
theorem ev_k {e : Expr} {d : D} {v : V} (h : PE X e (tC v)) (f : Flat d v) : PE X e (tD X W (mK d)) := by
  refine PE.imp h fun σ H Q h => ?_
  obtain ⟨F, r, R, env, M, hE, hS, hp⟩ := h
  exact hp F r H v (Sub.refl _) (List.prefix_refl _) hS (f.rep _ _ _)
theorem ev_int {i : Int} {j} : PE X (.Constant (.int i) j pos) (tD X W (mK (.int i))) := ev_k pe_int (.int i)
theorem ev_bl {b : Bool} {j} : PE X (.Constant (.bool b) j pos) (tD X W (mK (.bl b))) := ev_k pe_bl (.bl b)
theorem ev_non {j} : PE X (.Constant .none j pos) (tD X W (mK .non)) := ev_k pe_non .non
theorem ev_str {x : Str} {j} : PE X (.Constant (.str x) j pos) (tD X W (mK (.str x))) := ev_k pe_str (.str x)
/-- a constant of the module -/
theorem ev_glob {x : Str} {d : D} {v : V} {u : Value} (hg : Gl X x) (hm : X.mg x = some u) (r : RelV v u) (f : Flat d v) (hd : (x == ("__debug__" : Str)) = false := by decide) : PE X (.Name x pos) (tD X W (mK d)) := ev_k (pe_glob hg hm r hd) f
/-- a built-in type as a value -/
theorem ev_ty {x : Str} {n : TyN} (hg : Gl X x) (hm : X.mg x = none) (hv : bootBuiltins x = some (.type n.s)) (hn : x ≠ "__name__" := by decide) (hd : (x == ("__debug__" : Str)) = false := by decide) : PE X (.Name x pos) (tD X W (mK (.ty n))) :=
  ev_k (pe_bltn (v := .ty n.s) hg hm hv rfl hn hd) (.ty n)
end

/-! ### operators -/
abbrev Op2 := D → D → Sto → Out D
abbrev Op1 := D → Sto → Out D
abbrev OpL := List D → Sto → Out D
def rD2 (X : Cx) (f : Op2) : R2 := fun x y H Q => ∃ F r R M a b, StoR (gd X) F r R M H ∧ Rep (gd X) F r a x ∧ Rep (gd X) F r b y ∧ (f a b M).post (OKx Rep (gd X) F r R Q) fun _ _ => False
def rD1 (X : Cx) (f : Op1) : V → Hp → VK → Prop := fun x H Q => ∃ F r R M a, StoR (gd X) F r R M H ∧ Rep (gd X) F r a x ∧ (f a M).post (OKx Rep (gd X) F r R Q) fun _ _ => False
def rDL (X : Cx) (f : OpL) : List V → Hp → VK → Prop := fun xs H Q => ∃ F r R M as, StoR (gd X) F r R M H ∧ Reps (gd X) F r as xs ∧ (f as M).post (OKx Rep (gd X) F r R Q) fun _ _ => False
/-- an operator's rule -/
abbrev S2 (X : Cx) (py : Value → Value → Sem Value) (f : Op2) : Prop := OpR X py (rD2 X f)
abbrev S1 (X : Cx) (py : Value → Sem Value) (f : Op1) : Prop := UnR X py (rD1 X f)
abbrev SL (X : Cx) (py : Value) (f : OpL) : Prop := CallR X py (rDL X f)
/-- errors of an operator are none of ours -/
def noExc {α : Type} (o : Out α) : Out α := match o with
  | .exc _ _ => .bad
  | o => o
theorem noExc_post {α : Type} {o : Out α} {P : α → Sto → Prop} {Y : Exn → Sto → Prop} (h : (noExc o).post P Y) : o.post P fun _ _ => False := by
  cases o <;> exact h
def m2 (f : Op2) (a b : DE) : DE := fun env M => (a env M).bind fun x M1 => (b env M1).bind fun y M2 => noExc (f x y M2)
def m1 (f : Op1) (a : DE) : DE := fun env M => (a env M).bind fun x M1 => noExc (f x M1)
def mL (f : OpL) (a : DA) : DE := fun env M => (a env M).bind fun x M1 => noExc (f x M1)
section
variable {X : Cx} {W : EXK} {pos : Pos} {a b : Expr} {ma mb : DE} {es : List Expr} {mas : DA}
theorem tD_m2 {f : Op2} {σ : L2.St} {H : Hp} {Q : VK} (h : tD X W (m2 f ma mb) σ H Q) : tOp (rD2 X f) (tD X W ma) (tD X W mb) σ H Q := by
  obtain ⟨F, r, R, env, M, hE, hS, hp⟩ := h
  refine tX.imp (tX.bind OKx.mono' hE hS hp) fun x H1 ⟨F1, r1, M1, d, s1, p1, hE1, hS1, R1, hp1⟩ => ?_
  refine tX.imp (tX.bind OKx.mono' hE1 hS1 hp1) fun y H2 ⟨F2, r2, M2, d2, s2, p2, hE2, hS2, R2, hp2⟩ => ?_
  exact ⟨F2, r2, R, M2, d, d2, hS2, R1.mono s2 p2, R2, noExc_post hp2⟩
theorem ev_bin {op : Operator} {f : Op2} (ho : S2 X (binaryOp op) f) (ha : PE X a (tD X W ma)) (hb : PE X b (tD X W mb)) : PE X (.BinOp a op b pos) (tD X W (m2 f ma mb)) :=
  PE.imp (pe_op ho ha hb) fun σ H Q h => tD_m2 h
theorem ev_un {op : UnaryOp} {f : Op1} (ho : S1 X (unaryOp op) f) (ha : PE X a (tD X W ma)) : PE X (.UnaryOp op a pos) (tD X W (m1 f ma)) := by
  refine PE.imp (pe_un ho ha) fun σ H Q h => ?_
  obtain ⟨F, r, R, env, M, hE, hS, hp⟩ := h
  refine tX.imp (tX.bind OKx.mono' hE hS hp) fun x H1 ⟨F1, r1, M1, d, s1, p1, hE1, hS1, R1, hp1⟩ => ?_
  exact ⟨F1, r1, R, M1, d, hS1, R1, noExc_post hp1⟩
theorem ev_cmp {op : CmpOp} {f : Op2} (ho : S2 X (compareOp op) f) (ha : PE X a (tD X W ma)) (hb : PE X b (tD X W mb)) (hm : behindInMarks op b = false) : PE X (.Compare a [op] [b] pos) (tD X W (m2 f ma mb)) :=
  PE.imp (pe_cmpR ho ha hb hm) fun σ H Q h => tD_m2 h
/-- a test out of a value that is a bool -/
def tst (m : DE) : DT := fun env M => (m env M).bind fun x M1 => match x with
  | .bl b => .ok b M1
  | _ => .bad
theorem tT_tst {m : DE} {σ : L2.St} {H : Hp} {Q : Bool → Hp → Prop} (h : tT X W (tst m) σ H Q) : tD X W m σ H fun x H' => ∃ k, x = .bl k ∧ Q k H' := by
  obtain ⟨F, r, R, env, M, hE, hS, hp⟩ := h
  refine tX.imp (tX.bind OKx.mono' hE hS hp) fun x H1 ⟨F1, r1, M1, d, s1, p1, hE1, hS1, R1, hp1⟩ => ?_
  cases d <;> first | exact hp1.elim | skip
  rename_i b
  rw [rep_bl] at R1
  exact ⟨b, R1, hp1 F1 r1 H1 b (Sub.refl _) (List.prefix_refl _) hS1 rfl⟩
theorem evt_cmp {op : CmpOp} {f : Op2} (ho : S2 X (compareOp op) f) (ha : PE X a (tD X W ma)) (hb : PE X b (tD X W mb)) (hm : behindInMarks op b = false) : PT X (.Compare a [op] [b] pos) (tT X W (tst (m2 f ma mb))) := by
  refine PT.imp (pt_cmpR ho ha hb hm) fun σ H Q h => ?_
  exact tD_m2 (tT_tst h)
/-- a chain -/
def mCh (f g : Op2) (a b c : DE) : DE := fun env M => (a env M).bind fun x M1 => (b env M1).bind fun y M2 => (noExc (f x y M2)).bind fun z M3 => match z with
  | .bl true => (c env M3).bind fun w M4 => noExc (g y w M4)
  | .bl false => .ok (.bl false) M3
  | _ => .bad
theorem tD_mCh {c : Expr} {mc : DE} {f g : Op2} {σ : L2.St} {H : Hp} {Q : VK} (h : tD X W (mCh f g ma mb mc) σ H Q) : tChain (rD2 X f) (rD2 X g) (tD X W ma) (tD X W mb) (tD X W mc) σ H Q := by
  obtain ⟨F, r, R, env, M, hE, hS, hp⟩ := h
  refine tX.imp (tX.bind OKx.mono' hE hS hp) fun x H1 ⟨F1, r1, M1, d, s1, p1, hE1, hS1, R1, hp1⟩ => ?_
  refine tX.imp (tX.bind OKx.mono' hE1 hS1 hp1) fun y H2 ⟨F2, r2, M2, d2, s2, p2, hE2, hS2, R2, hp2⟩ => ?_
  refine ⟨F2, r2, R, M2, d, d2, hS2, R1.mono s2 p2, R2, ?_⟩
  cases e : f d d2 M2 with
  | bad => rw [e] at hp2; exact hp2.elim
  | exc _ _ => rw [e] at hp2; exact hp2.elim
  | ok z M3 =>
    rw [e] at hp2
    intro F3 r3 H3 v s3 p3 S3 R3
    cases z <;> first | exact hp2.elim | skip
    rename_i k
    rw [rep_bl] at R3
    refine ⟨k, R3, ?_⟩
    cases k with
    | false =>
      rw [if_neg (by decide)]
      exact hp2 F3 r3 H3 (.bl false) s3 p3 S3 (by rw [rep_bl])
    | true =>
      rw [if_pos rfl]
      have hp3 : (((mc env M3).bind fun w M4 => noExc (g d2 w M4))).post (OKx Rep (gd X) F3 r3 R Q) (EXc (gd X) F3 r3 R W σ) := Out.post_imp hp2 (fun c M y => y.mono s3 p3) fun e M y => y.mono s3 p3
      refine tX.imp (tX.bind OKx.mono' (hE2.mono s3 p3) S3 hp3) fun w H4 ⟨F4, r4, M4, d4, s4, p4, hE4, hS4, R4, hp4⟩ => ?_
      exact ⟨F4, r4, R, M4, d2, d4, hS4, R2.mono (s3.trans s4) (p3.trans p4), R4, noExc_post hp4⟩
theorem ev_chain {c : Expr} {mc : DE} {op op' : CmpOp} {f g : Op2} (ho : S2 X (compareOp op) f) (ho' : S2 X (compareOp op') g) (ha : PE X a (tD X W ma)) (hb : PE X b (tD X W mb)) (hc : PE X c (tD X W mc))
    (hm : lastMarks [op, op'] [b, c] = false := by with_unfolding_all rfl) : PE X (.Compare a [op, op'] [b, c] pos) (tD X W (mCh f g ma mb mc)) :=
  PE.imp (pe_chain ho ho' ha hb hc hm) fun σ H Q h => tD_mCh (c := c) h
theorem evt_chain {c : Expr} {mc : DE} {op op' : CmpOp} {f g : Op2} (ho : S2 X (compareOp op) f) (ho' : S2 X (compareOp op') g) (ha : PE X a (tD X W ma)) (hb : PE X b (tD X W mb)) (hc : PE X c (tD X W mc))
    (hm : lastMarks [op, op'] [b, c] = false := by with_unfolding_all rfl) : PT X (.Compare a [op, op'] [b, c] pos) (tT X W (tst (mCh f g ma mb mc))) :=
  PT.imp (pt_chain ho ho' ha hb hc hm) fun σ H Q h => tD_mCh (c := c) (tT_tst h)

/-! ### and, or, not, if -/
def mAnd (a b : DE) : DE := fun env M => (a env M).bind fun x M1 => match x with
  | .bl true => b env M1
  | .bl false => .ok (.bl false) M1
  | _ => .bad
def mOr (a b : DE) : DE := fun env M => (a env M).bind fun x M1 => match x with
  | .bl false => b env M1
  | .bl true => .ok (.bl true) M1
  | _ => .bad
def mNot (a : DE) : DE := fun env M => (a env M).bind fun x M1 => match x with
  | .bl b => .ok (.bl (!b)) M1
  | _ => .bad
def mIf (c : DT) (a b : DE) : DE := fun env M => (c env M).bind fun k M1 => if k = true then a env M1 else b env M1
theorem ev_one {op} (h : PE X a (tD X W ma)) : PE X (.BoolOp op [a] pos) (tD X W ma) := pe_one h
theorem ev_and {rest : List Expr} (ha : PE X a (tD X W ma)) (hb : PE X (.BoolOp .And (b :: rest) pos) (tD X W mb)) : PE X (.BoolOp .And (a :: b :: rest) pos) (tD X W (mAnd ma mb)) := by
  refine PE.imp (pe_and ha hb) fun σ H Q h => ?_
  obtain ⟨F, r, R, env, M, hE, hS, hp⟩ := h
  refine tX.imp (tX.bind OKx.mono' hE hS hp) fun x H1 ⟨F1, r1, M1, d, s1, p1, hE1, hS1, R1, hp1⟩ => ?_
  cases d <;> first | exact hp1.elim | skip
  rename_i k
  rw [rep_bl] at R1
  refine ⟨k, R1, ?_⟩
  cases k with
  | true => rw [if_pos rfl]; exact ⟨F1, r1, R, env, M1, hE1, hS1, hp1⟩
  | false => rw [if_neg (by decide)]; exact hp1 F1 r1 H1 _ (Sub.refl _) (List.prefix_refl _) hS1 (by rw [rep_bl])
theorem ev_or {rest : List Expr} (ha : PE X a (tD X W ma)) (hb : PE X (.BoolOp .Or (b :: rest) pos) (tD X W mb)) : PE X (.BoolOp .Or (a :: b :: rest) pos) (tD X W (mOr ma mb)) := by
  refine PE.imp (pe_or ha hb) fun σ H Q h => ?_
  obtain ⟨F, r, R, env, M, hE, hS, hp⟩ := h
  refine tX.imp (tX.bind OKx.mono' hE hS hp) fun x H1 ⟨F1, r1, M1, d, s1, p1, hE1, hS1, R1, hp1⟩ => ?_
  cases d <;> first | exact hp1.elim | skip
  rename_i k
  rw [rep_bl] at R1
  refine ⟨k, R1, ?_⟩
  cases k with
  | false => rw [if_neg (by decide)]; exact ⟨F1, r1, R, env, M1, hE1, hS1, hp1⟩
  | true => rw [if_pos rfl]; exact hp1 F1 r1 H1 _ (Sub.refl _) (List.prefix_refl _) hS1 (by rw [rep_bl])
theorem ev_not (ha : PE X a (tD X W ma)) : PE X (.UnaryOp .Not a pos) (tD X W (mNot ma)) := by
  refine PE.imp (pe_not ha) fun σ H Q h => ?_
  obtain ⟨F, r, R, env, M, hE, hS, hp⟩ := h
  refine tX.imp (tX.bind OKx.mono' hE hS hp) fun x H1 ⟨F1, r1, M1, d, s1, p1, hE1, hS1, R1, hp1⟩ => ?_
  cases d <;> first | exact hp1.elim | skip
  rename_i k
  rw [rep_bl] at R1
  exact ⟨k, R1, hp1 F1 r1 H1 _ (Sub.refl _) (List.prefix_refl _) hS1 (by rw [rep_bl])⟩
theorem ev_if {c : Expr} {mc : DT} (hc : PT X c (tT X W mc)) (ha : PE X a (tD X W ma)) (hb : PE X b (tD X W mb)) : PE X (.IfExp c a b pos) (tD X W (mIf mc ma mb)) := by
  refine PE.imp (pe_ifExp hc ha hb) fun σ H Q h => ?_
  obtain ⟨F, r, R, env, M, hE, hS, hp⟩ := h
  refine tX.imp (tX.bind OKx.mono' hE hS hp) fun x H1 ⟨F1, r1, M1, d, s1, p1, hE1, hS1, R1, hp1⟩ => ?_
  have R1' : d = x := R1
  subst R1'
  cases d with
  | true => rw [if_pos rfl]; exact ⟨F1, r1, R, env, M1, hE1, hS1, hp1⟩
  | false => rw [if_neg (by decide)]; exact ⟨F1, r1, R, env, M1, hE1, hS1, hp1⟩
/-! tests -/
def nAnd (a b : DT) : DT := fun env M => (a env M).bind fun k M1 => if k = true then b env M1 else .ok false M1
def nOr (a b : DT) : DT := fun env M => (a env M).bind fun k M1 => if k = true then .ok true M1 else b env M1
def nNot (a : DT) : DT := fun env M => (a env M).bind fun k M1 => .ok (!k) M1
variable {na nb : DT} {rest : List Expr}
theorem evw_and1 (ha : PT X a (tT X W na)) : PW X (.BoolOp .And [a] pos) (tT X W na) := pw_and1 ha
theorem evw_or1 (ha : PT X a (tT X W na)) : PW X (.BoolOp .Or [a] pos) (tT X W na) := pw_or1 ha
theorem evw_and (ha : PT X a (tT X W na)) (hb : PW X (.BoolOp .And (b :: rest) pos) (tT X W nb)) : PW X (.BoolOp .And (a :: b :: rest) pos) (tT X W (nAnd na nb)) := by
  refine PW.imp (pw_and ha hb) fun σ H Q h => ?_
  obtain ⟨F, r, R, env, M, hE, hS, hp⟩ := h
  refine tX.imp (tX.bind OKx.mono' hE hS hp) fun x H1 ⟨F1, r1, M1, d, s1, p1, hE1, hS1, R1, hp1⟩ => ?_
  have R1' : d = x := R1
  subst R1'
  cases d with
  | true => rw [if_pos rfl]; exact ⟨F1, r1, R, env, M1, hE1, hS1, hp1⟩
  | false => rw [if_neg (by decide)]; exact hp1 F1 r1 H1 _ (Sub.refl _) (List.prefix_refl _) hS1 rfl
theorem evw_or (ha : PT X a (tT X W na)) (hb : PW X (.BoolOp .Or (b :: rest) pos) (tT X W nb)) : PW X (.BoolOp .Or (a :: b :: rest) pos) (tT X W (nOr na nb)) := by
  refine PW.imp (pw_or ha hb) fun σ H Q h => ?_
  obtain ⟨F, r, R, env, M, hE, hS, hp⟩ := h
  refine tX.imp (tX.bind OKx.mono' hE hS hp) fun x H1 ⟨F1, r1, M1, d, s1, p1, hE1, hS1, R1, hp1⟩ => ?_
  have R1' : d = x := R1
  subst R1'
  cases d with
  | false => rw [if_neg (by decide)]; exact ⟨F1, r1, R, env, M1, hE1, hS1, hp1⟩
  | true => rw [if_pos rfl]; exact hp1 F1 r1 H1 _ (Sub.refl _) (List.prefix_refl _) hS1 rfl
theorem evt_not (ha : PT X a (tT X W na)) : PT X (.UnaryOp .Not a pos) (tT X W (nNot na)) := by
  refine PT.imp (pt_not ha) fun σ H Q h => ?_
  obtain ⟨F, r, R, env, M, hE, hS, hp⟩ := h
  refine tX.imp (tX.bind OKx.mono' hE hS hp) fun x H1 ⟨F1, r1, M1, d, s1, p1, hE1, hS1, R1, hp1⟩ => ?_
  have R1' : d = x := R1
  subst R1'
  exact hp1 F1 r1 H1 _ (Sub.refl _) (List.prefix_refl _) hS1 rfl
/-- an expression (no and, or, not, comparison) whose value is a bool, as a test -/
theorem evt_val {e : Expr} {m : DE} (h : PE X e (tD X W m)) (he : ∀ whole, isTrue e X.env whole = (do let v ← whole; standAt e.pos; holding [v] (truthy v)) := by intro _; rfl) : PT X e (tT X W (tst m)) :=
  PT.imp (pt_val h he) fun σ H Q h => tT_tst h

/-! ### lists of expressions, displays -/
def aNil : DA := fun _ M => .ok [] M
def aCons (a : DE) (as : DA) : DA := fun env M => (a env M).bind fun x M1 => (as env M1).bind fun xs M2 => .ok (x :: xs) M2
theorem eva_nil : PA X [] (tA X W aNil) := by
  refine PA.imp pa_nil fun σ H Q h => ?_
  obtain ⟨F, r, R, env, M, hE, hS, hp⟩ := h
  exact hp F r H [] (Sub.refl _) (List.prefix_refl _) hS .nil
theorem eva_cons (ha : PE X a (tD X W ma)) (hr : PA X es (tA X W mas)) (hs : starEach (a :: es) X.env = (false, eval a X.env) :: starEach es X.env := by rfl) : PA X (a :: es) (tA X W (aCons ma mas)) := by
  refine PA.imp (pa_cons ha hr hs) fun σ H Q h => ?_
  obtain ⟨F, r, R, env, M, hE, hS, hp⟩ := h
  refine tX.imp (tX.bind OKx.mono' hE hS hp) fun x H1 ⟨F1, r1, M1, d, s1, p1, hE1, hS1, R1, hp1⟩ => ?_
  refine tX.imp (tX.bind OKx.mono' hE1 hS1 hp1) fun y H2 ⟨F2, r2, M2, d2, s2, p2, hE2, hS2, R2, hp2⟩ => ?_
  exact hp2 F2 r2 H2 _ (Sub.refl _) (List.prefix_refl _) hS2 (Reps.cons (R1.mono s2 p2) R2)
/-- at most so many items in a display or text that is made -/
def lim : Nat := 1000000
theorem lim_ok {n : Nat} (h : n ≤ lim) : n ≤ sizeLine := Nat.le_trans h (by unfold lim; rw [sizeLine_eq]; decide)
def mTup (as : DA) : DE := fun env M => (as env M).bind fun xs M1 => if xs.length ≤ lim then .ok (.tup xs) M1 else .bad
def mLst (as : DA) : DE := fun env M => (as env M).bind fun xs M1 => if xs.length ≤ lim then .ok (.lst xs) M1 else .bad
/-- a list that may be changed -/
def mLstM (as : DA) : DE := fun env M => (as env M).bind fun xs M1 => if xs.length ≤ lim ∧ belows M1.length xs = true then .ok (.ref M1.length) (M1 ++ [.lst xs]) else .bad
theorem rep_new_tup {G : Gd} {F H R : Hp} {r : List Addr} {M : Sto} {xs : List D} {vs : List V} {p : Addr} (S : StoR G F r R M H) (h : Reps G F r xs vs) (hp : H p = none) :
    Sub F (upd F p (.tup vs)) ∧ StoR G (upd F p (.tup vs)) r R M (upd H p (.tup vs)) ∧ Rep G (upd F p (.tup vs)) r (.tup xs) (.ref p) := by
  have hF : F p = none := by
    cases q : F p with
    | none => rfl
    | some o => rw [S.sub _ _ q] at hp; cases hp
  refine ⟨Sub.upd hF, S.froz hp, ?_⟩
  rw [rep_tup]
  exact ⟨p, vs, rfl, SqT.of upd_same, h.mono (Sub.upd hF) (List.prefix_refl _)⟩
theorem rep_new_lst {G : Gd} {F H R : Hp} {r : List Addr} {M : Sto} {xs : List D} {vs : List V} {p : Addr} (S : StoR G F r R M H) (h : Reps G F r xs vs) (hp : H p = none) :
    Sub F (upd F p (.lst vs)) ∧ StoR G (upd F p (.lst vs)) r R M (upd H p (.lst vs)) ∧ Rep G (upd F p (.lst vs)) r (.lst xs) (.ref p) := by
  have hF : F p = none := by
    cases q : F p with
    | none => rfl
    | some o => rw [S.sub _ _ q] at hp; cases hp
  refine ⟨Sub.upd hF, S.froz hp, ?_⟩
  rw [rep_lst]
  exact ⟨p, vs, rfl, LstR.of upd_same, h.mono (Sub.upd hF) (List.prefix_refl _)⟩
theorem rep_new_lstM {G : Gd} {F H R : Hp} {r : List Addr} {M : Sto} {xs : List D} {vs : List V} {p : Addr} (S : StoR G F r R M H) (h : Reps G F r xs vs) (hp : H p = none) :
    r <+: r ++ [p] ∧ StoR G F (r ++ [p]) R (M ++ [.lst xs]) (upd H p (.lst vs)) ∧ Rep G F (r ++ [p]) (.ref M.length) (.ref p) := by
  refine ⟨List.prefix_append _ _, S.live hp fun H' e => ⟨vs, e, h⟩, ?_⟩
  rw [rep_ref]
  exact ⟨p, by rw [S.len, List.getElem?_append_right (Nat.le_refl _), Nat.sub_self]; rfl, rfl⟩
theorem ev_tup {x1} (h : PA X es (tA X W mas)) : PE X (.Tuple es x1 pos) (tD X W (mTup mas)) := by
  refine PE.imp (pe_tup h) fun σ H Q h => ?_
  obtain ⟨F, r, R, env, M, hE, hS, hp⟩ := h
  refine tX.imp (tX.bind OKx.mono' hE hS hp) fun x H1 ⟨F1, r1, M1, d, s1, p1, hE1, hS1, R1, hp1⟩ => ?_
  split at hp1
  · rename_i hl
    refine ⟨by rw [R1.length]; exact lim_ok hl, fun p hpn => ?_⟩
    obtain ⟨a1, a2, a3⟩ := rep_new_tup hS1 R1 hpn
    exact hp1 _ r1 _ _ a1 (List.prefix_refl _) a2 a3
  · exact hp1.elim
theorem ev_lst (h : PA X es (tA X W mas)) : PE X (.List es pos) (tD X W (mLst mas)) := by
  refine PE.imp (pe_lst h) fun σ H Q h => ?_
  obtain ⟨F, r, R, env, M, hE, hS, hp⟩ := h
  refine tX.imp (tX.bind OKx.mono' hE hS hp) fun x H1 ⟨F1, r1, M1, d, s1, p1, hE1, hS1, R1, hp1⟩ => ?_
  split at hp1
  · rename_i hl
    refine ⟨by rw [R1.length]; exact lim_ok hl, fun p hpn => ?_⟩
    obtain ⟨a1, a2, a3⟩ := rep_new_lst hS1 R1 hpn
    exact hp1 _ r1 _ _ a1 (List.prefix_refl _) a2 a3
  · exact hp1.elim
theorem ev_lstM (h : PA X es (tA X W mas)) : PE X (.List es pos) (tD X W (mLstM mas)) := by
  refine PE.imp (pe_lst h) fun σ H Q h => ?_
  obtain ⟨F, r, R, env, M, hE, hS, hp⟩ := h
  refine tX.imp (tX.bind OKx.mono' hE hS hp) fun x H1 ⟨F1, r1, M1, d, s1, p1, hE1, hS1, R1, hp1⟩ => ?_
  split at hp1
  · rename_i hl
    refine ⟨by rw [R1.length]; exact lim_ok hl.1, fun p hpn => ?_⟩
    obtain ⟨a1, a2, a3⟩ := rep_new_lstM hS1 R1 hpn
    exact hp1 F1 _ _ _ (Sub.refl _) a1 a2 a3
  · exact hp1.elim
/-! ### subscripts, built-in calls -/
theorem ev_ix {f : Op2} (hr : IxR X (rD2 X f)) (ha : PE X a (tD X W ma)) (hb : PE X b (tD X W mb)) (hs : PlainIx b := by intro _ _; rfl) : PE X (.Subscript a b pos) (tD X W (m2 f ma mb)) :=
  PE.imp (pe_ix hr ha hb hs) fun σ H Q h => tD_m2 h
theorem tD_mL {f : OpL} {σ : L2.St} {H : Hp} {Q : VK} (h : tD X W (mL f mas) σ H Q) : tCB (rDL X f) (tA X W mas) σ H Q := by
  obtain ⟨F, r, R, env, M, hE, hS, hp⟩ := h
  refine tX.imp (tX.bind OKx.mono' hE hS hp) fun x H1 ⟨F1, r1, M1, d, s1, p1, hE1, hS1, R1, hp1⟩ => ?_
  exact ⟨F1, r1, R, M1, d, hS1, R1, noExc_post hp1⟩
variable {x : Str} {p : Pos} {id T : String} {e : Expr}
theorem ev_callB {f : OpL} (hc : SL X (.builtin id) f) (hg : Gl X x) (hm : X.mg x = none) (hv : bootBuiltins x = some (.builtin id)) (ha : PA X (e :: es) (tA X W mas)) (hn : x ≠ "__name__" := by decide) (hdb : (x == ("__debug__" : Str)) = false := by decide)
    (he : starEach (e :: es) X.env = (false, eval e X.env) :: starEach es X.env := by rfl) (hpl : (backTo pos (starEach es X.env)).any (·.1) = false := by rfl) : PE X (.Call (.Name x p) (e :: es) [] pos) (tD X W (mL f mas)) :=
  PE.imp (pe_callB hc hg hm hv ha hn hdb he hpl) fun σ H Q h => tD_mL h
theorem ev_callT {f : OpL} (hc : SL X (.type T) f) (hg : Gl X x) (hm : X.mg x = none) (hv : bootBuiltins x = some (.type T)) (ha : PA X (e :: es) (tA X W mas)) (hn : x ≠ "__name__" := by decide) (hdb : (x == ("__debug__" : Str)) = false := by decide)
    (he : starEach (e :: es) X.env = (false, eval e X.env) :: starEach es X.env := by rfl) (hpl : (backTo pos (starEach es X.env)).any (·.1) = false := by rfl) : PE X (.Call (.Name x p) (e :: es) [] pos) (tD X W (mL f mas)) :=
  PE.imp (pe_callTy hc hg hm hv ha hn hdb he hpl) fun σ H Q h => tD_mL h
end
end EV
set_option maxHeartbeats 4000000
namespace EV
open PySem PySem.Spec PyProof.Rows L2

inductive OutS where
  | nx (env : DEnv) (M : Sto) | rt (d : D) (M : Sto) | bk (env : DEnv) (M : Sto) | ct (env : DEnv) (M : Sto) | exc (e : Exn) (env : DEnv) (M : Sto) | bad
abbrev DS := DEnv → Sto → OutS
/-- the wishes behind a statement -/
structure Wsh where
  n : DEnv → Sto → Prop
  r : D → Sto → Prop
  b : DEnv → Sto → Prop
  c : DEnv → Sto → Prop
  x : Exn → DEnv → Sto → Prop
def OutS.post (o : OutS) (w : Wsh) : Prop := match o with
  | .nx e M => w.n e M
  | .rt d M => w.r d M
  | .bk e M => w.b e M
  | .ct e M => w.c e M
  | .exc e v M => w.x e v M
  | .bad => False
def NXc (G : Gd) (F : Hp) (r : List Addr) (R : Hp) (k : L2.St → Hp → Prop) (env : DEnv) (M : Sto) : Prop :=
  ∀ F' r' H' σ', Sub F F' → r <+: r' → EnvR G F' r' env σ' → StoR G F' r' R M H' → k σ' H'
def XSc (G : Gd) (F : Hp) (r : List Addr) (R : Hp) (W : EXK) (e : Exn) (env : DEnv) (M : Sto) : Prop :=
  ∀ F' r' H' σ' cls d, Sub F F' → r <+: r' → EnvR G F' r' env σ' → StoR G F' r' R M H' → ExR G F' r' e cls d → W cls d σ' H'
theorem NXc.mono {G : Gd} {F F' : Hp} {r r' : List Addr} {R : Hp} {k : L2.St → Hp → Prop} {env : DEnv} {M : Sto} (s : Sub F F') (p : r <+: r') (h : NXc G F r R k env M) : NXc G F' r' R k env M :=
  fun F2 r2 H2 σ2 s2 p2 a b => h F2 r2 H2 σ2 (s.trans s2) (p.trans p2) a b
theorem XSc.mono {G : Gd} {F F' : Hp} {r r' : List Addr} {R : Hp} {k : EXK} {e : Exn} {env : DEnv} {M : Sto} (s : Sub F F') (p : r <+: r') (h : XSc G F r R k e env M) : XSc G F' r' R k e env M :=
  fun F2 r2 H2 σ2 c d s2 p2 a b => h F2 r2 H2 σ2 c d (s.trans s2) (p.trans p2) a b
def wsh (G : Gd) (F : Hp) (r : List Addr) (R : Hp) (W : EXK) (Dn : Ends) : Wsh :=
  ⟨NXc G F r R Dn.nx, OKx Rep G F r R Dn.rt, NXc G F r R Dn.bk, NXc G F r R Dn.ct, XSc G F r R W⟩
theorem wsh_mono {G : Gd} {F F' : Hp} {r r' : List Addr} {R : Hp} {W : EXK} {Dn : Ends} {o : OutS} (s : Sub F F') (p : r <+: r') (h : o.post (wsh G F r R W Dn)) : o.post (wsh G F' r' R W Dn) := by
  cases o with
  | nx e M => exact NXc.mono s p h
  | rt d M => exact OKx.mono s p h
  | bk e M => exact NXc.mono s p h
  | ct e M => exact NXc.mono s p h
  | exc e v M => exact XSc.mono s p h
  | bad => exact h
/-- the reading of a plain statement -/
def tS (X : Cx) (W : EXK) (m : DS) : TS := fun Dn σ H => ∃ F r R env M, EnvR (gd X) F r env σ ∧ StoR (gd X) F r R M H ∧ (m env M).post (wsh (gd X) F r R W Dn)

/-- an expression ahead of a statement -/
def Out.thenS {α : Type} (o : Out α) (env : DEnv) (f : α → Sto → OutS) : OutS := match o with
  | .ok a M => f a M
  | .exc e M => .exc e env M
  | .bad => .bad
theorem thenS_bind {α β : Type} {X : Cx} {W : EXK} {Q : Rl α β} {m : DEnv → Sto → Out α} {f : α → Sto → OutS} {Dn : Ends} {σ : L2.St} {F H R : Hp} {r : List Addr} {env : DEnv} {M : Sto}
    (hE : EnvR (gd X) F r env σ) (hS : StoR (gd X) F r R M H) (h : ((m env M).thenS env f).post (wsh (gd X) F r R W Dn)) :
    tX X W Q m σ H fun b H1 => ∃ F1 r1 M1 a, Sub F F1 ∧ r <+: r1 ∧ EnvR (gd X) F1 r1 env σ ∧ StoR (gd X) F1 r1 R M1 H1 ∧ Q (gd X) F1 r1 a b ∧ (f a M1).post (wsh (gd X) F1 r1 R W Dn) := by
  refine ⟨F, r, R, env, M, hE, hS, ?_⟩
  cases e : m env M with
  | bad => rw [e] at h; exact h
  | exc x M1 =>
    rw [e] at h
    intro F' r' H' cls d s p S z
    exact h F' r' H' σ cls d s p (hE.mono s p) S z
  | ok a M1 =>
    rw [e] at h
    intro F' r' H' b s p S z
    exact ⟨F', r', M1, a, s, p, hE.mono s p, S, z, wsh_mono s p h⟩
def sNil : DS := fun env M => .nx env M
def sSeq (a b : DS) : DS := fun env M => match a env M with
  | .nx env' M' => b env' M'
  | o => o
def sExpr (e : DE) : DS := fun env M => (e env M).thenS env fun _ M1 => .nx env M1
def sRet (e : DE) : DS := fun env M => (e env M).thenS env fun d M1 => .rt d M1
def sRetN : DS := fun _ M => .rt .non M
def sIf (c : DT) (a b : DS) : DS := fun env M => (c env M).thenS env fun k M1 => if k = true then a env M1 else b env M1
def sBreak : DS := fun env M => .bk env M
def sCont : DS := fun env M => .ct env M
def sNever : DS := fun _ _ => .bad
section
variable {X : Cx} {W : EXK} {pos : Pos} {a b : Stmt} {ms ns : DS} {sts rest : List Stmt} {e : Expr} {m : DE} {c : Expr} {mc : DT}
theorem evs_nil : PSs X [] (tS X W sNil) := by
  refine PSs.imp pss_nil fun Dn σ H h => ?_
  obtain ⟨F, r, R, env, M, hE, hS, hp⟩ := h
  exact hp F r H σ (Sub.refl _) (List.prefix_refl _) hE hS
theorem evs_cons (h1 : PS X a (tS X W ms)) (h2 : PSs X rest (tS X W ns)) : PSs X (a :: rest) (tS X W (sSeq ms ns)) := by
  refine PSs.imp (pss_cons h1 h2) fun Dn σ H h => ?_
  obtain ⟨F, r, R, env, M, hE, hS, hp⟩ := h
  refine ⟨F, r, R, env, M, hE, hS, ?_⟩
  unfold sSeq at hp
  cases e : ms env M with
  | nx env' M' =>
    rw [e] at hp
    intro F' r' H' σ' s p a b
    exact ⟨F', r', R, env', M', a, b, wsh_mono s p hp⟩
  | rt d M' => rw [e] at hp; exact hp
  | bk d M' => rw [e] at hp; exact hp
  | ct d M' => rw [e] at hp; exact hp
  | exc x d M' => rw [e] at hp; exact hp
  | bad => rw [e] at hp; exact hp
theorem evs_one (h1 : PS X a (tS X W ms)) : PSs X [a] (tS X W ms) := pss_one h1
theorem evs_expr (he : PE X e (tD X W m)) (hs : swapsWith e none pos.line X.env = pure false := by rfl) : PS X (.Expr e pos) (tS X W (sExpr m)) := by
  refine PS.imp (ps_expr he hs) fun Dn σ H h => ?_
  obtain ⟨F, r, R, env, M, hE, hS, hp⟩ := h
  refine tX.imp (thenS_bind hE hS hp) fun x H1 ⟨F1, r1, M1, d, s1, p1, hE1, hS1, R1, hp1⟩ => ?_
  exact hp1 F1 r1 H1 σ (Sub.refl _) (List.prefix_refl _) hE1 hS1
theorem evs_ret (he : PE X e (tD X W m)) : PS X (.Return (some e) pos) (tS X W (sRet m)) := by
  refine PS.imp (ps_ret he) fun Dn σ H h => ?_
  obtain ⟨F, r, R, env, M, hE, hS, hp⟩ := h
  refine tX.imp (thenS_bind hE hS hp) fun x H1 ⟨F1, r1, M1, d, s1, p1, hE1, hS1, R1, hp1⟩ => ?_
  exact hp1 F1 r1 H1 x (Sub.refl _) (List.prefix_refl _) hS1 R1
theorem evs_retN : PS X (.Return none pos) (tS X W sRetN) := by
  refine PS.imp ps_retN fun Dn σ H h => ?_
  obtain ⟨F, r, R, env, M, hE, hS, hp⟩ := h
  exact hp F r H .non (Sub.refl _) (List.prefix_refl _) hS (by rw [rep_non])
theorem evs_if (hc : PT X c (tT X W mc)) (ha : PSs X sts (tS X W ms)) (hb : PSs X rest (tS X W ns)) : PS X (.If c sts rest pos) (tS X W (sIf mc ms ns)) := by
  refine PS.imp (ps_if hc ha hb) fun Dn σ H h => ?_
  obtain ⟨F, r, R, env, M, hE, hS, hp⟩ := h
  refine tX.imp (thenS_bind hE hS hp) fun x H1 ⟨F1, r1, M1, d, s1, p1, hE1, hS1, R1, hp1⟩ => ?_
  have R1' : d = x := R1
  subst R1'
  cases d with
  | true => rw [if_pos rfl]; exact ⟨F1, r1, R, env, M1, hE1, hS1, hp1⟩
  | false => rw [if_neg (by decide)]; exact ⟨F1, r1, R, env, M1, hE1, hS1, hp1⟩
theorem evs_break : PS X (.Break pos) (tS X W sBreak) := by
  refine PS.imp ps_break fun Dn σ H h => ?_
  obtain ⟨F, r, R, env, M, hE, hS, hp⟩ := h
  exact hp F r H σ (Sub.refl _) (List.prefix_refl _) hE hS
theorem evs_cont : PS X (.Continue pos) (tS X W sCont) := by
  refine PS.imp ps_continue fun Dn σ H h => ?_
  obtain ⟨F, r, R, env, M, hE, hS, hp⟩ := h
  exact hp F r H σ (Sub.refl _) (List.prefix_refl _) hE hS
theorem evs_pass : PS X (.Pass pos) (tS X W sNil) := by
  refine PS.imp ps_pass fun Dn σ H h => ?_
  obtain ⟨F, r, R, env, M, hE, hS, hp⟩ := h
  exact hp F r H σ (Sub.refl _) (List.prefix_refl _) hE hS
theorem evs_never : PS X a (tS X W sNever) := by
  refine PS.imp ps_never fun Dn σ H h => ?_
  obtain ⟨F, r, R, env, M, hE, hS, hp⟩ := h
  exact hp
theorem evs_doc {x j pos'} : PS X (.Expr (.Constant (.str x) j pos) pos') (tS X W sNil) := by
  refine PS.imp ps_doc fun Dn σ H h => ?_
  obtain ⟨F, r, R, env, M, hE, hS, hp⟩ := h
  exact hp F r H σ (Sub.refl _) (List.prefix_refl _) hE hS
end

/-! ### targets -/
abbrev DG := D → DEnv → Sto → Option (DEnv × Sto)
def tG (X : Cx) (g : DG) : TG := fun v σ H k => ∃ F r R env M d, EnvR (gd X) F r env σ ∧ StoR (gd X) F r R M H ∧ Rep (gd X) F r d v ∧ match g d env M with
  | some (env', M') => NXc (gd X) F r R k env' M'
  | none => False
theorem PG.imp {X : Cx} {e : Expr} {t t' : TG} (h : PG X e t) (i : ∀ v σ H Q, t' v σ H Q → t v σ H Q) : PG X e t' := ⟨fun pins s σ H v u Q I r q => h.run pins s σ H v u Q I r (i _ _ _ _ q)⟩
theorem EnvR.set {G : Gd} {F : Hp} {r : List Addr} {env : DEnv} {σ : L2.St} (h : EnvR G F r env σ) {d : D} {v : V} (q : Rep G F r d v) (i : Nat) : EnvR G F r (env.set i (some d)) (σ.set i (some v)) := by
  refine ⟨by rw [List.length_set, List.length_set, h.1], fun j d' e => ?_⟩
  by_cases hj : j = i
  · subst hj
    have hl : j < env.length := by
      have := (List.getElem?_eq_some_iff.mp e).1
      rw [List.length_set] at this
      exact this
    rw [List.getElem?_set_self hl] at e
    cases e
    exact ⟨v, by rw [List.getElem?_set_self (by rw [← h.1]; exact hl)], q⟩
  · rw [List.getElem?_set_ne (fun z => hj z.symm)] at e
    obtain ⟨u, a, b⟩ := h.2 j d' e
    exact ⟨u, by rw [List.getElem?_set_ne (fun z => hj z.symm)]; exact a, b⟩
def gN (i : Nat) : DG := fun d env M => some (env.set i (some d), M)
/-- several plain names at once -/
def gNs (is : List Nat) : DG := fun d env M => match d with
  | .tup xs => if xs.length = is.length then some ((is.zip xs).foldl (fun e p => e.set p.1 (some p.2)) env, M) else none
  | _ => none
section
variable {X : Cx} {W : EXK} {pos : Pos}
theorem evg_name {i : Nat} {x : Str} (hN : X.N.Nodup) (hi : X.N[i]? = some x) (hx : Loc X.env.scope x) (hf : X.fn x = true ∨ X.env.scope.names.lookup x = some .local := by first | exact .inl rfl | exact .inr rfl | assumption) : PG X (.Name x pos) (tG X (gN i)) := by
  refine PG.imp (pg_name hN hi hx hf) fun v σ H Q h => ?_
  obtain ⟨F, r, R, env, M, d, hE, hS, hR, hp⟩ := h
  exact hp F r H _ (Sub.refl _) (List.prefix_refl _) (hE.set hR i) hS
/-- the slots of plain names -/
inductive Slots (X : Cx) : List Expr → List Nat → Prop
  | nil : Slots X [] []
  | cons {e : Expr} {es : List Expr} {i : Nat} {is : List Nat} (h : PG X e (gName i)) (r : Slots X es is) (hs : (assignEach (e :: es) X.env).map (·.2) = assign e X.env :: (assignEach es X.env).map (·.2)) : Slots X (e :: es) (i :: is)
theorem slot_cons {x : Str} {p : Pos} {es : List Expr} {i : Nat} {is : List Nat} (hN : X.N.Nodup) (hi : X.N[i]? = some x) (hx : Loc X.env.scope x) (r : Slots X es is) (hf : X.fn x = true ∨ X.env.scope.names.lookup x = some .local := by first | exact .inl rfl | exact .inr rfl | assumption)
    (hs : (assignEach (.Name x p :: es) X.env).map (·.2) = assign (.Name x p) X.env :: (assignEach es X.env).map (·.2) := by rfl) : Slots X (.Name x p :: es) (i :: is) := .cons (pg_name hN hi hx hf) r hs
/-- the readings of plain names -/
def gAll : List Nat → TGs
  | [] => gNil
  | i :: is => gCons (gName i) (gAll is)
theorem Slots.pgs {es : List Expr} {is : List Nat} (h : Slots X es is) : PGs X es (gAll is) := by
  induction h with
  | nil => exact pgs_nil
  | cons h r hs ih => exact pgs_cons h ih hs
theorem gAll_run {G : Gd} {F H R : Hp} {r : List Addr} {Q : L2.St → Hp → Prop} {M : Sto} (hS : StoR G F r R M H) : ∀ {is : List Nat} {xs : List D} {vs : List V} {env : DEnv} {σ : L2.St}, xs.length = is.length → Reps G F r xs vs → EnvR G F r env σ →
    NXc G F r R Q ((is.zip xs).foldl (fun e p => e.set p.1 (some p.2)) env) M → gAll is vs σ H Q
  | [], xs, vs, env, σ, hl, hr, hE, h => by
    have : xs = [] := List.eq_nil_of_length_eq_zero hl
    subst this
    cases hr.inv0
    exact ⟨rfl, h F r H σ (Sub.refl _) (List.prefix_refl _) hE hS⟩
  | i :: is, xs, vs, env, σ, hl, hr, hE, h => by
    cases xs with
    | nil => cases hl
    | cons x xs =>
      obtain ⟨v, w, rfl, a, b⟩ := hr.inv
      exact ⟨v, w, rfl, gAll_run hS (by simpa using hl) b (hE.set a i) h⟩
theorem evg_names {es : List Expr} {is : List Nat} {k : Nat} (hc : X.calm = true) (h : Slots X es is) (hn : (assignEach es X.env).length = is.length := by rfl) (hst : (assignEach es X.env).findIdx? (·.1) = none := by rfl) : PG X (.Tuple es k pos) (tG X (gNs is)) := by
  refine PG.imp (pg_tup hc h.pgs hn hst) fun v σ H Q h => ?_
  obtain ⟨F, r, R, env, M, d, hE, hS, hR, hp⟩ := h
  unfold gNs at hp
  cases d <;> first | exact hp.elim | skip
  rename_i xs
  rw [rep_tup] at hR
  obtain ⟨a, vs, e, q, z⟩ := hR
  simp only at hp
  split at hp
  · rename_i o env' M' he
    split at he
    · rename_i hl
      cases he
      refine ⟨a, vs, e, hS.sub.sqT q, by rw [z.length]; exact hl, gAll_run hS hl z hE hp⟩
    · cases he
  · exact hp.elim
/-- target = value -/
def sAsg (e : DE) (g : DG) : DS := fun env M => (e env M).thenS env fun d M1 => match g d env M1 with
  | some (env', M') => .nx env' M'
  | none => .bad
theorem tG_of {g : DG} {v : V} {d : D} {σ : L2.St} {F H R : Hp} {r : List Addr} {env : DEnv} {M : Sto} {Dn : Ends} (hE : EnvR (gd X) F r env σ) (hS : StoR (gd X) F r R M H) (hR : Rep (gd X) F r d v)
    (h : (match g d env M with
      | some (env', M') => OutS.nx env' M'
      | none => .bad).post (wsh (gd X) F r R W Dn)) : tG X g v σ H Dn.nx := by
  refine ⟨F, r, R, env, M, d, hE, hS, hR, ?_⟩
  split at h
  · exact h
  · exact h
theorem evs_asg {tg e : Expr} {m : DE} {g : DG} (he : PE X e (tD X W m)) (hg : PG X tg (tG X g)) (hs : swapsWithSole [tg] e pos.line X.env = pure false := by rfl) (hw : swappedStores [tg] e X.env = pure none := by rfl)
    (h1 : (assignEach [tg] X.env).map (·.2) = [assign tg X.env] := by rfl) : PS X (.Assign [tg] e pos) (tS X W (sAsg m g)) := by
  refine PS.imp (ps_asg he hg hs hw h1) fun Dn σ H h => ?_
  obtain ⟨F, r, R, env, M, hE, hS, hp⟩ := h
  refine tX.imp (thenS_bind hE hS hp) fun x H1 ⟨F1, r1, M1, d, s1, p1, hE1, hS1, R1, hp1⟩ => ?_
  exact tG_of hE1 hS1 R1 hp1
/-- name = value -/
theorem evs_set {i : Nat} {x : Str} {e : Expr} {m : DE} {pos' : Pos} (hN : X.N.Nodup) (hi : X.N[i]? = some x) (hx : Loc X.env.scope x) (he : PE X e (tD X W m)) (hs : swapsWith e (some (.Name x pos')) pos.line X.env = pure false := by rfl) (hf : X.fn x = true ∨ X.env.scope.names.lookup x = some .local := by first | exact .inl rfl | exact .inr rfl | assumption) :
    PS X (.Assign [.Name x pos'] e pos) (tS X W (sAsg m (gN i))) := by
  refine PS.imp (ps_set hN hi hx he hs hf) fun Dn σ H h => ?_
  obtain ⟨F, r, R, env, M, hE, hS, hp⟩ := h
  refine tX.imp (thenS_bind hE hS hp) fun x H1 ⟨F1, r1, M1, d, s1, p1, hE1, hS1, R1, hp1⟩ => ?_
  exact hp1 F1 r1 H1 _ (Sub.refl _) (List.prefix_refl _) (hE1.set R1 i) hS1
/-- a, b = x, y -/
def sPar (i j : Nat) (a b : DE) : DS := fun env M => ((a env M).bind fun x M1 => (b env M1).bind fun y M2 => .ok (x, y) M2).thenS env fun p M2 => .nx ((env.set i (some p.1)).set j (some p.2)) M2
theorem evs_par {i j : Nat} {x y : Str} {a b : Expr} {ma mb : DE} {px py pt : Pos} {kt k2 pt2} (hc : X.calm = true) (hN : X.N.Nodup) (hi : X.N[i]? = some x) (hj : X.N[j]? = some y) (hij : i ≠ j)
    (hx : X.env.scope.names.lookup x = some .local) (hy : X.env.scope.names.lookup y = some .local) (ha : PE X a (tD X W ma)) (hb : PE X b (tD X W mb))
    (hw : swappedStores [.Tuple [.Name x px, .Name y py] kt pt] (.Tuple [a, b] k2 pt2) X.env = pure (some [x, y]) := by rfl)
    (hs : swapsWithSole [.Tuple [.Name x px, .Name y py] kt pt] (.Tuple [a, b] k2 pt2) pos.line X.env = pure false := by rfl) (he1 : starEach [a, b] X.env = (false, eval a X.env) :: starEach [b] X.env := by rfl) (he2 : starEach [b] X.env = (false, eval b X.env) :: starEach [] X.env := by rfl) :
    PS X (.Assign [.Tuple [.Name x px, .Name y py] kt pt] (.Tuple [a, b] k2 pt2) pos) (tS X W (sPar i j ma mb)) := by
  refine PS.imp (ps_par hc hN hi hj hij hx hy (pa_cons ha (pa_cons hb pa_nil he2) he1) hw hs) fun Dn σ H h => ?_
  obtain ⟨F, r, R, env, M, hE, hS, hp⟩ := h
  unfold sPar at hp
  -- first
  have h1 : ((ma env M).thenS env fun x M1 => ((mb env M1).thenS env fun y M2 => .nx ((env.set i (some x)).set j (some y)) M2)).post (wsh (gd X) F r R W Dn) := by
    cases ea : ma env M with
    | bad => rw [ea] at hp; exact hp
    | exc _ _ => rw [ea] at hp; exact hp
    | ok u M1 =>
      rw [ea] at hp
      show ((mb env M1).thenS env _).post _
      cases eb : mb env M1 with
      | bad =>
        have : (((Out.ok u M1).bind fun x M1 => (mb env M1).bind fun y M2 => Out.ok (x, y) M2)).thenS env (fun p M2 => OutS.nx ((env.set i (some p.1)).set j (some p.2)) M2) = .bad := by
          show (((mb env M1).bind fun y M2 => Out.ok (u, y) M2)).thenS env _ = _
          rw [eb]
          rfl
        rw [this] at hp
        exact hp
      | exc x M2 =>
        have : (((Out.ok u M1).bind fun x M1 => (mb env M1).bind fun y M2 => Out.ok (x, y) M2)).thenS env (fun p M2 => OutS.nx ((env.set i (some p.1)).set j (some p.2)) M2) = .exc x env M2 := by
          show (((mb env M1).bind fun y M2 => Out.ok (u, y) M2)).thenS env _ = _
          rw [eb]
          rfl
        rw [this] at hp
        exact hp
      | ok w M2 =>
        have : (((Out.ok u M1).bind fun x M1 => (mb env M1).bind fun y M2 => Out.ok (x, y) M2)).thenS env (fun p M2 => OutS.nx ((env.set i (some p.1)).set j (some p.2)) M2) = .nx ((env.set i (some u)).set j (some w)) M2 := by
          show (((mb env M1).bind fun y M2 => Out.ok (u, y) M2)).thenS env _ = _
          rw [eb]
          rfl
        rw [this] at hp
        exact hp
  refine tX.imp (thenS_bind hE hS h1) fun v H1 ⟨F1, r1, M1, d, s1, p1, hE1, hS1, R1, hp1⟩ => ?_
  refine tX.imp (thenS_bind hE1 hS1 hp1) fun w H2 ⟨F2, r2, M2, d2, s2, p2, hE2, hS2, R2, hp2⟩ => ?_
  exact ⟨v, w, rfl, hp2 F2 r2 H2 _ (Sub.refl _) (List.prefix_refl _) ((hE2.set (R1.mono s2 p2) i).set R2 j) hS2⟩
/-- name op= value -/
def sAug (f : Op2) (i : Nat) (e : DE) : DS := fun env M => match env[i]? with
  | some (some x) => ((e env M).bind fun y M1 => noExc (f x y M1)).thenS env fun z M2 => .nx (env.set i (some z)) M2
  | _ => .bad
theorem bind_then {α β : Type} (o : Out α) (g : α → Sto → Out β) (env : DEnv) (f : β → Sto → OutS) : (o.bind g).thenS env f = o.thenS env fun a M => (g a M).thenS env f := by
  cases o <;> rfl
theorem noExc_then {α : Type} {o : Out α} {env : DEnv} {f : α → Sto → OutS} {w : Wsh} (h : ((noExc o).thenS env f).post w) : o.post (fun a M => (f a M).post w) fun _ _ => False := by
  cases o <;> exact h
theorem evs_aug {i : Nat} {x : Str} {e : Expr} {m : DE} {op : Operator} {f : Op2} {pos' : Pos} (hN : X.N.Nodup) (hi : X.N[i]? = some x) (hx : Loc X.env.scope x) (he : PE X e (tD X W m)) (ho : S2 X (inplaceOp op) f) (hf : X.fn x = true ∨ X.env.scope.names.lookup x = some .local := by first | exact .inl rfl | exact .inr rfl | assumption) :
    PS X (.AugAssign (.Name x pos') op e pos) (tS X W (sAug f i m)) := by
  refine PS.imp (ps_aug hN hi hx he (ti := rD2 X f) ho hf) fun Dn σ H h => ?_
  obtain ⟨F, r, R, env, M, hE, hS, hp⟩ := h
  unfold sAug at hp
  split at hp
  · rename_i d ed
    obtain ⟨v, ev, rv⟩ := hE.2 i d ed
    rw [bind_then] at hp
    refine ⟨v, ev, tX.imp (thenS_bind hE hS hp) fun y H1 ⟨F1, r1, M1, d1, s1, p1, hE1, hS1, R1, hp1⟩ => ?_⟩
    refine ⟨F1, r1, R, M1, d, d1, hS1, rv.mono s1 p1, R1, Out.post_imp (noExc_then hp1) (fun z M2 q => ?_) fun _ _ z => z⟩
    intro F2 r2 H2 u s2 p2 S2 R2
    exact q F2 r2 H2 _ s2 p2 ((hE1.mono s2 p2).set R2 i) S2
  · exact hp.elim
/-- o[i] op= e -/
def sAugS (get : Op2) (f : Op2) (put : D → D → D → Sto → Option Sto) (o i e : DE) : DS := fun env M =>
  (o env M).thenS env fun x M1 => (i env M1).thenS env fun y M2 => (noExc (get x y M2)).thenS env fun z M3 => (e env M3).thenS env fun u M4 => (noExc (f z u M4)).thenS env fun w M5 => match put x y w M5 with
    | some M6 => .nx env M6
    | none => .bad
/-- o[i] = v, by values -/
def rD3 (X : Cx) (put : D → D → D → Sto → Option Sto) : V → V → V → Hp → (Hp → Prop) → Prop := fun o i v H Q => ∃ F r R M a b c, StoR (gd X) F r R M H ∧ Rep (gd X) F r a o ∧ Rep (gd X) F r b i ∧ Rep (gd X) F r c v ∧ match put a b c M with
  | some M' => ∀ F' r' H', Sub F F' → r <+: r' → StoR (gd X) F' r' R M' H' → Q H'
  | none => False
abbrev S3 (X : Cx) (put : D → D → D → Sto → Option Sto) : Prop := PSet X (rD3 X put)
theorem evs_augS {o i e : Expr} {mo mi m : DE} {get f : Op2} {put : D → D → D → Sto → Option Sto} {op : Operator} {tpos : Pos} (ho : PE X o (tD X W mo)) (hi : PE X i (tD X W mi)) (hg : PGet X (rD2 X get)) (he : PE X e (tD X W m)) (hp : S2 X (inplaceOp op) f) (hs : S3 X put)
    (ha : ∀ ov iv new, augStore i ov iv new = (do holding [new, ov, iv] (setItem ov iv new); release [new, ov, iv] []; pure .next) := by intros; rfl) : PS X (.AugAssign (.Subscript o i tpos) op e pos) (tS X W (sAugS get f put mo mi m)) := by
  refine PS.imp (ps_augS ho hi hg he (tip := rD2 X f) hp hs ha) fun Dn σ H h => ?_
  obtain ⟨F, r, R, env, M, hE, hS, hp⟩ := h
  refine tX.imp (thenS_bind hE hS hp) fun x H1 ⟨F1, r1, M1, d1, s1, p1, hE1, hS1, R1, hp1⟩ => ?_
  refine tX.imp (thenS_bind hE1 hS1 hp1) fun y H2 ⟨F2, r2, M2, d2, s2, p2, hE2, hS2, R2, hp2⟩ => ?_
  refine ⟨F2, r2, R, M2, d1, d2, hS2, R1.mono s2 p2, R2, Out.post_imp (noExc_then hp2) (fun z M3 q => ?_) fun _ _ z => z⟩
  intro F3 r3 H3 v3 s3 p3 hS3 R3
  refine tX.imp (thenS_bind (hE2.mono s3 p3) hS3 (wsh_mono s3 p3 q)) fun u H4 ⟨F4, r4, M4, d4, s4, p4, hE4, hS4, R4, hp4⟩ => ?_
  refine ⟨F4, r4, R, M4, z, d4, hS4, R3.mono s4 p4, R4, Out.post_imp (noExc_then hp4) (fun w M5 q5 => ?_) fun _ _ z => z⟩
  intro F5 r5 H5 v5 s5 p5 hS5 R5
  refine ⟨F5, r5, R, M5, d1, d2, w, hS5, R1.mono ((s2.trans s3).trans (s4.trans s5)) ((p2.trans p3).trans (p4.trans p5)), R2.mono (s3.trans (s4.trans s5)) (p3.trans (p4.trans p5)), R5, ?_⟩
  cases e6 : put d1 d2 w M5 with
  | none => rw [e6] at q5; exact q5.elim
  | some M6 =>
    rw [e6] at q5
    intro F' r' H' s6 p6 S6
    exact q5 F' r' H' σ (s5.trans s6) (p5.trans p6) (hE4.mono (s5.trans s6) (p5.trans p6)) S6
/-- o[i] = value -/
def gS (put : D → D → D → Sto → Option Sto) (o i : DE) : DG := fun d env M => match o env M with
  | .ok x M1 => (match i env M1 with
    | .ok y M2 => (put x y d M2).map fun M3 => (env, M3)
    | _ => none)
  | _ => none
theorem evg_sub {o i : Expr} {mo mi : DE} {put : D → D → D → Sto → Option Sto} (ho : PE X o (tD X W mo)) (hi : PE X i (tD X W mi)) (hs : S3 X put)
    (ha : ∀ v, assign (.Subscript o i pos) X.env v = (do
      let ov ← holding [v] (eval o X.env)
      let iv ← holding [v, ov] (eval i X.env)
      standAt pos
      holding [v, ov, iv] (setItem ov iv v)
      release [v, ov, iv] []) := by intro _; rfl) : PG X (.Subscript o i pos) (tG X (gS put mo mi)) := by
  refine PG.imp (pg_sub ho hi hs ha) fun v σ H Q h => ?_
  obtain ⟨F, r, R, env, M, d, hE, hS, hR, hp⟩ := h
  refine ⟨F, r, R, env, M, hE, hS, ?_⟩
  unfold gS at hp
  cases e1 : mo env M with
  | bad => simp only [e1] at hp
  | exc _ _ => simp only [e1] at hp
  | ok x M1 =>
    simp only [e1] at hp
    intro F1 r1 H1 v1 s1 p1 S1 R1
    refine ⟨F1, r1, R, env, M1, hE.mono s1 p1, S1, ?_⟩
    cases e2 : mi env M1 with
    | bad => simp only [e2] at hp
    | exc _ _ => simp only [e2] at hp
    | ok y M2 =>
      simp only [e2] at hp
      intro F2 r2 H2 v2 s2 p2 S2 R2
      refine ⟨F2, r2, R, M2, x, y, d, S2, R1.mono s2 p2, R2, hR.mono (s1.trans s2) (p1.trans p2), ?_⟩
      cases e3 : put x y d M2 with
      | none => simp only [e3, Option.map_none] at hp
      | some M3 =>
        simp only [e3, Option.map_some] at hp
        intro F' r' H' s3 p3 S3
        exact hp F' r' H' σ ((s1.trans s2).trans s3) ((p1.trans p2).trans p3) (hE.mono ((s1.trans s2).trans s3) ((p1.trans p2).trans p3)) S3
end
end EV
set_option maxHeartbeats 4000000
namespace EV
open PySem PySem.Spec PyProof.Rows L2

theorem Wsh.imp {o : OutS} {w w' : Wsh} (h : o.post w) (hn : ∀ e M, w.n e M → w'.n e M) (hr : ∀ e M, w.r e M → w'.r e M) (hb : ∀ e M, w.b e M → w'.b e M) (hc : ∀ e M, w.c e M → w'.c e M) (hx : ∀ x e M, w.x x e M → w'.x x e M) : o.post w' := by
  cases o with
  | nx e M => exact hn _ _ h
  | rt d M => exact hr _ _ h
  | bk e M => exact hb _ _ h
  | ct e M => exact hc _ _ h
  | exc e v M => exact hx _ _ _ h
  | bad => exact h
/-! ### what is walked -/
inductive Src where
  | imm (xs : List D) | live (n : Nat)
def Src.at_ (s : Src) (M : Sto) (i : Nat) : Option (Option D) := match s with
  | .imm xs => some xs[i]?
  | .live n => match M[n]? with
    | some (.lst ys) => some ys[i]?
    | _ => none
def ItOk (G : Gd) (F : Hp) (r : List Addr) (s : Src) (J : It) : Prop := ∀ F2 r2 R M H i, Sub F F2 → r <+: r2 → StoR G F2 r2 R M H → match s.at_ M i with
  | none => True
  | some none => J.stop i H
  | some (some d) => J.go i H ∧ ∀ x H', J.yld i H x H' → ∃ F3, Sub F2 F3 ∧ StoR G F3 r2 R M H' ∧ Rep G F3 r2 d x
abbrev DI := DEnv → Sto → Out Src
abbrev tI (X : Cx) (W : EXK) (m : DI) : TI := tX X W ItOk m
theorem PI.imp {X : Cx} {tg e : Expr} {t t' : TI} (h : PI X tg e t) (i : ∀ σ H Q, t' σ H Q → t σ H Q) : PI X tg e t' := ⟨fun pins s σ H R I q => h.run pins s σ H R I (i _ _ _ q)⟩
/-! ### for -/
def forL (g : DG) (b : DS) : List D → DEnv → Sto → OutS
  | [], env, M => .nx env M
  | x :: xs, env, M => match g x env M with
    | none => .bad
    | some (env1, M1) => match b env1 M1 with
      | .nx e M' => forL g b xs e M'
      | .ct e M' => forL g b xs e M'
      | .bk e M' => .nx e M'
      | .rt d M' => .rt d M'
      | .exc x e M' => .exc x e M'
      | .bad => .bad
def forN (g : DG) (b : DS) (n : Nat) : Nat → Nat → DEnv → Sto → OutS
  | 0, _, _, _ => .bad
  | k + 1, i, env, M => match M[n]? with
    | some (.lst ys) => match ys[i]? with
      | none => .nx env M
      | some x => match g x env M with
        | none => .bad
        | some (env1, M1) => match b env1 M1 with
          | .nx e M' => forN g b n k (i + 1) e M'
          | .ct e M' => forN g b n k (i + 1) e M'
          | .bk e M' => .nx e M'
          | .rt d M' => .rt d M'
          | .exc x e M' => .exc x e M'
          | .bad => .bad
    | _ => .bad
def sFor (it : DI) (g : DG) (b : DS) : DS := fun env M => (it env M).thenS env fun s M1 => match s with
  | .imm xs => forL g b xs env M1
  | .live n => forN g b n lim 0 env M1
/-- a turn: what the loop is at i with fuel k -/
structure LoopP (s : Src) (g : DG) (b : DS) (L : Nat → Nat → DEnv → Sto → Wsh → Prop) : Prop where
  mono : ∀ i k env M w w', L i k env M w → (∀ e M, w.n e M → w'.n e M) → (∀ e M, w.r e M → w'.r e M) → (∀ x e M, w.x x e M → w'.x x e M) → L i k env M w'
  turn : ∀ i k env M w, L i k env M w → match s.at_ M i with
    | none => False
    | some none => w.n env M
    | some (some d) => ∃ k', k' < k ∧ match g d env M with
      | none => False
      | some (env1, M1) => (b env1 M1).post ⟨fun e M' => L (i + 1) k' e M' w, w.r, w.n, fun e M' => L (i + 1) k' e M' w, w.x⟩
theorem forL_imp {g : DG} {b : DS} {w w' : Wsh} (hn : ∀ e M, w.n e M → w'.n e M) (hr : ∀ e M, w.r e M → w'.r e M) (hx : ∀ x e M, w.x x e M → w'.x x e M) : ∀ {xs : List D} {env : DEnv} {M : Sto}, (forL g b xs env M).post w → (forL g b xs env M).post w'
  | [], env, M, h => hn _ _ h
  | x :: xs, env, M, h => by
    unfold forL at h ⊢
    split at h
    · exact h.elim
    · rename_i env1 M1 e1
      try simp only
      split at h
      · exact forL_imp hn hr hx h
      · exact forL_imp hn hr hx h
      · exact hn _ _ h
      · exact hr _ _ h
      · exact hx _ _ _ h
      · exact h
theorem forN_imp {g : DG} {b : DS} {n : Nat} {w w' : Wsh} (hn : ∀ e M, w.n e M → w'.n e M) (hr : ∀ e M, w.r e M → w'.r e M) (hx : ∀ x e M, w.x x e M → w'.x x e M) : ∀ {k i : Nat} {env : DEnv} {M : Sto}, (forN g b n k i env M).post w → (forN g b n k i env M).post w'
  | 0, i, env, M, h => h
  | k + 1, i, env, M, h => by
    unfold forN at h ⊢
    split at h
    · try simp only
      split at h
      · exact hn _ _ h
      · try simp only
        split at h
        · exact h.elim
        · try simp only
          split at h
          · exact forN_imp hn hr hx h
          · exact forN_imp hn hr hx h
          · exact hn _ _ h
          · exact hr _ _ h
          · exact hx _ _ _ h
          · exact h
    · exact h.elim
theorem loop_imm (xs : List D) (g : DG) (b : DS) : LoopP (.imm xs) g b fun i k env M w => i + k = xs.length ∧ (forL g b (xs.drop i) env M).post w where
  mono := fun i k env M w w' h hn hr hx => ⟨h.1, forL_imp hn hr hx h.2⟩
  turn := fun i k env M w h => by
    obtain ⟨hk, h⟩ := h
    show match some xs[i]? with
      | none => False
      | some none => w.n env M
      | some (some d) => _
    cases e : xs[i]? with
    | none =>
      have : xs.drop i = [] := List.drop_eq_nil_of_le (List.getElem?_eq_none_iff.mp e)
      rw [this] at h
      exact h
    | some d =>
      obtain ⟨hi, ed⟩ := List.getElem?_eq_some_iff.mp e
      have : xs.drop i = d :: xs.drop (i + 1) := by rw [← ed]; exact List.drop_eq_getElem_cons hi
      rw [this] at h
      refine ⟨xs.length - (i + 1), by omega, ?_⟩
      unfold forL at h
      split at h
      · exact h.elim
      · rename_i env1 M1 e1
        try simp only [e1]
        have hk' : i + 1 + (xs.length - (i + 1)) = xs.length := by omega
        split at h
        · rename_i e2; try rw [e2]; exact ⟨hk', h⟩
        · rename_i e2; try rw [e2]; exact ⟨hk', h⟩
        · rename_i e2; try rw [e2]; exact h
        · rename_i e2; try rw [e2]; exact h
        · rename_i e2; try rw [e2]; exact h
        · exact h.elim
theorem loop_live (n : Nat) (g : DG) (b : DS) : LoopP (.live n) g b fun i k env M w => (forN g b n k i env M).post w where
  mono := fun i k env M w w' h hn hr hx => forN_imp hn hr hx h
  turn := fun i k env M w h => by
    cases k with
    | zero => exact h.elim
    | succ k =>
      unfold forN at h
      unfold Src.at_
      try simp only
      split at h
      · rename_i ys e
        try rw [e]
        try simp only
        split at h
        · rename_i e2
          try rw [e2]
          exact h
        · rename_i x e2
          try rw [e2]
          try simp only
          refine ⟨k, Nat.lt_succ_self k, ?_⟩
          split at h
          · exact h.elim
          · rename_i env1 M1 e3
            try simp only [e3]
            split at h
            · rename_i e4; try rw [e4]; exact h
            · rename_i e4; try rw [e4]; exact h
            · rename_i e4; try rw [e4]; exact h
            · rename_i e4; try rw [e4]; exact h
            · rename_i e4; try rw [e4]; exact h
            · exact h.elim
      · exact h.elim
section
variable {X : Cx} {W : EXK} {pos : Pos}
theorem for_core {s : Src} {g : DG} {b : DS} {L : Nat → Nat → DEnv → Sto → Wsh → Prop} (P : LoopP s g b L) {J : It} {Dn : Ends} {σ : L2.St} {F H R : Hp} {r : List Addr} {env : DEnv} {M : Sto} {k : Nat}
    (hE : EnvR (gd X) F r env σ) (hS : StoR (gd X) F r R M H) (hJ : ItOk (gd X) F r s J) (h : L 0 k env M (wsh (gd X) F r R W Dn)) :
    ∃ Wi : Nat → Nat → L2.St → Hp → Prop, (∃ m, Wi 0 m σ H) ∧ ∀ i m σ H, Wi i m σ H →
      (J.stop i H ∧ Dn.nx σ H) ∨ (J.go i H ∧ ∃ N : L2.St → Hp → Prop, (∀ σ' H', N σ' H' → ∃ m', m' < m ∧ Wi (i + 1) m' σ' H') ∧ ∀ x H', J.yld i H x H' → tG X g x σ H' fun σ2 H2 => tS X W b { Dn with nx := N, ct := N, bk := Dn.nx } σ2 H2) := by
  have lift : ∀ {i k env M F1 F2 r1 r2}, Sub F1 F2 → r1 <+: r2 → L i k env M (wsh (gd X) F1 r1 R W Dn) → L i k env M (wsh (gd X) F2 r2 R W Dn) := fun {i k env M F1 F2 r1 r2} s p z =>
    P.mono _ _ _ _ _ _ z (fun e M q => NXc.mono s p q) (fun e M q => OKx.mono s p q) fun x e M q => XSc.mono s p q
  refine ⟨fun i m σ H => ∃ F1 r1 env M, Sub F F1 ∧ r <+: r1 ∧ EnvR (gd X) F1 r1 env σ ∧ StoR (gd X) F1 r1 R M H ∧ L i m env M (wsh (gd X) F1 r1 R W Dn), ⟨k, F, r, env, M, Sub.refl _, List.prefix_refl _, hE, hS, h⟩, ?_⟩
  rintro i m σ1 H1 ⟨F1, r1, env1, M1, s1, p1, hE1, hS1, h1⟩
  have hj := hJ F1 r1 R M1 H1 i s1 p1 hS1
  have ht := P.turn _ _ _ _ _ h1
  cases ea : s.at_ M1 i with
  | none => rw [ea] at ht; exact ht.elim
  | some od =>
    cases od with
    | none =>
      rw [ea] at ht hj
      exact .inl ⟨hj, ht F1 r1 H1 σ1 (Sub.refl _) (List.prefix_refl _) hE1 hS1⟩
    | some d =>
      rw [ea] at ht hj
      obtain ⟨k', hk', ht⟩ := ht
      refine .inr ⟨hj.1, fun σ' H' => ∃ F2 r2 env2 M2, Sub F1 F2 ∧ r1 <+: r2 ∧ EnvR (gd X) F2 r2 env2 σ' ∧ StoR (gd X) F2 r2 R M2 H' ∧ L (i + 1) k' env2 M2 (wsh (gd X) F2 r2 R W Dn), ?_, fun x H' y => ?_⟩
      · rintro σ' H' ⟨F2, r2, env2, M2, s2, p2, hE2, hS2, h2⟩
        exact ⟨k', hk', F2, r2, env2, M2, s1.trans s2, p1.trans p2, hE2, hS2, h2⟩
      · obtain ⟨F3, s3, hS3, hR3⟩ := hj.2 x H' y
        refine ⟨F3, r1, R, env1, M1, d, hE1.mono s3 (List.prefix_refl _), hS3, hR3, ?_⟩
        cases eg : g d env1 M1 with
        | none => rw [eg] at ht; exact ht
        | some p =>
          obtain ⟨env2, M2⟩ := p
          rw [eg] at ht
          intro F4 r4 H4 σ4 s4 p4 hE4 hS4
          refine ⟨F4, r4, R, env2, M2, hE4, hS4, Wsh.imp ht (fun e M q => ?_) (fun e M q => OKx.mono (s3.trans s4) p4 q) (fun e M q => NXc.mono (s3.trans s4) p4 q) (fun e M q => ?_) fun x e M q => XSc.mono (s3.trans s4) p4 q⟩
          · intro F5 r5 H5 σ5 s5 p5 hE5 hS5
            exact ⟨F5, r5, e, M, s3.trans (s4.trans s5), p4.trans p5, hE5, hS5, lift (s3.trans (s4.trans s5)) (p4.trans p5) q⟩
          · intro F5 r5 H5 σ5 s5 p5 hE5 hS5
            exact ⟨F5, r5, e, M, s3.trans (s4.trans s5), p4.trans p5, hE5, hS5, lift (s3.trans (s4.trans s5)) (p4.trans p5) q⟩
theorem evs_for {tg iter : Expr} {body : List Stmt} {it : DI} {g : DG} {b : DS} (hp : PassesOwn (model X.prog X.w) X.A X.env X.xe) (hc : X.calm = true) (hi : PI X tg iter (tI X W it)) (hg : PG X tg (tG X g)) (hb : PSs X body (tS X W b))
    (hs : ∀ x, foldedSetIterable iter X.env x = pure x := by intro _; rfl) : PS X (.For tg iter body [] pos) (tS X W (sFor it g b)) := by
  refine PS.imp (ps_for hp hc hi hg hb hs) fun Dn σ H h => ?_
  obtain ⟨F, r, R, env, M, hE, hS, hp⟩ := h
  refine tX.imp (thenS_bind hE hS hp) fun J H1 ⟨F1, r1, M1, s, s1, p1, hE1, hS1, hJ, hp1⟩ => ?_
  cases s with
  | imm xs => exact for_core (k := xs.length) (loop_imm xs g b) hE1 hS1 hJ ⟨Nat.zero_add _, hp1⟩
  | live n => exact for_core (loop_live n g b) hE1 hS1 hJ hp1
end
/-! ### while -/
def whileK (c : DT) (b : DS) : Nat → DEnv → Sto → OutS
  | 0, _, _ => .bad
  | k + 1, env, M => (c env M).thenS env fun t M1 => if t = true then (match b env M1 with
      | .nx e M' => whileK c b k e M'
      | .ct e M' => whileK c b k e M'
      | .bk e M' => .nx e M'
      | .rt d M' => .rt d M'
      | .exc x e M' => .exc x e M'
      | .bad => .bad) else .nx env M1
def sWhile (c : DT) (b : DS) : DS := whileK c b lim
theorem evs_while {X : Cx} {W : EXK} {pos : Pos} {c : Expr} {body : List Stmt} {mc : DT} {b : DS} (hp : PassesOwn (model X.prog X.w) X.A X.env X.xe) (hc : PT X c (tT X W mc)) (hb : PSs X body (tS X W b)) : PS X (.While c body [] pos) (tS X W (sWhile mc b)) := by
  refine PS.imp (ps_while hp hc hb) fun Dn σ H h => ?_
  obtain ⟨F, r, R, env, M, hE, hS, hp⟩ := h
  refine ⟨fun m σ H => ∃ F1 r1 env M, Sub F F1 ∧ r <+: r1 ∧ EnvR (gd X) F1 r1 env σ ∧ StoR (gd X) F1 r1 R M H ∧ (whileK mc b m env M).post (wsh (gd X) F1 r1 R W Dn), ⟨lim, F, r, env, M, Sub.refl _, List.prefix_refl _, hE, hS, hp⟩, ?_⟩
  rintro m σ1 H1 ⟨F1, r1, env1, M1, s1, p1, hE1, hS1, h1⟩
  cases m with
  | zero => exact h1.elim
  | succ k =>
    unfold whileK at h1
    refine tX.imp (thenS_bind hE1 hS1 h1) fun t H2 ⟨F2, r2, M2, d, s2, p2, hE2, hS2, R2, h2⟩ => ?_
    have R2' : d = t := R2
    subst R2'
    cases d with
    | false =>
      rw [if_neg (by decide)] at h2 ⊢
      exact h2 F2 r2 H2 σ1 (Sub.refl _) (List.prefix_refl _) hE2 hS2
    | true =>
      rw [if_pos rfl] at h2 ⊢
      refine ⟨fun σ' H' => ∃ F3 r3 env3 M3, Sub F2 F3 ∧ r2 <+: r3 ∧ EnvR (gd X) F3 r3 env3 σ' ∧ StoR (gd X) F3 r3 R M3 H' ∧ (whileK mc b k env3 M3).post (wsh (gd X) F3 r3 R W Dn), ?_, ?_⟩
      · rintro σ' H' ⟨F3, r3, env3, M3, s3, p3, hE3, hS3, h3⟩
        exact ⟨k, Nat.lt_succ_self k, F3, r3, env3, M3, s1.trans (s2.trans s3), p1.trans (p2.trans p3), hE3, hS3, h3⟩
      · refine ⟨F2, r2, R, env1, M2, hE2, hS2, ?_⟩
        split at h2
        · rename_i e; try rw [e]; intro F5 r5 H5 σ5 s5 p5 hE5 hS5; exact ⟨F5, r5, _, _, s5, p5, hE5, hS5, wsh_mono s5 p5 h2⟩
        · rename_i e; try rw [e]; intro F5 r5 H5 σ5 s5 p5 hE5 hS5; exact ⟨F5, r5, _, _, s5, p5, hE5, hS5, wsh_mono s5 p5 h2⟩
        · rename_i e; try rw [e]; exact h2
        · rename_i e; try rw [e]; exact h2
        · rename_i e; try rw [e]; exact h2
        · exact h2.elim
/-! ### a reserved object -/
section
variable {G : Gd} {F H R : Hp} {r : List Addr} {M : Sto} {p : Addr} {u u' : HO}
theorem StoR.notR (S : StoR G F r R M H) (hp : H p = none) : F p = none ∧ R p = none ∧ p ∉ r := by
  refine ⟨?_, ?_, fun hm => ?_⟩
  · cases q : F p with
    | none => rfl
    | some o => rw [S.sub _ _ q] at hp; cases hp
  · cases q : R p with
    | none => rfl
    | some o => rw [S.res _ _ q] at hp; cases hp
  · obtain ⟨n, hn, e⟩ := List.getElem_of_mem hm
    have h3 : n < M.length := by rw [S.len]; exact hn
    obtain ⟨u, hu⟩ := (S.at_ n p _ (by rw [← e]; exact List.getElem?_eq_getElem hn) (List.getElem?_eq_getElem h3)).there
    rw [hp] at hu
    cases hu
theorem StoR.resv (S : StoR G F r R M H) (hp : H p = none) : StoR G F r (upd R p u) M (upd H p u) := by
  obtain ⟨hF, hR, hr⟩ := S.notR hp
  refine ⟨S.len, S.nd, fun a o e => ?_, fun a o e => ?_, S.fr, fun a ha => ?_, fun a o e => ?_, fun n a o h1 h2 => ?_⟩
  · rw [upd_ne (ne_of_none e hF)]; exact S.sub _ _ e
  · by_cases h : a = p
    · subst h; rw [upd_same] at e ⊢; exact e
    · rw [upd_ne h] at e ⊢; exact S.res _ _ e
  · rw [upd_ne (show a ≠ p from fun z => hr (by rw [← z]; exact ha))]; exact S.rr a ha
  · by_cases h : a = p
    · rw [h]; exact hF
    · rw [upd_ne h] at e; exact S.fx _ _ e
  · exact (S.at_ n a o h1 h2).mono (Sub.refl _) (List.prefix_refl _) fun u e => by rw [upd_ne (ne_of_none e hp)]; exact e
theorem StoR.resAt (S : StoR G F r (upd R p u) M H) : H p = some u ∧ F p = none ∧ p ∉ r := by
  refine ⟨S.res _ _ upd_same, S.fx _ _ upd_same, fun hm => ?_⟩
  have := S.rr p hm
  rw [upd_same] at this
  cases this
theorem StoR.rewr (S : StoR G F r (upd R p u) M H) : StoR G F r (upd R p u') M (upd H p u') := by
  obtain ⟨hH, hF, hr⟩ := S.resAt
  refine ⟨S.len, S.nd, fun a o e => ?_, fun a o e => ?_, S.fr, fun a ha => ?_, fun a o e => ?_, fun n a o h1 h2 => ?_⟩
  · rw [upd_ne (ne_of_none e hF)]; exact S.sub _ _ e
  · by_cases h : a = p
    · subst h; rw [upd_same] at e ⊢; exact e
    · rw [upd_ne h] at e ⊢; exact S.res _ _ (by rw [upd_ne h]; exact e)
  · have h : a ≠ p := fun z => hr (by rw [← z]; exact ha)
    have := S.rr a ha
    rw [upd_ne h] at this ⊢
    exact this
  · by_cases h : a = p
    · rw [h]; exact hF
    · rw [upd_ne h] at e; exact S.fx _ _ (by rw [upd_ne h]; exact e)
  · have ha : a ∈ r := List.mem_of_getElem? h1
    have h : a ≠ p := fun z => hr (by rw [← z]; exact ha)
    exact (S.at_ n a o h1 h2).mono (Sub.refl _) (List.prefix_refl _) fun u e => by rw [upd_ne h]; exact e
theorem StoR.unresF (S : StoR G F r (upd R p u) M H) (hR : R p = none) : Sub F (upd F p u) ∧ StoR G (upd F p u) r R M H := by
  obtain ⟨hH, hF, hr⟩ := S.resAt
  refine ⟨Sub.upd hF, S.len, S.nd, fun a o e => ?_, fun a o e => ?_, fun a ha => ?_, fun a ha => ?_, fun a o e => ?_, fun n a o h1 h2 => ?_⟩
  · by_cases h : a = p
    · subst h; rw [upd_same] at e; cases e; exact hH
    · rw [upd_ne h] at e; exact S.sub _ _ e
  · exact S.res _ _ (by rw [upd_ne (ne_of_none e hR)]; exact e)
  · have h : a ≠ p := fun z => hr (by rw [← z]; exact ha)
    rw [upd_ne h]; exact S.fr a ha
  · have h : a ≠ p := fun z => hr (by rw [← z]; exact ha)
    have := S.rr a ha
    rw [upd_ne h] at this
    exact this
  · have h : a ≠ p := ne_of_none e hR
    rw [upd_ne h]
    exact S.fx a o (by rw [upd_ne h]; exact e)
  · exact (S.at_ n a o h1 h2).mono (Sub.upd hF) (List.prefix_refl _) fun u e => e
theorem StoR.unresL (S : StoR G F r (upd R p u) M H) (hR : R p = none) {o : Ob} (ho : ∀ H', H' p = some u → ObR G F r H' p o) : StoR G F (r ++ [p]) R (M ++ [o]) H := by
  obtain ⟨hH, hF, hr⟩ := S.resAt
  refine ⟨by rw [List.length_append, List.length_append, S.len]; rfl, ?_, S.sub, fun a o e => S.res _ _ (by rw [upd_ne (ne_of_none e hR)]; exact e), fun a ha => ?_, fun a ha => ?_, fun a o e => ?_, fun n a o' h1 h2 => ?_⟩
  · rw [List.nodup_append]
    refine ⟨S.nd, by simp, fun a ha b hb => ?_⟩
    have : b = p := by simpa using hb
    subst this
    exact fun z => hr (by rw [← z]; exact ha)
  · rcases List.mem_append.mp ha with h | h
    · exact S.fr a h
    · have : a = p := by simpa using h
      subst this
      exact hF
  · rcases List.mem_append.mp ha with h | h
    · have h' : a ≠ p := fun z => hr (by rw [← z]; exact h)
      have := S.rr a h
      rw [upd_ne h'] at this
      exact this
    · have : a = p := by simpa using h
      subst this
      exact hR
  · have h : a ≠ p := ne_of_none e hR
    exact S.fx a o (by rw [upd_ne h]; exact e)
  · by_cases hn : n < r.length
    · rw [List.getElem?_append_left hn] at h1
      rw [List.getElem?_append_left (by rw [S.len]; exact hn)] at h2
      rw [List.take_append_of_le_length (Nat.le_of_lt hn)]
      exact S.at_ n a o' h1 h2
    · have hl : n < (r ++ [p]).length := (List.getElem?_eq_some_iff.mp h1).1
      rw [List.length_append] at hl
      have hn' : n = r.length := by
        have : [p].length = 1 := rfl
        omega
      subst hn'
      rw [List.getElem?_append_right (Nat.le_refl _), Nat.sub_self] at h1
      rw [List.getElem?_append_right (by rw [S.len]; exact Nat.le_refl _), S.len, Nat.sub_self] at h2
      simp at h1 h2
      subst h1 h2
      rw [List.take_append_of_le_length (Nat.le_refl _), List.take_length]
      exact ho _ hH
end
/-! ### comprehensions -/
abbrev CG := D → DEnv → Option DEnv
def cg1 (i : Nat) : CG := fun d env => some (env.set i (some d))
def cgN (is : List Nat) : CG := fun d env => match d with
  | .tup xs => if xs.length = is.length then some ((is.zip xs).foldl (fun e p => e.set p.1 (some p.2)) env) else none
  | _ => none
def wipeD (env : DEnv) : List Nat → DEnv
  | [] => env
  | v :: vs => (wipeD env vs).set v none
theorem EnvR.unset {G : Gd} {F : Hp} {r : List Addr} {env : DEnv} {σ : L2.St} (h : EnvR G F r env σ) (i : Nat) : EnvR G F r (env.set i none) (σ.set i none) := by
  refine ⟨by rw [List.length_set, List.length_set, h.1], fun j d' e => ?_⟩
  by_cases hj : j = i
  · subst hj
    have hl : j < env.length := by
      have := (List.getElem?_eq_some_iff.mp e).1
      rw [List.length_set] at this
      exact this
    rw [List.getElem?_set_self hl] at e
    cases e
  · rw [List.getElem?_set_ne (fun z => hj z.symm)] at e
    obtain ⟨u, a, b⟩ := h.2 j d' e
    exact ⟨u, by rw [List.getElem?_set_ne (fun z => hj z.symm)]; exact a, b⟩
theorem EnvR.wipe {G : Gd} {F : Hp} {r : List Addr} {env : DEnv} {σ : L2.St} (h : EnvR G F r env σ) : ∀ vs : List Nat, EnvR G F r (wipeD env vs) (L2.wipe σ vs)
  | [] => h
  | v :: vs => (EnvR.wipe h vs).unset v
theorem set_none_comm (σ : L2.St) (i j : Nat) (x : Option V) (h : i ≠ j) : (σ.set i x).set j none = (σ.set j none).set i x := List.set_comm _ _ h
theorem wipe_set (i : Nat) (x : Option V) : ∀ (vs : List Nat) (σ : L2.St), i ∈ vs → L2.wipe (σ.set i x) vs = L2.wipe σ vs
  | [], σ, h => by simp at h
  | v :: vs, σ, h => by
    unfold L2.wipe
    by_cases hv : v = i
    · subst hv
      by_cases hm : v ∈ vs
      · rw [wipe_set v x vs σ hm]
      · have : ∀ (ws : List Nat) (τ : L2.St), v ∉ ws → L2.wipe (τ.set v x) ws = (L2.wipe τ ws).set v x := by
          intro ws
          induction ws with
          | nil => intro τ _; rfl
          | cons w ws ih =>
            intro τ hw
            unfold L2.wipe
            rw [ih τ (fun z => hw (List.mem_cons_of_mem _ z))]
            exact List.set_comm _ _ (fun z => hw (by rw [z]; exact List.mem_cons_self))
        rw [this vs σ hm, List.set_set]
    · have hm : i ∈ vs := by
        rcases List.mem_cons.mp h with z | z
        · exact absurd z.symm hv
        · exact z
      rw [wipe_set i x vs σ hm]
/-- a comprehension's target: t its reading, g the plain one -/
structure CGt (G : Gd) (vs : List Nat) (t : TG) (g : CG) : Prop where
  run : ∀ (F : Hp) (r : List Addr) (R : Hp) (M : Sto) (H : Hp) (d : D) (v : V) (env env' : DEnv) (σ : L2.St) (k : L2.St → Hp → Prop), StoR G F r R M H → Rep G F r d v → EnvR G F r env σ → g d env = some env' →
    (∀ σ', EnvR G F r env' σ' → L2.wipe σ' vs = L2.wipe σ vs → k σ' H) → t v σ H k
theorem cgt_one {G : Gd} {vs : List Nat} {i : Nat} (h : i ∈ vs) : CGt G vs (gName i) (cg1 i) := ⟨fun F r R M H d v env env' σ k S q E e hk => by
  cases e
  exact hk _ (E.set q i) (wipe_set i _ vs σ h)⟩
theorem gAll_wipe {G : Gd} {vs : List Nat} {F H : Hp} {r : List Addr} {Q : L2.St → Hp → Prop} : ∀ {is : List Nat} {xs : List D} {us : List V} {env : DEnv} {σ : L2.St}, (∀ i ∈ is, i ∈ vs) → xs.length = is.length → Reps G F r xs us → EnvR G F r env σ →
    (∀ σ', EnvR G F r ((is.zip xs).foldl (fun e p => e.set p.1 (some p.2)) env) σ' → L2.wipe σ' vs = L2.wipe σ vs → Q σ' H) → gAll is us σ H Q
  | [], xs, us, env, σ, hv, hl, hr, hE, h => by
    have : xs = [] := List.eq_nil_of_length_eq_zero hl
    subst this
    cases hr.inv0
    exact ⟨rfl, h σ hE rfl⟩
  | i :: is, xs, us, env, σ, hv, hl, hr, hE, h => by
    cases xs with
    | nil => cases hl
    | cons x xs =>
      obtain ⟨v, w, rfl, a, b⟩ := hr.inv
      refine ⟨v, w, rfl, gAll_wipe (fun j hj => hv j (List.mem_cons_of_mem _ hj)) (by simpa using hl) b (hE.set a i) fun σ' e1 e2 => h σ' e1 ?_⟩
      rw [e2, wipe_set i _ vs σ (hv i List.mem_cons_self)]
theorem cgt_tup {G : Gd} {vs is : List Nat} (h : ∀ i ∈ is, i ∈ vs) : CGt G vs (gTup G.K is.length (gAll is)) (cgN is) := ⟨fun F r R M H d v env env' σ k S q E e hk => by
  unfold cgN at e
  cases d <;> first | (cases e; done) | skip
  rename_i xs
  simp only at e
  split at e
  · rename_i hl
    cases e
    rw [rep_tup] at q
    obtain ⟨a, us, ev, z, rs⟩ := q
    exact ⟨a, us, ev, S.sub.sqT z, by rw [rs.length]; exact hl, gAll_wipe h hl rs E hk⟩
  · cases e⟩
abbrev W0 : EXK := fun _ _ _ _ => False
def lcL (g : CG) (c : DT) (e : DE) (env : DEnv) : List D → Sto → Out (List D)
  | [], M => .ok [] M
  | x :: xs, M => match g x env with
    | none => .bad
    | some env1 => (noExc (c env1 M)).bind fun k M1 => if k = true then (noExc (e env1 M1)).bind fun d M2 => (lcL g c e env xs M2).bind fun ds M3 => .ok (d :: ds) M3 else lcL g c e env xs M1
def lcN (g : CG) (c : DT) (e : DE) (env : DEnv) (n : Nat) : Nat → Nat → Sto → Out (List D)
  | 0, _, _ => .bad
  | k + 1, i, M => match M[n]? with
    | some (.lst ys) => match ys[i]? with
      | none => .ok [] M
      | some x => match g x env with
        | none => .bad
        | some env1 => (noExc (c env1 M)).bind fun t M1 => if t = true then (noExc (e env1 M1)).bind fun d M2 => (lcN g c e env n k (i + 1) M2).bind fun ds M3 => .ok (d :: ds) M3 else lcN g c e env n k (i + 1) M1
    | _ => .bad
def cYes : DT := fun _ M => .ok true M
/-- what a comprehension collects -/
def mLc0 (it : DI) (vs : List Nat) (g : CG) (c : DT) (e : DE) : DA := fun env M => (it env M).bind fun s M1 => match s with
  | .imm xs => lcL g c e (wipeD env vs) xs M1
  | .live n => lcN g c e (wipeD env vs) n lim 0 M1
def toLst (xs : List D) (M : Sto) : Out D := if xs.length ≤ lim then .ok (.lst xs) M else .bad
def toLstM (xs : List D) (M : Sto) : Out D := if xs.length ≤ lim ∧ belows M.length xs = true then .ok (.ref M.length) (M ++ [.lst xs]) else .bad
def mLc (it : DI) (vs : List Nat) (g : CG) (c : DT) (e : DE) : DE := fun env M => (mLc0 it vs g c e env M).bind toLst
def mLcM (it : DI) (vs : List Nat) (g : CG) (c : DT) (e : DE) : DE := fun env M => (mLc0 it vs g c e env M).bind toLstM
/-- a comprehension's turns: L i k acc M P: what the rest comes to, acc collected -/
structure CompP (s : Src) (g : CG) (c : DT) (e : DE) (env : DEnv) (L : Nat → Nat → List D → Sto → (List D → Sto → Prop) → Prop) : Prop where
  mono : ∀ i k acc M P P', L i k acc M P → (∀ ds M, P ds M → P' ds M) → L i k acc M P'
  turn : ∀ i k acc M P, L i k acc M P → match s.at_ M i with
    | none => False
    | some none => P acc M
    | some (some d) => ∃ k', k' < k ∧ ∃ env1, g d env = some env1 ∧ (c env1 M).post (fun t M1 => if t = true then (e env1 M1).post (fun y M2 => L (i + 1) k' (acc ++ [y]) M2 P) (fun _ _ => False) else L (i + 1) k' acc M1 P) fun _ _ => False
theorem post_noExc {α : Type} {o : Out α} {P : α → Sto → Prop} {Y : Exn → Sto → Prop} (h : (noExc o).post P Y) : o.post P fun _ _ => False := noExc_post h
theorem comp_imm (xs : List D) (g : CG) (c : DT) (e : DE) (env : DEnv) (Y : Exn → Sto → Prop) : CompP (.imm xs) g c e env fun i k acc M P => i + k = xs.length ∧ (lcL g c e env (xs.drop i) M).post (fun ds M' => P (acc ++ ds) M') Y where
  mono := fun i k acc M P P' h hp => ⟨h.1, Out.post_imp h.2 (fun _ _ q => hp _ _ q) fun _ _ q => q⟩
  turn := fun i k acc M P h => by
    obtain ⟨hk, h⟩ := h
    show match some xs[i]? with
      | none => False
      | some none => P acc M
      | some (some d) => _
    cases ex : xs[i]? with
    | none =>
      have : xs.drop i = [] := List.drop_eq_nil_of_le (List.getElem?_eq_none_iff.mp ex)
      rw [this] at h
      have h' : P (acc ++ []) M := h
      rw [List.append_nil] at h'
      exact h'
    | some d =>
      obtain ⟨hi, ed⟩ := List.getElem?_eq_some_iff.mp ex
      have : xs.drop i = d :: xs.drop (i + 1) := by rw [← ed]; exact List.drop_eq_getElem_cons hi
      rw [this] at h
      refine ⟨xs.length - (i + 1), by omega, ?_⟩
      have hk' : i + 1 + (xs.length - (i + 1)) = xs.length := by omega
      unfold lcL at h
      split at h
      · exact h.elim
      · rename_i env1 e1
        refine ⟨env1, e1, Out.post_imp (post_noExc (Out.post_bind h)) (fun t M1 q => ?_) fun _ _ z => z⟩
        split at q
        · rename_i ht
          rw [if_pos ht]
          refine Out.post_imp (post_noExc (Out.post_bind q)) (fun y M2 q2 => ⟨hk', Out.post_imp (Out.post_bind q2) (fun ds M3 q3 => ?_) fun _ _ z => z⟩) fun _ _ z => z
          have q3' : P (acc ++ y :: ds) M3 := q3
          rw [List.append_assoc]
          exact q3'
        · rename_i ht
          rw [if_neg ht]
          exact ⟨hk', q⟩
theorem comp_live (n : Nat) (g : CG) (c : DT) (e : DE) (env : DEnv) (Y : Exn → Sto → Prop) : CompP (.live n) g c e env fun i k acc M P => (lcN g c e env n k i M).post (fun ds M' => P (acc ++ ds) M') Y where
  mono := fun i k acc M P P' h hp => Out.post_imp h (fun _ _ q => hp _ _ q) fun _ _ q => q
  turn := fun i k acc M P h => by
    cases k with
    | zero => exact h.elim
    | succ k =>
      unfold lcN at h
      unfold Src.at_
      try simp only
      split at h
      · rename_i ys e0
        try rw [e0]
        try simp only
        split at h
        · rename_i e2
          try rw [e2]
          have h' : P (acc ++ []) M := h
          rw [List.append_nil] at h'
          exact h'
        · rename_i x e2
          try rw [e2]
          try simp only
          refine ⟨k, Nat.lt_succ_self k, ?_⟩
          split at h
          · exact h.elim
          · rename_i env1 e1
            refine ⟨env1, e1, Out.post_imp (post_noExc (Out.post_bind h)) (fun t M1 q => ?_) fun _ _ z => z⟩
            split at q
            · rename_i ht
              rw [if_pos ht]
              refine Out.post_imp (post_noExc (Out.post_bind q)) (fun y M2 q2 => Out.post_imp (Out.post_bind q2) (fun ds M3 q3 => ?_) fun _ _ z => z) fun _ _ z => z
              have q3' : P (acc ++ y :: ds) M3 := q3
              rw [List.append_assoc]
              exact q3'
            · rename_i ht
              rw [if_neg ht]
              exact q
      · exact h.elim
section
variable {X : Cx} {W : EXK} {pos : Pos}
theorem comp_core {G : Gd} {s : Src} {vs : List Nat} {t : TG} {g : CG} {c : DT} {e : DE} {tt : TT} {te : TE} {L : Nat → Nat → List D → Sto → (List D → Sto → Prop) → Prop} {env : DEnv} (P : CompP s g c e (wipeD env vs) L) (hg : CGt G vs t g)
    (htt : ∀ σ H Q, (∃ F r R env M, EnvR G F r env σ ∧ StoR G F r R M H ∧ (c env M).post (OKx RB G F r R Q) fun _ _ => False) → tt σ H Q)
    (hte : ∀ σ H Q, (∃ F r R env M, EnvR G F r env σ ∧ StoR G F r R M H ∧ (e env M).post (OKx Rep G F r R Q) fun _ _ => False) → te σ H Q)
    {J : It} {σ : L2.St} {F H R : Hp} {r : List Addr} {M : Sto} {k : Nat} {Q : VK} {KD : List D → Sto → Prop} {A : Addr}
    (hE : EnvR G F r env σ) (hS : StoR G F r R M H) (hJ : ItOk G F r s J) (hA : H A = none) (h : L 0 k [] M KD)
    (hl : ∀ i k acc M, L i k acc M KD → acc.length ≤ lim)
    (fin : ∀ F' r' H' acc M' vs, Sub F F' → r <+: r' → StoR G F' r' (upd R A (.lst vs)) M' H' → Reps G F' r' acc vs → KD acc M' → Q (.ref A) H') :
    ∃ Wi : Nat → Nat → Hp → Prop, (∃ m, Wi 0 m (upd H A (.lst []))) ∧ ∀ i m H, Wi i m H →
      (J.stop i H ∧ Q (.ref A) H) ∨ (J.go i H ∧ ∃ Nx : Hp → Prop, (∀ H', Nx H' → ∃ m', m' < m ∧ Wi (i + 1) m' H') ∧ ∀ x H', J.yld i H x H' → t x (L2.wipe σ vs) H' fun σ2 H2 => L2.wipe σ2 vs = L2.wipe σ vs ∧ tt σ2 H2 fun b H3 =>
        if b = true then te σ2 H3 fun y H4 => ∃ acc, H4 A = some (.lst acc) ∧ acc.length < sizeLine ∧ Nx (upd H4 A (.lst (acc ++ [y]))) else Nx H3) := by
  have ww : L2.wipe (L2.wipe σ vs) vs = L2.wipe σ vs := by
    have gen : ∀ (ws us : List Nat) (τ : L2.St), (∀ w ∈ ws, w ∈ us) → L2.wipe (L2.wipe τ ws) us = L2.wipe τ us := by
      intro ws
      induction ws with
      | nil => intro us τ _; rfl
      | cons w ws ih =>
        intro us τ hw
        show L2.wipe ((L2.wipe τ ws).set w none) us = _
        rw [wipe_set w none us _ (hw w List.mem_cons_self)]
        exact ih us τ fun z hz => hw z (List.mem_cons_of_mem _ hz)
    exact gen vs vs σ fun w hw => hw
  refine ⟨fun i m H => ∃ F1 r1 acc us M, Sub F F1 ∧ r <+: r1 ∧ StoR G F1 r1 (upd R A (.lst us)) M H ∧ Reps G F1 r1 acc us ∧ L i m acc M KD, ⟨k, F, r, [], [], M, Sub.refl _, List.prefix_refl _, hS.resv hA, .nil, h⟩, ?_⟩
  rintro i m H1 ⟨F1, r1, acc, us, M1, s1, p1, hS1, hR1, h1⟩
  have hj := hJ F1 r1 _ M1 H1 i s1 p1 hS1
  have ht := P.turn _ _ _ _ _ h1
  cases ea : s.at_ M1 i with
  | none => rw [ea] at ht; exact ht.elim
  | some od =>
    cases od with
    | none =>
      rw [ea] at ht hj
      exact .inl ⟨hj, fin F1 r1 H1 acc M1 us s1 p1 hS1 hR1 ht⟩
    | some d =>
      rw [ea] at ht hj
      obtain ⟨k', hk', env1, eg, ht⟩ := ht
      refine .inr ⟨hj.1, fun H' => ∃ F2 r2 acc us M, Sub F1 F2 ∧ r1 <+: r2 ∧ StoR G F2 r2 (upd R A (.lst us)) M H' ∧ Reps G F2 r2 acc us ∧ L (i + 1) k' acc M KD, ?_, fun x H' y => ?_⟩
      · rintro H' ⟨F2, r2, acc2, us2, M2, s2, p2, hS2, hR2, h2⟩
        exact ⟨k', hk', F2, r2, acc2, us2, M2, s1.trans s2, p1.trans p2, hS2, hR2, h2⟩
      · obtain ⟨F3, s3, hS3, hR3⟩ := hj.2 x H' y
        have hE3 : EnvR G F3 r1 (wipeD env vs) (L2.wipe σ vs) := (hE.wipe vs).mono (s1.trans s3) p1
        refine hg.run F3 r1 _ M1 H' d x _ env1 _ _ hS3 hR3 hE3 eg fun σ2 hE2 hw => ⟨by rw [hw, ww], ?_⟩
        refine htt _ _ _ ⟨F3, r1, _, env1, M1, hE2, hS3, Out.post_imp ht (fun tb M2 q => ?_) fun _ _ z => z⟩
        intro F4 r4 H4 b s4 p4 hS4 hb
        have hb' : tb = b := hb
        subst hb'
        split at q
        · rename_i hb
          rw [if_pos hb]
          refine hte _ _ _ ⟨F4, r4, _, env1, M2, hE2.mono s4 p4, hS4, Out.post_imp q (fun yd M3 q3 => ?_) fun _ _ z => z⟩
          intro F5 r5 H5 yv s5 p5 hS5 hR5
          obtain ⟨hA5, _, _⟩ := hS5.resAt
          have hlen : us.length ≤ lim := by
            rw [hR1.length]
            exact hl _ _ _ _ h1
          refine ⟨us, hA5, Nat.lt_of_le_of_lt hlen (by unfold lim; rw [sizeLine_eq]; decide), F5, r5, acc ++ [yd], us ++ [yv], M3, s3.trans (s4.trans s5), p4.trans p5, hS5.rewr, (hR1.mono (s3.trans (s4.trans s5)) (p4.trans p5)).append (Reps.one hR5), q3⟩
        · rename_i hb
          rw [if_neg hb]
          exact ⟨F4, r4, acc, us, M2, s3.trans s4, p4, hS4, hR1.mono (s3.trans s4) p4, q⟩
end
end EV
set_option maxHeartbeats 4000000
namespace EV
open PySem PySem.Spec PyProof.Rows L2

theorem bind_bind {α β γ : Type} (o : Out α) (f : α → Sto → Out β) (g : β → Sto → Out γ) : (o.bind f).bind g = o.bind fun a M => (f a M).bind g := by
  cases o <;> rfl
theorem lcL_post {g : CG} {c : DT} {e : DE} {env : DEnv} {P : List D → Sto → Prop} {Y : Exn → Sto → Prop} : ∀ {xs : List D} {M : Sto}, (lcL g c e env xs M).post P Y → (lcL g c e env xs M).post P fun _ _ => False
  | [], M, h => h
  | x :: xs, M, h => by
    unfold lcL at h ⊢
    split at h
    · exact h.elim
    · try simp only
      cases e1 : c _ M with
      | bad => rw [e1] at h; exact h.elim
      | exc _ _ => rw [e1] at h; exact h.elim
      | ok k M1 =>
        rw [e1] at h
        show Out.post (if k = true then _ else _) _ _
        have h : Out.post (if k = true then _ else _) _ _ := h
        split at h
        · rename_i hk
          rw [if_pos hk]
          cases e2 : e _ M1 with
          | bad => rw [e2] at h; exact h.elim
          | exc _ _ => rw [e2] at h; exact h.elim
          | ok d M2 =>
            rw [e2] at h
            have h : ((lcL g c e env xs M2).bind fun ds M3 => Out.ok (d :: ds) M3).post P Y := h
            show ((lcL g c e env xs M2).bind fun ds M3 => Out.ok (d :: ds) M3).post P _
            have h2 := lcL_post (Out.post_bind h)
            cases e3 : lcL g c e env xs M2 with
            | bad => rw [e3] at h2; exact h2
            | exc _ _ => rw [e3] at h2; exact h2
            | ok ds M3 => rw [e3] at h2; exact h2
        · rename_i hk
          rw [if_neg hk]
          exact lcL_post h
theorem lcN_post {g : CG} {c : DT} {e : DE} {env : DEnv} {n : Nat} {P : List D → Sto → Prop} {Y : Exn → Sto → Prop} : ∀ {k i : Nat} {M : Sto}, (lcN g c e env n k i M).post P Y → (lcN g c e env n k i M).post P fun _ _ => False
  | 0, i, M, h => h
  | k + 1, i, M, h => by
    unfold lcN at h ⊢
    split at h
    · try simp only
      split at h
      · exact h
      · try simp only
        split at h
        · exact h.elim
        · try simp only
          cases e1 : c _ M with
          | bad => rw [e1] at h; exact h.elim
          | exc _ _ => rw [e1] at h; exact h.elim
          | ok t M1 =>
            rw [e1] at h
            show Out.post (if t = true then _ else _) _ _
            have h : Out.post (if t = true then _ else _) _ _ := h
            split at h
            · rename_i hk
              rw [if_pos hk]
              cases e2 : e _ M1 with
              | bad => rw [e2] at h; exact h.elim
              | exc _ _ => rw [e2] at h; exact h.elim
              | ok d M2 =>
                rw [e2] at h
                have h : ((lcN g c e env n k (i + 1) M2).bind fun ds M3 => Out.ok (d :: ds) M3).post P Y := h
                show ((lcN g c e env n k (i + 1) M2).bind fun ds M3 => Out.ok (d :: ds) M3).post P _
                have h2 := lcN_post (Out.post_bind h)
                cases e3 : lcN g c e env n k (i + 1) M2 with
                | bad => rw [e3] at h2; exact h2
                | exc _ _ => rw [e3] at h2; exact h2
                | ok ds M3 => rw [e3] at h2; exact h2
            · rename_i hk
              rw [if_neg hk]
              exact lcN_post h
    · exact h.elim
/-- a comprehension's tail: how its list is kept -/
structure TailOk (tl : List D → Sto → Out D) : Prop where
  len : ∀ ds M P Y, (tl ds M).post P Y → ds.length ≤ lim
  fin : ∀ (G : Gd) (F : Hp) (r : List Addr) (R H : Hp) (Q : VK) (A : Addr) (ds : List D) (vs : List V) (M : Sto) (Y : Exn → Sto → Prop), R A = none → StoR G F r (upd R A (.lst vs)) M H → Reps G F r ds vs → (tl ds M).post (OKx Rep G F r R Q) Y → Q (.ref A) H
theorem toLst_ok : TailOk toLst where
  len := fun ds M P Y h => by
    unfold toLst at h
    split at h
    · assumption
    · exact h.elim
  fin := fun G F r R H Q A ds vs M Y hR S q h => by
    unfold toLst at h
    split at h
    · obtain ⟨s, S'⟩ := S.unresF hR
      exact h _ r H _ s (List.prefix_refl _) S' (by rw [rep_lst]; exact ⟨A, vs, rfl, LstR.of upd_same, q.mono s (List.prefix_refl _)⟩)
    · exact h.elim
theorem belows_cut {G : Gd} {F : Hp} {r : List Addr} {ds : List D} {vs : List V} {k : Nat} (h : Reps G F r ds vs) (b : belows k ds = true) : Reps G F (r.take k) ds vs := Reps.cut h b
theorem toLstM_ok : TailOk toLstM where
  len := fun ds M P Y h => by
    unfold toLstM at h
    split at h
    · rename_i z; exact z.1
    · exact h.elim
  fin := fun G F r R H Q A ds vs M Y hR S q h => by
    unfold toLstM at h
    split at h
    · have S' := S.unresL hR (o := .lst ds) fun H' e => ⟨vs, e, q⟩
      refine h F _ H _ (Sub.refl _) (List.prefix_append _ _) S' ?_
      rw [rep_ref]
      exact ⟨A, by rw [S.len, List.getElem?_append_right (Nat.le_refl _), Nat.sub_self]; rfl, rfl⟩
    · exact h.elim
section
variable {X : Cx} {W : EXK} {pos : Pos}
theorem tD_lc {it : DI} {vs : List Nat} {t : TG} {g : CG} {c : DT} {e : DE} {tl : List D → Sto → Out D} (T : TailOk tl) (hcg : CGt (gd X) vs t g) {σ : L2.St} {H : Hp} {Q : VK}
    (h : tD X W (fun env M => (mLc0 it vs g c e env M).bind tl) σ H Q) : tLc (tI X W it) t (tT X W0 c) (tD X W0 e) vs σ H Q := by
  obtain ⟨F, r, R, env, M, hE, hS, hp⟩ := h
  have hp' : ((it env M).bind fun s M1 => (match s with
    | .imm xs => lcL g c e (wipeD env vs) xs M1
    | .live n => lcN g c e (wipeD env vs) n lim 0 M1).bind tl).post (OKx Rep (gd X) F r R Q) (EXc (gd X) F r R W σ) := by
    rw [← bind_bind]
    exact hp
  refine tX.imp (tX.bind OKx.mono' hE hS hp') fun J H1 ⟨F1, r1, M1, s, s1, p1, hE1, hS1, hJ, hp1⟩ => ?_
  intro A hA
  obtain ⟨_, hRA, _⟩ := hS1.notR hA
  have fin : ∀ F' r' H' acc M' us, Sub F1 F' → r1 <+: r' → StoR (gd X) F' r' (upd R A (.lst us)) M' H' → Reps (gd X) F' r' acc us → (tl acc M').post (OKx Rep (gd X) F1 r1 R Q) (EXc (gd X) F1 r1 R W σ) → Q (.ref A) H' := fun F' r' H' acc M' us s p S q z =>
    T.fin (gd X) F' r' R H' Q A acc us M' _ hRA S q (Out.post_imp z (fun _ _ y => y.mono s p) fun _ _ y => y)
  have htt : ∀ σ H Q, (∃ F r R env M, EnvR (gd X) F r env σ ∧ StoR (gd X) F r R M H ∧ (c env M).post (OKx RB (gd X) F r R Q) fun _ _ => False) → tT X W0 c σ H Q := fun σ H Q ⟨F, r, R, env, M, a, b, z⟩ => ⟨F, r, R, env, M, a, b, Out.post_imp z (fun _ _ y => y) fun _ _ y => y.elim⟩
  have hte : ∀ σ H Q, (∃ F r R env M, EnvR (gd X) F r env σ ∧ StoR (gd X) F r R M H ∧ (e env M).post (OKx Rep (gd X) F r R Q) fun _ _ => False) → tD X W0 e σ H Q := fun σ H Q ⟨F, r, R, env, M, a, b, z⟩ => ⟨F, r, R, env, M, a, b, Out.post_imp z (fun _ _ y => y) fun _ _ y => y.elim⟩
  cases s with
  | imm xs =>
    refine comp_core (k := xs.length) (KD := fun ds M => (tl ds M).post (OKx Rep (gd X) F1 r1 R Q) (EXc (gd X) F1 r1 R W σ)) (comp_imm xs g c e (wipeD env vs) fun _ _ => False) hcg htt hte hE1 hS1 hJ hA ⟨Nat.zero_add _, ?_⟩ (fun i k acc M z => ?_) fin
    · exact lcL_post (Out.post_bind hp1)
    · obtain ⟨_, z⟩ := z
      cases ez : lcL g c e (wipeD env vs) (xs.drop i) M with
      | bad => rw [ez] at z; exact z.elim
      | exc _ _ => rw [ez] at z; exact z.elim
      | ok ds M' =>
        rw [ez] at z
        have := T.len _ _ _ _ z
        rw [List.length_append] at this
        omega
  | live n =>
    refine comp_core (k := lim) (KD := fun ds M => (tl ds M).post (OKx Rep (gd X) F1 r1 R Q) (EXc (gd X) F1 r1 R W σ)) (comp_live n g c e (wipeD env vs) fun _ _ => False) hcg htt hte hE1 hS1 hJ hA ?_ (fun i k acc M z => ?_) fin
    · exact lcN_post (Out.post_bind hp1)
    · cases ez : lcN g c e (wipeD env vs) n k i M with
      | bad => rw [ez] at z; exact z.elim
      | exc _ _ => rw [ez] at z; exact z.elim
      | ok ds M' =>
        rw [ez] at z
        have := T.len _ _ _ _ z
        rw [List.length_append] at this
        omega
theorem ev_lc0 {elt tg iter : Expr} {ifs : List Expr} {scope : Scope} {own : List (Str × Nat)} {it : DI} {t : TG} {g : CG} {c : DT} {e : DE} {tl : List D → Sto → Out D} (T : TailOk tl) (hc : X.calm = true) (hN : X.N.Nodup) (hi : PI X tg iter (tI X W it)) (ok : BlkOk X.N X.env.scope scope own) (hcg : CGt (gd X) (own.map (·.2)) t g)
    (hg : ∀ (s : Shared) (H : Hp) (C : Addr) (cl : List (Str × Addr)) (fp : List Addr), PG (X.blk s H scope (compEnvC scope cl C X.env) fp) tg t)
    (ht : ∀ (s : Shared) (H : Hp) (C : Addr) (cl : List (Str × Addr)) (fp : List Addr), PTs (X.blk s H scope (compEnvC scope cl C X.env) fp) ifs (tT (X.blk s H scope (compEnvC scope cl C X.env) fp) W0 c))
    (he : ∀ (s : Shared) (H : Hp) (C : Addr) (cl : List (Str × Addr)) (fp : List Addr), PE (X.blk s H scope (compEnvC scope cl C X.env) fp) elt (tD (X.blk s H scope (compEnvC scope cl C X.env) fp) W0 e)) (hs : ∀ x, foldedSetIterable iter X.env x = pure x := by intro _; rfl) :
    PE X (.ListComp elt [⟨tg, iter, ifs, 0⟩] scope pos) (tD X W (fun env M => (mLc0 it (own.map (·.2)) g c e env M).bind tl)) :=
  PE.imp (pe_lc (tt := tT X W0 c) (te := tD X W0 e) hc hN hi ok hg ht he hs) fun σ H Q h => tD_lc T hcg h
/-- name = [..], the name a local, on one line -/
theorem evs_setLc0 {i : Nat} {y : Str} {py spos : Pos} {elt tg iter : Expr} {ifs : List Expr} {scope : Scope} {own : List (Str × Nat)} {it : DI} {t : TG} {g : CG} {c : DT} {e : DE} {tl : List D → Sto → Out D} (T : TailOk tl) (hc : X.calm = true) (hN : X.N.Nodup) (hy : X.N[i]? = some y) (hyl : X.env.scope.names.lookup y = some .local)
    (hsw : swapsWith (.ListComp elt [⟨tg, iter, ifs, 0⟩] scope pos) (some (.Name y py)) spos.line X.env = pure true) (hi : PI X tg iter (tI X W it)) (ok : BlkOk X.N X.env.scope scope own) (hcg : CGt (gd X) (own.map (·.2)) t g)
    (hg : ∀ (s : Shared) (H : Hp) (C : Addr) (cl : List (Str × Addr)) (fp : List Addr), PG (X.blk s H scope (compEnvC scope cl C X.env) fp) tg t)
    (ht : ∀ (s : Shared) (H : Hp) (C : Addr) (cl : List (Str × Addr)) (fp : List Addr), PTs (X.blk s H scope (compEnvC scope cl C X.env) fp) ifs (tT (X.blk s H scope (compEnvC scope cl C X.env) fp) W0 c))
    (he : ∀ (s : Shared) (H : Hp) (C : Addr) (cl : List (Str × Addr)) (fp : List Addr), PE (X.blk s H scope (compEnvC scope cl C X.env) fp) elt (tD (X.blk s H scope (compEnvC scope cl C X.env) fp) W0 e)) (hs : ∀ x, foldedSetIterable iter X.env x = pure x := by intro _; rfl) :
    PS X (.Assign [.Name y py] (.ListComp elt [⟨tg, iter, ifs, 0⟩] scope pos) spos) (tS X W (sAsg (fun env M => (mLc0 it (own.map (·.2)) g c e env M).bind tl) (gN i))) := by
  refine PS.imp (ps_setLc (tt := tT X W0 c) (te := tD X W0 e) hc hN hy hyl hsw hi ok hg ht he hs) fun Dn σ H h => ?_
  obtain ⟨F, r, R, env, M, hE, hS, hp⟩ := h
  refine tD_lc T hcg (W := W) ?_
  refine tX.imp (thenS_bind hE hS hp) fun x H1 ⟨F1, r1, M1, d, s1, p1, hE1, hS1, R1, hp1⟩ => ?_
  exact hp1 F1 r1 H1 _ (Sub.refl _) (List.prefix_refl _) (hE1.set R1 i) hS1
theorem evp_nil : PTs X [] (tT X W cYes) := by
  refine ⟨fun pins s σ H Q I h => pts_nil.run pins s σ H Q I ?_⟩
  obtain ⟨F, r, R, env, M, hE, hS, hp⟩ := h
  exact hp F r H true (Sub.refl _) (List.prefix_refl _) hS rfl
theorem evp_one {c : Expr} {m : DT} (h : PT X c (tT X W m)) : PTs X [c] (tT X W m) := pts_one h

/-! ### iterations -/
def mSeq (m : DE) : DI := fun env M => (m env M).bind fun d M1 => match d with
  | .tup xs => .ok (.imm xs) M1
  | .lst xs => .ok (.imm xs) M1
  | .ref n => match M1[n]? with
    | some (.lst _) => .ok (.live n) M1
    | _ => .bad
  | _ => .bad
theorem itOk_lst {G : Gd} {F : Hp} {r : List Addr} {a : Addr} {xs : List D} {vs : List V} (h : SqL G.K F a vs) (q : Reps G F r xs vs) (inj : ∀ H (ys : List V), SqL G.K H a vs → SqL G.K H a ys → True) : ItOk G F r (.imm xs) (Itl G.K a) := by
  intro F2 r2 R M H i s p S
  have hH : SqL G.K H a vs := (s.trans S.sub).sqL h
  show match some xs[i]? with
    | none => True
    | some none => (Itl G.K a).stop i H
    | some (some d) => _
  cases e : xs[i]? with
  | none => exact ⟨vs, hH, by rw [q.length]; exact List.getElem?_eq_none_iff.mp e⟩
  | some d =>
    obtain ⟨y, e1, e2⟩ := q.get e
    refine ⟨⟨vs, y, hH, e1⟩, fun x H' z => ?_⟩
    obtain ⟨rfl, z⟩ := z
    have := z vs hH
    rw [e1] at this
    cases this
    exact ⟨F2, Sub.refl _, S, e2.mono s p⟩
theorem itOk_tup {G : Gd} {F : Hp} {r : List Addr} {a : Addr} {xs : List D} {vs : List V} (h : SqT G.K F a vs) (q : Reps G F r xs vs) : ItOk G F r (.imm xs) (Itt G.K a) := by
  intro F2 r2 R M H i s p S
  have hH : SqT G.K H a vs := (s.trans S.sub).sqT h
  show match some xs[i]? with
    | none => True
    | some none => (Itt G.K a).stop i H
    | some (some d) => _
  cases e : xs[i]? with
  | none => exact ⟨vs, hH, by rw [q.length]; exact List.getElem?_eq_none_iff.mp e⟩
  | some d =>
    obtain ⟨y, e1, e2⟩ := q.get e
    refine ⟨⟨vs, y, hH, e1⟩, fun x H' z => ?_⟩
    obtain ⟨rfl, z⟩ := z
    have := z vs hH
    rw [e1] at this
    cases this
    exact ⟨F2, Sub.refl _, S, e2.mono s p⟩
theorem itOk_live {G : Gd} {F : Hp} {r : List Addr} {a : Addr} {n : Nat} (h : r[n]? = some a) : ItOk G F r (.live n) (Itl G.K a) := by
  intro F2 r2 R M H i s p S
  unfold Src.at_
  try simp only
  have ha : r2[n]? = some a := pre_get p h
  cases e : M[n]? with
  | none => trivial
  | some o =>
    cases o with
    | dct _ => trivial
    | ins _ _ => trivial
    | lst ys =>
      obtain ⟨vs, h1, h2⟩ := S.at_ n a _ ha e
      have hH : SqL G.K H a vs := SqL.of h1
      try simp only
      cases e2 : ys[i]? with
      | none => exact ⟨vs, hH, by rw [h2.length]; exact List.getElem?_eq_none_iff.mp e2⟩
      | some d =>
        obtain ⟨y, e3, e4⟩ := h2.get e2
        refine ⟨⟨vs, y, hH, e3⟩, fun x H' z => ?_⟩
        obtain ⟨rfl, z⟩ := z
        have := z vs hH
        rw [e3] at this
        cases this
        exact ⟨F2, Sub.refl _, S, e4.mono (Sub.refl _) (take_pre _ _)⟩
theorem PI.or {tg e : Expr} {t t' : TI} (h : PI X tg e t) (h' : PI X tg e t') : PI X tg e (fun σ H R => t σ H R ∨ t' σ H R) := ⟨fun pins s σ H R I q => q.elim (h.run pins s σ H R I) (h'.run pins s σ H R I)⟩
theorem evi_seq {tg e : Expr} {m : DE} (h : PE X e (tD X W m)) : PI X tg e (tI X W (mSeq m)) := by
  refine PI.imp (PI.or (pi_list h) (pi_tup h)) fun σ H Q hq => ?_
  obtain ⟨F, r, R, env, M, hE, hS, hp⟩ := hq
  unfold mSeq at hp
  cases em : m env M with
  | bad => rw [em] at hp; exact hp.elim
  | exc x M1 =>
    rw [em] at hp
    exact .inl ⟨F, r, R, env, M, hE, hS, by rw [em]; exact hp⟩
  | ok d M1 =>
    rw [em] at hp
    cases d with
    | tup xs =>
      refine .inr ⟨F, r, R, env, M, hE, hS, ?_⟩
      rw [em]
      intro F1 r1 H1 v s p S q
      rw [rep_tup] at q
      obtain ⟨a, vs, e1, q1, q2⟩ := q
      exact ⟨a, e1, ⟨vs, S.sub.sqT q1⟩, hp F1 r1 H1 _ s p S (itOk_tup q1 q2)⟩
    | lst xs =>
      refine .inl ⟨F, r, R, env, M, hE, hS, ?_⟩
      rw [em]
      intro F1 r1 H1 v s p S q
      rw [rep_lst] at q
      obtain ⟨a, vs, e1, q1, q2⟩ := q
      exact ⟨a, e1, ⟨vs, (S.sub.lstR q1).sq⟩, hp F1 r1 H1 _ s p S (itOk_lst q1.sq q2 fun _ _ _ _ => trivial)⟩
    | ref n =>
      refine .inl ⟨F, r, R, env, M, hE, hS, ?_⟩
      rw [em]
      intro F1 r1 H1 v s p S q
      rw [rep_ref] at q
      obtain ⟨a, e1, e2⟩ := q
      have hp : (match M1[n]? with
        | some (.lst _) => Out.ok (Src.live n) M1
        | _ => .bad).post (OKx ItOk (gd X) F r R Q) (EXc (gd X) F r R W σ) := hp
      split at hp
      · rename_i ys e3
        obtain ⟨vs, h1, h2⟩ := S.at_ n a _ e1 e3
        exact ⟨a, e2, ⟨vs, SqL.of h1⟩, hp F1 r1 H1 _ s p S (itOk_live e1)⟩
      · exact hp.elim
    | _ => exact hp.elim
/-- the ints of a range -/
def rngD (lo : Int) (n : Nat) : List D := (List.range n).map fun (i : Nat) => .int (lo + i)
theorem rngD_get (lo : Int) (n i : Nat) : (rngD lo n)[i]? = if i < n then some (D.int (lo + i)) else none := by
  unfold rngD
  rw [List.getElem?_map]
  by_cases h : i < n
  · rw [if_pos h, List.getElem?_range h]; rfl
  · rw [if_neg h, List.getElem?_eq_none (by rw [List.length_range]; omega)]; rfl
theorem itOk_rng {G : Gd} {F : Hp} {r : List Addr} (lo : Int) (n : Nat) : ItOk G F r (.imm (rngD lo n)) (Itr lo n) := by
  intro F2 r2 R M H i s p S
  show match some (rngD lo n)[i]? with
    | none => True
    | some none => (Itr lo n).stop i H
    | some (some d) => _
  rw [rngD_get]
  by_cases h : i < n
  · rw [if_pos h]
    refine ⟨h, fun x H' z => ?_⟩
    obtain ⟨rfl, z⟩ := z
    exact ⟨F2, Sub.refl _, S, by rw [rep_int]; exact z⟩
  · rw [if_neg h]
    show n ≤ i
    omega
def big : Int := 1000000000000
def mRng1 (a : DA) : DI := fun env M => (a env M).bind fun xs M1 => match xs with
  | [.int j] => if -big ≤ j ∧ j ≤ big then .ok (.imm (rngD 0 j.toNat)) M1 else .bad
  | _ => .bad
def mRng2 (a : DA) : DI := fun env M => (a env M).bind fun xs M1 => match xs with
  | [.int i, .int j] => if -big ≤ i ∧ i ≤ big ∧ -big ≤ j ∧ j ≤ big then .ok (.imm (rngD i (j - i).toNat)) M1 else .bad
  | _ => .bad
theorem evi_range1 {tg a : Expr} {ma : DA} {p : Pos} (hg : Gl X "range") (hm : X.mg "range" = none) (ha : PA X [a] (tA X W ma)) (hs : starEach [a] X.env = [(false, eval a X.env)] := by rfl) : PI X tg (.Call (.Name "range" p) [a] [] pos) (tI X W (mRng1 ma)) := by
  refine PI.imp (pi_range1 hg hm ha hs) fun σ H Q hq => ?_
  obtain ⟨F, r, R, env, M, hE, hS, hp⟩ := hq
  refine tX.imp (tX.bind OKx.mono' hE hS hp) fun x H1 ⟨F1, r1, M1, ds, s1, p1, hE1, hS1, R1, hp1⟩ => ?_
  split at hp1
  · rename_i j
    obtain ⟨v, rfl, e⟩ := R1.inv1
    rw [rep_int] at e
    subst e
    split at hp1
    · rename_i hb
      unfold big at hb
      exact ⟨j, rfl, by omega, by omega, hp1 F1 r1 H1 _ (Sub.refl _) (List.prefix_refl _) hS1 (itOk_rng 0 _)⟩
    · exact hp1.elim
  · exact hp1.elim
theorem evi_range2 {tg a b : Expr} {ma : DA} {p : Pos} (hg : Gl X "range") (hm : X.mg "range" = none) (ha : PA X [a, b] (tA X W ma)) (hs : starEach [a, b] X.env = [(false, eval a X.env), (false, eval b X.env)] := by rfl) (hs2 : starEach [b] X.env = [(false, eval b X.env)] := by rfl) : PI X tg (.Call (.Name "range" p) [a, b] [] pos) (tI X W (mRng2 ma)) := by
  refine PI.imp (pi_range2 hg hm ha hs hs2) fun σ H Q hq => ?_
  obtain ⟨F, r, R, env, M, hE, hS, hp⟩ := hq
  refine tX.imp (tX.bind OKx.mono' hE hS hp) fun x H1 ⟨F1, r1, M1, ds, s1, p1, hE1, hS1, R1, hp1⟩ => ?_
  split at hp1
  · rename_i i j
    obtain ⟨v, w, rfl, e, e'⟩ := R1.inv2
    rw [rep_int] at e e'
    subst e e'
    split at hp1
    · rename_i hb
      unfold big at hb
      exact ⟨i, j, rfl, by omega, hp1 F1 r1 H1 _ (Sub.refl _) (List.prefix_refl _) hS1 (itOk_rng i _)⟩
    · exact hp1.elim
  · exact hp1.elim
end

/-! ### defs -/
abbrev DFn := List D → Sto → Out D
/-- what a call hands back: nothing young in it -/
def finP (k : Nat) (d : D) (M : Sto) : Out D := if below k d = true then .ok d (M.take k) else .bad
/-- every item, or none -/
def allD {α : Type} (f : α → Option α) : List α → Option (List α)
  | [] => some []
  | x :: xs => match f x with
    | none => none
    | some y => match allD f xs with
      | none => none
      | some ys => some (y :: ys)
def sndD {κ : Type} (f : D → Option D) (p : κ × D) : Option (κ × D) := match f p.2 with
  | none => none
  | some y => some (p.1, y)
/-- young objects frozen -/
def frz (M : Sto) (k : Nat) : Nat → D → Option D
  | 0, _ => none
  | f + 1, d => match d with
    | .tup xs => (allD (frz M k f) xs).map .tup
    | .lst xs => (allD (frz M k f) xs).map .lst
    | .dct kvs => (allD (sndD (frz M k f)) kvs).map .dct
    | .obj c fs => (allD (sndD (frz M k f)) fs).map (.obj c)
    | .ref n => if n < k then some (.ref n) else match M[n]? with
      | some (.lst xs) => (allD (frz M k f) xs).map .lst
      | some (.dct kvs) => (allD (sndD (frz M k f)) kvs).map .dct
      | some (.ins c fs) => (allD (sndD (frz M k f)) fs).map (.obj c)
      | none => none
    | d => some d
/-- what a call hands back: young objects frozen -/
def finF (k : Nat) (d : D) (M : Sto) : Out D := match frz M k 9 d with
  | some d' => .ok d' (M.take k)
  | none => .bad
/-- what a call hands back: a young list, still to be changed, its items frozen -/
def finO (k : Nat) (d : D) (M : Sto) : Out D := match d with
  | .ref n => if n < k then .ok d (M.take k) else match M[n]? with
    | some (.lst xs) => (match allD (frz M k 8) xs with
      | some ys => if belows k ys = true then .ok (.ref k) (M.take k ++ [.lst ys]) else .bad
      | none => .bad)
    | _ => .bad
  | _ => .bad
/-- what the young objects were is frozen -/
noncomputable def fzH (F H : Hp) (l : List Addr) : Hp := fun a => open Classical in if a ∈ l then H a else F a
section
variable {G : Gd} {F H R : Hp} {r : List Addr} {M : Sto}
theorem fzH_in {l : List Addr} {a : Addr} (h : a ∈ l) : fzH F H l a = H a := by unfold fzH; rw [if_pos h]
theorem fzH_out {l : List Addr} {a : Addr} (h : a ∉ l) : fzH F H l a = F a := by unfold fzH; rw [if_neg h]
theorem StoR.fz (S : StoR G F r R M H) (k : Nat) {l : List Addr} (hl : ∀ a ∈ l, a ∈ r.drop k) : Sub F (fzH F H l) ∧ StoR G (fzH F H l) (r.take k) R (M.take k) H := by
  have hsub : Sub F (fzH F H l) := fun a o e => by
    rw [fzH_out]
    · exact e
    · intro hm
      have := S.fr a (List.mem_of_mem_drop (hl a hm))
      rw [e] at this
      cases this
  have C := S.cut k
  have apart : ∀ a, a ∈ r.take k → a ∉ l := fun a ha hm => by
    have hd := hl a hm
    have nd : (r.take k ++ r.drop k).Nodup := by rw [List.take_append_drop]; exact S.nd
    rw [List.nodup_append] at nd
    exact nd.2.2 a ha a hd rfl
  refine ⟨hsub, C.len, C.nd, fun a o e => ?_, C.res, fun a ha => ?_, C.rr, fun a o e => ?_, fun n a o h1 h2 => ?_⟩
  · by_cases hm : a ∈ l
    · rw [fzH_in hm] at e; exact e
    · rw [fzH_out hm] at e; exact S.sub _ _ e
  · rw [fzH_out (apart a ha)]; exact C.fr a ha
  · have hm : a ∉ l := fun hm => by
      have := S.rr a (List.mem_of_mem_drop (hl a hm))
      rw [e] at this
      cases this
    rw [fzH_out hm]
    exact S.fx a o e
  · exact (C.at_ n a o h1 h2).mono hsub (List.prefix_refl _) fun u e => e
theorem allD_reps {f : D → Option D} {F' : Hp} {r r' : List Addr} (hf : ∀ d v d', Rep G F r d v → f d = some d' → Rep G F' r' d' v) : ∀ {xs ys : List D} {vs : List V}, Reps G F r xs vs → allD f xs = some ys → Reps G F' r' ys vs
  | [], ys, vs, h, e => by
    cases e
    cases h.inv0
    exact .nil
  | x :: xs, ys, vs, h, e => by
    unfold allD at e
    obtain ⟨v, w, rfl, a, b⟩ := h.inv
    cases e1 : f x with
    | none => rw [e1] at e; cases e
    | some y =>
      rw [e1] at e
      cases e2 : allD f xs with
      | none => rw [e2] at e; cases e
      | some zs =>
        rw [e2] at e
        cases e
        exact Reps.cons (hf _ _ _ a e1) (allD_reps hf b e2)
theorem allD_repK {f : D → Option D} {F' : Hp} {r r' : List Addr} (hf : ∀ d v d', Rep G F r d v → f d = some d' → Rep G F' r' d' v) : ∀ {xs ys : List (Key × D)} {vs : List (Key × V)}, RepK G F r xs vs → allD (sndD f) xs = some ys → RepK G F' r' ys vs
  | [], ys, vs, h, e => by
    cases e
    unfold RepK at h ⊢
    exact h
  | (k, x) :: xs, ys, vs, h, e => by
    unfold allD at e
    unfold RepK at h
    obtain ⟨v, w, rfl, a, b⟩ := h
    cases e1 : f x with
    | none => simp only [sndD, e1] at e; cases e
    | some y =>
      cases e2 : allD (sndD f) xs with
      | none => rw [e2] at e; simp only [sndD, e1] at e; cases e
      | some zs =>
        rw [e2] at e
        simp only [sndD, e1] at e
        cases e
        unfold RepK
        exact ⟨v, w, rfl, hf _ _ _ a e1, allD_repK hf b e2⟩
theorem allD_repF {f : D → Option D} {F' : Hp} {r r' : List Addr} (hf : ∀ d v d', Rep G F r d v → f d = some d' → Rep G F' r' d' v) : ∀ {xs ys : List (Str × D)} {vs : List (Str × V)}, RepF G F r xs vs → allD (sndD f) xs = some ys → RepF G F' r' ys vs
  | [], ys, vs, h, e => by
    cases e
    unfold RepF at h ⊢
    exact h
  | (k, x) :: xs, ys, vs, h, e => by
    unfold allD at e
    unfold RepF at h
    obtain ⟨v, w, rfl, a, b⟩ := h
    cases e1 : f x with
    | none => simp only [sndD, e1] at e; cases e
    | some y =>
      cases e2 : allD (sndD f) xs with
      | none => rw [e2] at e; simp only [sndD, e1] at e; cases e
      | some zs =>
        rw [e2] at e
        simp only [sndD, e1] at e
        cases e
        unfold RepF
        exact ⟨v, w, rfl, hf _ _ _ a e1, allD_repF hf b e2⟩
theorem frz_rep (S : StoR G F r R M H) (k : Nat) {F2 : Hp} (hs : Sub F F2) (hF2 : ∀ a ∈ r.drop k, F2 a = H a) : ∀ {f : Nat} {d d' : D} {v : V}, Rep G F r d v → frz M k f d = some d' → Rep G F2 (r.take k) d' v
  | 0, d, d', v, h, e => by cases e
  | f + 1, d, d', v, h, e => by
    have ih := fun d v d' => @frz_rep S k F2 hs hF2 f d d' v
    unfold frz at e
    cases d with
    | tup xs =>
      simp only at e
      obtain ⟨ys, e1, rfl⟩ := Option.map_eq_some_iff.mp e
      rw [rep_tup] at h ⊢
      obtain ⟨a, vs, ev, q, z⟩ := h
      exact ⟨a, vs, ev, hs.sqT q, allD_reps ih z e1⟩
    | lst xs =>
      simp only at e
      obtain ⟨ys, e1, rfl⟩ := Option.map_eq_some_iff.mp e
      rw [rep_lst] at h ⊢
      obtain ⟨a, vs, ev, q, z⟩ := h
      exact ⟨a, vs, ev, hs.lstR q, allD_reps ih z e1⟩
    | dct xs =>
      simp only at e
      obtain ⟨ys, e1, rfl⟩ := Option.map_eq_some_iff.mp e
      rw [rep_dct] at h ⊢
      obtain ⟨a, vs, ev, q, z⟩ := h
      exact ⟨a, vs, ev, hs _ _ q, allD_repK ih z e1⟩
    | obj c xs =>
      simp only at e
      obtain ⟨ys, e1, rfl⟩ := Option.map_eq_some_iff.mp e
      rw [rep_obj] at h ⊢
      obtain ⟨a, C, dx, vs, ev, m, q, z⟩ := h
      exact ⟨a, C, dx, vs, ev, m, hs _ _ q, allD_repF ih z e1⟩
    | ref n =>
      simp only at e
      rw [rep_ref] at h
      obtain ⟨a, ha, ev⟩ := h
      split at e
      · rename_i hn
        cases e
        rw [rep_ref]
        exact ⟨a, by rw [List.getElem?_take_of_lt hn]; exact ha, ev⟩
      · rename_i hn
        have hd : a ∈ r.drop k := by
          have : (r.drop k)[n - k]? = some a := by rw [List.getElem?_drop, show k + (n - k) = n by omega]; exact ha
          exact List.mem_of_getElem? this
        cases eo : M[n]? with
        | none => rw [eo] at e; cases e
        | some o =>
          rw [eo] at e
          have ob := S.at_ n a o ha eo
          cases o with
          | lst xs =>
            simp only at e
            obtain ⟨ys, e1, rfl⟩ := Option.map_eq_some_iff.mp e
            obtain ⟨vs, h1, h2⟩ := ob
            rw [rep_lst]
            exact ⟨a, vs, ev, LstR.of (by rw [hF2 a hd]; exact h1), allD_reps ih (h2.mono (Sub.refl _) (take_pre _ _)) e1⟩
          | dct xs =>
            simp only at e
            obtain ⟨ys, e1, rfl⟩ := Option.map_eq_some_iff.mp e
            obtain ⟨vs, h1, h2⟩ := ob
            rw [rep_dct]
            exact ⟨a, vs, ev, by rw [hF2 a hd]; exact h1, allD_repK ih (h2.mono (Sub.refl _) (take_pre _ _)) e1⟩
          | ins c xs =>
            simp only at e
            obtain ⟨ys, e1, rfl⟩ := Option.map_eq_some_iff.mp e
            obtain ⟨C, dx, vs, h0, h1, h2⟩ := ob
            rw [rep_obj]
            exact ⟨a, C, dx, vs, ev, h0, by rw [hF2 a hd]; exact h1, allD_repF ih (h2.mono (Sub.refl _) (take_pre _ _)) e1⟩
    | non => simp only at e; cases e; rw [rep_non] at h ⊢; exact h
    | bl b => simp only at e; cases e; rw [rep_bl] at h ⊢; exact h
    | int b => simp only at e; cases e; rw [rep_int] at h ⊢; exact h
    | str b => simp only at e; cases e; rw [rep_str] at h ⊢; exact h
    | ty b => simp only at e; cases e; rw [rep_ty] at h ⊢; exact h
end
/-- how a call hands back -/
def FinOk (fin : Nat → D → Sto → Out D) : Prop := ∀ (G : Gd) (F : Hp) (r : List Addr) (R : Hp) (M : Sto) (H : Hp) (k : Nat) (d : D) (v : V) (P : D → Sto → Prop) (Y : Exn → Sto → Prop), StoR G F r R M H → Rep G F r d v → (fin k d M).post P Y →
  ∃ F2 r2 d2 M2, Sub F F2 ∧ r.take k <+: r2 ∧ StoR G F2 r2 R M2 H ∧ Rep G F2 r2 d2 v ∧ P d2 M2
theorem finP_ok : FinOk finP := fun G F r R M H k d v P Y S q h => by
  unfold finP at h
  split at h
  · rename_i hb
    exact ⟨F, r.take k, d, M.take k, Sub.refl _, List.prefix_refl _, S.cut k, q.cut hb, h⟩
  · exact h.elim
theorem finF_ok : FinOk finF := fun G F r R M H k d v P Y S q h => by
  unfold finF at h
  split at h
  · rename_i d' e
    obtain ⟨s, S'⟩ := S.fz k (l := r.drop k) fun a ha => ha
    exact ⟨_, r.take k, d', M.take k, s, List.prefix_refl _, S', frz_rep S k s (fun a ha => fzH_in ha) q e, h⟩
  · exact h.elim
theorem finO_ok : FinOk finO := fun G F r R M H k d v P Y S q h => by
  unfold finO at h
  cases d <;> first | exact h.elim | skip
  rename_i n
  simp only at h
  split at h
  · rename_i hn
    exact ⟨F, r.take k, .ref n, M.take k, Sub.refl _, List.prefix_refl _, S.cut k, q.cut (by unfold below; exact decide_eq_true hn), h⟩
  · rename_i hn
    split at h
    · rename_i xs eo
      split at h
      · rename_i ys e1
        split at h
        · rename_i hb
          rw [rep_ref] at q
          obtain ⟨a, ha, ev⟩ := q
          obtain ⟨vs, h1, h2⟩ := S.at_ n a _ ha eo
          -- all young but a frozen
          have hd : a ∈ r.drop k := by
            have : (r.drop k)[n - k]? = some a := by rw [List.getElem?_drop, show k + (n - k) = n by omega]; exact ha
            exact List.mem_of_getElem? this
          have hk : k ≤ n := by omega
          -- the items refer to what stands ahead of n
          obtain ⟨s, S'⟩ := S.fz k (l := (r.take n).drop k) fun b hb => by
            rw [List.drop_take] at hb
            exact List.mem_of_mem_take hb
          have anl : a ∉ (r.take n).drop k := fun hm => by
            have hm' := List.mem_of_mem_drop hm
            obtain ⟨j, hj, ej⟩ := List.getElem_of_mem hm'
            rw [List.length_take] at hj
            have ej' : r[j]? = some a := by
              have : (r.take n)[j]? = some a := by rw [List.getElem?_eq_getElem (by rw [List.length_take]; omega), ej]
              rw [List.getElem?_take_of_lt (by omega)] at this
              exact this
            obtain ⟨l1, e1'⟩ := List.getElem?_eq_some_iff.mp ej'
            obtain ⟨l2, e2'⟩ := List.getElem?_eq_some_iff.mp ha
            have := (List.getElem_inj S.nd).mp (e1'.trans e2'.symm)
            omega
          have Sn := S.cut n
          have hrep : Reps G (fzH F H ((r.take n).drop k)) (r.take k) ys vs := by
            have ih : ∀ d v d', Rep G F (r.take n) d v → frz M k 8 d = some d' → Rep G (fzH F H ((r.take n).drop k)) (r.take k) d' v := by
              -- references are below n
              have gen : ∀ (f : Nat) d v d', Rep G F (r.take n) d v → frz M k f d = some d' → frz (M.take n) k f d = some d' := by
                intro f
                induction f with
                | zero => intro d v d' _ e; cases e
                | succ f ih =>
                  intro d v d' q e
                  have il : ∀ {xs ys : List D} {vs : List V}, Reps G F (r.take n) xs vs → allD (frz M k f) xs = some ys → allD (frz (M.take n) k f) xs = some ys := by
                    intro xs
                    induction xs with
                    | nil => intro ys vs _ e; exact e
                    | cons x xs ihx =>
                      intro ys vs q e
                      obtain ⟨v, w, rfl, a, b⟩ := q.inv
                      unfold allD at e ⊢
                      cases e1 : frz M k f x with
                      | none => rw [e1] at e; cases e
                      | some y =>
                        rw [e1] at e
                        rw [ih _ _ _ a e1]
                        simp only at e ⊢
                        cases e2 : allD (frz M k f) xs with
                        | none => rw [e2] at e; cases e
                        | some zs =>
                          rw [e2] at e
                          rw [ihx b e2]
                          exact e
                  have iK : ∀ {xs ys : List (Key × D)} {vs : List (Key × V)}, RepK G F (r.take n) xs vs → allD (sndD (frz M k f)) xs = some ys → allD (sndD (frz (M.take n) k f)) xs = some ys := by
                    intro xs
                    induction xs with
                    | nil => intro ys vs _ e; exact e
                    | cons x xs ihx =>
                      intro ys vs q e
                      obtain ⟨kx, x⟩ := x
                      unfold RepK at q
                      obtain ⟨v, w, rfl, a, b⟩ := q
                      unfold allD at e ⊢
                      cases e1 : frz M k f x with
                      | none => simp only [sndD, e1] at e; cases e
                      | some y =>
                        have e1' := ih _ _ _ a e1
                        cases e2 : allD (sndD (frz M k f)) xs with
                        | none => rw [e2] at e; simp only [sndD, e1] at e; cases e
                        | some zs =>
                          rw [e2] at e
                          rw [ihx b e2]
                          simp only [sndD, e1] at e
                          simp only [sndD, e1']
                          exact e
                  have iF : ∀ {xs ys : List (Str × D)} {vs : List (Str × V)}, RepF G F (r.take n) xs vs → allD (sndD (frz M k f)) xs = some ys → allD (sndD (frz (M.take n) k f)) xs = some ys := by
                    intro xs
                    induction xs with
                    | nil => intro ys vs _ e; exact e
                    | cons x xs ihx =>
                      intro ys vs q e
                      obtain ⟨kx, x⟩ := x
                      unfold RepF at q
                      obtain ⟨v, w, rfl, a, b⟩ := q
                      unfold allD at e ⊢
                      cases e1 : frz M k f x with
                      | none => simp only [sndD, e1] at e; cases e
                      | some y =>
                        have e1' := ih _ _ _ a e1
                        cases e2 : allD (sndD (frz M k f)) xs with
                        | none => rw [e2] at e; simp only [sndD, e1] at e; cases e
                        | some zs =>
                          rw [e2] at e
                          rw [ihx b e2]
                          simp only [sndD, e1] at e
                          simp only [sndD, e1']
                          exact e
                  unfold frz at e ⊢
                  cases d with
                  | tup xs =>
                    simp only at e ⊢
                    rw [rep_tup] at q
                    obtain ⟨_, vs, _, _, z⟩ := q
                    obtain ⟨ys, e1, e2⟩ := Option.map_eq_some_iff.mp e
                    rw [il z e1, ← e2]
                    rfl
                  | lst xs =>
                    simp only at e ⊢
                    rw [rep_lst] at q
                    obtain ⟨_, vs, _, _, z⟩ := q
                    obtain ⟨ys, e1, e2⟩ := Option.map_eq_some_iff.mp e
                    rw [il z e1, ← e2]
                    rfl
                  | dct xs =>
                    simp only at e ⊢
                    rw [rep_dct] at q
                    obtain ⟨_, vs, _, _, z⟩ := q
                    obtain ⟨ys, e1, e2⟩ := Option.map_eq_some_iff.mp e
                    rw [iK z e1, ← e2]
                    rfl
                  | obj c xs =>
                    simp only at e ⊢
                    rw [rep_obj] at q
                    obtain ⟨_, _, _, vs, _, _, _, z⟩ := q
                    obtain ⟨ys, e1, e2⟩ := Option.map_eq_some_iff.mp e
                    rw [iF z e1, ← e2]
                    rfl
                  | ref j =>
                    simp only at e ⊢
                    rw [rep_ref] at q
                    obtain ⟨b, hb, _⟩ := q
                    have hj : j < n := by
                      have := (List.getElem?_eq_some_iff.mp hb).1
                      rw [List.length_take] at this
                      omega
                    rw [List.getElem?_take_of_lt hj] at hb
                    split at e
                    · rename_i hjk
                      rw [if_pos hjk]
                      exact e
                    · rename_i hjk
                      rw [if_neg hjk]
                      rw [List.getElem?_take_of_lt hj]
                      cases eo : M[j]? with
                      | none => rw [eo] at e; cases e
                      | some o =>
                        rw [eo] at e
                        have ob := S.at_ j b o hb eo
                        have pre : r.take j <+: r.take n := by
                          have : r.take j = (r.take n).take j := by rw [List.take_take, Nat.min_eq_left (Nat.le_of_lt hj)]
                          rw [this]
                          exact List.take_prefix _ _
                        cases o with
                        | lst xs =>
                          simp only at e ⊢
                          obtain ⟨vs, h1, h2⟩ := ob
                          obtain ⟨ys, e1, e2⟩ := Option.map_eq_some_iff.mp e
                          rw [il (h2.mono (Sub.refl _) pre) e1, ← e2]
                          rfl
                        | dct xs =>
                          simp only at e ⊢
                          obtain ⟨vs, h1, h2⟩ := ob
                          obtain ⟨ys, e1, e2⟩ := Option.map_eq_some_iff.mp e
                          rw [iK (h2.mono (Sub.refl _) pre) e1, ← e2]
                          rfl
                        | ins c xs =>
                          simp only at e ⊢
                          obtain ⟨_, _, vs, _, h1, h2⟩ := ob
                          obtain ⟨ys, e1, e2⟩ := Option.map_eq_some_iff.mp e
                          rw [iF (h2.mono (Sub.refl _) pre) e1, ← e2]
                          rfl
                  | non => exact e
                  | bl b => exact e
                  | int b => exact e
                  | str b => exact e
                  | ty b => exact e
              intro d v d' q e
              have := frz_rep Sn k (F2 := fzH F H ((r.take n).drop k)) s (fun b hb => fzH_in hb) q (gen 8 d v d' q e)
              rw [List.take_take, Nat.min_eq_left hk] at this
              exact this
            exact allD_reps ih h2 e1
          refine ⟨_, r.take k ++ [a], D.ref k, M.take k ++ [Ob.lst ys], s, List.prefix_append _ _, ?_, ?_, h⟩
          · have hlen : (r.take k).length = k := by
              rw [List.length_take]
              have := (List.getElem?_eq_some_iff.mp ha).1
              omega
            have hr : a ∉ r.take k := fun hm => by
              have nd : (r.take k ++ r.drop k).Nodup := by rw [List.take_append_drop]; exact S.nd
              rw [List.nodup_append] at nd
              exact nd.2.2 a hm a hd rfl
            have hF : fzH F H ((r.take n).drop k) a = none := by rw [fzH_out anl]; exact S.fr a (List.mem_of_mem_drop hd)
            have hR : R a = none := S.rr a (List.mem_of_mem_drop hd)
            refine ⟨by rw [List.length_append, List.length_append, S'.len]; rfl, ?_, S'.sub, S'.res, fun b hb => ?_, fun b hb => ?_, S'.fx, fun j b o' j1 j2 => ?_⟩
            · rw [List.nodup_append]
              refine ⟨S'.nd, by simp, fun b hb c hc => ?_⟩
              have : c = a := by simpa using hc
              subst this
              exact fun z => hr (by rw [← z]; exact hb)
            · rcases List.mem_append.mp hb with z | z
              · exact S'.fr b z
              · have : b = a := by simpa using z
                rw [this]; exact hF
            · rcases List.mem_append.mp hb with z | z
              · exact S'.rr b z
              · have : b = a := by simpa using z
                rw [this]; exact hR
            · by_cases hj : j < (r.take k).length
              · rw [List.getElem?_append_left hj] at j1
                rw [List.getElem?_append_left (by rw [S'.len]; exact hj)] at j2
                rw [List.take_append_of_le_length (Nat.le_of_lt hj)]
                exact S'.at_ j b o' j1 j2
              · have hl : j < (r.take k ++ [a]).length := (List.getElem?_eq_some_iff.mp j1).1
                rw [List.length_append] at hl
                have hn' : j = (r.take k).length := by
                  have : [a].length = 1 := rfl
                  omega
                subst hn'
                rw [List.getElem?_append_right (Nat.le_refl _), Nat.sub_self] at j1
                rw [List.getElem?_append_right (by rw [S'.len]; exact Nat.le_refl _), S'.len, Nat.sub_self] at j2
                simp at j1 j2
                subst j1 j2
                rw [List.take_append_of_le_length (Nat.le_refl _), List.take_length]
                exact ⟨vs, h1, hrep⟩
          · rw [rep_ref]
            refine ⟨a, ?_, ev⟩
            have hlen : (r.take k).length = k := by
              rw [List.length_take]
              have := (List.getElem?_eq_some_iff.mp ha).1
              omega
            rw [List.getElem?_append_right (by omega), hlen, Nat.sub_self]
            rfl
        · exact h.elim
      · exact h.elim
    · exact h.elim
end EV
set_option maxHeartbeats 4000000
namespace EV
open PySem PySem.Spec PyProof.Rows L2

/-- a def's promise where no repr is under way -/
structure FnG (P : Program) (w : World) (K : PySem.W.Frag) (mg : Str → Option Value) (base : Heap) (CX : CXT) (k : Nat) (f : Addr) (fd : FuncData) (ps : List Str) (sp : Sp) : Prop where
  len : ∀ vs H Q E, sp vs H Q E → vs.length = ps.length
  run : ∀ (A : Around) (outer : List Env) (s : Shared) (H : Hp) (args : Args) (us : List Value) (vs : List V) (Q : VK) (E : XK),
    Room k A → A.guards = some [] → Env0 P w K mg base A outer s H → BindsTo s fd args (ps.zip us) → Vals vs us → sp vs H Q E →
      codeAny (model P w) A (.call (.ref f) args) (CR CX outer P w H s Q E) s
section
variable {P : Program} {w : World} {K : PySem.W.Frag} {mg : Str → Option Value} {base : Heap} {CX : CXT} {f : Addr} {fd : FuncData} {ps : List Str} {sp : Sp}
theorem FnG.mono {j k : Nat} (g : FnG P w K mg base CX j f fd ps sp) (h : j ≤ k) : FnG P w K mg base CX k f fd ps sp where
  len := g.len
  run := fun A outer s H args us vs Q E hr => g.run A outer s H args us vs Q E (hr.mono h)
/-- a def by its body -/
theorem fnG_of {k : Nat} {name qual : Str} {params : Arguments} {body : List Stmt} {scope : Scope} {dV kV doc pm cdv ct oc : Value} {an od : Option Addr} {osl : Array (Option Value)} {N : List Str}
    (lk : K.lookup f = some ⟨oc, od, .func (PySem.W.fnOf name qual params body scope dV kV doc pm an cdv ct), osl⟩) (hcd : PySem.W.codeIn K cdv qual = true) (S : FnScope N ps scope) (len : ∀ vs H Q E, sp vs H Q E → vs.length = ps.length)
    (hbody : ∀ (A : Around) (outer : List Env) (s : Shared) (H : Hp) (vs : List V) (Q : VK) (E : XK), Room k (A.deeper (envOfC qual scope s.heap.objs.size f cdv)) → A.guards = some [] → sp vs H Q E →
      ∃ t, PSs (cxOf CX P w K mg base N qual scope f cdv A outer s H E) body t ∧ t { nx := fun _ H' => Q .non H', rt := Q } (start N vs) H) :
    FnG P w K mg base CX (k + 1) f (PySem.W.fnOf name qual params body scope dV kV doc pm an cdv ct) ps sp := by
  refine ⟨len, fun A outer s H args us vs Q E hr hgd e0 hb r hsp => ?_⟩
  have vlen := len _ _ _ _ hsp
  have inK : K.In s.heap := e0.mod.kin.keeps fun b o e => (e0.bs b o e).1
  have nolim : s.heap.NoLimit := e0.mod.nolimit.keeps fun b o e => (e0.bs b o e).1
  have kinds : ∀ y ∈ ps.zip us, scope.names.lookup y.1 = some .local ∨ (scope.names.lookup y.1 = some .cell ∧ ((cellsFrom (s.heap.objs.size + 1) scope.names []).lookup y.1).isSome = true) := by
    rintro ⟨n, v⟩ hy
    rcases S.par n (List.of_mem_zip hy).1 with q | q
    · exact .inl q
    · exact .inr ⟨q, PySem.W.cellsFrom_some _ _ _ (.inl q)⟩
  refine codeAny_call_function hr.depth (inK _ _ lk) rfl S.co S.gen rfl (PySem.W.codeRec_of inK hcd) (hb _ _ _ _ ?_)
  refine wpAny_newFunctionEnv_cells S.kind kinds fun env ee s1 x => ?_
  subst ee
  refine ⟨nolim.keeps x.toInCall.keep, codeAny_func ?_⟩
  obtain ⟨t, ht, hq⟩ := hbody A outer s H vs Q E (hr.deeper _) hgd hsp
  have I0 : Inv (cxOf CX P w K mg base N qual scope f cdv A outer s H E) [] (start N vs) H s1 := inv_start S hr.hd e0 vlen r x
  refine wpAny_mono (ht.run [] s1 (start N vs) H _ I0 hq) ?_ (fun e s' hs => hs)
  intro fl s' hs
  cases fl with
  | ret u => obtain ⟨v, σ', H', J, rv, q⟩ := hs; exact ⟨v, H', J.os, J.bare, J.base, J.hok, rv, q⟩
  | next => obtain ⟨σ', H', J, q⟩ := hs; exact ⟨V.non, H', J.os, J.bare, J.base, J.hok, rfl, q⟩
  | brk => obtain ⟨_, _, _, q⟩ := hs; exact q.elim
  | cont => obtain ⟨_, _, _, q⟩ := hs; exact q.elim
end

/-! ### plain defs -/
/-- an error that leaves a def -/
def excP (k : Nat) (e : Exn) (M : Sto) : Out D := match allD (sndD (frz M k 9)) e.fs with
  | some fs => .exc ⟨e.c, fs⟩ (M.take k)
  | none => .bad
/-- a def of n parameters and N names, by its body -/
def fnD (n N : Nat) (fin : Nat → D → Sto → Out D) (b : DS) : DFn := fun ds M => if ds.length = n then (match b (ds.map some ++ List.replicate (N - n) none) M with
  | .rt d M' => fin M.length d M'
  | .nx _ M' => fin M.length .non M'
  | .exc e _ M' => excP M.length e M'
  | _ => .bad) else .bad
def XCc (G : Gd) (F : Hp) (r : List Addr) (R : Hp) (E : XK) (e : Exn) (M' : Sto) : Prop := ∀ F' r' H' cls d, Sub F F' → r <+: r' → StoR G F' r' R M' H' → ExR G F' r' e cls d → E cls d H'
theorem XCc.mono {G : Gd} {F F' : Hp} {r r' : List Addr} {R : Hp} {E : XK} {e : Exn} {M : Sto} (s : Sub F F') (p : r <+: r') (h : XCc G F r R E e M) : XCc G F' r' R E e M :=
  fun F2 r2 H2 b d s2 p2 S q => h F2 r2 H2 b d (s.trans s2) (p.trans p2) S q
/-- the promise of a plain function -/
def spD (G : Gd) (n : Nat) (Fn : DFn) : Sp := fun vs H Q E => vs.length = n ∧ ∃ F r R M ds, Reps G F r ds vs ∧ StoR G F r R M H ∧ (Fn ds M).post (OKx Rep G F r R Q) (XCc G F r R E)
/-- the same where no error comes out -/
def spD0 (G : Gd) (n : Nat) (Fn : DFn) : Sp := fun vs H Q _ => vs.length = n ∧ ∃ F r R M ds, Reps G F r ds vs ∧ StoR G F r R M H ∧ (Fn ds M).post (OKx Rep G F r R Q) fun _ _ => False
theorem start_env {G : Gd} {F : Hp} {r : List Addr} {ds : List D} {vs : List V} {N : List Str} {n : Nat} (h : Reps G F r ds vs) (hl : ds.length = n) (hN : n ≤ N.length) : EnvR G F r (ds.map some ++ List.replicate (N.length - n) none) (L2.start N vs) := by
  have e1 := h.length
  unfold L2.start
  refine ⟨by rw [List.length_append, List.length_append, List.length_map, List.length_map, List.length_replicate, List.length_replicate]; omega, fun i d e => ?_⟩
  by_cases hi : i < ds.length
  · rw [List.getElem?_append_left (by rw [List.length_map]; exact hi), List.getElem?_map] at e
    obtain ⟨x, hx, e⟩ := Option.map_eq_some_iff.mp e
    cases e
    obtain ⟨y, hy, ry⟩ := h.get hx
    refine ⟨y, ?_, ry⟩
    rw [List.getElem?_append_left (by rw [List.length_map]; omega), List.getElem?_map, hy]
    rfl
  · rw [List.getElem?_append_right (by rw [List.length_map]; omega), List.getElem?_replicate] at e
    split at e <;> cases e
theorem post_fn {G : Gd} {F : Hp} {r : List Addr} {R : Hp} {M : Sto} {H : Hp} {n N : Nat} {fin : Nat → D → Sto → Out D} {b : DS} {ds : List D} {Q : VK} {E : XK} (hfin : FinOk fin) (S : StoR G F r R M H)
    (h : (fnD n N fin b ds M).post (OKx Rep G F r R Q) (XCc G F r R E)) :
    ds.length = n ∧ (b (ds.map some ++ List.replicate (N - n) none) M).post (wsh G F r R (fun cls d _ H => E cls d H) { nx := fun _ H' => Q .non H', rt := Q }) := by
  unfold fnD at h
  split at h
  · rename_i hn
    refine ⟨hn, ?_⟩
    have cut : ∀ {r' : List Addr}, r <+: r' → r'.take M.length = r := fun {r'} p => by
      obtain ⟨t, rfl⟩ := p
      rw [S.len, List.take_append_of_le_length (Nat.le_refl _), List.take_length]
    split at h
    · rename_i d M' e
      rw [e]
      intro F' r' H' v s p S' q
      obtain ⟨F2, r2, d2, M2, s2, p2, S2, q2, hq⟩ := hfin G F' r' R M' H' M.length d v _ _ S' q h
      rw [cut p] at p2
      exact hq F2 r2 H' v (s.trans s2) p2 S2 q2
    · rename_i env' M' e
      rw [e]
      intro F' r' H' σ' s p hE S'
      obtain ⟨F2, r2, d2, M2, s2, p2, S2, q2, hq⟩ := hfin G F' r' R M' H' M.length .non .non _ _ S' (by rw [rep_non]) h
      rw [cut p] at p2
      exact hq F2 r2 H' .non (s.trans s2) p2 S2 q2
    · rename_i x env' M' e
      rw [e]
      intro F' r' H' σ' cls d s p hE S' hx
      unfold excP at h
      split at h
      · rename_i fs ef
        obtain ⟨s2, S2⟩ := S'.fz M.length (l := r'.drop M.length) fun a ha => ha
        rw [cut p] at S2
        refine h _ r H' cls d (s.trans s2) (List.prefix_refl _) S2 ?_
        obtain ⟨C, h1, h2, h3⟩ := hx
        refine ⟨C, h1, h2, ?_⟩
        cases d with
        | none =>
          have h3 : x.fs = [] := h3
          rw [h3] at ef
          cases ef
          rfl
        | some dx =>
          obtain ⟨vfs, h4, h5⟩ := h3
          refine ⟨vfs, s2 _ _ h4, ?_⟩
          have := allD_repF (F' := fzH F' H' (r'.drop M.length)) (r' := r'.take M.length) (fun d v d' q e => frz_rep S' M.length s2 (fun a ha => fzH_in ha) q e) h5 ef
          rw [cut p] at this
          exact this
      · exact h.elim
    · exact h.elim
  · exact h.elim
section
variable {P : Program} {w : World} {K : PySem.W.Frag} {mg : Str → Option Value} {base : Heap}
/-- a def of the text that lets no error out keeps its plain promise -/
theorem fnD_ok {x qual : Str} {st : Stmt} {f : Addr} {fd : FuncData} {N ps : List Str} {k : Nat} {fin : Nat → D → Sto → Out D} {b : DS} (hfin : FinOk fin) (T : L2.Fun K x qual st f fd) (S : FnScope N ps (defScope st))
    (hb : ∀ (cdv : Value) (A : Around) (outer : List Env) (s : Shared) (H : Hp) (E : XK), Room k (A.deeper (envOfC qual (defScope st) s.heap.objs.size f cdv)) → A.guards = some [] →
      PSs (cxOf CX0 P w K mg base N qual (defScope st) f cdv A outer s H E).nox (defBody st) (tS (cxOf CX0 P w K mg base N qual (defScope st) f cdv A outer s H E).nox W0 b)) :
    FnG P w K mg base CX0 (k + 1) f fd ps (spD0 ⟨K, mg⟩ ps.length (fnD ps.length N.length fin b)) := by
  obtain ⟨oc, od, kV, doc, pm, an, cdv, ct, osl, rfl, lk, hcd⟩ := T.ex
  have hle : ps.length ≤ N.length := by
    have := congrArg List.length S.pre
    rw [List.length_take] at this
    omega
  refine fnG_of lk hcd S (fun vs H Q E h => h.1) fun A outer s H vs Q E hr hgd hsp => ?_
  refine ⟨_, (hb cdv A outer s H E hr hgd).nox, ?_⟩
  obtain ⟨_, F, r, R, M, ds, q, Sg, hp⟩ := hsp
  obtain ⟨hl, hpost⟩ := post_fn (E := fun _ _ _ => False) hfin Sg (Out.post_imp hp (fun _ _ z => z) fun _ _ z => z.elim)
  exact ⟨F, r, R, ds.map some ++ List.replicate (N.length - ps.length) none, M, start_env q hl hle, Sg, hpost⟩
/-- a def at a global name -/
structure FnAt (P : Program) (w : World) (K : PySem.W.Frag) (mg : Str → Option Value) (base : Heap) (k : Nat) (x : Str) (n : Nat) (Fn : DFn) : Prop where
  at_ : ∃ f fd ps, mg x = some (.ref f) ∧ PySem.W.keepIn K (.ref f) = true ∧ Binds K fd ps [] ∧ ps.length = n ∧ FnG P w K mg base CX0 k f fd ps (spD0 ⟨K, mg⟩ n Fn)
  ar : ∀ ds M, ds.length ≠ n → Fn ds M = .bad
theorem FnAt.mono {j k : Nat} {x : Str} {n : Nat} {Fn : DFn} (h : FnAt P w K mg base j x n Fn) (hk : j ≤ k) : FnAt P w K mg base k x n Fn :=
  let ⟨f, fd, ps, a, b, c, d, e⟩ := h.at_
  ⟨⟨f, fd, ps, a, b, c, d, e.mono hk⟩, h.ar⟩
theorem FnAt.mk' {x qual : Str} {st : Stmt} {f : Addr} {fd : FuncData} {N ps : List Str} {k : Nat} {fin : Nat → D → Sto → Out D} {b : DS} (hfin : FinOk fin) (T : L2.Fun K x qual st f fd) (hm : mg x = some (.ref f)) (hbi : Binds K fd ps []) (S : FnScope N ps (defScope st))
    (hb : ∀ (cdv : Value) (A : Around) (outer : List Env) (s : Shared) (H : Hp) (E : XK), Room k (A.deeper (envOfC qual (defScope st) s.heap.objs.size f cdv)) → A.guards = some [] →
      PSs (cxOf CX0 P w K mg base N qual (defScope st) f cdv A outer s H E).nox (defBody st) (tS (cxOf CX0 P w K mg base N qual (defScope st) f cdv A outer s H E).nox W0 b)) : FnAt P w K mg base (k + 1) x ps.length (fnD ps.length N.length fin b) :=
  ⟨⟨f, fd, ps, hm, T.kp, hbi, rfl, fnD_ok hfin T S hb⟩, fun ds M h => by unfold fnD; rw [if_neg h]⟩
end
/-! ### calls -/
def mCall (Fn : DFn) (as : DA) : DE := fun env M => (as env M).bind fun ds M1 => noExc (Fn ds M1)
section
variable {X : Cx} {W : EXK} {pos p : Pos} {x : Str} {n k : Nat} {Fn : DFn} {e : Expr} {es : List Expr} {mas : DA}
theorem run_fnG {f : Addr} {fd : FuncData} {ps : List Str} {pins : List (Addr × Obj)} {σ : L2.St} {H : Hp} {s : Shared} {Q : VK} {us : List Value} {vs : List V} (F : FnG X.prog X.w X.K X.mg X.base CX0 k f fd ps (spD0 (gd X) n Fn)) (hr : Room k X.A) (hgd : X.A.guards = some []) (hb : Binds X.K fd ps [])
    (I : Inv X pins σ H s) (r : Vals vs us) (h : spD0 (gd X) n Fn vs H Q fun _ _ _ => False) : wpAny (model X.prog X.w) X.A (call (.ref f) us) (EP X pins σ Q) X.xe s := by
  have hl : us.length = ps.length := by rw [← r.length]; exact F.len _ _ _ _ h
  have hb' := hb s us I.kIn (by rw [List.append_nil]; exact hl)
  rw [List.append_nil] at hb'
  refine wpAny_call (codeAny_mono (F.run X.A X.stack s H ⟨us, []⟩ us vs Q _ hr hgd I.env0 hb' r h) fun res s' hq => ?_)
  cases res with
  | error e => exact False.elim hq
  | ok fl =>
    cases fl with
    | ret u => exact I.after hq
    | next => exact False.elim hq
    | brk => exact False.elim hq
    | cont => exact False.elim hq
theorem FnAt.len (F : FnAt X.prog X.w X.K X.mg X.base k x n Fn) {ds : List D} {M : Sto} {P : D → Sto → Prop} {Y : Exn → Sto → Prop} (h : (Fn ds M).post P Y) : ds.length = n := by
  by_cases hl : ds.length = n
  · exact hl
  · rw [F.ar ds M hl] at h
    exact h.elim
theorem ev_call (F : FnAt X.prog X.w X.K X.mg X.base k x n Fn) (hr : Room k X.A) (hgd : X.A.guards = some []) (hg : Gl X x) (ha : PA X (e :: es) (tA X W mas)) (hdb : (x == ("__debug__" : Str)) = false := by decide)
    (he : starEach (e :: es) X.env = (false, eval e X.env) :: starEach es X.env := by rfl) (hpl : (backTo pos (starEach es X.env)).any (·.1) = false := by rfl) :
    PE X (.Call (.Name x p) (e :: es) [] pos) (tD X W (mCall Fn mas)) := by
  obtain ⟨f, fd, ps, hm, hk, hb, hps, G⟩ := F.at_
  refine ⟨fun pins s σ H Q I h => ?_⟩
  obtain ⟨F0, r, R, env, M, hE, hS, hp⟩ := h
  refine wpAny_Call_Name_kw (ld_glob I hg hm ?_ hdb)
  refine PySem.W.callWith_K (h₀ := X.base) I.ok.mod.kin hk (thn (ha.run pos pins s σ H _ I (tX.bind OKx.mono' hE hS hp)) fun us s1 ⟨vs, H1, I1, r1, q⟩ => ⟨I1.kIn, ?_⟩) he hpl
  obtain ⟨F1, r1', M1, ds, s1', p1, hE1, hS1, R1, hp1⟩ := q
  have hps2 := noExc_post hp1
  exact run_fnG G hr hgd hb I1 r1 ⟨by rw [R1.length]; exact F.len hps2, F1, r1', R, M1, ds, R1, hS1, hps2⟩
def mCall0 (Fn : DFn) : DE := fun _ M => noExc (Fn [] M)
theorem ev_call0 (F : FnAt X.prog X.w X.K X.mg X.base k x n Fn) (hr : Room k X.A) (hgd : X.A.guards = some []) (hg : Gl X x) (hdb : (x == ("__debug__" : Str)) = false := by decide) : PE X (.Call (.Name x p) [] [] pos) (tD X W (mCall0 Fn)) := by
  obtain ⟨f, fd, ps, hm, hk, hb, hps, G⟩ := F.at_
  refine ⟨fun pins s σ H Q I h => ?_⟩
  obtain ⟨F0, r, R, env, M, hE, hS, hp⟩ := h
  refine wpAny_Call_Name_kw (ld_glob I hg hm ?_ hdb)
  have hps2 := noExc_post hp
  exact PySem.W.callWith_K0 I.kIn hk (run_fnG (us := []) (vs := []) G hr hgd hb I .nil ⟨F.len hps2, F0, r, R, M, [], .nil, hS, hps2⟩)
end
/-! ### the law's end -/
/-- what the law's def has to show -/
def spLaw (K : PySem.W.Frag) : Sp := fun vs H Q _ => ∃ (a : Addr) (ns : List Int), vs = [.ref a] ∧ Only H ∧ LstR K H a (ns.map V.int) ∧ ns.length ≤ 63 ∧ ∀ H', Q (.bl true) H'
theorem reps_ints (G : Gd) (F : Hp) (r : List Addr) : ∀ ns : List Int, Reps G F r (ns.map D.int) (ns.map V.int)
  | [] => .nil
  | n :: ns => .cons (by rw [rep_int]) (reps_ints G F r ns)
theorem sp_of {K : PySem.W.Frag} {mg : Str → Option Value} {Fn : DFn} (h : ∀ ns : List Int, ns.length ≤ 63 → ∃ M, Fn [.lst (ns.map D.int)] [] = .ok (.bl true) M) {vs : List V} {H : Hp} {Q : VK} {E : XK} (q : spLaw K vs H Q E) : spD0 ⟨K, mg⟩ 1 Fn vs H Q E := by
  obtain ⟨a, ns, rfl, hO, hS, hl, hq⟩ := q
  obtain ⟨M, e⟩ := h ns hl
  refine ⟨rfl, H, [], fun _ => none, [], [.lst (ns.map D.int)], .cons ?_ .nil, ⟨rfl, List.nodup_nil, Sub.refl _, (fun (a : Addr) (o : HO) (z : none = some o) => (by cases z)), (fun (a : Addr) (z : a ∈ []) => (by cases z)), (fun (a : Addr) (z : a ∈ []) => (by cases z)), (fun (a : Addr) (o : HO) (z : none = some o) => (by cases z)), (fun n a o z => (by simp at z))⟩, ?_⟩
  · rw [rep_lst]
    exact ⟨a, _, rfl, hS, reps_ints _ _ _ ns⟩
  · rw [e]
    intro F' r' H' v _ _ _ hv
    rw [rep_bl] at hv
    rw [hv]
    exact hq H'
theorem law_callG {P : Program} {w : World} {K : PySem.W.Frag} {mg mb : Str → Option Value} {k : Nat} {fa a : Addr} {fd : FuncData} {x : Str} {Fn : DFn} {s₁ : Shared} {vs : List Value} {ns : List Int}
    (inK : K.In s₁.heap) (hns : s₁.heap.Ns mainGlobals mg) (hb : s₁.heap.Ns builtinsNs mb) (hbb : ∀ x : Str, x ≠ "__name__" → mb x = bootBuiltins x) (hlim : s₁.heap.NoLimit) (hg : s₁.gens = #[])
    (ha : s₁.heap.get? a = some { cls := .type "list", data := .seq vs.toArray }) (hi : IntsAre vs ns) (hl : ns.length ≤ 63) (hr : Room k callerA)
    (T : ∀ base : Heap, K.In base → base.Ns mainGlobals mg → FnG P w K mg base CX0 k fa fd [x] (spD0 ⟨K, mg⟩ 1 Fn)) (hbind : ∀ (s : Shared) (u : Value), BindsTo s fd ⟨[u], []⟩ [(x, u)])
    (hF : ∀ ns : List Int, ns.length ≤ 63 → ∃ M, Fn [.lst (ns.map D.int)] [] = .ok (.bl true) M) :
    codeAny (model P w) callerA (.call (.ref fa) ⟨[.ref a], []⟩) (fun r s' => r = .ok (.ret (.bool true)) ∧ OldK s₁.heap s'.heap ∧ s'.os = s₁.os ∧ AllBare s'.gens) s₁ := by
  have small : ns.length ≤ sizeLine := Nat.le_trans hl (by decide)
  have rv := vals_ints hi
  -- the heap with nothing tracked but what H says, which is the script at most
  have main : ∀ H : Hp, Only H → LstR K H a (ns.map V.int) → HOk P w H s₁.heap → (∀ b, H b ≠ none → b = a ∧ K.lookup a = none) →
      codeAny (model P w) callerA (.call (.ref fa) ⟨[.ref a], []⟩) (fun r s' => r = .ok (.ret (.bool true)) ∧ OldK s₁.heap s'.heap ∧ s'.os = s₁.os ∧ AllBare s'.gens) s₁ := by
    intro H hO hS hok hA
    have seqd : ∀ {b : Addr} {o : Obj} {es : Array DictEntry} {ep : Nat}, s₁.heap.get? b = some o → o.data = .dict es ep → H b = none := by
      intro b o es ep e d
      cases q : H b with
      | none => rfl
      | some u =>
        obtain ⟨rfl, _⟩ := hA b (by rw [q]; simp)
        rw [ha] at e
        cases e
        exact absurd (show Data.seq vs.toArray _ = Data.dict es ep from d) (by intro z; cases z)
    have ns' : ∀ {b : Addr} {m : Str → Option Value}, s₁.heap.Ns b m → (hidT s₁.heap H).Ns b m := by
      rintro b m ⟨o, es, ep, e, d, r⟩
      exact ⟨o, es, ep, hidT_get e (seqd e d), d, r⟩
    have hK : K.In (hidT s₁.heap H) := fun b o e => hidT_get (inK b o e) (by
      cases q : H b with
      | none => rfl
      | some u =>
        obtain ⟨rfl, z⟩ := hA b (by rw [q]; simp)
        rw [z] at e
        cases e)
    have hM : Mod K mg (hidT s₁.heap H) := ⟨hK, ns' hns, ⟨mb, ns' hb, hbb⟩, let ⟨mc, h1, h2⟩ := hlim; ⟨mc, ns' h1, h2⟩⟩
    have e0 : Env0 P w K mg (hidT s₁.heap H) callerA [] s₁ H := ⟨rfl, hM, fun b o e => of_hidT e, Nat.le_of_eq (hidT_size _ _), trivial, fun b hb => (by cases hb), hok, .of_eq hg⟩
    refine codeAny_mono ((T _ hK (ns' hns)).run callerA [] s₁ H ⟨[.ref a], []⟩ [.ref a] [.ref a] (fun v _ => v = .bl true) (fun _ _ _ => False) hr rfl e0 (hbind s₁ (.ref a)) (.cons rfl .nil) (sp_of hF ⟨a, ns, rfl, hO, hS, hl, fun _ => rfl⟩)) fun res s' h => ?_
    cases res with
    | error e => exact False.elim h
    | ok fl =>
      cases fl with
      | next => exact False.elim h
      | brk => exact False.elim h
      | cont => exact False.elim h
      | ret u =>
        obtain ⟨v, H', os, bare, un, hok', r', q⟩ := h
        have q' : v = .bl true := q
        subst q'
        obtain rfl : u = Value.bool true := r'
        refine ⟨rfl, OldK.of_keep fun b o e => ?_, os, bare⟩
        cases q : H b with
        | none => exact un.keep b o e q (fun z => by cases z) (by simp)
        | some u =>
          rcases hO b with z | ⟨ob, xs, z⟩
          · rw [q] at z; cases z
          · obtain ⟨e1, _⟩ := hok b _ z
            obtain ⟨e2, _⟩ := hok' b _ (un.frzs b ob _ z)
            rw [e] at e1
            cases e1
            exact e2
  cases hk : K.lookup a with
  | some o =>
    have e := inK a o hk
    rw [ha] at e
    cases e
    exact main (fun _ => none) (fun _ => .inl rfl) (.inr ⟨vs, _, hk, by rw [hi.length]; exact small, rv⟩) (fun b u z => by cases (show (none : Option HO) = some u from z)) fun b z => absurd rfl z
  | none =>
    refine main (fun b => if b = a then some (.frz { cls := .type "list", data := .seq vs.toArray } (.lst (ns.map V.int))) else none) (fun b => ?_) (.inl (.inr ⟨{ cls := .type "list", data := .seq vs.toArray }, if_pos rfl⟩)) (fun b u z => ?_) fun b z => ⟨?_, hk⟩
    · by_cases hb : b = a
      · exact .inr ⟨_, _, if_pos hb⟩
      · exact .inl (if_neg hb)
    · by_cases hb : b = a
      · have z' := (if_pos hb).symm.trans z
        cases z'
        rw [hb]
        exact ⟨ha, by rw [List.length_map]; exact small, vs, _, rv, ha⟩
      · have z' := (if_neg hb).symm.trans z
        cases z'
    · by_cases hb : b = a
      · exact hb
      · exact absurd (if_neg hb) z
/-- the goal that k_head leaves -/
theorem walkG {l : PySem.W.OpenLaw} {k : Nat} {q : Program} {loose : List Str} {XP : (Str → Option Value) → Heap → Prop} {YP : World → Heap → Prop} {d : DefRec} {K : Params → PySem.W.Frag} {x : Str} {Fn : DFn}
    (hn : l.most = some 63) (hdf : d.params.defaults = []) (hr : Room k callerA) (hY : ∀ (w : World) (h : Heap), YP w h → (K w.params).In h)
    (T : ∀ (w : World) (mg : Str → Option Value) (fa : Addr) (h : Heap), (K w.params).In h → h.Ns mainGlobals mg → mg d.name = some (.ref fa) →
      ∃ fd : FuncData, (∀ (s : Shared) (u : Value), BindsTo s fd ⟨[u], []⟩ [(x, u)]) ∧ ∀ base : Heap, (K w.params).In base → base.Ns mainGlobals mg → FnG l.prog w (K w.params) mg base CX0 k fa fd [x] (spD0 ⟨K w.params, mg⟩ 1 Fn))
    (hF : ∀ ns : List Int, ns.length ≤ 63 → ∃ M, Fn [.lst (ns.map D.int)] [] = .ok (.bl true) M) :
    PySem.W.WalkO q loose XP YP l.row.toRowW d [] (fun f vs => PySem.call f vs) := by
  refine Att.attach_call hn hdf fun w s₀ s₁ mg mb fa o pm cd doc a vs ns G Y ho hd hcd hmg hobj hints hlen hg => ?_
  have inK := hY w _ Y
  obtain ⟨fd, hb, hT⟩ := T w mg fa _ inK G.T.g hmg
  exact law_callG inK G.T.g G.T.b G.T.builtins G.T.nolimit hg hobj hints hlen hr hT hb hF
end EV
set_option maxHeartbeats 4000000
namespace EV
open PySem PySem.Spec PyProof.Rows L2

/-- a wish met where one stands -/
theorem OKx.here {G : Gd} {F : Hp} {r : List Addr} {R : Hp} {Q : VK} {d : D} {M : Sto} {H : Hp} {v : V} (h : OKx Rep G F r R Q d M) (S : StoR G F r R M H) (q : Rep G F r d v) : Q v H := h F r H v (Sub.refl _) (List.prefix_refl _) S q
theorem OKx.flat {G : Gd} {F : Hp} {r : List Addr} {R : Hp} {Q : VK} {d : D} {M : Sto} {H : Hp} {v : V} (h : OKx Rep G F r R Q d M) (S : StoR G F r R M H) (q : Flat d v) : Q v H := h.here S (q.rep _ _ _)
/-- what is read as a list or a tuple: the items -/
def seqD (M : Sto) : D → Option (List D)
  | .lst xs => some xs
  | .tup xs => some xs
  | .ref n => match M[n]? with
    | some (.lst xs) => some xs
    | _ => none
  | _ => none
theorem seqD_rep {G : Gd} {F : Hp} {r : List Addr} {R : Hp} {M : Sto} {H : Hp} {d : D} {v : V} {xs : List D} (S : StoR G F r R M H) (q : Rep G F r d v) (e : seqD M d = some xs) :
    ∃ a vs, v = .ref a ∧ (SqL G.K H a vs ∨ SqT G.K H a vs) ∧ Reps G F r xs vs := by
  cases d with
  | lst ys =>
    cases e
    rw [rep_lst] at q
    obtain ⟨a, vs, e, q1, q2⟩ := q
    exact ⟨a, vs, e, .inl (S.sub.lstR q1).sq, q2⟩
  | tup ys =>
    cases e
    rw [rep_tup] at q
    obtain ⟨a, vs, e, q1, q2⟩ := q
    exact ⟨a, vs, e, .inr (S.sub.sqT q1), q2⟩
  | ref n =>
    rw [rep_ref] at q
    obtain ⟨a, ha, ev⟩ := q
    unfold seqD at e
    simp only at e
    split at e
    · rename_i ys eo
      cases e
      obtain ⟨vs, h1, h2⟩ := S.at_ n a _ ha eo
      exact ⟨a, vs, ev, .inl (SqL.of h1), h2.mono (Sub.refl _) (take_pre _ _)⟩
    · cases e
  | _ => cases e
/-- a list that is read -/
def lstD (M : Sto) : D → Option (List D)
  | .lst xs => some xs
  | .ref n => match M[n]? with
    | some (.lst xs) => some xs
    | _ => none
  | _ => none
theorem lstD_rep {G : Gd} {F : Hp} {r : List Addr} {R : Hp} {M : Sto} {H : Hp} {d : D} {v : V} {xs : List D} (S : StoR G F r R M H) (q : Rep G F r d v) (e : lstD M d = some xs) :
    ∃ a vs, v = .ref a ∧ LstR G.K H a vs ∧ Reps G F r xs vs := by
  cases d with
  | lst ys =>
    cases e
    rw [rep_lst] at q
    obtain ⟨a, vs, e, q1, q2⟩ := q
    exact ⟨a, vs, e, S.sub.lstR q1, q2⟩
  | ref n =>
    rw [rep_ref] at q
    obtain ⟨a, ha, ev⟩ := q
    unfold lstD at e
    simp only at e
    split at e
    · rename_i ys eo
      cases e
      obtain ⟨vs, h1, h2⟩ := S.at_ n a _ ha eo
      exact ⟨a, vs, ev, LstR.of h1, h2.mono (Sub.refl _) (take_pre _ _)⟩
    · cases e
  | _ => cases e
/-! ### arithmetic -/
/-- ints' bounds -/
def mulOk (i j : Int) : Bool := decide (i.natAbs.log2 + j.natAbs.log2 < 1000000)
def divOk (j : Int) : Bool := decide (0 < j) && decide (j.natAbs.log2 < 9000)
def powOk (i j : Int) : Bool := decide (0 ≤ j) && decide ((i.natAbs.log2 + 1) * j.toNat ≤ 134217728)
def dSub : Op2 := fun a b M => match a, b with
  | .int i, .int j => .ok (.int (i - j)) M
  | _, _ => .bad
def dMod : Op2 := fun a b M => match a, b with
  | .int i, .int j => if 0 < j then .ok (.int (i % j)) M else .bad
  | _, _ => .bad
def dDiv : Op2 := fun a b M => match a, b with
  | .int i, .int j => if divOk j = true then .ok (.int (i / j)) M else .bad
  | _, _ => .bad
def dPow : Op2 := fun a b M => match a, b with
  | .int i, .int j => if powOk i j = true then .ok (.int (i ^ j.toNat)) M else .bad
  | _, _ => .bad
def dNeg : Op1 := fun a M => match a with
  | .int i => .ok (.int (-i)) M
  | _ => .bad
section
variable {X : Cx}
/-- a rule for two ints -/
theorem s2_int {py : Value → Value → Sem Value} {C : Int → Int → Prop} {g : Int → Int → V} {gd' : Int → Int → D} {f : Op2} (h : OpR X py (rI C g)) (hg : ∀ i j, Flat (gd' i j) (g i j))
    (hf : ∀ a b M (P : D → Sto → Prop), (f a b M).post P (fun _ _ => False) → ∃ i j, a = .int i ∧ b = .int j ∧ C i j ∧ P (gd' i j) M) : S2 X py f := by
  intro pins s σ H x y v u Q I rx ry hq
  obtain ⟨F, r, R, M, a, b, S, ra, rb, hp⟩ := hq
  obtain ⟨i, j, rfl, rfl, hc, hP⟩ := hf a b M _ hp
  rw [rep_int] at ra rb
  exact h pins s σ H x y v u Q I rx ry ⟨i, j, ra, rb, hc, hP.flat S (hg i j)⟩
theorem s2_int0 {py : Value → Value → Sem Value} {g : Int → Int → V} {gd' : Int → Int → D} {f : Op2} (h : OpR X py (rI0 g)) (hg : ∀ i j, Flat (gd' i j) (g i j))
    (hf : ∀ a b M (P : D → Sto → Prop), (f a b M).post P (fun _ _ => False) → ∃ i j, a = .int i ∧ b = .int j ∧ P (gd' i j) M) : S2 X py f := by
  intro pins s σ H x y v u Q I rx ry hq
  obtain ⟨F, r, R, M, a, b, S, ra, rb, hp⟩ := hq
  obtain ⟨i, j, rfl, rfl, hP⟩ := hf a b M _ hp
  rw [rep_int] at ra rb
  exact h pins s σ H x y v u Q I rx ry ⟨i, j, ra, rb, hP.flat S (hg i j)⟩
theorem r_sub : S2 X (binaryOp .Sub) dSub := s2_int0 (gd' := fun i j => .int (i - j)) op_sub (fun _ _ => .int _) fun a b M P h => by
  unfold dSub at h
  split at h
  · exact ⟨_, _, rfl, rfl, h⟩
  · exact h.elim
theorem ri_sub : S2 X (inplaceOp .Sub) dSub := s2_int0 (gd' := fun i j => .int (i - j)) iop_sub (fun _ _ => .int _) fun a b M P h => by
  unfold dSub at h
  split at h
  · exact ⟨_, _, rfl, rfl, h⟩
  · exact h.elim
theorem r_mod : S2 X (binaryOp .Mod) dMod := s2_int (gd' := fun i j => .int (i % j)) op_mod (fun _ _ => .int _) fun a b M P h => by
  unfold dMod at h
  split at h
  · split at h
    · exact ⟨_, _, rfl, rfl, by assumption, h⟩
    · exact h.elim
  · exact h.elim
theorem divOk_c {i j : Int} (h : divOk j = true) : CDivW i j := by
  unfold divOk at h
  rw [Bool.and_eq_true, decide_eq_true_eq, decide_eq_true_eq] at h
  exact h
theorem r_div : S2 X (binaryOp .FloorDiv) dDiv := s2_int (gd' := fun i j => .int (i / j)) op_fdivW (fun _ _ => .int _) fun a b M P h => by
  unfold dDiv at h
  split at h
  · split at h
    · rename_i hk
      exact ⟨_, _, rfl, rfl, divOk_c hk, h⟩
    · exact h.elim
  · exact h.elim
theorem op_powW : OpR X (binaryOp .Pow) (rI (fun i j => powOk i j = true) fun i j => .int (i ^ j.toNat)) := opI fun i j _ _ _ _ _ hc q => by
  unfold powOk at hc
  rw [Bool.and_eq_true, decide_eq_true_eq, decide_eq_true_eq] at hc
  refine pow_int hc.1 ?_ q
  have hb : Builtin.Int.intBits i ≤ i.natAbs.log2 + 1 := by
    unfold Builtin.Int.intBits
    split <;> omega
  have h1 : Builtin.Int.intBits i * j.toNat ≤ 134217728 := Nat.le_trans (Nat.mul_le_mul_right _ hb) hc.2
  have h2 : ((Builtin.Int.intBits i * j.toNat : Nat) : Int) ≤ ((134217728 : Nat) : Int) := Int.ofNat_le.mpr h1
  rw [Int.natCast_mul, Int.toNat_of_nonneg hc.1] at h2
  exact h2
theorem r_pow : S2 X (binaryOp .Pow) dPow := s2_int (gd' := fun i j => .int (i ^ j.toNat)) op_powW (fun _ _ => .int _) fun a b M P h => by
  unfold dPow at h
  split at h
  · split at h
    · rename_i hk
      exact ⟨_, _, rfl, rfl, hk, h⟩
    · exact h.elim
  · exact h.elim
theorem r_neg : S1 X (unaryOp .USub) dNeg := by
  intro pins s σ H x v Q I rx hq
  obtain ⟨F, r, R, M, a, S, ra, hp⟩ := hq
  unfold dNeg at hp
  split at hp
  · rw [rep_int] at ra
    exact un_neg pins s σ H x v Q I rx ⟨_, ra, OKx.flat hp S (.int _)⟩
  · exact hp.elim
/-! + and * -/
def catStr (x y : Str) : Str := x ++ y
def dAdd : Op2 := fun a b M => match a, b with
  | .int i, .int j => .ok (.int (i + j)) M
  | .str x, .str y => if x.length + y.length ≤ lim then .ok (.str (x ++ y)) M else .bad
  | .tup xs, .tup ys => if xs.length + ys.length ≤ lim then .ok (.tup (xs ++ ys)) M else .bad
  | a, b => match lstD M a, lstD M b with
    | some xs, some ys => if xs.length + ys.length ≤ lim then .ok (.lst (xs ++ ys)) M else .bad
    | _, _ => .bad
end
end EV
set_option maxHeartbeats 4000000
namespace EV
open PySem PySem.Spec PyProof.Rows L2
section
variable {X : Cx}
/-- lists put together -/
def rCatL (K : PySem.W.Frag) : R2 := fun x y H Q => ∃ l b xs zs, x = .ref l ∧ y = .ref b ∧ LstR K H l xs ∧ LstR K H b zs ∧ xs.length + zs.length ≤ sizeLine ∧ ∀ p, H p = none → Q (.ref p) (upd H p (.lst (xs ++ zs)))
theorem op_catL : OpR X (binaryOp .Add) (rCatL X.K) := by
  intro pins s σ H x y v u Q I rx ry h
  obtain ⟨l, b, xs, zs, rfl, rfl, hl, hb, hz, q⟩ := h
  cases rx
  cases ry
  obtain ⟨its, n, r1, e1, z1⟩ := hl.exact_ I
  obtain ⟨its2, n2, r2, e2, z2⟩ := hb.exact_ I
  have l1 := r1.length
  have l2 := r2.length
  refine PySem.P.add_list e1 e2 ?_ (by rw [List.size_toArray, List.size_toArray]; omega)
  rw [show its.toArray ++ its2.toArray = (its ++ its2).toArray by simp]
  exact ⟨.ref _, _, I.lnew (t' := s.toks) (r1.append r2) (by rw [List.length_append]; exact hz), rfl, q _ I.fresh⟩
theorem r_add : S2 X (binaryOp .Add) dAdd := by
  intro pins s σ H x y v u Q I rx ry hq
  obtain ⟨F, r, R, M, a, b, S, ra, rb, hp⟩ := hq
  unfold dAdd at hp
  split at hp
  · rw [rep_int] at ra rb
    exact op_add pins s σ H x y v u Q I rx ry ⟨_, _, ra, rb, OKx.flat hp S (.int _)⟩
  · split at hp
    · rename_i hl
      rw [rep_str] at ra rb
      exact op_add_str pins s σ H x y v u Q I rx ry ⟨_, _, ra, rb, lim_ok hl, OKx.flat hp S (.str _)⟩
    · exact hp.elim
  · split at hp
    · rename_i hl
      rw [rep_tup] at ra rb
      obtain ⟨a1, vs, rfl, q1, q2⟩ := ra
      obtain ⟨a2, ws, rfl, q3, q4⟩ := rb
      refine op_catA pins s σ H _ _ v u Q I rx ry ⟨a1, a2, vs, ws, rfl, rfl, S.sub.sqT q1, S.sub.sqT q3, by rw [q2.length, q4.length]; exact lim_ok hl, fun z => ?_, fun z1 z2 => ?_, fun z1 z2 p hpn => ?_⟩
      · subst z
        have e0 := q2.length
        rename_i xs ys
        have : xs = [] := List.eq_nil_of_length_eq_zero e0.symm
        subst this
        exact OKx.here hp S (by rw [rep_tup]; exact ⟨a2, ws, rfl, q3, q4⟩)
      · subst z2
        have e0 := q4.length
        rename_i xs ys
        have : ys = [] := List.eq_nil_of_length_eq_zero e0.symm
        subst this
        rw [List.append_nil] at hp
        exact OKx.here hp S (by rw [rep_tup]; exact ⟨a1, vs, rfl, q1, q2⟩)
      · obtain ⟨s1, S1, R1⟩ := rep_new_tup S (q2.append q4) hpn
        exact hp _ r _ _ s1 (List.prefix_refl _) S1 R1
    · exact hp.elim
  · split at hp
    · rename_i xs ys e1 e2
      split at hp
      · rename_i hl
        obtain ⟨a1, vs, rfl, q1, q2⟩ := lstD_rep S ra e1
        obtain ⟨a2, ws, rfl, q3, q4⟩ := lstD_rep S rb e2
        refine op_catL pins s σ H _ _ v u Q I rx ry ⟨a1, a2, vs, ws, rfl, rfl, q1, q3, by rw [q2.length, q4.length]; exact lim_ok hl, fun p hpn => ?_⟩
        obtain ⟨s1, S1, R1⟩ := rep_new_lst S (q2.append q4) hpn
        exact hp _ r _ _ s1 (List.prefix_refl _) S1 R1
      · exact hp.elim
    · exact hp.elim
/-- a new list may be changed -/
def asM (f : Op2) : Op2 := fun a b M => match f a b M with
  | .ok (.lst xs) M' => if belows M'.length xs = true then .ok (.ref M'.length) (M' ++ [.lst xs]) else .bad
  | _ => .bad
/-- in place: ints and texts -/
def dIAdd : Op2 := fun a b M => match a, b with
  | .int i, .int j => .ok (.int (i + j)) M
  | .str x, .str y => if x.length + y.length ≤ lim then .ok (.str (x ++ y)) M else .bad
  | _, _ => .bad
theorem ri_add : S2 X (inplaceOp .Add) dIAdd := by
  intro pins s σ H x y v u Q I rx ry hq
  obtain ⟨F, r, R, M, a, b, S, ra, rb, hp⟩ := hq
  unfold dIAdd at hp
  split at hp
  · rw [rep_int] at ra rb
    exact iop_add pins s σ H x y v u Q I rx ry ⟨_, _, ra, rb, OKx.flat hp S (.int _)⟩
  · split at hp
    · rename_i hl
      rw [rep_str] at ra rb
      exact iop_add_str pins s σ H x y v u Q I rx ry ⟨_, _, ra, rb, lim_ok hl, OKx.flat hp S (.str _)⟩
    · exact hp.elim
  · exact hp.elim
theorem mulOk_c {i j : Int} (h : mulOk i j = true) : CMulW i j := by
  unfold mulOk at h
  have h' : i.natAbs.log2 + j.natAbs.log2 < 1000000 := of_decide_eq_true h
  exact h'
theorem op_mulO : OpR X (binaryOp .Mult) (rI (fun i j => mulOk i j = true) fun i j => .int (i * j)) := opI fun i j _ _ _ _ _ hc q => mul_int q (CMulW.ok (mulOk_c hc))
theorem iop_mulO : OpR X (inplaceOp .Mult) (rI (fun i j => mulOk i j = true) fun i j => .int (i * j)) := opI fun i j _ _ _ _ _ hc q => imul_int q (CMulW.ok (mulOk_c hc))
/-- a list so many times -/
def rRepL (K : PySem.W.Frag) : R2 := fun x y H Q => ∃ l k xs, x = .ref l ∧ y = .int k ∧ LstR K H l xs ∧ -1000000 ≤ k ∧ k ≤ 1000000 ∧ xs.length * k.toNat ≤ sizeLine ∧
  ∀ p, H p = none → Q (.ref p) (upd H p (.lst (List.replicate k.toNat xs).flatten))
theorem op_repL : OpR X (binaryOp .Mult) (rRepL X.K) := by
  intro pins s σ H x y v u Q I rx ry h
  obtain ⟨l, k, xs, rfl, rfl, hL, h1, h2, hz, q⟩ := h
  cases rx
  obtain ⟨t, rfl⟩ := ry
  obtain ⟨its, n, rv, e, z⟩ := hL.exact_ I
  have size : its.toArray.size * k.toNat ≤ sizeLine := by rw [List.size_toArray, ← rv.length]; exact hz
  have cap : ¬ its.toArray.size * k.toNat > (2 ^ 63 - 1) / 8 := Nat.not_lt.mpr (Nat.le_trans size (by decide))
  have fit : ¬ (!Builtin.List.listFitsIndex k) = true := by rw [fitsIndex_both (by omega) (by omega)]; decide
  have long : ¬ Builtin.List.listTooLong (its.toArray.size * k.toNat) = true := by rw [notLongL size]; decide
  have folded : ∀ m : Nat, List.foldl (fun a b => a ++ b) #[] (List.replicate m its.toArray) = (List.replicate m its).flatten.toArray := fun m => by simpa using foldl_rep its m []
  have new : List.foldl (fun a b => a ++ b) #[] (List.replicate (if its.toArray.isEmpty = true then 0 else k.toNat) its.toArray) = (List.replicate k.toNat its).flatten.toArray := by
    rw [folded]
    cases its with
    | nil => simp
    | cons a b => rw [if_neg (by simp)]
  have end_ : (∃ w H', Inv X pins σ H' { s with heap := s.heap.push { cls := .type "list", data := .seq (List.replicate k.toNat its).flatten.toArray } } ∧ RelV w (Value.ref s.heap.objs.size) ∧ Q w H') :=
    ⟨.ref _, _, I.lnew (t' := s.toks) (rv.rep k.toNat) (by rw [PyProof.Rows.lm_len_rep_flat, Nat.mul_comm]; exact hz), rfl, q _ I.fresh⟩
  refine wpAny_binaryOp_repeat_ref (T := "list") (U := "int") (by decide) ⟨_, e, rfl⟩ (fun s' => typeIs_int s' k t) noFill_list_mul F.fills_int_mul F.slot_int_rmul repeat_list F.slot_int_index.lookup ?_
  refine call_meets F.slot_int_rmul (typeIs_int s k t) F.entry_int_rmul (F.args_int_rmul_2 _ _) (int___rmul___int_list k t l its.toArray n) ⟨e, rfl, ⟨_, e, rfl⟩, ?_⟩
  refine call_meets F.slot_list_mul ⟨_, e, rfl⟩ F.entry_list_mul (F.args_list_mul_2 _ _) (AutoListH.list___mul___list_int_3 l its.toArray n k t fit cap long) ⟨e, ?_⟩
  rw [new]
  exact end_
def repD (k : Nat) (xs : List D) : List D := (List.replicate k xs).flatten
theorem Reps.rep {G : Gd} {F : Hp} {r : List Addr} {xs : List D} {vs : List V} (h : Reps G F r xs vs) : ∀ k : Nat, Reps G F r (repD k xs) (List.replicate k vs).flatten
  | 0 => .nil
  | k + 1 => by
    unfold repD
    rw [List.replicate_succ, List.replicate_succ, List.flatten_cons, List.flatten_cons]
    exact h.append (Reps.rep h k)
def dMul : Op2 := fun a b M => match a, b with
  | .int i, .int j => if mulOk i j = true then .ok (.int (i * j)) M else .bad
  | .lst xs, .int k => if -1000000 ≤ k ∧ k ≤ 1000000 ∧ xs.length * k.toNat ≤ lim then .ok (.lst (repD k.toNat xs)) M else .bad
  | .tup xs, .int k => if 2 ≤ k ∧ k ≤ 1000 ∧ xs ≠ [] ∧ xs.length ≤ 1000 then .ok (.tup (repD k.toNat xs)) M else .bad
  | _, _ => .bad
theorem r_mul : S2 X (binaryOp .Mult) dMul := by
  intro pins s σ H x y v u Q I rx ry hq
  obtain ⟨F, r, R, M, a, b, S, ra, rb, hp⟩ := hq
  unfold dMul at hp
  split at hp
  · split at hp
    · rename_i hk
      rw [rep_int] at ra rb
      exact op_mulO pins s σ H x y v u Q I rx ry ⟨_, _, ra, rb, hk, OKx.flat hp S (.int _)⟩
    · exact hp.elim
  · split at hp
    · rename_i hk
      rw [rep_int] at rb
      rw [rep_lst] at ra
      obtain ⟨a1, vs, rfl, q1, q2⟩ := ra
      refine op_repL pins s σ H _ y v u Q I rx ry ⟨a1, _, vs, rfl, rb, S.sub.lstR q1, hk.1, hk.2.1, by rw [q2.length]; exact lim_ok hk.2.2, fun p hpn => ?_⟩
      obtain ⟨s1, S1, R1⟩ := rep_new_lst S (q2.rep _) hpn
      exact hp _ r _ _ s1 (List.prefix_refl _) S1 R1
    · exact hp.elim
  · split at hp
    · rename_i hk
      rw [rep_int] at rb
      rw [rep_tup] at ra
      obtain ⟨a1, vs, rfl, q1, q2⟩ := ra
      refine op_repT pins s σ H _ y v u Q I rx ry ⟨a1, _, vs, rfl, rb, S.sub.sqT q1, ?_, hk.1, hk.2.1, by rw [q2.length]; exact hk.2.2.2, fun p hpn => ?_⟩
      · intro z
        subst z
        exact hk.2.2.1 (List.eq_nil_of_length_eq_zero q2.length.symm)
      · obtain ⟨s1, S1, R1⟩ := rep_new_tup S (q2.rep _) hpn
        exact hp _ r _ _ s1 (List.prefix_refl _) S1 R1
    · exact hp.elim
  · exact hp.elim
def dIMul : Op2 := fun a b M => match a, b with
  | .int i, .int j => if mulOk i j = true then .ok (.int (i * j)) M else .bad
  | _, _ => .bad
theorem ri_mul : S2 X (inplaceOp .Mult) dIMul := s2_int (gd' := fun i j => .int (i * j)) iop_mulO (fun _ _ => .int _) fun a b M P h => by
  unfold dIMul at h
  split at h
  · split at h
    · rename_i hk
      exact ⟨_, _, rfl, rfl, hk, h⟩
    · exact h.elim
  · exact h.elim
/-! ### order -/
def dLt : Op2 := fun a b M => match a, b with
  | .int i, .int j => .ok (.bl (decide (i < j))) M
  | .str i, .str j => .ok (.bl (decide (i.cps.toList < j.cps.toList))) M
  | _, _ => .bad
def dLe : Op2 := fun a b M => match a, b with
  | .int i, .int j => .ok (.bl (decide (i ≤ j))) M
  | .str i, .str j => .ok (.bl (!decide (j.cps.toList < i.cps.toList))) M
  | _, _ => .bad
def dGt : Op2 := fun a b M => match a, b with
  | .int i, .int j => .ok (.bl (decide (j < i))) M
  | _, _ => .bad
def dGe : Op2 := fun a b M => match a, b with
  | .int i, .int j => .ok (.bl (decide (j ≤ i))) M
  | _, _ => .bad
theorem r_lt : S2 X (compareOp .Lt) dLt := by
  intro pins s σ H x y v u Q I rx ry hq
  obtain ⟨F, r, R, M, a, b, S, ra, rb, hp⟩ := hq
  unfold dLt at hp
  split at hp
  · rw [rep_int] at ra rb
    exact op_lt pins s σ H x y v u Q I rx ry ⟨_, _, ra, rb, OKx.flat hp S (.bl _)⟩
  · rw [rep_str] at ra rb
    exact op_lt_str pins s σ H x y v u Q I rx ry ⟨_, _, ra, rb, OKx.flat hp S (.bl _)⟩
  · exact hp.elim
theorem r_le : S2 X (compareOp .LtE) dLe := by
  intro pins s σ H x y v u Q I rx ry hq
  obtain ⟨F, r, R, M, a, b, S, ra, rb, hp⟩ := hq
  unfold dLe at hp
  split at hp
  · rw [rep_int] at ra rb
    exact op_le pins s σ H x y v u Q I rx ry ⟨_, _, ra, rb, OKx.flat hp S (.bl _)⟩
  · rw [rep_str] at ra rb
    exact op_le_str pins s σ H x y v u Q I rx ry ⟨_, _, ra, rb, OKx.flat hp S (.bl _)⟩
  · exact hp.elim
theorem r_gt : S2 X (compareOp .Gt) dGt := s2_int0 (gd' := fun i j => .bl (decide (j < i))) op_gt (fun _ _ => .bl _) fun a b M P h => by
  unfold dGt at h
  split at h
  · exact ⟨_, _, rfl, rfl, h⟩
  · exact h.elim
theorem r_ge : S2 X (compareOp .GtE) dGe := s2_int0 (gd' := fun i j => .bl (decide (j ≤ i))) op_ge (fun _ _ => .bl _) fun a b M P h => by
  unfold dGe at h
  split at h
  · exact ⟨_, _, rfl, rfl, h⟩
  · exact h.elim
/-! ### equality of data -/
/-- a value as data -/
def pyD (M : Sto) : Nat → D → Option PyData
  | 0, _ => none
  | f + 1, d => match d with
    | .non => some .none
    | .bl b => some (.bool b)
    | .int i => some (.int i)
    | .str x => some (.str x)
    | .tup xs => (allM (pyD M f) xs).map .tuple
    | .lst xs => (allM (pyD M f) xs).map .list
    | .ref n => match M[n]? with
      | some (.lst xs) => (allM (pyD M f) xs).map .list
      | _ => none
    | _ => none
where
  allM (g : D → Option PyData) : List D → Option (List PyData)
  | [] => some []
  | x :: xs => match g x with
    | none => none
    | some y => match allM g xs with
      | none => none
      | some ys => some (y :: ys)
theorem dpAll_of {G : Gd} {F : Hp} {r : List Addr} {H : Hp} {g : D → Option PyData} (hg : ∀ d v p, Rep G F r d v → g d = some p → Dp G.K H v p) : ∀ {xs : List D} {vs : List V} {ps : List PyData}, Reps G F r xs vs → pyD.allM g xs = some ps → DpAll G.K H vs ps
  | [], vs, ps, h, e => by
    cases e
    cases h.inv0
    exact .nil
  | x :: xs, vs, ps, h, e => by
    unfold pyD.allM at e
    obtain ⟨v, w, rfl, a, b⟩ := h.inv
    cases e1 : g x with
    | none => rw [e1] at e; cases e
    | some y =>
      rw [e1] at e
      cases e2 : pyD.allM g xs with
      | none => rw [e2] at e; cases e
      | some ys =>
        rw [e2] at e
        cases e
        exact .cons (hg _ _ _ a e1) (dpAll_of hg b e2)
theorem dp_of {G : Gd} {F : Hp} {r : List Addr} {R : Hp} {M : Sto} {H : Hp} (S : StoR G F r R M H) : ∀ {f : Nat} {d : D} {v : V} {p : PyData}, Rep G F r d v → pyD M f d = some p → Dp G.K H v p
  | 0, d, v, p, h, e => by cases e
  | f + 1, d, v, p, h, e => by
    have ih := fun d v p => @dp_of G F r R M H S f d v p
    unfold pyD at e
    cases d with
    | non => simp only at e; cases e; rw [rep_non] at h; subst h; exact .non
    | bl b => simp only at e; cases e; rw [rep_bl] at h; subst h; exact .bl b
    | int b => simp only at e; cases e; rw [rep_int] at h; subst h; exact .int b
    | str b => simp only at e; cases e; rw [rep_str] at h; subst h; exact .str b
    | tup xs =>
      simp only at e
      obtain ⟨ps, e1, rfl⟩ := Option.map_eq_some_iff.mp e
      rw [rep_tup] at h
      obtain ⟨a, vs, rfl, q, z⟩ := h
      exact .tup (S.sub.sqT q) (dpAll_of ih z e1)
    | lst xs =>
      simp only at e
      obtain ⟨ps, e1, rfl⟩ := Option.map_eq_some_iff.mp e
      rw [rep_lst] at h
      obtain ⟨a, vs, rfl, q, z⟩ := h
      exact .lst (S.sub.lstR q).sq (dpAll_of ih z e1)
    | ref n =>
      simp only at e
      rw [rep_ref] at h
      obtain ⟨a, ha, rfl⟩ := h
      split at e
      · rename_i xs eo
        obtain ⟨ps, e1, rfl⟩ := Option.map_eq_some_iff.mp e
        obtain ⟨vs, h1, h2⟩ := S.at_ n a _ ha eo
        exact .lst (SqL.of h1) (dpAll_of ih (h2.mono (Sub.refl _) (take_pre _ _)) e1)
      · cases e
    | ty _ => cases e
    | dct _ => cases e
    | obj _ _ => cases e
def eqD (M : Sto) (a b : D) : Option Bool := match a, b with
  | .int i, .int j => some (decide (i = j))
  | .str i, .str j => some (decide (i = j))
  | .bl i, .bl j => some (decide (i = j))
  | a, b => match pyD M 12 a, pyD M 12 b with
    | some p, some q => if SeqAt.shaped p = true ∧ SeqAt.shaped q = true then some (PyData.eqv p q) else none
    | _, _ => none
def dEq : Op2 := fun a b M => match eqD M a b with
  | some k => .ok (.bl k) M
  | none => .bad
def dNe : Op2 := fun a b M => match eqD M a b with
  | some k => .ok (.bl (!k)) M
  | none => .bad
theorem eqD_scal {M : Sto} {a b : D} {k : Bool} (h : eqD M a b = some k) {G : Gd} {F : Hp} {r : List Addr} {R : Hp} {H : Hp} {x y : V} (S : StoR G F r R M H) (ra : Rep G F r a x) (rb : Rep G F r b y) :
    (L2.scal x y = true ∧ k = decide (x = y)) ∨ ∃ p q, Dp G.K H x p ∧ Dp G.K H y q ∧ SeqAt.shaped p = true ∧ SeqAt.shaped q = true ∧ k = PyData.eqv p q := by
  unfold eqD at h
  split at h
  · cases h
    rw [rep_int] at ra rb
    subst ra rb
    exact .inl ⟨rfl, by simp⟩
  · cases h
    rw [rep_str] at ra rb
    subst ra rb
    exact .inl ⟨rfl, by simp⟩
  · cases h
    rw [rep_bl] at ra rb
    subst ra rb
    exact .inl ⟨rfl, by simp⟩
  · split at h
    · rename_i p q e1 e2
      split at h
      · rename_i hs
        cases h
        exact .inr ⟨p, q, dp_of S ra e1, dp_of S rb e2, hs.1, hs.2, rfl⟩
      · cases h
    · cases h
theorem r_eq (hu : X.A.units + 64 < cLine) : S2 X (compareOp .Eq) dEq := by
  intro pins s σ H x y v u Q I rx ry hq
  obtain ⟨F, r, R, M, a, b, S, ra, rb, hp⟩ := hq
  unfold dEq at hp
  split at hp
  · rename_i k e
    have hQ := OKx.flat hp S (.bl k)
    rcases eqD_scal e S ra rb with ⟨h1, h2⟩ | ⟨p, q, h1, h2, h3, h4, h5⟩
    · exact op_eq pins s σ H x y v u Q I rx ry ⟨h1, by rw [← h2]; exact hQ⟩
    · exact op_eqD hu pins s σ H x y v u Q I rx ry ⟨p, q, h1, h2, h3, h4, by rw [← h5]; exact hQ⟩
  · exact hp.elim
theorem r_ne (hu : X.A.units + 64 < cLine) : S2 X (compareOp .NotEq) dNe := by
  intro pins s σ H x y v u Q I rx ry hq
  obtain ⟨F, r, R, M, a, b, S, ra, rb, hp⟩ := hq
  unfold dNe at hp
  split at hp
  · rename_i k e
    have hQ := OKx.flat hp S (.bl (!k))
    rcases eqD_scal e S ra rb with ⟨h1, h2⟩ | ⟨p, q, h1, h2, h3, h4, h5⟩
    · exact op_ne pins s σ H x y v u Q I rx ry ⟨h1, by rw [← h2]; exact hQ⟩
    · exact op_neD hu pins s σ H x y v u Q I rx ry ⟨p, q, h1, h2, h3, h4, by rw [← h5]; exact hQ⟩
  · exact hp.elim
/-- x is None, x is not None -/
def isNon : D → Bool
  | .non => true
  | _ => false
theorem isNon_rep {G : Gd} {F : Hp} {r : List Addr} {d : D} {v : V} (h : Rep G F r d v) : decide (v = .non) = isNon d := by
  cases d with
  | non => rw [rep_non] at h; subst h; rfl
  | bl b => rw [rep_bl] at h; subst h; rfl
  | int b => rw [rep_int] at h; subst h; rfl
  | str b => rw [rep_str] at h; subst h; rfl
  | ty b => rw [rep_ty] at h; subst h; rfl
  | tup _ => rw [rep_tup] at h; obtain ⟨a, _, rfl, _⟩ := h; rfl
  | lst _ => rw [rep_lst] at h; obtain ⟨a, _, rfl, _⟩ := h; rfl
  | dct _ => rw [rep_dct] at h; obtain ⟨a, _, rfl, _⟩ := h; rfl
  | obj _ _ => rw [rep_obj] at h; obtain ⟨a, _, _, _, rfl, _⟩ := h; rfl
  | ref _ => rw [rep_ref] at h; obtain ⟨a, _, rfl⟩ := h; rfl
def dIs : Op2 := fun a b M => match b with
  | .non => .ok (.bl (isNon a)) M
  | _ => .bad
def dIsNot : Op2 := fun a b M => match b with
  | .non => .ok (.bl (!isNon a)) M
  | _ => .bad
theorem r_is : S2 X (compareOp .Is) dIs := by
  intro pins s σ H x y v u Q I rx ry hq
  obtain ⟨F, r, R, M, a, b, S, ra, rb, hp⟩ := hq
  unfold dIs at hp
  split at hp
  · rw [rep_non] at rb
    have := OKx.flat hp S (.bl (isNon a))
    exact op_isN pins s σ H x y v u Q I rx ry ⟨rb, by rw [isNon_rep ra]; exact this⟩
  · exact hp.elim
theorem r_isnot : S2 X (compareOp .IsNot) dIsNot := by
  intro pins s σ H x y v u Q I rx ry hq
  obtain ⟨F, r, R, M, a, b, S, ra, rb, hp⟩ := hq
  unfold dIsNot at hp
  split at hp
  · rw [rep_non] at rb
    have := OKx.flat hp S (.bl (!isNon a))
    exact op_notN pins s σ H x y v u Q I rx ry ⟨rb, by rw [isNon_rep ra]; exact this⟩
  · exact hp.elim
end
end EV
set_option maxHeartbeats 4000000
namespace EV
open PySem PySem.Spec PyProof.Rows L2
/-! ### isinstance -/
/-- the types of plain values -/
inductive TyV where
  | non | ty (n : TyN)
def TyV.s : TyV → String
  | .non => "NoneType"
  | .ty n => n.s
def tyOf (M : Sto) : D → Option TyV
  | .non => some .non
  | .bl _ => some (.ty .bool)
  | .int _ => some (.ty .int)
  | .str _ => some (.ty .str)
  | .tup _ => some (.ty .tuple)
  | .lst _ => some (.ty .list)
  | .dct _ => some (.ty .dict)
  | .ref n => match M[n]? with
    | some (.lst _) => some (.ty .list)
    | some (.dct _) => some (.ty .dict)
    | _ => none
  | _ => none
def isB (t : TyV) (n : TyN) : Bool := match t with
  | .non => false
  | .ty m => decide (m = n) || (decide (m = .bool) && decide (n = .int))
theorem isB_ok (K : PySem.W.Frag) (t : TyV) (n : TyN) : PySem.W.kitOne K (.type t.s) (.type n.s) = some (isB t n) := by
  have h : kitB t.s n.s = some (isB t n) := by
    cases t with
    | non => cases n <;> decide +kernel
    | ty m => cases m <;> cases n <;> decide +kernel
  exact kit_ty h
theorem tyOf_x {G : Gd} {F : Hp} {r : List Addr} {R : Hp} {M : Sto} {H : Hp} {d : D} {v : V} {t : TyV} (S : StoR G F r R M H) (q : Rep G F r d v) (e : tyOf M d = some t) : TyX G.K H v (.type t.s) := by
  cases d with
  | non => cases e; rw [rep_non] at q; subst q; exact .base .non
  | bl b => cases e; rw [rep_bl] at q; subst q; exact .base (.bl b)
  | int b => cases e; rw [rep_int] at q; subst q; exact .base (.int b)
  | str b => cases e; rw [rep_str] at q; subst q; exact .base (.str b)
  | ty _ => cases e
  | obj _ _ => cases e
  | tup _ =>
    cases e
    rw [rep_tup] at q
    obtain ⟨a, vs, rfl, h, _⟩ := q
    rcases S.sub.sqT h with z | ⟨o, its, n, h1, h2, _⟩
    · rcases z with z | ⟨o, z⟩
      · exact .base (.tup z)
      · exact .fTuple z
    · exact .kTuple h1 h2
  | lst _ =>
    cases e
    rw [rep_lst] at q
    obtain ⟨a, vs, rfl, h, _⟩ := q
    rcases S.sub.lstR h with z | ⟨its, n, h1, _⟩
    · rcases z with z | ⟨o, z⟩
      · exact .base (.lst z)
      · exact .base (.frz z)
    · exact .kList h1 rfl
  | dct _ =>
    cases e
    rw [rep_dct] at q
    obtain ⟨a, vs, rfl, h, _⟩ := q
    exact .base (.dK (S.sub _ _ h))
  | ref n =>
    rw [rep_ref] at q
    obtain ⟨a, ha, rfl⟩ := q
    unfold tyOf at e
    simp only at e
    split at e
    · rename_i eo
      cases e
      obtain ⟨vs, h1, _⟩ := S.at_ n a _ ha eo
      exact .base (.lst h1)
    · rename_i eo
      cases e
      obtain ⟨vs, h1, _⟩ := S.at_ n a _ ha eo
      exact .base (.dK h1)
    · cases e
def dIsi : OpL := fun xs M => match xs with
  | [x, .ty n] => match tyOf M x with
    | some t => .ok (.bl (isB t n)) M
    | none => .bad
  | _ => .bad
section
variable {X : Cx}
theorem r_isi : SL X (.builtin "isinstance") dIsi := by
  intro pins s σ H xs us Q I rv hq
  obtain ⟨F, r, R, M, as, S, ra, hp⟩ := hq
  unfold dIsi at hp
  split at hp
  · rename_i x n
    split at hp
    · rename_i t e
      obtain ⟨v, w, rfl, q1, q2⟩ := ra.inv2
      rw [rep_ty] at q2
      subst q2
      exact call_isi pins s σ H _ us Q I rv ⟨v, .ty n.s, .type t.s, .type n.s, isB t n, rfl, .ty n.s, tyOf_x S q1 e, isB_ok _ t n, OKx.flat hp S (.bl _)⟩
    · exact hp.elim
  · exact hp.elim
/-! ### len, abs, max, min, int, str, repr -/
def dLen : OpL := fun xs M => match xs with
  | [.str x] => if x.length ≤ lim then .ok (.int x.length) M else .bad
  | [x] => match seqD M x with
    | some ys => .ok (.int ys.length) M
    | none => .bad
  | _ => .bad
theorem r_len : SL X (.builtin "len") dLen := by
  intro pins s σ H xs us Q I rv hq
  obtain ⟨F, r, R, M, as, S, ra, hp⟩ := hq
  unfold dLen at hp
  split at hp
  · rename_i x
    split at hp
    · rename_i hl
      obtain ⟨v, rfl, q1⟩ := ra.inv1
      rw [rep_str] at q1
      subst q1
      exact call_len pins s σ H _ us Q I rv ⟨.str x, x.length, rfl, ⟨lim_ok hl, rfl⟩, OKx.flat hp S (.int _)⟩
    · exact hp.elim
  · rename_i x _
    split at hp
    · rename_i ys e
      obtain ⟨v, rfl, q1⟩ := ra.inv1
      obtain ⟨a, vs, rfl, q2, q3⟩ := seqD_rep S q1 e
      have hQ := OKx.flat hp S (.int _)
      rw [← q3.length] at hQ
      refine call_len pins s σ H _ us Q I rv ⟨.ref a, vs.length, rfl, ?_, hQ⟩
      rcases q2 with z | z
      · exact .inl ⟨vs, z, rfl⟩
      · exact .inr ⟨vs, z, rfl⟩
    · exact hp.elim
  · exact hp.elim
/-- a rule for one int -/
def dAbs : OpL := fun xs M => match xs with
  | [.int i] => .ok (.int (if i < 0 then -i else i)) M
  | _ => .bad
theorem r_abs : SL X (.builtin "abs") dAbs := by
  intro pins s σ H xs us Q I rv hq
  obtain ⟨F, r, R, M, as, S, ra, hp⟩ := hq
  unfold dAbs at hp
  split at hp
  · rename_i i
    obtain ⟨v, rfl, q1⟩ := ra.inv1
    rw [rep_int] at q1
    subst q1
    exact call_abs pins s σ H _ us Q I rv ⟨i, rfl, OKx.flat hp S (.int _)⟩
  · exact hp.elim
def dMax2 : OpL := fun xs M => match xs with
  | [.int i, .int j] => .ok (.int (if j > i then j else i)) M
  | _ => .bad
def dMin2 : OpL := fun xs M => match xs with
  | [.int i, .int j] => .ok (.int (if j < i then j else i)) M
  | _ => .bad
theorem r_max2 (hc : X.calm = true) : SL X (.builtin "max") dMax2 := by
  intro pins s σ H xs us Q I rv hq
  obtain ⟨F, r, R, M, as, S, ra, hp⟩ := hq
  unfold dMax2 at hp
  split at hp
  · rename_i i j
    obtain ⟨v, w, rfl, q1, q2⟩ := ra.inv2
    rw [rep_int] at q1 q2
    subst q1 q2
    exact call_max2 hc pins s σ H _ us Q I rv ⟨i, j, rfl, OKx.flat hp S (.int _)⟩
  · exact hp.elim
theorem r_min2 (hc : X.calm = true) : SL X (.builtin "min") dMin2 := by
  intro pins s σ H xs us Q I rv hq
  obtain ⟨F, r, R, M, as, S, ra, hp⟩ := hq
  unfold dMin2 at hp
  split at hp
  · rename_i i j
    obtain ⟨v, w, rfl, q1, q2⟩ := ra.inv2
    rw [rep_int] at q1 q2
    subst q1 q2
    exact call_min2 hc pins s σ H _ us Q I rv ⟨i, j, rfl, OKx.flat hp S (.int _)⟩
  · exact hp.elim
def dInt : OpL := fun xs M => match xs with
  | [.int i] => .ok (.int i) M
  | [.bl b] => .ok (.int (if b = true then 1 else 0)) M
  | _ => .bad
theorem r_int : SL X (.type "int") dInt := by
  intro pins s σ H xs us Q I rv hq
  obtain ⟨F, r, R, M, as, S, ra, hp⟩ := hq
  unfold dInt at hp
  split at hp
  · rename_i i
    obtain ⟨v, rfl, q1⟩ := ra.inv1
    rw [rep_int] at q1
    subst q1
    exact call_int1 pins s σ H _ us Q I rv (.inl ⟨i, rfl, OKx.flat hp S (.int _)⟩)
  · rename_i b
    obtain ⟨v, rfl, q1⟩ := ra.inv1
    rw [rep_bl] at q1
    subst q1
    exact call_int1 pins s σ H _ us Q I rv (.inr ⟨b, rfl, OKx.flat hp S (.int _)⟩)
  · exact hp.elim
def dStr : OpL := fun xs M => match xs with
  | [.int i] => if i.natAbs.log2 < 1920 then .ok (.str (toString i)) M else .bad
  | [.str x] => .ok (.str x) M
  | _ => .bad
theorem r_str : SL X (.type "str") dStr := by
  intro pins s σ H xs us Q I rv hq
  obtain ⟨F, r, R, M, as, S, ra, hp⟩ := hq
  unfold dStr at hp
  split at hp
  · rename_i i
    split at hp
    · rename_i hl
      obtain ⟨v, rfl, q1⟩ := ra.inv1
      rw [rep_int] at q1
      subst q1
      exact call_str_int pins s σ H _ us Q I rv ⟨i, rfl, hl, OKx.flat hp S (.str _)⟩
    · exact hp.elim
  · rename_i x
    obtain ⟨v, rfl, q1⟩ := ra.inv1
    rw [rep_str] at q1
    subst q1
    exact SkE.call_str_str pins s σ H _ us Q I rv ⟨x, rfl, OKx.flat hp S (.str _)⟩
  · exact hp.elim
/-- repr of data -/
def dRepr : OpL := fun xs M => match xs with
  | [x] => match pyD M 12 x with
    | some p => if p.showable = true ∧ p.canLay0 = true ∧ p.depth ≤ 40 ∧ p.shown.length ≤ lim then .ok (.str p.shown) M else .bad
    | none => .bad
  | _ => .bad
theorem r_repr (hg : X.A.guards = some []) (hu : X.A.units + 64 < cLine) : SL X (.builtin "repr") dRepr := by
  intro pins s σ H xs us Q I rv hq
  obtain ⟨F, r, R, M, as, S, ra, hp⟩ := hq
  unfold dRepr at hp
  split at hp
  · rename_i x
    split at hp
    · rename_i p e
      split at hp
      · rename_i hk
        obtain ⟨hsh, hcl, hdp, hln⟩ := hk
        obtain ⟨v, rfl, q1⟩ := ra.inv1
        obtain ⟨u, rfl, rx⟩ := vals1 rv
        have hQ := OKx.flat hp S (.str _)
        obtain ⟨bs, hr⟩ := Dp.reads I p v u (dp_of S q1 e) rx
        have fin : ∀ (h' : Heap) (tk : Tok) (t : Nat), (∀ b o, s.heap.get? b = some o → h'.get? b = some o) → EP X pins σ Q (.str p.shown tk) { s with heap := h', toks := t } := fun h' tk t hk => ⟨.str p.shown, H, I.kept (t' := t) hk, ⟨_, rfl⟩, hQ⟩
        have fin0 : ∀ (tk : Tok) (t : Nat), EP X pins σ Q (.str p.shown tk) { s with toks := t } := fun tk t => fin s.heap tk t fun _ _ z => z
        cases hr with
        | none => exact PySem.P.repr_of_none (fin0 _ _)
        | bool b => exact PySem.P.repr_of_bool (fin0 _ _)
        | int i t => exact PySem.P.repr_of_int (of_decide_eq_true hsh) (fin0 _ _)
        | str y t => exact PySem.P.repr_of_str (fin0 _ _) (lim_ok hln)
        | list h1 h2 h3 h4 => exact repr_of_reads' (Reads.list h1 h2 h3 h4) hsh (PyData.noDict_hsm (PyData.hasDict_of_canLay _ hcl)) hg (by omega) (fun _ _ z => z) (fun h' u tk hk => fin h' u tk hk) (lim_ok hln)
        | tuple h1 h2 h3 h4 => exact repr_of_reads' (Reads.tuple h1 h2 h3 h4) hsh (PyData.noDict_hsm (PyData.hasDict_of_canLay _ hcl)) hg (by omega) (fun _ _ z => z) (fun h' u tk hk => fin h' u tk hk) (lim_ok hln)
        | dict _ _ _ _ _ => cases hcl
      · exact hp.elim
    · exact hp.elim
  · exact hp.elim
/-! ### subscripts, in -/
/-- an index's place -/
def atD (xs : List D) (i : Int) : Option D := if 0 ≤ i then xs[i.toNat]? else if -(xs.length : Int) ≤ i then xs[(i + xs.length).toNat]? else none
theorem atD_rep {G : Gd} {F : Hp} {r : List Addr} {xs : List D} {vs : List V} {i : Int} {d : D} (h : Reps G F r xs vs) (e : atD xs i = some d) : ∃ v, L2.atI vs i = some v ∧ Rep G F r d v := by
  unfold atD at e
  have hl := h.length
  unfold L2.atI L2.ixN
  split at e
  · rename_i h0
    obtain ⟨v, e1, e2⟩ := h.get e
    refine ⟨v, ?_, e2⟩
    have hlt : i.toNat < vs.length := (List.getElem?_eq_some_iff.mp e1).1
    rw [if_pos h0, if_pos (by omega)]
    exact e1
  · rename_i h0
    split at e
    · rename_i h1
      obtain ⟨v, e1, e2⟩ := h.get e
      refine ⟨v, ?_, e2⟩
      rw [if_neg h0, if_pos (by omega)]
      show vs[(i + vs.length).toNat]? = some v
      rw [hl]
      exact e1
    · cases e
def dIx : Op2 := fun a b M => match b with
  | .int i => (match a with
    | .str z => (match (if z.length ≤ lim then L2.atI z.cps.toList i else none) with
      | some c => .ok (.str ⟨#[c]⟩) M
      | none => .bad)
    | a => match seqD M a with
      | some xs => (match atD xs i with
        | some d => .ok d M
        | none => .bad)
      | none => .bad)
  | _ => .bad
theorem r_ix : IxR X (rD2 X dIx) := by
  intro value slice pins s σ H x y v u Q I rx ry hq hs
  obtain ⟨F, r, R, M, a, b, S, ra, rb, hp⟩ := hq
  unfold dIx at hp
  split at hp
  · rename_i i
    rw [rep_int] at rb
    split at hp
    · rename_i z
      rw [rep_str] at ra
      split at hp
      · rename_i c e
        split at e
        · rename_i hl
          exact ix_str value slice pins s σ H x y v u Q I rx ry ⟨z, i, c, ra, rb, lim_ok hl, e, OKx.flat hp S (.str _)⟩ hs
        · cases e
      · exact hp.elim
    · split at hp
      · rename_i xs e
        split at hp
        · rename_i d e2
          obtain ⟨p, vs, rfl, q2, q3⟩ := seqD_rep S ra e
          obtain ⟨w, e3, e4⟩ := atD_rep q3 e2
          rcases q2 with z | z
          · exact ix_list value slice pins s σ H _ y v u Q I rx ry ⟨p, vs, i, w, rfl, rb, z, e3, OKx.here hp S e4⟩ hs
          · exact ix_tup value slice pins s σ H _ y v u Q I rx ry ⟨p, vs, i, w, rfl, rb, z, e3, OKx.here hp S e4⟩ hs
        · exact hp.elim
      · exact hp.elim
  · exact hp.elim
def inStr (x y : Str) : Bool := !(Builtin.Str.occurrences y x 0 y.length 1).isEmpty
def anyEq (M : Sto) (x : D) : List D → Option Bool
  | [] => some false
  | y :: ys => match eqD M y x with
    | some true => some true
    | some false => anyEq M x ys
    | none => none
/-- x in y: texts; data in lists and tuples -/
def inD (M : Sto) (a b : D) : Option Bool := match a, b with
  | .str x, .str y => some (inStr x y)
  | a, b => match b with
    | .tup ys => (match pyD M 12 a, pyD M 12 (.tup ys) with
      | some p, some (.tuple qs) => if SeqAt.shaped p = true ∧ SeqAt.shaped (.tuple qs) = true then some (qs.any fun z => PyData.eqv z p) else none
      | _, _ => none)
    | b => (match pyD M 12 a, pyD M 12 b with
      | some p, some (.list qs) => if SeqAt.shaped p = true ∧ SeqAt.shaped (.list qs) = true then some (qs.any fun z => PyData.eqv z p) else none
      | _, _ => none)
def dInS : Op2 := fun a b M => match a, b with
  | .str x, .str y => .ok (.bl (inStr x y)) M
  | _, _ => .bad
def dNotInS : Op2 := fun a b M => match a, b with
  | .str x, .str y => .ok (.bl (!inStr x y)) M
  | _, _ => .bad
theorem r_inS : S2 X (compareOp .In) dInS := by
  intro pins s σ H x y v u Q I rx ry hq
  obtain ⟨F, r, R, M, a, b, S, ra, rb, hp⟩ := hq
  unfold dInS at hp
  split at hp
  · rw [rep_str] at ra rb
    exact op_in_str pins s σ H x y v u Q I rx ry ⟨_, _, ra, rb, OKx.flat hp S (.bl _)⟩
  · exact hp.elim
theorem r_notInS : S2 X (compareOp .NotIn) dNotInS := by
  intro pins s σ H x y v u Q I rx ry hq
  obtain ⟨F, r, R, M, a, b, S, ra, rb, hp⟩ := hq
  unfold dNotInS at hp
  split at hp
  · rw [rep_str] at ra rb
    exact op_notIn_str pins s σ H x y v u Q I rx ry ⟨_, _, ra, rb, OKx.flat hp S (.bl _)⟩
  · exact hp.elim
/-! ### an item stored -/
def setAt (xs : List D) (i : Int) (v : D) : Option (List D) := if 0 ≤ i ∧ i < xs.length then some (xs.set i.toNat v) else if i < 0 ∧ -(xs.length : Int) ≤ i then some (xs.set (i + xs.length).toNat v) else none
def putL (o i v : D) (M : Sto) : Option Sto := match o, i with
  | .ref n, .int k => (match M[n]? with
    | some (.lst xs) => (match setAt xs k v with
      | some ys => if below n v = true then some (M.set n (.lst ys)) else none
      | none => none)
    | _ => none)
  | _, _ => none
theorem s_putL : S3 X putL := by
  intro pins s σ H o i v ov iv u Q I ro ri rv hq
  obtain ⟨F, r, R, M, a, b, c, S, ra, rb, rc, hp⟩ := hq
  split at hp
  · rename_i M' em
    unfold putL at em
    split at em
    · rename_i n k
      split at em
      · rename_i xs eo
        split at em
        · rename_i ys es
          split at em
          · rename_i hb
            cases em
            rw [rep_ref] at ra
            rw [rep_int] at rb
            obtain ⟨p, hpn, rfl⟩ := ra
            obtain ⟨vs, h1, h2⟩ := S.at_ n p _ hpn eo
            have hl := h2.length
            have hx : ∃ j, L2.ixN vs.length k = some j ∧ ys = xs.set j c := by
              unfold setAt at es
              unfold L2.ixN
              split at es
              · rename_i z
                cases es
                exact ⟨k.toNat, by rw [if_pos z.1, if_pos (by omega)], rfl⟩
              · split at es
                · rename_i z
                  cases es
                  refine ⟨(k + xs.length).toNat, ?_, rfl⟩
                  rw [if_neg (by omega), if_pos (by omega), hl]
                · cases es
            obtain ⟨j, hj, rfl⟩ := hx
            refine set_list pins s σ H _ i v ov iv u Q I ro ri rv ⟨p, vs, k, j, rfl, rb, h1, hj, ?_⟩
            refine hp F r _ (Sub.refl _) (List.prefix_refl _) (S.write hpn fun H' e => ⟨_, e, Reps.set (rc.cut hb) j h2⟩)
          · cases em
        · cases em
      · cases em
    · cases em
  · exact hp.elim
end
end EV
set_option maxHeartbeats 4000000
namespace EV
open PySem PySem.Spec PyProof.Rows L2
/-- a def as it stands in the module -/
def DefAt (K : PySem.W.Frag) (mg : Str → Option Value) (x : Str) (st : Stmt) (ps : List Str) : Prop := ∃ f fd, L2.Fun K x x st f fd ∧ mg x = some (.ref f) ∧ Binds K fd ps []
theorem bt_int : bootBuiltins "int" = some (.type "int") := PyProof.Rows.boot_int
theorem bt_bool : bootBuiltins "bool" = some (.type "bool") := PyProof.Rows.boot_bool
theorem bt_str : bootBuiltins "str" = some (.type "str") := PyProof.Rows.boot_str
theorem bt_tuple : bootBuiltins "tuple" = some (.type "tuple") := PyProof.Rows.boot_tuple
theorem bt_list : bootBuiltins "list" = some (.type "list") := PyProof.Rows.boot_list
theorem bt_dict : bootBuiltins "dict" = some (.type "dict") := PyProof.Rows.boot_dict
theorem bt_set : bootBuiltins "set" = some (.type "set") := PyProof.Rows.boot_set
theorem bb_len : bootBuiltins "len" = some (.builtin "len") := PySem.boot_len
theorem bb_abs : bootBuiltins "abs" = some (.builtin "abs") := by decide +kernel
theorem bb_max : bootBuiltins "max" = some (.builtin "max") := PyProof.Rows.boot_max
theorem bb_min : bootBuiltins "min" = some (.builtin "min") := PyProof.Rows.boot_min
theorem bb_repr : bootBuiltins "repr" = some (.builtin "repr") := PyProof.Rows.boot_repr
theorem bb_isinstance : bootBuiltins "isinstance" = some (.builtin "isinstance") := PyProof.Rows.boot_isinstance
theorem bb_sorted : bootBuiltins "sorted" = some (.builtin "sorted") := PyProof.Rows.boot_sorted
theorem bb_sum : bootBuiltins "sum" = some (.builtin "sum") := PyProof.Rows.boot_sum
theorem bb_all : bootBuiltins "all" = some (.builtin "all") := by decide +kernel
theorem bb_any : bootBuiltins "any" = some (.builtin "any") := by decide +kernel
theorem bb_divmod : bootBuiltins "divmod" = some (.builtin "divmod") := PyProof.Rows.boot_divmod
section
variable {X : Cx} {W : EXK} {pos : Pos}
theorem ev_gint {x : Str} {i : Int} (hg : Gl X x) (h : ∃ t, X.mg x = some (.int i t)) (hd : (x == ("__debug__" : Str)) = false := by decide) : PE X (.Name x pos) (tD X W (mK (.int i))) := by
  obtain ⟨t, hm⟩ := h
  exact ev_glob (v := .int i) hg hm ⟨t, rfl⟩ (.int i) hd
theorem ev_gstr {x : Str} {i : Str} (hg : Gl X x) (h : ∃ t, X.mg x = some (.str i t)) (hd : (x == ("__debug__" : Str)) = false := by decide) : PE X (.Name x pos) (tD X W (mK (.str i))) := by
  obtain ⟨t, hm⟩ := h
  exact ev_glob (v := .str i) hg hm ⟨t, rfl⟩ (.str i) hd
end
/-- what was reserved is forgotten -/
theorem StoR.unres {G : Gd} {F H R : Hp} {r : List Addr} {M : Sto} {p : Addr} {u : HO} (S : StoR G F r (upd R p u) M H) (hR : R p = none) : StoR G F r R M H := by
  refine ⟨S.len, S.nd, S.sub, fun a o e => S.res _ _ (by rw [upd_ne (ne_of_none e hR)]; exact e), S.fr, fun a ha => ?_, fun a o e => S.fx a o (by rw [upd_ne (ne_of_none e hR)]; exact e), S.at_⟩
  have := S.rr a ha
  by_cases h : a = p
  · rw [h]; exact hR
  · rw [upd_ne h] at this; exact this
/-! ### dict displays -/
abbrev DP := DEnv → Sto → Out (List (D × D))
def pNil : DP := fun _ M => .ok [] M
def pCons (k v : DE) (r : DP) : DP := fun env M => (k env M).bind fun x M1 => (v env M1).bind fun y M2 => (r env M2).bind fun ps M3 => .ok ((x, y) :: ps) M3
def keyD : D → Option Key
  | .int i => some (.inl i)
  | .str x => some (.inr x)
  | _ => none
def keysD : List (D × D) → Option (List (Key × D))
  | [] => some []
  | (k, v) :: r => match keyD k with
    | none => none
    | some k' => match keysD r with
      | none => none
      | some r' => some ((k', v) :: r')
def putKD (kvs : List (Key × D)) (k : Key) (v : D) : List (Key × D) := if kvs.any (fun kv => decide (kv.1 = k)) then kvs.map (fun kv => if kv.1 = k then (kv.1, v) else kv) else kvs ++ [(k, v)]
def mergeD (kvs : List (Key × D)) (more : List (Key × D)) : List (Key × D) := more.foldl (fun acc kv => putKD acc kv.1 kv.2) kvs
def mDct (ps : DP) : DE := fun env M => (ps env M).bind fun qs M1 => match keysD qs with
  | some kvs => if kvs.length ≤ 15 then .ok (.dct (mergeD [] kvs)) M1 else .bad
  | none => .bad
def mDct0 : DE := fun _ M => .ok (.dct []) M
abbrev RPs : Rl (List (D × D)) (List (V × V)) := fun G F r ds vs => Reps G F r (ds.map (·.1)) (vs.map (·.1)) ∧ Reps G F r (ds.map (·.2)) (vs.map (·.2))
structure PD (X : Cx) (W : EXK) (pos : Pos) (keys : List (Option Expr)) (values : List Expr) (trs : List (TE × TE)) (m : DP) : Prop where
  pps : PPs X pos keys values trs
  run : ∀ σ H Q, tX X W RPs m σ H Q → tPairs trs σ H Q
section
variable {X : Cx} {W : EXK} {pos : Pos}
theorem evd_nil : PD X W pos [] [] [] pNil := ⟨pps_nil, fun σ H Q h => by
  obtain ⟨F, r, R, env, M, hE, hS, hp⟩ := h
  exact hp F r H [] (Sub.refl _) (List.prefix_refl _) hS ⟨.nil, .nil⟩⟩
theorem evd_cons {k v : Expr} {ks : List (Option Expr)} {vs : List Expr} {mk mv : DE} {trs : List (TE × TE)} {m : DP} (hk : PE X k (tD X W mk)) (hv : PE X v (tD X W mv)) (hr : PD X W pos ks vs trs m) : PD X W pos (some k :: ks) (v :: vs) ((tD X W mk, tD X W mv) :: trs) (pCons mk mv m) :=
  ⟨pps_cons hk hv hr.pps, fun σ H Q h => by
    obtain ⟨F, r, R, env, M, hE, hS, hp⟩ := h
    refine tX.imp (tX.bind OKx.mono' hE hS hp) fun x H1 ⟨F1, r1, M1, d, s1, p1, hE1, hS1, R1, hp1⟩ => ?_
    refine tX.imp (tX.bind OKx.mono' hE1 hS1 hp1) fun y H2 ⟨F2, r2, M2, d2, s2, p2, hE2, hS2, R2, hp2⟩ => ?_
    refine hr.run σ H2 _ (tX.imp (tX.bind OKx.mono' hE2 hS2 hp2) fun ps H3 ⟨F3, r3, M3, d3, s3, p3, hE3, hS3, R3, hp3⟩ => ?_)
    exact hp3 F3 r3 H3 _ (Sub.refl _) (List.prefix_refl _) hS3 ⟨.cons (R1.mono (s2.trans s3) (p2.trans p3)) R3.1, .cons (R2.mono s3 p3) R3.2⟩⟩
theorem RepK.nil {G : Gd} {F : Hp} {r : List Addr} : RepK G F r [] [] := by unfold RepK; rfl
theorem RepK.cons {G : Gd} {F : Hp} {r : List Addr} {k : Key} {d : D} {v : V} {ds : List (Key × D)} {vs : List (Key × V)} (h : Rep G F r d v) (h' : RepK G F r ds vs) : RepK G F r ((k, d) :: ds) ((k, v) :: vs) := by
  unfold RepK
  exact ⟨v, vs, rfl, h, h'⟩
theorem RepK.append {G : Gd} {F : Hp} {r : List Addr} : ∀ {d : List (Key × D)} {v : List (Key × V)} {d' : List (Key × D)} {v' : List (Key × V)}, RepK G F r d v → RepK G F r d' v' → RepK G F r (d ++ d') (v ++ v')
  | [], v, d', v', h, h' => by
    unfold RepK at h
    subst h
    exact h'
  | (k, x) :: xs, vs, d', v', h, h' => by
    unfold RepK at h
    obtain ⟨v, w, rfl, a, b⟩ := h
    exact RepK.cons a (RepK.append b h')
theorem RepK.any {G : Gd} {F : Hp} {r : List Addr} (k : Key) : ∀ {d : List (Key × D)} {v : List (Key × V)}, RepK G F r d v → (v.any fun kv => decide (kv.1 = k)) = d.any fun kv => decide (kv.1 = k)
  | [], v, h => by
    unfold RepK at h
    subst h
    rfl
  | (k', x) :: xs, vs, h => by
    unfold RepK at h
    obtain ⟨v, w, rfl, a, b⟩ := h
    rw [List.any_cons, List.any_cons, RepK.any k b]
theorem RepK.repl {G : Gd} {F : Hp} {r : List Addr} {k : Key} {y : D} {u : V} (q : Rep G F r y u) : ∀ {d : List (Key × D)} {v : List (Key × V)}, RepK G F r d v → RepK G F r (d.map fun kv => if kv.1 = k then (kv.1, y) else kv) (v.map fun kv => if kv.1 = k then (kv.1, u) else kv)
  | [], v, h => by
    unfold RepK at h
    subst h
    exact RepK.nil
  | (k', x) :: xs, vs, h => by
    unfold RepK at h
    obtain ⟨w, ws, rfl, a, b⟩ := h
    rw [List.map_cons, List.map_cons]
    by_cases hk : k' = k
    · rw [if_pos hk, if_pos hk]
      exact RepK.cons q (RepK.repl q b)
    · rw [if_neg hk, if_neg hk]
      exact RepK.cons a (RepK.repl q b)
theorem RepK.put {G : Gd} {F : Hp} {r : List Addr} {k : Key} {y : D} {u : V} (q : Rep G F r y u) {d : List (Key × D)} {v : List (Key × V)} (h : RepK G F r d v) : RepK G F r (putKD d k y) (putK v k u) := by
  unfold putKD putK
  rw [h.any k]
  split
  · exact h.repl q
  · exact h.append (RepK.cons q RepK.nil)
theorem RepK.merge {G : Gd} {F : Hp} {r : List Addr} : ∀ {more : List (Key × D)} {mv : List (Key × V)} {d : List (Key × D)} {v : List (Key × V)}, RepK G F r more mv → RepK G F r d v → RepK G F r (mergeD d more) (mergeK v mv)
  | [], mv, d, v, h, h' => by
    unfold RepK at h
    subst h
    exact h'
  | (k, x) :: xs, mv, d, v, h, h' => by
    unfold RepK at h
    obtain ⟨w, ws, rfl, a, b⟩ := h
    show RepK G F r (mergeD (putKD d k x) xs) (mergeK (putK v k w) ws)
    exact RepK.merge b (h'.put a)
theorem keysD_rep {G : Gd} {F : Hp} {r : List Addr} : ∀ {qs : List (D × D)} {ps : List (V × V)} {kvs : List (Key × D)}, RPs G F r qs ps → keysD qs = some kvs → ∃ kws : List (Key × V), ps = kws.map (fun kv => (kV kv.1, kv.2)) ∧ RepK G F r kvs kws ∧ kws.length = kvs.length
  | [], ps, kvs, h, e => by
    cases e
    have := h.1.length
    have : ps = [] := List.eq_nil_of_length_eq_zero (by simpa using this)
    subst this
    exact ⟨[], rfl, RepK.nil, rfl⟩
  | (k, x) :: qs, ps, kvs, h, e => by
    cases ps with
    | nil =>
      have := h.1.length
      simp at this
    | cons p ps =>
      obtain ⟨pk, pv⟩ := p
      unfold keysD at e
      obtain ⟨v, w, e1, a1, b1⟩ := Reps.inv (show Reps G F r (k :: qs.map (·.1)) (pk :: ps.map (·.1)) from h.1)
      obtain ⟨v2, w2, e2, a2, b2⟩ := Reps.inv (show Reps G F r (x :: qs.map (·.2)) (pv :: ps.map (·.2)) from h.2)
      cases e1
      cases e2
      cases ek : keyD k with
      | none => rw [ek] at e; cases e
      | some k' =>
        rw [ek] at e
        cases er : keysD qs with
        | none => rw [er] at e; cases e
        | some r' =>
          rw [er] at e
          cases e
          obtain ⟨kws, z1, z2, z3⟩ := keysD_rep (qs := qs) (ps := ps) ⟨b1, b2⟩ er
          refine ⟨(k', pv) :: kws, ?_, RepK.cons a2 z2, by rw [List.length_cons, List.length_cons, z3]⟩
          rw [List.map_cons, ← z1]
          have : pk = kV k' := by
            unfold keyD at ek
            split at ek
            · cases ek
              rw [rep_int] at a1
              exact a1
            · cases ek
              rw [rep_str] at a1
              exact a1
            · cases ek
          rw [this]
theorem ev_dct {keys : List (Option Expr)} {values : List Expr} {trs : List (TE × TE)} {m : DP} (h : PD X W pos keys values trs m) (hall : keys.all (·.isSome) = true := by rfl) (hl : keys.length = values.length := by rfl) (h0 : keys ≠ [] := by simp) (h15 : keys.length ≤ 15 := by decide) :
    PE X (.Dict keys values pos) (tD X W (mDct m)) := by
  refine PE.imp (pe_disp h.pps hall hl h0 h15) fun σ H Q hq => ?_
  obtain ⟨F, r, R, env, M, hE, hS, hp⟩ := hq
  intro p hpn
  obtain ⟨hF, hR, hr⟩ := hS.notR hpn
  have S1 := hS.resv (u := .dK []) hpn
  have hp' : ((m env M).bind fun qs M1 => match keysD qs with
    | some kvs => if kvs.length ≤ 15 then Out.ok (D.dct (mergeD [] kvs)) M1 else .bad
    | none => .bad).post (fun d M' => OKx Rep (gd X) F r R Q d M') (EXc (gd X) F r R W σ) := hp
  refine h.run σ _ _ ⟨F, r, upd R p (.dK []), env, M, hE, S1, Out.post_imp (Out.post_bind hp') (fun qs M1 q => ?_) fun e M1 q => ?_⟩
  · intro F2 r2 H2 ps s2 p2 S2 R2
    split at q
    · rename_i kvs ek
      split at q
      · rename_i h15
        obtain ⟨kws, z1, z2, z3⟩ := keysD_rep R2 ek
        obtain ⟨hH, _, _⟩ := S2.resAt
        refine ⟨hH, kws, z1, by rw [z3]; exact h15, ?_⟩
        have S3 := S2.rewr (u' := .dK (mergeK [] kws))
        obtain ⟨s4, S4⟩ := S3.unresF hR
        refine q _ r2 _ _ (s2.trans s4) p2 S4 ?_
        rw [rep_dct]
        exact ⟨p, _, rfl, upd_same, (RepK.merge z2 RepK.nil).mono s4 (List.prefix_refl _)⟩
      · exact q.elim
    · exact q.elim
  · intro F2 r2 H2 cls d s2 p2 S2 hx
    exact q F2 r2 H2 cls d s2 p2 (S2.unres hR) hx
theorem ev_dnew : PE X (.Dict [] [] pos) (tD X W mDct0) := by
  refine PE.imp pe_dnewK fun σ H Q hq => ?_
  obtain ⟨F, r, R, env, M, hE, hS, hp⟩ := hq
  intro p hpn
  obtain ⟨hF, hR, hr⟩ := hS.notR hpn
  exact hp _ r _ _ (Sub.upd hF) (List.prefix_refl _) (hS.froz hpn) (by rw [rep_dct]; exact ⟨p, [], rfl, upd_same, RepK.nil⟩)
end
end EV
set_option maxHeartbeats 4000000
/-! plain evaluation -/
namespace EV
open PySem PySem.Spec PyProof.Rows L2
theorem Out.bind_ok {α β : Type} (a : α) (M : Sto) (f : α → Sto → Out β) : (Out.ok a M).bind f = f a M := rfl
theorem Out.then_ok {α : Type} (a : α) (M : Sto) (env : DEnv) (f : α → Sto → OutS) : (Out.ok a M).thenS env f = f a M := rfl
theorem noExc_ok {α : Type} (a : α) (M : Sto) : noExc (Out.ok a M) = .ok a M := rfl
theorem take_set_len (M : Sto) (n : Nat) (x : Ob) : (M.set n x).take M.length = M.set n x := by
  have : (M.set n x).length = M.length := List.length_set
  rw [← this]
  exact List.take_length
theorem take_app_len (M N : Sto) : (M ++ N).take M.length = M := List.take_left
theorem get_app_len (M : Sto) (x : Ob) : (M ++ [x])[M.length]? = some x := by simp
end EV
set_option maxHeartbeats 4000000
/-! what a plain evaluation must reach -/
namespace EV
open PySem PySem.Spec PyProof.Rows L2
def wp {α : Type} (o : Out α) (P : α → Sto → Prop) : Prop := match o with
  | .ok a M => P a M
  | _ => False
def ws (o : OutS) (N : DEnv → Sto → Prop) (R : D → Sto → Prop) (B C : DEnv → Sto → Prop) : Prop := match o with
  | .nx e M => N e M
  | .rt d M => R d M
  | .bk e M => B e M
  | .ct e M => C e M
  | _ => False
theorem wp_ok {α : Type} {a : α} {M : Sto} {P : α → Sto → Prop} (h : P a M) : wp (.ok a M) P := h
theorem wp_mono {α : Type} {o : Out α} {P Q : α → Sto → Prop} (h : wp o P) (k : ∀ a M, P a M → Q a M) : wp o Q := by
  cases o with
  | ok a M => exact k a M h
  | exc e M => exact h.elim
  | bad => exact h.elim
theorem wp_eq {α : Type} {o : Out α} {P : α → Sto → Prop} (h : wp o P) : ∃ a M, o = .ok a M ∧ P a M := by
  cases o with
  | ok a M => exact ⟨a, M, rfl, h⟩
  | exc e M => exact h.elim
  | bad => exact h.elim
theorem wp_of_eq {α : Type} {o : Out α} {a : α} {M : Sto} {P : α → Sto → Prop} (h : o = .ok a M) (k : P a M) : wp o P := by
  subst h; exact k
theorem ws_mono {o : OutS} {N N' : DEnv → Sto → Prop} {R R' : D → Sto → Prop} {B C B' C' : DEnv → Sto → Prop} (h : ws o N R B C) (hn : ∀ e M, N e M → N' e M) (hr : ∀ e M, R e M → R' e M) (hb : ∀ e M, B e M → B' e M) (hc : ∀ e M, C e M → C' e M) : ws o N' R' B' C' := by
  cases o with
  | nx e M => exact hn _ _ h
  | rt e M => exact hr _ _ h
  | bk e M => exact hb _ _ h
  | ct e M => exact hc _ _ h
  | exc x e M => exact h.elim
  | bad => exact h.elim
theorem wp_bind {α β : Type} {o : Out α} {f : α → Sto → Out β} {P : β → Sto → Prop} (h : wp o fun a M => wp (f a M) P) : wp (o.bind f) P := by
  cases o with
  | ok a M => exact h
  | exc e M => exact h.elim
  | bad => exact h.elim
theorem wp_no {α : Type} {o : Out α} {P : α → Sto → Prop} (h : wp o P) : wp (noExc o) P := by
  cases o with
  | ok a M => exact h
  | exc e M => exact h.elim
  | bad => exact h.elim
theorem ws_then {α : Type} {o : Out α} {env : DEnv} {f : α → Sto → OutS} {N : DEnv → Sto → Prop} {R : D → Sto → Prop} {B C : DEnv → Sto → Prop} (h : wp o fun a M => ws (f a M) N R B C) : ws (o.thenS env f) N R B C := by
  cases o with
  | ok a M => exact h
  | exc e M => exact h.elim
  | bad => exact h.elim
section
variable {env : DEnv} {M : Sto} {P : D → Sto → Prop} {PT : Bool → Sto → Prop} {PA : List D → Sto → Prop} {N : DEnv → Sto → Prop} {R : D → Sto → Prop} {B C : DEnv → Sto → Prop}
theorem wp_var {i : Nat} {d : D} (h : env[i]? = some (some d)) (k : P d M) : wp (mVar i env M) P := by
  unfold mVar; rw [h]; exact k
theorem wp_k {d : D} (k : P d M) : wp (mK d env M) P := k
theorem wp_m2 {f : Op2} {a b : DE} (h : wp (a env M) fun x M1 => wp (b env M1) fun y M2 => wp (f x y M2) P) : wp (m2 f a b env M) P :=
  wp_bind (wp_mono h fun _ _ h => wp_bind (wp_mono h fun _ _ h => wp_no h))
theorem wp_m1 {f : Op1} {a : DE} (h : wp (a env M) fun x M1 => wp (f x M1) P) : wp (m1 f a env M) P :=
  wp_bind (wp_mono h fun _ _ h => wp_no h)
theorem wp_mL {f : OpL} {a : DA} (h : wp (a env M) fun x M1 => wp (f x M1) P) : wp (mL f a env M) P :=
  wp_bind (wp_mono h fun _ _ h => wp_no h)
theorem wp_call {f : DFn} {a : DA} (h : wp (a env M) fun x M1 => wp (f x M1) P) : wp (mCall f a env M) P :=
  wp_bind (wp_mono h fun _ _ h => wp_no h)
theorem wp_call0 {f : DFn} (h : wp (f [] M) P) : wp (mCall0 f env M) P := wp_no h
theorem wp_nil (k : PA [] M) : wp (aNil env M) PA := k
theorem wp_cons {a : DE} {as : DA} (h : wp (a env M) fun x M1 => wp (as env M1) fun xs M2 => PA (x :: xs) M2) : wp (aCons a as env M) PA :=
  wp_bind (wp_mono h fun _ _ h => wp_bind (wp_mono h fun _ _ h => h))
theorem wp_tst {m : DE} (h : wp (m env M) fun x M1 => ∃ b, x = .bl b ∧ PT b M1) : wp (tst m env M) PT :=
  wp_bind (wp_mono h fun x M1 h => by obtain ⟨b, rfl, h⟩ := h; exact h)
theorem wp_ch {f g : Op2} {a b c : DE} (h : wp (a env M) fun x M1 => wp (b env M1) fun y M2 => wp (f x y M2) fun z M3 => ∃ k, z = .bl k ∧ ((k = false → P (.bl false) M3) ∧ (k = true → wp (c env M3) fun u M4 => wp (g y u M4) P))) : wp (mCh f g a b c env M) P := by
  unfold mCh
  refine wp_bind (wp_mono h fun x M1 h => wp_bind (wp_mono h fun y M2 h => wp_bind (wp_no (wp_mono h fun z M3 h => ?_))))
  obtain ⟨k, rfl, h1, h2⟩ := h
  cases k
  · exact h1 rfl
  · exact wp_bind (wp_mono (h2 rfl) fun _ _ h => wp_no h)
theorem wp_and {a b : DE} (h : wp (a env M) fun x M1 => ∃ k, x = .bl k ∧ ((k = false → P (.bl false) M1) ∧ (k = true → wp (b env M1) P))) : wp (mAnd a b env M) P := by
  unfold mAnd
  refine wp_bind (wp_mono h fun x M1 h => ?_)
  obtain ⟨k, rfl, h1, h2⟩ := h
  cases k
  · exact h1 rfl
  · exact h2 rfl
theorem wp_or {a b : DE} (h : wp (a env M) fun x M1 => ∃ k, x = .bl k ∧ ((k = true → P (.bl true) M1) ∧ (k = false → wp (b env M1) P))) : wp (mOr a b env M) P := by
  unfold mOr
  refine wp_bind (wp_mono h fun x M1 h => ?_)
  obtain ⟨k, rfl, h1, h2⟩ := h
  cases k
  · exact h2 rfl
  · exact h1 rfl
theorem wp_not {a : DE} (h : wp (a env M) fun x M1 => ∃ k, x = .bl k ∧ P (.bl !k) M1) : wp (mNot a env M) P := by
  unfold mNot
  refine wp_bind (wp_mono h fun x M1 h => ?_)
  obtain ⟨k, rfl, h⟩ := h
  exact h
theorem wp_if {c : DT} {a b : DE} (h : wp (c env M) fun k M1 => (k = true → wp (a env M1) P) ∧ (k = false → wp (b env M1) P)) : wp (mIf c a b env M) P := by
  unfold mIf
  refine wp_bind (wp_mono h fun k M1 h => ?_)
  cases k
  · exact h.2 rfl
  · exact h.1 rfl
theorem wp_tup {as : DA} (h : wp (as env M) fun xs M1 => xs.length ≤ lim ∧ P (.tup xs) M1) : wp (mTup as env M) P := by
  unfold mTup
  refine wp_bind (wp_mono h fun xs M1 h => ?_)
  rw [if_pos h.1]; exact h.2
theorem wp_lst {as : DA} (h : wp (as env M) fun xs M1 => xs.length ≤ lim ∧ P (.lst xs) M1) : wp (mLst as env M) P := by
  unfold mLst
  refine wp_bind (wp_mono h fun xs M1 h => ?_)
  rw [if_pos h.1]; exact h.2
theorem wp_lstM {as : DA} (h : wp (as env M) fun xs M1 => (xs.length ≤ lim ∧ belows M1.length xs = true) ∧ P (.ref M1.length) (M1 ++ [.lst xs])) : wp (mLstM as env M) P := by
  unfold mLstM
  refine wp_bind (wp_mono h fun xs M1 h => ?_)
  rw [if_pos h.1]; exact h.2
theorem ws_nil (k : N env M) : ws (sNil env M) N R B C := k
theorem ws_seq {a b : DS} (h : ws (a env M) (fun e M1 => ws (b e M1) N R B C) R B C) : ws (sSeq a b env M) N R B C := by
  unfold sSeq
  cases ha : a env M with
  | nx e M1 => rw [ha] at h; exact h
  | rt d M1 => rw [ha] at h; exact h
  | bk e M1 => rw [ha] at h; exact h
  | ct e M1 => rw [ha] at h; exact h
  | exc x e M1 => rw [ha] at h; exact h.elim
  | bad => rw [ha] at h; exact h.elim
theorem ws_expr {e : DE} (h : wp (e env M) fun _ M1 => N env M1) : ws (sExpr e env M) N R B C := ws_then h
theorem ws_ret {e : DE} (h : wp (e env M) R) : ws (sRet e env M) N R B C := ws_then h
theorem ws_retN (k : R .non M) : ws (sRetN env M) N R B C := k
theorem ws_break (k : B env M) : ws (sBreak env M) N R B C := k
theorem ws_cont (k : C env M) : ws (sCont env M) N R B C := k
theorem ws_if {c : DT} {a b : DS} (h : wp (c env M) fun k M1 => (k = true → ws (a env M1) N R B C) ∧ (k = false → ws (b env M1) N R B C)) : ws (sIf c a b env M) N R B C := by
  refine ws_then (wp_mono h fun k M1 h => ?_)
  cases k
  · exact h.2 rfl
  · exact h.1 rfl
theorem ws_asg {e : DE} {g : DG} (h : wp (e env M) fun d M1 => ∃ p, g d env M1 = some p ∧ N p.1 p.2) : ws (sAsg e g env M) N R B C := by
  refine ws_then (wp_mono h fun d M1 h => ?_)
  obtain ⟨p, hp, h⟩ := h
  rw [hp]; exact h
theorem ws_set {e : DE} {i : Nat} (h : wp (e env M) fun d M1 => N (env.set i (some d)) M1) : ws (sAsg e (gN i) env M) N R B C :=
  ws_asg (wp_mono h fun d M1 h => ⟨_, rfl, h⟩)
theorem ws_put {e : DE} {put : D → D → D → Sto → Option Sto} {o i : DE} (h : wp (e env M) fun d M1 => wp (o env M1) fun x M2 => wp (i env M2) fun y M3 => ∃ M4, put x y d M3 = some M4 ∧ N env M4) : ws (sAsg e (gS put o i) env M) N R B C := by
  refine ws_asg (wp_mono h fun d M1 h => ?_)
  obtain ⟨x, M2, ho, h⟩ := wp_eq h
  obtain ⟨y, M3, hi, M4, hp, h⟩ := wp_eq h
  refine ⟨(env, M4), ?_, h⟩
  simp only [gS, ho, hi, hp, Option.map_some]
theorem ws_par {a b : DE} {i j : Nat} (h : wp (a env M) fun x M1 => wp (b env M1) fun y M2 => N ((env.set i (some x)).set j (some y)) M2) : ws (sPar i j a b env M) N R B C := by
  refine ws_then (wp_bind (wp_mono h fun x M1 h => wp_bind (wp_mono h fun y M2 h => h)))
theorem wp_rng1 {a : DA} {PS : Src → Sto → Prop} (h : wp (a env M) fun xs M1 => ∃ n, xs = [.int n] ∧ (-big ≤ n ∧ n ≤ big) ∧ PS (.imm (rngD 0 n.toNat)) M1) : wp (mRng1 a env M) PS := by
  unfold mRng1
  refine wp_bind (wp_mono h fun xs M1 h => ?_)
  obtain ⟨n, rfl, hn, h⟩ := h
  show wp (if -big ≤ n ∧ n ≤ big then Out.ok (Src.imm (rngD 0 n.toNat)) M1 else Out.bad) PS
  rw [if_pos hn]; exact h
end
theorem wp_fn {n N : Nat} {fin : Nat → D → Sto → Out D} {b : DS} {ds : List D} {M : Sto} {P : D → Sto → Prop} (hn : ds.length = n)
    (h : ws (b (ds.map some ++ List.replicate (N - n) none) M) (fun _ M' => wp (fin M.length .non M') P) (fun d M' => wp (fin M.length d M') P) (fun _ _ => False) fun _ _ => False) : wp (fnD n N fin b ds M) P := by
  unfold fnD
  rw [if_pos hn]
  cases ha : b (ds.map some ++ List.replicate (N - n) none) M with
  | nx e M1 => rw [ha] at h; exact h
  | rt d M1 => rw [ha] at h; exact h
  | bk e M1 => rw [ha] at h; exact h.elim
  | ct e M1 => rw [ha] at h; exact h.elim
  | exc x e M1 => rw [ha] at h; exact h.elim
  | bad => rw [ha] at h; exact h.elim
theorem wp_finP {k : Nat} {d : D} {M : Sto} {P : D → Sto → Prop} (hb : below k d = true) (hl : M.length = k) (h : P d M) : wp (finP k d M) P := by
  unfold finP
  rw [if_pos hb, ← hl, List.take_length]; exact h
theorem wp_finP' {k : Nat} {d : D} {M : Sto} {P : D → Sto → Prop} (hb : below k d = true) (h : P d (M.take k)) : wp (finP k d M) P := by
  unfold finP
  rw [if_pos hb]; exact h
/-- a loop over a fixed row -/
theorem ws_for {it : DI} {g : DG} {b : DS} {env : DEnv} {M : Sto} {N : DEnv → Sto → Prop} {R : D → Sto → Prop} {B C : DEnv → Sto → Prop} (I : List D → DEnv → Sto → Prop)
    (h0 : wp (it env M) fun s M1 => ∃ xs, s = .imm xs ∧ I xs env M1)
    (hend : ∀ e M, I [] e M → N e M)
    (hstep : ∀ x xs e M, I (x :: xs) e M → ∃ p, g x e M = some p ∧ ws (b p.1 p.2) (I xs) R N (I xs)) : ws (sFor it g b env M) N R B C := by
  refine ws_then (wp_mono h0 fun s M1 h => ?_)
  obtain ⟨xs, rfl, hI⟩ := h
  show ws (forL g b xs env M1) N R B C
  clear h0
  revert env M1 hI
  induction xs with
  | nil => intro env M1 hI; exact hend _ _ hI
  | cons x xs ih =>
    intro env M1 hI
    obtain ⟨p, hp, h⟩ := hstep _ _ _ _ hI
    unfold forL
    rw [hp]
    show ws (match b p.1 p.2 with
      | .nx e M' => forL g b xs e M'
      | .ct e M' => forL g b xs e M'
      | .bk e M' => .nx e M'
      | .rt d M' => .rt d M'
      | .exc x e M' => .exc x e M'
      | .bad => .bad) N R B C
    cases hb : b p.1 p.2 with
    | nx e M2 => rw [hb] at h; exact ih _ h
    | ct e M2 => rw [hb] at h; exact ih _ h
    | rt d M2 => rw [hb] at h; exact h
    | bk e M2 => rw [hb] at h; exact h
    | exc x e M2 => rw [hb] at h; exact h.elim
    | bad => rw [hb] at h; exact h.elim
/-! operators at whole numbers and texts -/
section
variable {M : Sto} {P : D → Sto → Prop}
theorem wd_add {i j : Int} (h : P (.int (i + j)) M) : wp (dAdd (.int i) (.int j) M) P := h
theorem wd_adds {x y : Str} (hl : x.length + y.length ≤ lim) (h : P (.str (x ++ y)) M) : wp (dAdd (.str x) (.str y) M) P := by
  unfold dAdd; simp only [hl, if_true]; exact h
theorem wd_sub {i j : Int} (h : P (.int (i - j)) M) : wp (dSub (.int i) (.int j) M) P := h
theorem lg_lt {n k : Nat} (h : n < 2 ^ k) (hk : 0 < k) : n.log2 < k := by
  by_cases h0 : n = 0
  · subst h0; rw [show Nat.log2 0 = 0 from by decide]; exact hk
  · exact (Nat.log2_lt h0).2 h
theorem mulOk_of {i j : Int} (hi : i.natAbs < 2 ^ 1000) (hj : j.natAbs < 2 ^ 1000) : mulOk i j = true := by
  have h1 := lg_lt hi (by decide)
  have h2 := lg_lt hj (by decide)
  unfold mulOk
  rw [decide_eq_true_eq]; omega
theorem wd_mul {i j : Int} (hk : mulOk i j = true) (h : P (.int (i * j)) M) : wp (dMul (.int i) (.int j) M) P := by
  unfold dMul; simp only [hk, if_true]; exact h
theorem wd_mod {i j : Int} (hk : 0 < j) (h : P (.int (i % j)) M) : wp (dMod (.int i) (.int j) M) P := by
  unfold dMod; simp only [hk, if_true]; exact h
theorem divOk_of {j : Int} (h0 : 0 < j) (h : j.natAbs < 2 ^ 1000) : divOk j = true := by
  have h1 := lg_lt h (by decide)
  unfold divOk
  rw [Bool.and_eq_true, decide_eq_true_eq, decide_eq_true_eq]
  exact ⟨h0, by omega⟩
theorem wd_div {i j : Int} (hk : divOk j = true) (h : P (.int (i / j)) M) : wp (dDiv (.int i) (.int j) M) P := by
  unfold dDiv; simp only [hk, if_true]; exact h
theorem wd_pow {i j : Int} (hk : powOk i j = true) (h : P (.int (i ^ j.toNat)) M) : wp (dPow (.int i) (.int j) M) P := by
  unfold dPow; simp only [hk, if_true]; exact h
theorem wd_neg {i : Int} (h : P (.int (-i)) M) : wp (dNeg (.int i) M) P := h
theorem wd_lt {i j : Int} (h : P (.bl (decide (i < j))) M) : wp (dLt (.int i) (.int j) M) P := h
theorem wd_le {i j : Int} (h : P (.bl (decide (i ≤ j))) M) : wp (dLe (.int i) (.int j) M) P := h
theorem wd_gt {i j : Int} (h : P (.bl (decide (j < i))) M) : wp (dGt (.int i) (.int j) M) P := h
theorem wd_ge {i j : Int} (h : P (.bl (decide (j ≤ i))) M) : wp (dGe (.int i) (.int j) M) P := h
theorem wd_eq {a b : D} {k : Bool} (hk : eqD M a b = some k) (h : P (.bl k) M) : wp (dEq a b M) P := by
  unfold dEq; rw [hk]; exact h
theorem wd_ne {a b : D} {k : Bool} (hk : eqD M a b = some k) (h : P (.bl !k) M) : wp (dNe a b M) P := by
  unfold dNe; rw [hk]; exact h
theorem wd_int {i : Int} (h : P (.int i) M) : wp (dInt [.int i] M) P := h
theorem wd_intb {b : Bool} (h : P (.int (if b = true then 1 else 0)) M) : wp (dInt [.bl b] M) P := h
theorem wd_abs {i : Int} (h : P (.int i.natAbs) M) : wp (dAbs [.int i] M) P := by
  have e : (if i < 0 then -i else i) = (i.natAbs : Int) := by split <;> omega
  show P (.int (if i < 0 then -i else i)) M
  rw [e]; exact h
theorem wd_max2 {i j : Int} (h : P (.int (if j > i then j else i)) M) : wp (dMax2 [.int i, .int j] M) P := h
theorem wd_min2 {i j : Int} (h : P (.int (if j < i then j else i)) M) : wp (dMin2 [.int i, .int j] M) P := h
theorem wd_len {d : D} {xs : List D} (hs : seqD M d = some xs) (h : P (.int xs.length) M) : wp (dLen [d] M) P := by
  cases d <;> first | (simp only [dLen, hs]; exact h) | simp only [seqD, reduceCtorEq] at hs
theorem wd_lens {x : Str} (hx : x.length ≤ lim) (h : P (.int x.length) M) : wp (dLen [.str x] M) P := by
  simp only [dLen, hx, if_true]; exact h
theorem wd_isi {d : D} {n : TyN} {t : TyV} (ht : tyOf M d = some t) (h : P (.bl (isB t n)) M) : wp (dIsi [d, .ty n] M) P := by
  simp only [dIsi, ht]; exact h
theorem wd_ix {d : D} {xs : List D} {i : Int} {x : D} (hs : seqD M d = some xs) (hx : atD xs i = some x) (h : P x M) : wp (dIx d (.int i) M) P := by
  cases d <;> first | (simp only [dIx, hs, hx]; exact h) | simp only [seqD, reduceCtorEq] at hs
theorem wd_inS {x y : Str} (h : P (.bl (inStr x y)) M) : wp (dInS (.str x) (.str y) M) P := h
theorem wd_str {i : Int} (hi : i.natAbs.log2 < 1920) (h : P (.str (toString i)) M) : wp (dStr [.int i] M) P := by
  simp only [dStr, hi, if_true]; exact h
end
end EV
namespace Law
open PySem PySem.Spec PyProof.Rows L2 EV
def topS (i : Nat) : Stmt := PySem.Challenge.pw_onebetween_k00_integers_and_letters.main.body.getD i (.Pass ⟨0, 0, 0, 0⟩)
abbrev s_is_integer : Stmt := topS 4
abbrev N_is_integer : List Str := ["value"]
abbrev P_is_integer : List Str := ["value"]
theorem sc_is_integer : FnScope N_is_integer P_is_integer (defScope s_is_integer) := ⟨rfl, rfl, rfl, by decide +kernel, rfl, by decide +kernel, by decide +kernel⟩
abbrev s_is_count : Stmt := topS 5
abbrev N_is_count : List Str := ["value"]
abbrev P_is_count : List Str := ["value"]
theorem sc_is_count : FnScope N_is_count P_is_count (defScope s_is_count) := ⟨rfl, rfl, rfl, by decide +kernel, rfl, by decide +kernel, by decide +kernel⟩
abbrev s_is_letter : Stmt := topS 6
abbrev N_is_letter : List Str := ["value"]
abbrev P_is_letter : List Str := ["value"]
theorem sc_is_letter : FnScope N_is_letter P_is_letter (defScope s_is_letter) := ⟨rfl, rfl, rfl, by decide +kernel, rfl, by decide +kernel, by decide +kernel⟩
abbrev s__law_dice : Stmt := topS 8
abbrev N__law_dice : List Str := ["script", "spot", "cell", "left"]
abbrev P__law_dice : List Str := ["script", "spot"]
theorem sc__law_dice : FnScope N__law_dice P__law_dice (defScope s__law_dice) := ⟨rfl, rfl, rfl, by decide +kernel, rfl, by decide +kernel, by decide +kernel⟩
abbrev s__law_roll : Stmt := topS 9
abbrev N__law_roll : List Str := ["dice", "total", "found", "one", "two"]
abbrev P__law_roll : List Str := ["dice", "total"]
theorem sc__law_roll : FnScope N__law_roll P__law_roll (defScope s__law_roll) := ⟨rfl, rfl, rfl, by decide +kernel, rfl, by decide +kernel, by decide +kernel⟩
abbrev s__law_pick : Stmt := topS 10
abbrev N__law_pick : List Str := ["dice", "items"]
abbrev P__law_pick : List Str := ["dice", "items"]
theorem sc__law_pick : FnScope N__law_pick P__law_pick (defScope s__law_pick) := ⟨rfl, rfl, rfl, by decide +kernel, rfl, by decide +kernel, by decide +kernel⟩
abbrev s__law_limit : Stmt := topS 11
abbrev N__law_limit : List Str := []
abbrev P__law_limit : List Str := []
theorem sc__law_limit : FnScope N__law_limit P__law_limit (defScope s__law_limit) := ⟨rfl, rfl, rfl, by decide +kernel, rfl, by decide +kernel, by decide +kernel⟩
abbrev s__law_drawn_number : Stmt := topS 12
abbrev N__law_drawn_number : List Str := ["dice", "near", "number"]
abbrev P__law_drawn_number : List Str := ["dice"]
theorem sc__law_drawn_number : FnScope N__law_drawn_number P__law_drawn_number (defScope s__law_drawn_number) := ⟨rfl, rfl, rfl, by decide +kernel, rfl, by decide +kernel, by decide +kernel⟩
abbrev s_law : Stmt := topS 13
abbrev N_law : List Str := ["script", "signs", "spot", "dice", "turn", "number", "sign", "text", "is_short", "told", "odd"]
abbrev P_law : List Str := ["script"]
theorem sc_law : FnScope N_law P_law (defScope s_law) := ⟨rfl, rfl, rfl, by decide +kernel, rfl, by decide +kernel, by decide +kernel⟩
def c_LETTERS : Str := "abcdefghijklmnopqrstuvwxyz"
def c_LIMIT : Int := 100000000000000000000000000000000000000000000000000000000000000000000000000000000000000000000000000000000000000000000000000000000000000000000000000000000000000000000000000000000000000000000000000000000
def c_MAX_FIGURES : Int := 200
def b_is_integer : DS :=
  (sRet (mAnd (mL dIsi (aCons (mVar 0) (aCons (mK (.ty .int)) aNil))) (mAnd (mNot (mL dIsi (aCons (mVar 0) (aCons (mK (.ty .bool)) aNil)))) (mCh dLt dLt (m1 dNeg (mK (.int c_LIMIT))) (mVar 0) (mK (.int c_LIMIT))))))
def F_is_integer : DFn := fnD P_is_integer.length N_is_integer.length finP b_is_integer
def b_is_count : DS :=
  (sRet (mAnd (mCall F_is_integer (aCons (mVar 0) aNil)) (m2 dGe (mVar 0) (mK (.int 0)))))
def F_is_count : DFn := fnD P_is_count.length N_is_count.length finP b_is_count
def b_is_letter : DS :=
  (sRet (mAnd (mL dIsi (aCons (mVar 0) (aCons (mK (.ty .str)) aNil))) (mAnd (m2 dEq (mL dLen (aCons (mVar 0) aNil)) (mK (.int 1))) (m2 dInS (mVar 0) (mK (.str c_LETTERS))))))
def F_is_letter : DFn := fnD P_is_letter.length N_is_letter.length finP b_is_letter
def b__law_dice : DS :=
  (sSeq (sAsg (mIf (tst (m2 dLt (mVar 1) (mL dLen (aCons (mVar 0) aNil)))) (mL dInt (aCons (m2 dIx (mVar 0) (mVar 1)) aNil)) (m2 dAdd (m2 dMul (mK (.int 73)) (mVar 1)) (mK (.int 37)))) (gN 2))
  (sSeq (sAsg (m2 dMod (mL dMax2 (aCons (mK (.int 0)) (aCons (m2 dSub (mL dAbs (aCons (mVar 2) aNil)) (m2 dPow (mK (.int 10)) (mK (.int 15)))) aNil))) (m2 dMul (m2 dPow (mK (.int 10)) (mK (.int 60))) (m2 dPow (mK (.int 10)) (mK (.int 60))))) (gN 3))
  (sRet (mLstM (aCons (mVar 3) (aCons (m2 dAdd (m2 dAdd (m2 dAdd (m2 dMul (m2 dMod (mL dAbs (aCons (mVar 2) aNil)) (mK (.int 1152921504606846809))) (mK (.int 47))) (m2 dMul (mK (.int 1013)) (mVar 1))) (m2 dMul (mK (.int 37)) (mL dInt (aCons (m2 dLt (mVar 2) (mK (.int 0))) aNil)))) (mK (.int 13))) (aCons (mK (.int 0)) aNil)))))))
def F__law_dice : DFn := fnD P__law_dice.length N__law_dice.length finO b__law_dice
def b__law_roll : DS :=
  (sSeq (sIf (tst (m2 dGt (m2 dIx (mVar 0) (mK (.int 0))) (mK (.int 0)))) (sSeq (sAsg (m2 dMod (mL dInt (aCons (m2 dIx (mVar 0) (mK (.int 0))) aNil)) (mVar 1)) (gN 2))
  (sSeq (sAsg (m2 dDiv (m2 dIx (mVar 0) (mK (.int 0))) (mVar 1)) (gS putL (mVar 0) (mK (.int 0))))
  (sRet (mVar 2)))) sNil)
  (sSeq (sAsg (m2 dAdd (m2 dIx (mVar 0) (mK (.int 2))) (mK (.int 1))) (gS putL (mVar 0) (mK (.int 2))))
  (sSeq (sAsg (m2 dMod (mL dInt (aCons (m2 dAdd (m2 dIx (mVar 0) (mK (.int 1))) (m2 dMul (mK (.int 86028121)) (m2 dIx (mVar 0) (mK (.int 2))))) aNil)) (mK (.int 2305843009213693669))) (gN 3))
  (sSeq (sAsg (m2 dAdd (m2 dMul (m2 dMod (mL dInt (aCons (m2 dAdd (m2 dMul (mVar 3) (mVar 3)) (m2 dMul (mK (.int 97)) (m2 dIx (mVar 0) (mK (.int 2))))) aNil)) (mK (.int 1152921504606846779))) (mK (.int 7368787))) (mVar 3)) (gN 4))
  (sRet (m2 dMod (mL dInt (aCons (m2 dDiv (mVar 4) (mK (.int 131072))) aNil)) (mVar 1)))))))
def F__law_roll : DFn := fnD P__law_roll.length N__law_roll.length finP b__law_roll
def b__law_pick : DS :=
  (sRet (m2 dIx (mVar 1) (mCall F__law_roll (aCons (mVar 0) (aCons (mL dLen (aCons (mVar 1) aNil)) aNil)))))
def F__law_pick : DFn := fnD P__law_pick.length N__law_pick.length finP b__law_pick
def b__law_limit : DS :=
  (sRet (m2 dPow (m2 dPow (mK (.int 10)) (mK (.int 50))) (mK (.int 4))))
def F__law_limit : DFn := fnD P__law_limit.length N__law_limit.length finP b__law_limit
def b__law_drawn_number : DS :=
  (sSeq (sAsg (mLst (aCons (mK (.int 0)) (aCons (mK (.int 1)) (aCons (mK (.int 10)) (aCons (m2 dPow (mK (.int 10)) (mK (.int 20))) (aCons (m2 dDiv (mCall0 F__law_limit) (mK (.int 10))) (aCons (mCall0 F__law_limit) (aCons (mCall0 F__law_limit) (aCons (m2 dMul (mCall0 F__law_limit) (m2 dPow (mK (.int 10)) (mK (.int 30)))) aNil))))))))) (gN 1))
  (sSeq (sAsg (m2 dSub (m2 dAdd (mCall F__law_pick (aCons (mVar 0) (aCons (mVar 1) aNil))) (mCall F__law_roll (aCons (mVar 0) (aCons (mK (.int 5)) aNil)))) (mK (.int 2))) (gN 2))
  (sRet (mIf (tst (m2 dEq (mCall F__law_roll (aCons (mVar 0) (aCons (mK (.int 2)) aNil))) (mK (.int 0)))) (m2 dSub (mK (.int 0)) (mVar 2)) (mVar 2)))))
def F__law_drawn_number : DFn := fnD P__law_drawn_number.length N__law_drawn_number.length finP b__law_drawn_number
def b_law : DS :=
  (sSeq (sAsg (mK (.str "abcdefghijklmnopqrstuvwxyzABMZ0159 _-.,+*{}[]@")) (gN 1))
  (sSeq (sFor (mRng1 (aCons (mL dMax2 (aCons (mK (.int 1)) (aCons (mL dMin2 (aCons (mK (.int 5)) (aCons (mL dLen (aCons (mVar 0) aNil)) aNil))) aNil))) aNil)) (gN 2)
  (sSeq (sAsg (mCall F__law_dice (aCons (mVar 0) (aCons (mVar 2) aNil))) (gN 3))
  (sSeq (sFor (mRng1 (aCons (mK (.int 4)) aNil)) (gN 4)
  (sSeq (sPar 5 6 (mCall F__law_drawn_number (aCons (mVar 3) aNil)) (m2 dIx (mVar 1) (mCall F__law_roll (aCons (mVar 3) (aCons (mL dLen (aCons (mVar 1) aNil)) aNil)))))
  (sSeq (sAsg (m2 dAdd (mVar 6) (mCall F__law_pick (aCons (mVar 3) (aCons (mLst (aCons (mK (.str "")) (aCons (mK (.str "")) (aCons (mK (.str "")) (aCons (mK (.str "a")) (aCons (mK (.str " ")) (aCons (mK (.str "*")) aNil))))))) aNil)))) (gN 7))
  (sSeq (sAsg (m2 dLe (mL dLen (aCons (mL dStr (aCons (mL dAbs (aCons (mVar 5) aNil)) aNil)) aNil)) (mK (.int 200))) (gN 8))
  (sSeq (sAsg (mLst (aCons (mCall F_is_integer (aCons (mVar 5) aNil)) (aCons (mCall F_is_count (aCons (mVar 5) aNil)) (aCons (mCall F_is_letter (aCons (mVar 7) aNil)) (aCons (mCall F_is_letter (aCons (mVar 5) aNil)) aNil))))) (gN 9))
  (sIf (tst (m2 dNe (mL dRepr (aCons (mVar 9) aNil)) (mL dRepr (aCons (mLst (aCons (mVar 8) (aCons (mAnd (mVar 8) (m2 dGe (mVar 5) (mK (.int 0)))) (aCons (mAnd (m2 dEq (mL dLen (aCons (mVar 7) aNil)) (mK (.int 1))) (mCh dLe dLe (mK (.str "a")) (mVar 7) (mK (.str "z")))) (aCons (mK (.bl false)) aNil))))) aNil)))) (sRet (mK (.bl false))) sNil))))))
  (sSeq (sAsg (mCall F__law_pick (aCons (mVar 3) (aCons (mLst (aCons (mK .non) (aCons (mK (.bl true)) (aCons (mK (.bl false)) (aCons (mK (.str "7")) (aCons (mTup aNil) (aCons (mTup (aCons (mK (.int 7)) aNil)) (aCons (mLst (aCons (mK (.int 7)) aNil)) (aCons (mDct (pCons (mK (.int 7)) (mK (.int 7)) pNil)) (aCons (mTup (aCons (mK (.str "a")) aNil)) (aCons (mLst (aCons (mK (.str "a")) aNil)) (aCons (mK (.str "")) (aCons (mK (.str "ab")) (aCons (mDct (pCons (mK (.str "a")) (mK (.int 1)) pNil)) (aCons (mK (.str "\n")) aNil))))))))))))))) aNil))) (gN 10))
  (sIf (tst (m2 dNe (mLst (aCons (mCall F_is_integer (aCons (mVar 10) aNil)) (aCons (mCall F_is_count (aCons (mVar 10) aNil)) (aCons (mCall F_is_letter (aCons (mVar 10) aNil)) aNil)))) (mLst (aCons (mK (.bl false)) (aCons (mK (.bl false)) (aCons (mK (.bl false)) aNil)))))) (sRet (mK (.bl false))) sNil)))))
  (sRet (m2 dEq (mLst (aCons (mCall F_is_integer (aCons (mK (.int 0)) aNil)) (aCons (mCall F_is_count (aCons (mK (.int 0)) aNil)) (aCons (mCall F_is_count (aCons (m2 dSub (mK (.int 0)) (mK (.int 1))) aNil)) (aCons (mK (.int c_MAX_FIGURES)) aNil))))) (mLst (aCons (mK (.bl true)) (aCons (mK (.bl true)) (aCons (mK (.bl false)) (aCons (mK (.int 200)) aNil)))))))))
def F_law : DFn := fnD P_law.length N_law.length finP b_law
/-- what stands in the module -/
structure Txt (K : PySem.W.Frag) (mg : Str → Option Value) : Prop where
  z_abs : mg "abs" = none
  z_bool : mg "bool" = none
  z_int : mg "int" = none
  z_isinstance : mg "isinstance" = none
  z_len : mg "len" = none
  z_max : mg "max" = none
  z_min : mg "min" = none
  z_range : mg "range" = none
  z_repr : mg "repr" = none
  z_str : mg "str" = none
  c_LETTERS : ∃ t, mg "LETTERS" = some (.str c_LETTERS t)
  c_LIMIT : ∃ t, mg "LIMIT" = some (.int c_LIMIT t)
  c_MAX_FIGURES : ∃ t, mg "MAX_FIGURES" = some (.int c_MAX_FIGURES t)
  d_is_integer : DefAt K mg "is_integer" s_is_integer P_is_integer
  d_is_count : DefAt K mg "is_count" s_is_count P_is_count
  d_is_letter : DefAt K mg "is_letter" s_is_letter P_is_letter
  d__law_dice : DefAt K mg "_law_dice" s__law_dice P__law_dice
  d__law_roll : DefAt K mg "_law_roll" s__law_roll P__law_roll
  d__law_pick : DefAt K mg "_law_pick" s__law_pick P__law_pick
  d__law_limit : DefAt K mg "_law_limit" s__law_limit P__law_limit
  d__law_drawn_number : DefAt K mg "_law_drawn_number" s__law_drawn_number P__law_drawn_number
  d_law : DefAt K mg "law" s_law P_law
section
variable {P : Program} {w : World} {K : PySem.W.Frag} {mg : Str → Option Value} {base : Heap}
set_option maxHeartbeats 4000000 in
theorem ok_is_integer (T : Txt K mg) {k : Nat} (hk : 1 ≤ k) : FnAt P w K mg base k "is_integer" P_is_integer.length F_is_integer := by
  obtain ⟨f, fd, Fn, hm, hb⟩ := T.d_is_integer
  refine FnAt.mono (FnAt.mk' (k := 0) (b := b_is_integer) finP_ok Fn hm hb sc_is_integer ?_) hk
  intro cdv A outer s H E hr hgd
  have sc := sc_is_integer
  have hu := hr.units
  exact (evs_one (evs_ret (ev_and (ev_callB r_isi (by rfl) T.z_isinstance bb_isinstance (eva_cons (ev_var 0) (eva_cons (ev_ty (n := .int) (by rfl) T.z_int bt_int) eva_nil))) (ev_and (ev_not (ev_callB r_isi (by rfl) T.z_isinstance bb_isinstance (eva_cons (ev_var 0) (eva_cons (ev_ty (n := .bool) (by rfl) T.z_bool bt_bool) eva_nil)))) (ev_one (ev_chain r_lt r_lt (ev_un r_neg (ev_gint (by rfl) T.c_LIMIT)) (ev_var 0) (ev_gint (by rfl) T.c_LIMIT)))))))
set_option maxHeartbeats 4000000 in
theorem ok_is_count (T : Txt K mg) {k : Nat} (hk : 2 ≤ k) : FnAt P w K mg base k "is_count" P_is_count.length F_is_count := by
  obtain ⟨f, fd, Fn, hm, hb⟩ := T.d_is_count
  refine FnAt.mono (FnAt.mk' (k := 1) (b := b_is_count) finP_ok Fn hm hb sc_is_count ?_) hk
  intro cdv A outer s H E hr hgd
  have sc := sc_is_count
  have hu := hr.units
  exact (evs_one (evs_ret (ev_and (ev_call (ok_is_integer T (by decide)) hr hgd (by rfl) (eva_cons (ev_var 0) eva_nil)) (ev_one (ev_cmp r_ge (ev_var 0) ev_int (nomark _))))))
set_option maxHeartbeats 4000000 in
theorem ok_is_letter (T : Txt K mg) {k : Nat} (hk : 1 ≤ k) : FnAt P w K mg base k "is_letter" P_is_letter.length F_is_letter := by
  obtain ⟨f, fd, Fn, hm, hb⟩ := T.d_is_letter
  refine FnAt.mono (FnAt.mk' (k := 0) (b := b_is_letter) finP_ok Fn hm hb sc_is_letter ?_) hk
  intro cdv A outer s H E hr hgd
  have sc := sc_is_letter
  have hu := hr.units
  exact (evs_one (evs_ret (ev_and (ev_callB r_isi (by rfl) T.z_isinstance bb_isinstance (eva_cons (ev_var 0) (eva_cons (ev_ty (n := .str) (by rfl) T.z_str bt_str) eva_nil))) (ev_and (ev_cmp (r_eq hu) (ev_callB r_len (by rfl) T.z_len bb_len (eva_cons (ev_var 0) eva_nil)) ev_int (nomark _)) (ev_one (ev_cmp r_inS (ev_var 0) (ev_gstr (by rfl) T.c_LETTERS) (by rfl)))))))
set_option maxHeartbeats 4000000 in
theorem ok__law_dice (T : Txt K mg) {k : Nat} (hk : 1 ≤ k) : FnAt P w K mg base k "_law_dice" P__law_dice.length F__law_dice := by
  obtain ⟨f, fd, Fn, hm, hb⟩ := T.d__law_dice
  refine FnAt.mono (FnAt.mk' (k := 0) (b := b__law_dice) finO_ok Fn hm hb sc__law_dice ?_) hk
  intro cdv A outer s H E hr hgd
  have sc := sc__law_dice
  have hu := hr.units
  exact (evs_cons (evs_set (i := 2) sc.nd rfl (Or.inl rfl) (ev_if (evt_cmp r_lt (ev_var 1) (ev_callB r_len (by rfl) T.z_len bb_len (eva_cons (ev_var 0) eva_nil)) (nomark _)) (ev_callT r_int (by rfl) T.z_int bt_int (eva_cons (ev_ix r_ix (ev_var 0) (ev_var 1)) eva_nil)) (ev_bin r_add (ev_bin r_mul ev_int (ev_var 1)) ev_int)))
      (evs_cons (evs_set (i := 3) sc.nd rfl (Or.inl rfl) (ev_bin r_mod (ev_callB (r_max2 rfl) (by rfl) T.z_max bb_max (eva_cons ev_int (eva_cons (ev_bin r_sub (ev_callB r_abs (by rfl) T.z_abs bb_abs (eva_cons (ev_var 2) eva_nil)) (ev_bin r_pow ev_int ev_int)) eva_nil))) (ev_bin r_mul (ev_bin r_pow ev_int ev_int) (ev_bin r_pow ev_int ev_int))))
      (evs_one (evs_ret (ev_lstM (eva_cons (ev_var 3) (eva_cons (ev_bin r_add (ev_bin r_add (ev_bin r_add (ev_bin r_mul (ev_bin r_mod (ev_callB r_abs (by rfl) T.z_abs bb_abs (eva_cons (ev_var 2) eva_nil)) ev_int) ev_int) (ev_bin r_mul ev_int (ev_var 1))) (ev_bin r_mul ev_int (ev_callT r_int (by rfl) T.z_int bt_int (eva_cons (ev_cmp r_lt (ev_var 2) ev_int (nomark _)) eva_nil)))) ev_int) (eva_cons ev_int eva_nil))))))))
set_option maxHeartbeats 4000000 in
theorem ok__law_roll (T : Txt K mg) {k : Nat} (hk : 1 ≤ k) : FnAt P w K mg base k "_law_roll" P__law_roll.length F__law_roll := by
  obtain ⟨f, fd, Fn, hm, hb⟩ := T.d__law_roll
  refine FnAt.mono (FnAt.mk' (k := 0) (b := b__law_roll) finP_ok Fn hm hb sc__law_roll ?_) hk
  intro cdv A outer s H E hr hgd
  have sc := sc__law_roll
  have hu := hr.units
  exact (evs_cons (evs_if (evt_cmp r_gt (ev_ix r_ix (ev_var 0) ev_int) ev_int (nomark _)) (evs_cons (evs_set (i := 2) sc.nd rfl (Or.inl rfl) (ev_bin r_mod (ev_callT r_int (by rfl) T.z_int bt_int (eva_cons (ev_ix r_ix (ev_var 0) ev_int) eva_nil)) (ev_var 1)))
      (evs_cons (evs_asg (ev_bin r_div (ev_ix r_ix (ev_var 0) ev_int) (ev_var 1)) (evg_sub (W := W0) (ev_var 0) ev_int s_putL))
      (evs_one (evs_ret (ev_var 2))))) evs_nil)
      (evs_cons (evs_asg (ev_bin r_add (ev_ix r_ix (ev_var 0) ev_int) ev_int) (evg_sub (W := W0) (ev_var 0) ev_int s_putL))
      (evs_cons (evs_set (i := 3) sc.nd rfl (Or.inl rfl) (ev_bin r_mod (ev_callT r_int (by rfl) T.z_int bt_int (eva_cons (ev_bin r_add (ev_ix r_ix (ev_var 0) ev_int) (ev_bin r_mul ev_int (ev_ix r_ix (ev_var 0) ev_int))) eva_nil)) ev_int))
      (evs_cons (evs_set (i := 4) sc.nd rfl (Or.inl rfl) (ev_bin r_add (ev_bin r_mul (ev_bin r_mod (ev_callT r_int (by rfl) T.z_int bt_int (eva_cons (ev_bin r_add (ev_bin r_mul (ev_var 3) (ev_var 3)) (ev_bin r_mul ev_int (ev_ix r_ix (ev_var 0) ev_int))) eva_nil)) ev_int) ev_int) (ev_var 3)))
      (evs_one (evs_ret (ev_bin r_mod (ev_callT r_int (by rfl) T.z_int bt_int (eva_cons (ev_bin r_div (ev_var 4) ev_int) eva_nil)) (ev_var 1))))))))
set_option maxHeartbeats 4000000 in
theorem ok__law_pick (T : Txt K mg) {k : Nat} (hk : 2 ≤ k) : FnAt P w K mg base k "_law_pick" P__law_pick.length F__law_pick := by
  obtain ⟨f, fd, Fn, hm, hb⟩ := T.d__law_pick
  refine FnAt.mono (FnAt.mk' (k := 1) (b := b__law_pick) finP_ok Fn hm hb sc__law_pick ?_) hk
  intro cdv A outer s H E hr hgd
  have sc := sc__law_pick
  have hu := hr.units
  exact (evs_one (evs_ret (ev_ix r_ix (ev_var 1) (ev_call (ok__law_roll T (by decide)) hr hgd (by rfl) (eva_cons (ev_var 0) (eva_cons (ev_callB r_len (by rfl) T.z_len bb_len (eva_cons (ev_var 1) eva_nil)) eva_nil))))))
set_option maxHeartbeats 4000000 in
theorem ok__law_limit (T : Txt K mg) {k : Nat} (hk : 1 ≤ k) : FnAt P w K mg base k "_law_limit" P__law_limit.length F__law_limit := by
  obtain ⟨f, fd, Fn, hm, hb⟩ := T.d__law_limit
  refine FnAt.mono (FnAt.mk' (k := 0) (b := b__law_limit) finP_ok Fn hm hb sc__law_limit ?_) hk
  intro cdv A outer s H E hr hgd
  have sc := sc__law_limit
  have hu := hr.units
  exact (evs_one (evs_ret (ev_bin r_pow (ev_bin r_pow ev_int ev_int) ev_int)))
set_option maxHeartbeats 4000000 in
theorem ok__law_drawn_number (T : Txt K mg) {k : Nat} (hk : 3 ≤ k) : FnAt P w K mg base k "_law_drawn_number" P__law_drawn_number.length F__law_drawn_number := by
  obtain ⟨f, fd, Fn, hm, hb⟩ := T.d__law_drawn_number
  refine FnAt.mono (FnAt.mk' (k := 2) (b := b__law_drawn_number) finP_ok Fn hm hb sc__law_drawn_number ?_) hk
  intro cdv A outer s H E hr hgd
  have sc := sc__law_drawn_number
  have hu := hr.units
  exact (evs_cons (evs_set (i := 1) sc.nd rfl (Or.inl rfl) (ev_lst (eva_cons ev_int (eva_cons ev_int (eva_cons ev_int (eva_cons (ev_bin r_pow ev_int ev_int) (eva_cons (ev_bin r_div (ev_call0 (ok__law_limit T (by decide)) hr hgd (by rfl)) ev_int) (eva_cons (ev_call0 (ok__law_limit T (by decide)) hr hgd (by rfl)) (eva_cons (ev_call0 (ok__law_limit T (by decide)) hr hgd (by rfl)) (eva_cons (ev_bin r_mul (ev_call0 (ok__law_limit T (by decide)) hr hgd (by rfl)) (ev_bin r_pow ev_int ev_int)) eva_nil))))))))))
      (evs_cons (evs_set (i := 2) sc.nd rfl (Or.inl rfl) (ev_bin r_sub (ev_bin r_add (ev_call (ok__law_pick T (by decide)) hr hgd (by rfl) (eva_cons (ev_var 0) (eva_cons (ev_var 1) eva_nil))) (ev_call (ok__law_roll T (by decide)) hr hgd (by rfl) (eva_cons (ev_var 0) (eva_cons ev_int eva_nil)))) ev_int))
      (evs_one (evs_ret (ev_if (evt_cmp (r_eq hu) (ev_call (ok__law_roll T (by decide)) hr hgd (by rfl) (eva_cons (ev_var 0) (eva_cons ev_int eva_nil))) ev_int (nomark _)) (ev_bin r_sub ev_int (ev_var 2)) (ev_var 2))))))
set_option maxHeartbeats 4000000 in
theorem okG_law (T : Txt K mg) {f : Addr} {fd : FuncData} (Fn : L2.Fun K "law" "law" s_law f fd) : FnG P w K mg base CX0 4 f fd P_law (spD0 ⟨K, mg⟩ P_law.length F_law) := by
  refine fnD_ok (k := 3) (b := b_law) finP_ok Fn sc_law ?_
  intro cdv A outer s H E hr hgd
  have sc := sc_law
  have hu := hr.units
  exact (evs_cons (evs_set (i := 1) sc.nd rfl (Or.inl rfl) ev_str)
      (evs_cons (evs_for PassesOwn.never rfl (evi_range1 (by rfl) T.z_range (eva_cons (ev_callB (r_max2 rfl) (by rfl) T.z_max bb_max (eva_cons ev_int (eva_cons (ev_callB (r_min2 rfl) (by rfl) T.z_min bb_min (eva_cons ev_int (eva_cons (ev_callB r_len (by rfl) T.z_len bb_len (eva_cons (ev_var 0) eva_nil)) eva_nil))) eva_nil))) eva_nil)) (evg_name (i := 2) sc.nd rfl (Or.inl rfl))
      (evs_cons (evs_set (i := 3) sc.nd rfl (Or.inl rfl) (ev_call (ok__law_dice T (by decide)) hr hgd (by rfl) (eva_cons (ev_var 0) (eva_cons (ev_var 2) eva_nil))))
      (evs_cons (evs_for PassesOwn.never rfl (evi_range1 (by rfl) T.z_range (eva_cons ev_int eva_nil)) (evg_name (i := 4) sc.nd rfl (Or.inl rfl))
      (evs_cons (evs_par (i := 5) (j := 6) rfl sc.nd rfl rfl (by decide) rfl rfl (ev_call (ok__law_drawn_number T (by decide)) hr hgd (by rfl) (eva_cons (ev_var 3) eva_nil)) (ev_ix r_ix (ev_var 1) (ev_call (ok__law_roll T (by decide)) hr hgd (by rfl) (eva_cons (ev_var 3) (eva_cons (ev_callB r_len (by rfl) T.z_len bb_len (eva_cons (ev_var 1) eva_nil)) eva_nil)))))
      (evs_cons (evs_set (i := 7) sc.nd rfl (Or.inl rfl) (ev_bin r_add (ev_var 6) (ev_call (ok__law_pick T (by decide)) hr hgd (by rfl) (eva_cons (ev_var 3) (eva_cons (ev_lst (eva_cons ev_str (eva_cons ev_str (eva_cons ev_str (eva_cons ev_str (eva_cons ev_str (eva_cons ev_str eva_nil))))))) eva_nil)))))
      (evs_cons (evs_set (i := 8) sc.nd rfl (Or.inl rfl) (ev_cmp r_le (ev_callB r_len (by rfl) T.z_len bb_len (eva_cons (ev_callT r_str (by rfl) T.z_str bt_str (eva_cons (ev_callB r_abs (by rfl) T.z_abs bb_abs (eva_cons (ev_var 5) eva_nil)) eva_nil)) eva_nil)) ev_int (nomark _)))
      (evs_cons (evs_set (i := 9) sc.nd rfl (Or.inl rfl) (ev_lst (eva_cons (ev_call (ok_is_integer T (by decide)) hr hgd (by rfl) (eva_cons (ev_var 5) eva_nil)) (eva_cons (ev_call (ok_is_count T (by decide)) hr hgd (by rfl) (eva_cons (ev_var 5) eva_nil)) (eva_cons (ev_call (ok_is_letter T (by decide)) hr hgd (by rfl) (eva_cons (ev_var 7) eva_nil)) (eva_cons (ev_call (ok_is_letter T (by decide)) hr hgd (by rfl) (eva_cons (ev_var 5) eva_nil)) eva_nil))))))
      (evs_one (evs_if (evt_cmp (r_ne hu) (ev_callB (r_repr hgd hu) (by rfl) T.z_repr bb_repr (eva_cons (ev_var 9) eva_nil)) (ev_callB (r_repr hgd hu) (by rfl) T.z_repr bb_repr (eva_cons (ev_lst (eva_cons (ev_var 8) (eva_cons (ev_and (ev_var 8) (ev_one (ev_cmp r_ge (ev_var 5) ev_int (nomark _)))) (eva_cons (ev_and (ev_cmp (r_eq hu) (ev_callB r_len (by rfl) T.z_len bb_len (eva_cons (ev_var 7) eva_nil)) ev_int (nomark _)) (ev_one (ev_chain r_le r_le ev_str (ev_var 7) ev_str))) (eva_cons ev_bl eva_nil))))) eva_nil)) (nomark _)) (evs_one (evs_ret ev_bl)) evs_nil)))))))
      (evs_cons (evs_set (i := 10) sc.nd rfl (Or.inl rfl) (ev_call (ok__law_pick T (by decide)) hr hgd (by rfl) (eva_cons (ev_var 3) (eva_cons (ev_lst (eva_cons ev_non (eva_cons ev_bl (eva_cons ev_bl (eva_cons ev_str (eva_cons (ev_tup eva_nil) (eva_cons (ev_tup (eva_cons ev_int eva_nil)) (eva_cons (ev_lst (eva_cons ev_int eva_nil)) (eva_cons (ev_dct (evd_cons ev_int ev_int evd_nil)) (eva_cons (ev_tup (eva_cons ev_str eva_nil)) (eva_cons (ev_lst (eva_cons ev_str eva_nil)) (eva_cons ev_str (eva_cons ev_str (eva_cons (ev_dct (evd_cons ev_str ev_int evd_nil)) (eva_cons ev_str eva_nil))))))))))))))) eva_nil))))
      (evs_one (evs_if (evt_cmp (r_ne hu) (ev_lst (eva_cons (ev_call (ok_is_integer T (by decide)) hr hgd (by rfl) (eva_cons (ev_var 10) eva_nil)) (eva_cons (ev_call (ok_is_count T (by decide)) hr hgd (by rfl) (eva_cons (ev_var 10) eva_nil)) (eva_cons (ev_call (ok_is_letter T (by decide)) hr hgd (by rfl) (eva_cons (ev_var 10) eva_nil)) eva_nil)))) (ev_lst (eva_cons ev_bl (eva_cons ev_bl (eva_cons ev_bl eva_nil)))) (nomark _)) (evs_one (evs_ret ev_bl)) evs_nil))))))
      (evs_one (evs_ret (ev_cmp (r_eq hu) (ev_lst (eva_cons (ev_call (ok_is_integer T (by decide)) hr hgd (by rfl) (eva_cons ev_int eva_nil)) (eva_cons (ev_call (ok_is_count T (by decide)) hr hgd (by rfl) (eva_cons ev_int eva_nil)) (eva_cons (ev_call (ok_is_count T (by decide)) hr hgd (by rfl) (eva_cons (ev_bin r_sub ev_int ev_int) eva_nil)) (eva_cons (ev_gint (by rfl) T.c_MAX_FIGURES) eva_nil))))) (ev_lst (eva_cons ev_bl (eva_cons ev_bl (eva_cons ev_bl (eva_cons ev_int eva_nil))))) (nomark _))))))
end
theorem all_mk {l : PySem.W.OpenLaw} {w : World} {K : PySem.W.Frag} {h : Heap} {mg : Str → Option Value} {fa : Addr} (X : K.In h) (G : h.Ns mainGlobals mg) (hfa : mg "law" = some (.ref fa))
    {od0 an0 : Option Addr} {sl0 : Array (Option Value)} {oc0 kV0 dc0 pm0 cd0 ct0 : Value} {f0 : Addr}
    {od1 an1 : Option Addr} {sl1 : Array (Option Value)} {oc1 kV1 dc1 pm1 cd1 ct1 : Value} {f1 : Addr}
    {od2 an2 : Option Addr} {sl2 : Array (Option Value)} {oc2 kV2 dc2 pm2 cd2 ct2 : Value} {f2 : Addr}
    {od3 an3 : Option Addr} {sl3 : Array (Option Value)} {oc3 kV3 dc3 pm3 cd3 ct3 : Value} {f3 : Addr}
    {od4 an4 : Option Addr} {sl4 : Array (Option Value)} {oc4 kV4 dc4 pm4 cd4 ct4 : Value} {f4 : Addr}
    {od5 an5 : Option Addr} {sl5 : Array (Option Value)} {oc5 kV5 dc5 pm5 cd5 ct5 : Value} {f5 : Addr}
    {od6 an6 : Option Addr} {sl6 : Array (Option Value)} {oc6 kV6 dc6 pm6 cd6 ct6 : Value} {f6 : Addr}
    {od7 an7 : Option Addr} {sl7 : Array (Option Value)} {oc7 kV7 dc7 pm7 cd7 ct7 : Value} {f7 : Addr}
    {od8 an8 : Option Addr} {sl8 : Array (Option Value)} {oc8 kV8 dc8 pm8 cd8 ct8 : Value} {f8 : Addr}
    (a0 : PySem.W.nsIn K mainGlobals "is_integer" = some (some (.ref f0))) (l0 : K.lookup f0 = some ⟨oc0, od0, .func (PySem.W.fnOf "is_integer" "is_integer" (defArgs s_is_integer) (defBody s_is_integer) (defScope s_is_integer) .none kV0 dc0 pm0 an0 cd0 ct0), sl0⟩) (c0 : PySem.W.codeIn K cd0 "is_integer" = true) (k0 : PySem.W.keepIn K (.ref f0) = true)
    (a1 : PySem.W.nsIn K mainGlobals "is_count" = some (some (.ref f1))) (l1 : K.lookup f1 = some ⟨oc1, od1, .func (PySem.W.fnOf "is_count" "is_count" (defArgs s_is_count) (defBody s_is_count) (defScope s_is_count) .none kV1 dc1 pm1 an1 cd1 ct1), sl1⟩) (c1 : PySem.W.codeIn K cd1 "is_count" = true) (k1 : PySem.W.keepIn K (.ref f1) = true)
    (a2 : PySem.W.nsIn K mainGlobals "is_letter" = some (some (.ref f2))) (l2 : K.lookup f2 = some ⟨oc2, od2, .func (PySem.W.fnOf "is_letter" "is_letter" (defArgs s_is_letter) (defBody s_is_letter) (defScope s_is_letter) .none kV2 dc2 pm2 an2 cd2 ct2), sl2⟩) (c2 : PySem.W.codeIn K cd2 "is_letter" = true) (k2 : PySem.W.keepIn K (.ref f2) = true)
    (a3 : PySem.W.nsIn K mainGlobals "_law_dice" = some (some (.ref f3))) (l3 : K.lookup f3 = some ⟨oc3, od3, .func (PySem.W.fnOf "_law_dice" "_law_dice" (defArgs s__law_dice) (defBody s__law_dice) (defScope s__law_dice) .none kV3 dc3 pm3 an3 cd3 ct3), sl3⟩) (c3 : PySem.W.codeIn K cd3 "_law_dice" = true) (k3 : PySem.W.keepIn K (.ref f3) = true)
    (a4 : PySem.W.nsIn K mainGlobals "_law_roll" = some (some (.ref f4))) (l4 : K.lookup f4 = some ⟨oc4, od4, .func (PySem.W.fnOf "_law_roll" "_law_roll" (defArgs s__law_roll) (defBody s__law_roll) (defScope s__law_roll) .none kV4 dc4 pm4 an4 cd4 ct4), sl4⟩) (c4 : PySem.W.codeIn K cd4 "_law_roll" = true) (k4 : PySem.W.keepIn K (.ref f4) = true)
    (a5 : PySem.W.nsIn K mainGlobals "_law_pick" = some (some (.ref f5))) (l5 : K.lookup f5 = some ⟨oc5, od5, .func (PySem.W.fnOf "_law_pick" "_law_pick" (defArgs s__law_pick) (defBody s__law_pick) (defScope s__law_pick) .none kV5 dc5 pm5 an5 cd5 ct5), sl5⟩) (c5 : PySem.W.codeIn K cd5 "_law_pick" = true) (k5 : PySem.W.keepIn K (.ref f5) = true)
    (a6 : PySem.W.nsIn K mainGlobals "_law_limit" = some (some (.ref f6))) (l6 : K.lookup f6 = some ⟨oc6, od6, .func (PySem.W.fnOf "_law_limit" "_law_limit" (defArgs s__law_limit) (defBody s__law_limit) (defScope s__law_limit) .none kV6 dc6 pm6 an6 cd6 ct6), sl6⟩) (c6 : PySem.W.codeIn K cd6 "_law_limit" = true) (k6 : PySem.W.keepIn K (.ref f6) = true)
    (a7 : PySem.W.nsIn K mainGlobals "_law_drawn_number" = some (some (.ref f7))) (l7 : K.lookup f7 = some ⟨oc7, od7, .func (PySem.W.fnOf "_law_drawn_number" "_law_drawn_number" (defArgs s__law_drawn_number) (defBody s__law_drawn_number) (defScope s__law_drawn_number) .none kV7 dc7 pm7 an7 cd7 ct7), sl7⟩) (c7 : PySem.W.codeIn K cd7 "_law_drawn_number" = true) (k7 : PySem.W.keepIn K (.ref f7) = true)
    (a8 : PySem.W.nsIn K mainGlobals "law" = some (some (.ref f8))) (l8 : K.lookup f8 = some ⟨oc8, od8, .func (PySem.W.fnOf "law" "law" (defArgs s_law) (defBody s_law) (defScope s_law) .none kV8 dc8 pm8 an8 cd8 ct8), sl8⟩) (c8 : PySem.W.codeIn K cd8 "law" = true) (k8 : PySem.W.keepIn K (.ref f8) = true)
    (z_abs : PySem.W.nsIn K mainGlobals "abs" = some none)
    (z_bool : PySem.W.nsIn K mainGlobals "bool" = some none)
    (z_int : PySem.W.nsIn K mainGlobals "int" = some none)
    (z_isinstance : PySem.W.nsIn K mainGlobals "isinstance" = some none)
    (z_len : PySem.W.nsIn K mainGlobals "len" = some none)
    (z_max : PySem.W.nsIn K mainGlobals "max" = some none)
    (z_min : PySem.W.nsIn K mainGlobals "min" = some none)
    (z_range : PySem.W.nsIn K mainGlobals "range" = some none)
    (z_repr : PySem.W.nsIn K mainGlobals "repr" = some none)
    (z_str : PySem.W.nsIn K mainGlobals "str" = some none)
    {tk_LETTERS : Tok} (g_LETTERS : PySem.W.nsIn K mainGlobals "LETTERS" = some (some (.str c_LETTERS tk_LETTERS)))
    {tk_LIMIT : Tok} (g_LIMIT : PySem.W.nsIn K mainGlobals "LIMIT" = some (some (.int c_LIMIT tk_LIMIT)))
    {tk_MAX_FIGURES : Tok} (g_MAX_FIGURES : PySem.W.nsIn K mainGlobals "MAX_FIGURES" = some (some (.int c_MAX_FIGURES tk_MAX_FIGURES)))
    : ∃ fd : FuncData, (∀ (s : Shared) (u : Value), BindsTo s fd ⟨[u], []⟩ [("script", u)]) ∧ ∀ base : Heap, K.In base → base.Ns mainGlobals mg → FnG l.prog w K mg base CX0 4 fa fd ["script"] (spD0 ⟨K, mg⟩ 1 F_law) := by
  have T : Txt K mg := {
    z_abs := PySem.W.mg_none_of X G z_abs
    z_bool := PySem.W.mg_none_of X G z_bool
    z_int := PySem.W.mg_none_of X G z_int
    z_isinstance := PySem.W.mg_none_of X G z_isinstance
    z_len := PySem.W.mg_none_of X G z_len
    z_max := PySem.W.mg_none_of X G z_max
    z_min := PySem.W.mg_none_of X G z_min
    z_range := PySem.W.mg_none_of X G z_range
    z_repr := PySem.W.mg_none_of X G z_repr
    z_str := PySem.W.mg_none_of X G z_str
    c_LETTERS := ⟨_, PySem.W.mg_of X G g_LETTERS⟩
    c_LIMIT := ⟨_, PySem.W.mg_of X G g_LIMIT⟩
    c_MAX_FIGURES := ⟨_, PySem.W.mg_of X G g_MAX_FIGURES⟩
    d_is_integer := ⟨_, _, fun_mk (st := s_is_integer) l0 c0 k0, PySem.W.mg_of X G a0, (fun_mk (st := s_is_integer) l0 c0 k0).binds (ps := P_is_integer) fun _ _ _ _ _ _ us hl => match us, hl with | [_], _ => rfl⟩
    d_is_count := ⟨_, _, fun_mk (st := s_is_count) l1 c1 k1, PySem.W.mg_of X G a1, (fun_mk (st := s_is_count) l1 c1 k1).binds (ps := P_is_count) fun _ _ _ _ _ _ us hl => match us, hl with | [_], _ => rfl⟩
    d_is_letter := ⟨_, _, fun_mk (st := s_is_letter) l2 c2 k2, PySem.W.mg_of X G a2, (fun_mk (st := s_is_letter) l2 c2 k2).binds (ps := P_is_letter) fun _ _ _ _ _ _ us hl => match us, hl with | [_], _ => rfl⟩
    d__law_dice := ⟨_, _, fun_mk (st := s__law_dice) l3 c3 k3, PySem.W.mg_of X G a3, (fun_mk (st := s__law_dice) l3 c3 k3).binds (ps := P__law_dice) fun _ _ _ _ _ _ us hl => match us, hl with | [_, _], _ => rfl⟩
    d__law_roll := ⟨_, _, fun_mk (st := s__law_roll) l4 c4 k4, PySem.W.mg_of X G a4, (fun_mk (st := s__law_roll) l4 c4 k4).binds (ps := P__law_roll) fun _ _ _ _ _ _ us hl => match us, hl with | [_, _], _ => rfl⟩
    d__law_pick := ⟨_, _, fun_mk (st := s__law_pick) l5 c5 k5, PySem.W.mg_of X G a5, (fun_mk (st := s__law_pick) l5 c5 k5).binds (ps := P__law_pick) fun _ _ _ _ _ _ us hl => match us, hl with | [_, _], _ => rfl⟩
    d__law_limit := ⟨_, _, fun_mk (st := s__law_limit) l6 c6 k6, PySem.W.mg_of X G a6, (fun_mk (st := s__law_limit) l6 c6 k6).binds (ps := P__law_limit) fun _ _ _ _ _ _ us hl => match us, hl with | [], _ => rfl⟩
    d__law_drawn_number := ⟨_, _, fun_mk (st := s__law_drawn_number) l7 c7 k7, PySem.W.mg_of X G a7, (fun_mk (st := s__law_drawn_number) l7 c7 k7).binds (ps := P__law_drawn_number) fun _ _ _ _ _ _ us hl => match us, hl with | [_], _ => rfl⟩
    d_law := ⟨_, _, fun_mk (st := s_law) l8 c8 k8, PySem.W.mg_of X G a8, (fun_mk (st := s_law) l8 c8 k8).binds (ps := P_law) fun _ _ _ _ _ _ us hl => match us, hl with | [_], _ => rfl⟩
  }
  have e := hfa.symm.trans (PySem.W.mg_of X G a8)
  cases e
  refine ⟨_, fun s v => BindsTo.of_eq (fd := PySem.W.fnOf "law" "law" (defArgs s_law) (defBody s_law) (defScope s_law) .none kV8 dc8 pm8 an8 cd8 ct8) rfl, fun base _ _ => ?_⟩
  exact okG_law T (fun_mk (st := s_law) l8 c8 k8)

end Law
set_option maxHeartbeats 4000000
namespace Law
open PySem PySem.Spec PyProof.Rows L2 EV
local macro_rules | `(tactic| walk_at "wp") => `(tactic| repeat (first
  | with_reducible refine wp_var (by with_unfolding_all rfl) ?_ | with_reducible refine wp_k ?_ | with_reducible refine wp_cons ?_ | with_reducible refine wp_nil ?_ | with_reducible refine wp_m2 ?_ | with_reducible refine wp_mL ?_ | with_reducible refine wp_m1 ?_ | with_reducible refine wp_call ?_ | with_reducible refine wp_call0 ?_
  | with_reducible refine wd_add ?_ | with_reducible refine wd_sub ?_ | with_reducible refine wd_lt ?_ | with_reducible refine wd_le ?_ | with_reducible refine wd_gt ?_ | with_reducible refine wd_ge ?_ | with_reducible refine wd_int ?_ | with_reducible refine wd_intb ?_ | with_reducible refine wd_abs ?_ | with_reducible refine wd_max2 ?_ | with_reducible refine wd_min2 ?_ | with_reducible refine wd_neg ?_ | with_reducible refine wd_inS ?_
  | with_reducible refine wd_pow (by decide +kernel) ?_
  | with_reducible refine ws_seq ?_ | with_reducible refine ws_nil ?_ | with_reducible refine ws_set ?_ | with_reducible refine ws_put ?_ | with_reducible refine ws_par ?_ | with_reducible refine ws_if ?_ | with_reducible refine ws_ret ?_ | with_reducible refine ws_expr ?_
  | with_reducible refine wp_tst ?_ | with_reducible refine wp_if ?_ | with_reducible refine wp_and ?_ | with_reducible refine wp_or ?_ | with_reducible refine wp_not ?_ | with_reducible refine wp_ch ?_ | with_reducible refine wp_lst ?_ | with_reducible refine wp_tup ?_ | with_reducible refine wp_lstM ?_ | with_reducible refine wp_rng1 ?_
  | with_reducible refine ⟨_, rfl, ?_⟩))
local macro_rules | `(tactic| walk_at "e") => `(tactic| repeat (first
  | with_reducible refine wp_var (by with_unfolding_all rfl) ?_ | with_reducible refine wp_k ?_ | with_reducible refine wp_cons ?_ | with_reducible refine wp_nil ?_ | with_reducible refine wp_m2 ?_ | with_reducible refine wp_mL ?_ | with_reducible refine wp_m1 ?_ | with_reducible refine wp_call ?_ | with_reducible refine wp_call0 ?_
  | with_reducible refine wd_add ?_ | with_reducible refine wd_sub ?_ | with_reducible refine wd_lt ?_ | with_reducible refine wd_le ?_ | with_reducible refine wd_gt ?_ | with_reducible refine wd_ge ?_ | with_reducible refine wd_int ?_ | with_reducible refine wd_intb ?_ | with_reducible refine wd_abs ?_ | with_reducible refine wd_max2 ?_ | with_reducible refine wd_min2 ?_ | with_reducible refine wd_neg ?_ | with_reducible refine wd_inS ?_
  | with_reducible refine wd_pow (by decide +kernel) ?_
  | with_reducible refine wp_tst ?_ | with_reducible refine wp_if ?_ | with_reducible refine wp_and ?_ | with_reducible refine wp_or ?_ | with_reducible refine wp_not ?_ | with_reducible refine wp_ch ?_ | with_reducible refine wp_lst ?_ | with_reducible refine wp_tup ?_ | with_reducible refine wp_lstM ?_ | with_reducible refine wp_rng1 ?_
  | with_reducible refine ⟨_, rfl, ?_⟩))
theorem atD_get {xs : List D} {i : Nat} {x : D} (h : xs[i]? = some x) : atD xs (i : Int) = some x := by
  unfold atD
  rw [if_pos (by omega), Int.toNat_natCast]; exact h
theorem wd_modA {i j : Int} {M : Sto} {P : D → Sto → Prop} (hk : 0 < j) (h : ∀ r : Int, 0 ≤ r → r < j → P (.int r) M) : wp (dMod (.int i) (.int j) M) P :=
  wd_mod hk (h _ (Int.emod_nonneg _ (by omega)) (Int.emod_lt_of_pos _ hk))
theorem mul_of {i j : Int} (hi : -(2 ^ 200) < i ∧ i < 2 ^ 200) (hj : -(2 ^ 200) < j ∧ j < 2 ^ 200) : mulOk i j = true := by
  refine mulOk_of (Nat.lt_trans (m := 2 ^ 200) (by omega) (by decide +kernel)) (Nat.lt_trans (m := 2 ^ 200) (by omega) (by decide +kernel))
theorem wd_mulA {i j : Int} {M : Sto} {P : D → Sto → Prop} (hi : -(2 ^ 200) < i ∧ i < 2 ^ 200) (hj : -(2 ^ 200) < j ∧ j < 2 ^ 200) (h : P (.int (i * j)) M) : wp (dMul (.int i) (.int j) M) P :=
  wd_mul (mul_of hi hj) h
theorem dice_wp {ns : List Int} {i : Nat} {M : Sto} {P : D → Sto → Prop} (hi : i < 2 ^ 60) (h : ∀ a b : Int, 0 ≤ a → -(2 ^ 80) < b → b < 2 ^ 80 → P (.ref M.length) (M ++ [.lst [.int a, .int b, .int 0]])) : wp (F__law_dice [.lst (ns.map D.int), .int i] M) P := by
  have go : ∀ c : Int, ws ((sSeq (sAsg (m2 dMod (mL dMax2 (aCons (mK (.int 0)) (aCons (m2 dSub (mL dAbs (aCons (mVar 2) aNil)) (m2 dPow (mK (.int 10)) (mK (.int 15)))) aNil))) (m2 dMul (m2 dPow (mK (.int 10)) (mK (.int 60))) (m2 dPow (mK (.int 10)) (mK (.int 60))))) (gN 3))
  (sRet (mLstM (aCons (mVar 3) (aCons (m2 dAdd (m2 dAdd (m2 dAdd (m2 dMul (m2 dMod (mL dAbs (aCons (mVar 2) aNil)) (mK (.int 1152921504606846809))) (mK (.int 47))) (m2 dMul (mK (.int 1013)) (mVar 1))) (m2 dMul (mK (.int 37)) (mL dInt (aCons (m2 dLt (mVar 2) (mK (.int 0))) aNil)))) (mK (.int 13))) (aCons (mK (.int 0)) aNil)))))) [some (.lst (ns.map D.int)), some (.int i), some (.int c), none] M) (fun _ M' => wp (finO M.length .non M') P) (fun d M' => wp (finO M.length d M') P) (fun _ _ => False) fun _ _ => False := by
    intro c
    walk_at "wp"
    refine wd_mulA (by decide +kernel) (by decide +kernel) ?_
    refine wd_modA (by decide +kernel) ?_
    intro a ha _
    walk_at "wp"
    refine wd_modA (by decide +kernel) ?_
    intro q hq0 hq1
    walk_at "wp"
    refine wd_mulA (by omega) (by decide +kernel) ?_
    walk_at "wp"
    refine wd_mulA (by decide +kernel) (by omega) ?_
    walk_at "wp"
    have hb : (if decide (c < 0) = true then (1 : Int) else 0) = 0 ∨ (if decide (c < 0) = true then (1 : Int) else 0) = 1 := by split <;> simp
    generalize (if decide (c < 0) = true then (1 : Int) else 0) = z at hb
    refine wd_mulA (by decide +kernel) (by omega) ?_
    walk_at "wp"
    refine ⟨⟨Nat.le_of_ble_eq_true rfl, rfl⟩, ?_⟩
    have e : finO M.length (.ref M.length) (M ++ [.lst [.int a, .int (q * 47 + 1013 * i + 37 * z + 13), .int 0]]) = .ok (.ref M.length) (M ++ [.lst [.int a, .int (q * 47 + 1013 * i + 37 * z + 13), .int 0]]) := by
      simp [finO, frz, allD, belows, below]
    refine wp_of_eq e (h _ _ ha (by omega) (by omega))
  unfold F__law_dice
  refine wp_fn rfl ?_
  unfold b__law_dice
  walk_at "wp"
  refine wd_len (by rfl) ?_
  walk_at "wp"
  refine ⟨?_, ?_⟩
  · intro hc
    rw [decide_eq_true_eq, List.length_map] at hc
    have hc' : i < ns.length := by omega
    walk_at "wp"
    refine wd_ix (x := .int ns[i]) (by rfl) (by exact atD_get (by rw [List.getElem?_map, List.getElem?_eq_getElem hc']; rfl)) ?_
    walk_at "e"
    exact go _
  · intro hc
    walk_at "wp"
    refine wd_mulA (by decide +kernel) (by omega) ?_
    walk_at "e"
    exact go _
/-- a row of rolls -/
def Dice (k : Nat) (M : Sto) (n : Nat) : Prop := ∃ a b c : Int, M[n]? = some (.lst [.int a, .int b, .int c]) ∧ 0 ≤ a ∧ -(2 ^ 80) < b ∧ b < 2 ^ 80 ∧ 0 ≤ c ∧ c ≤ k
theorem Dice.mono {k k' : Nat} {M : Sto} {n : Nat} (h : Dice k M n) (hk : k ≤ k') : Dice k' M n := by
  obtain ⟨a, b, c, h1, h2, h3, h4, h5, h6⟩ := h
  exact ⟨a, b, c, h1, h2, h3, h4, h5, by omega⟩
/-- nothing but the row at n has moved -/
def Same (n : Nat) (M M' : Sto) : Prop := M'.length = M.length ∧ ∀ m, m ≠ n → M'[m]? = M[m]?
theorem Same.refl (n : Nat) (M : Sto) : Same n M M := ⟨rfl, fun _ _ => rfl⟩
theorem Same.trans {n : Nat} {M M' M'' : Sto} (h : Same n M M') (h' : Same n M' M'') : Same n M M'' := ⟨h'.1.trans h.1, fun m hm => (h'.2 m hm).trans (h.2 m hm)⟩
theorem Same.set (n : Nat) (M : Sto) (x : Ob) : Same n M (M.set n x) := ⟨List.length_set, fun m hm => List.getElem?_set_ne (Ne.symm hm)⟩
theorem Dice.lt {k : Nat} {M : Sto} {n : Nat} (h : Dice k M n) : n < M.length := by
  obtain ⟨a, b, c, h1, _⟩ := h
  exact (List.getElem?_eq_some_iff.1 h1).1
theorem roll_wp {n k : Nat} {t : Int} {M : Sto} {P : D → Sto → Prop} (hd : Dice k M n) (hk : k < 2 ^ 60) (ht : 0 < t) (hb : t < 2 ^ 60) (h : ∀ (r : Int) (M' : Sto), 0 ≤ r → r < t → Same n M M' → Dice (k + 1) M' n → P (.int r) M') : wp (F__law_roll [.ref n, .int t] M) P := by
  obtain ⟨a, b, c, h1, h2, h3, h4, h5, h6⟩ := hd
  have hn := (List.getElem?_eq_some_iff.1 h1).1
  have hs : seqD M (.ref n) = some [.int a, .int b, .int c] := by simp only [seqD, h1]
  have hput : ∀ (x : D) (i : Nat), i < 3 → below n x = true → putL (.ref n) (.int i) x M = some (M.set n (.lst ([D.int a, .int b, .int c].set i x))) := by
    intro x i hi hx
    simp only [putL, h1, setAt]
    rw [if_pos ⟨by omega, by simp only [List.length_cons, List.length_nil]; omega⟩]
    simp only [Int.toNat_natCast, hx, if_true]
  have hdiv : divOk t = true := divOk_of ht (Nat.lt_trans (m := 2 ^ 60) (by omega) (by decide +kernel))
  unfold F__law_roll
  refine wp_fn rfl ?_
  unfold b__law_roll
  walk_at "wp"
  refine wd_ix (x := .int a) hs (by rfl) ?_
  walk_at "wp"
  refine ⟨?_, ?_⟩
  · intro hc
    rw [decide_eq_true_eq] at hc
    walk_at "wp"
    refine wd_ix (x := .int a) hs (by rfl) ?_
    walk_at "wp"
    refine wd_modA ht ?_
    intro r hr0 hr1
    walk_at "wp"
    refine wd_ix (x := .int a) hs (by rfl) ?_
    walk_at "wp"
    refine wd_div hdiv ?_
    walk_at "wp"
    refine ⟨_, hput _ 0 (by decide) rfl, ?_⟩
    walk_at "wp"
    refine wp_finP rfl List.length_set ?_
    refine h _ _ hr0 hr1 (Same.set _ _ _) ⟨a / t, b, c, ?_, Int.ediv_nonneg h2 (by omega), h3, h4, h5, by omega⟩
    rw [List.getElem?_set_self hn]; rfl
  · intro hc
    walk_at "wp"
    refine wd_ix (x := .int c) hs (by rfl) ?_
    walk_at "wp"
    refine ⟨_, hput _ 2 (by decide) rfl, ?_⟩
    have hs2 : seqD (M.set n (.lst [.int a, .int b, .int (c + 1)])) (.ref n) = some [.int a, .int b, .int (c + 1)] := by simp only [seqD, List.getElem?_set_self hn]
    show ws _ _ _ _ _
    walk_at "wp"
    refine wd_ix (x := .int b) hs2 (by rfl) ?_
    walk_at "wp"
    refine wd_ix (x := .int (c + 1)) hs2 (by rfl) ?_
    refine wd_mulA (by decide +kernel) (by omega) ?_
    walk_at "wp"
    refine wd_modA (by decide +kernel) ?_
    intro one ho0 ho1
    walk_at "wp"
    refine wd_mulA (by omega) (by omega) ?_
    walk_at "wp"
    refine wd_ix (x := .int (c + 1)) hs2 (by rfl) ?_
    refine wd_mulA (by decide +kernel) (by omega) ?_
    walk_at "wp"
    refine wd_modA (by decide +kernel) ?_
    intro two hw0 hw1
    walk_at "wp"
    refine wd_mulA (by omega) (by decide +kernel) ?_
    walk_at "wp"
    refine wd_div (divOk_of (by decide) (by decide +kernel)) ?_
    walk_at "wp"
    refine wd_modA ht ?_
    intro r hr0 hr1
    refine wp_finP rfl List.length_set ?_
    refine h _ _ hr0 hr1 (Same.set _ _ _) ⟨a, b, c + 1, ?_, h2, h3, h4, by omega, by omega⟩
    rw [List.getElem?_set_self hn]; rfl

theorem take_same {n : Nat} {M M' : Sto} (h : Same n M M') : M'.take M.length = M' := by rw [← h.1, List.take_length]
theorem pick_wp {n k : Nat} {xs : List D} {M : Sto} {P : D → Sto → Prop} (hd : Dice k M n) (hk : k < 2 ^ 60) (hl : 0 < xs.length) (hu : xs.length < 1000) (hb : belows M.length xs = true) (h : ∀ (x : D) (M' : Sto), x ∈ xs → Same n M M' → Dice (k + 1) M' n → P x M') : wp (F__law_pick [.ref n, .lst xs] M) P := by
  unfold F__law_pick
  refine wp_fn rfl ?_
  unfold b__law_pick
  walk_at "wp"
  refine wd_len (by rfl) ?_
  walk_at "wp"
  refine roll_wp hd hk (by omega) (by omega) ?_
  intro r M' h0 h1 hs hd'
  have hr : r.toNat < xs.length := by omega
  refine wd_ix (xs := xs) (x := xs[r.toNat]) (by rfl) ?_ ?_
  · unfold atD
    rw [if_pos h0, List.getElem?_eq_getElem hr]
  · refine wp_finP ?_ hs.1 (h _ _ (List.getElem_mem hr) hs hd')
    have : ∀ (ys : List D), belows M.length ys = true → ∀ y ∈ ys, below M.length y = true := by
      intro ys
      induction ys with
      | nil => intro _ y hy; exact absurd hy (by simp)
      | cons z zs ih =>
        intro hz y hy
        rw [belows, Bool.and_eq_true] at hz
        rcases List.mem_cons.1 hy with rfl | hy
        · exact hz.1
        · exact ih hz.2 y hy
    exact this _ hb _ (List.getElem_mem hr)
theorem limit_wp {M : Sto} {P : D → Sto → Prop} (h : P (.int c_LIMIT) M) : wp (F__law_limit [] M) P := by
  unfold F__law_limit
  refine wp_fn rfl ?_
  unfold b__law_limit
  walk_at "wp"
  refine wp_finP rfl rfl ?_
  have e : ((10 : Int) ^ Int.toNat 50) ^ Int.toNat 4 = c_LIMIT := by decide +kernel
  rw [e]; exact h
theorem number_wp {n k : Nat} {M : Sto} {P : D → Sto → Prop} (hd : Dice k M n) (hk : k < 2 ^ 50) (h : ∀ (v : Int) (M' : Sto), v.natAbs < 2 ^ 900 → Same n M M' → Dice (k + 3) M' n → P (.int v) M') : wp (F__law_drawn_number [.ref n] M) P := by
  unfold F__law_drawn_number
  refine wp_fn rfl ?_
  unfold b__law_drawn_number
  walk_at "wp"
  refine limit_wp ?_
  walk_at "wp"
  refine wd_div (by decide +kernel) ?_
  walk_at "wp"
  refine limit_wp ?_
  walk_at "wp"
  refine limit_wp ?_
  walk_at "wp"
  refine limit_wp ?_
  walk_at "wp"
  refine wd_mul (by decide +kernel) ?_
  walk_at "wp"
  refine ⟨Nat.le_of_ble_eq_true rfl, ?_⟩
  walk_at "wp"
  refine pick_wp hd (by omega) (by decide) (by decide) rfl ?_
  intro x M1 hx s1 d1
  have hx' : ∃ a : Int, x = .int a ∧ 0 ≤ a ∧ a < 2 ^ 800 := by
    simp only [List.mem_cons, List.not_mem_nil, or_false] at hx
    rcases hx with rfl | rfl | rfl | rfl | rfl | rfl | rfl | rfl <;> exact ⟨_, rfl, by decide +kernel, by decide +kernel⟩
  obtain ⟨a, rfl, ha0, ha1⟩ := hx'
  walk_at "wp"
  refine roll_wp d1 (by omega) (by decide) (by decide +kernel) ?_
  intro r M2 hr0 hr1 s2 d2
  walk_at "wp"
  refine roll_wp d2 (by omega) (by decide) (by decide +kernel) ?_
  intro q M3 hq0 hq1 s3 d3
  walk_at "wp"
  refine wd_eq (by rfl) ?_
  walk_at "wp"
  have hS := (s1.trans s2).trans s3
  have hb : ∀ v : Int, v = a + r - 2 ∨ v = 0 - (a + r - 2) → v.natAbs < 2 ^ 900 := by
    intro v hv
    have : v.natAbs < 2 ^ 801 := by
      have e : (2 : Int) ^ 801 = 2 * 2 ^ 800 := by decide +kernel
      have e2 : (2 : Nat) ^ 801 = ((2 : Int) ^ 801).toNat := by decide +kernel
      rw [e2, e]
      have hz : (4 : Int) < 2 ^ 800 := by decide +kernel
      generalize (2 : Int) ^ 800 = z at ha1 hz
      omega
    exact Nat.lt_trans this (by decide +kernel)
  refine ⟨?_, ?_⟩
  · intro hc
    walk_at "wp"
    exact wp_finP rfl hS.1 (h _ _ (hb _ (Or.inr rfl)) hS d3)
  · intro hc
    walk_at "wp"
    exact wp_finP rfl hS.1 (h _ _ (hb _ (Or.inl rfl)) hS d3)
end Law
set_option maxHeartbeats 4000000
namespace Law
open PySem PySem.Spec PyProof.Rows L2 EV
local macro_rules | `(tactic| walk_at "wp") => `(tactic| repeat (first
  | with_reducible refine wp_var (by with_unfolding_all rfl) ?_ | with_reducible refine wp_k ?_ | with_reducible refine wp_cons ?_ | with_reducible refine wp_nil ?_ | with_reducible refine wp_m2 ?_ | with_reducible refine wp_mL ?_ | with_reducible refine wp_m1 ?_ | with_reducible refine wp_call ?_ | with_reducible refine wp_call0 ?_
  | with_reducible refine wd_add ?_ | with_reducible refine wd_sub ?_ | with_reducible refine wd_lt ?_ | with_reducible refine wd_le ?_ | with_reducible refine wd_gt ?_ | with_reducible refine wd_ge ?_ | with_reducible refine wd_int ?_ | with_reducible refine wd_intb ?_ | with_reducible refine wd_abs ?_ | with_reducible refine wd_max2 ?_ | with_reducible refine wd_min2 ?_ | with_reducible refine wd_neg ?_ | with_reducible refine wd_inS ?_
  | with_reducible refine wd_pow (by decide +kernel) ?_
  | with_reducible refine ws_seq ?_ | with_reducible refine ws_nil ?_ | with_reducible refine ws_set ?_ | with_reducible refine ws_put ?_ | with_reducible refine ws_par ?_ | with_reducible refine ws_if ?_ | with_reducible refine ws_ret ?_ | with_reducible refine ws_expr ?_
  | with_reducible refine wp_tst ?_ | with_reducible refine wp_if ?_ | with_reducible refine wp_and ?_ | with_reducible refine wp_or ?_ | with_reducible refine wp_not ?_ | with_reducible refine wp_ch ?_ | with_reducible refine wp_lst ?_ | with_reducible refine wp_tup ?_ | with_reducible refine wp_lstM ?_ | with_reducible refine wp_rng1 ?_
  | with_reducible refine ⟨_, rfl, ?_⟩))
local macro_rules | `(tactic| walk_at "e") => `(tactic| repeat (first
  | with_reducible refine wp_var (by with_unfolding_all rfl) ?_ | with_reducible refine wp_k ?_ | with_reducible refine wp_cons ?_ | with_reducible refine wp_nil ?_ | with_reducible refine wp_m2 ?_ | with_reducible refine wp_mL ?_ | with_reducible refine wp_m1 ?_ | with_reducible refine wp_call ?_ | with_reducible refine wp_call0 ?_
  | with_reducible refine wd_add ?_ | with_reducible refine wd_sub ?_ | with_reducible refine wd_lt ?_ | with_reducible refine wd_le ?_ | with_reducible refine wd_gt ?_ | with_reducible refine wd_ge ?_ | with_reducible refine wd_int ?_ | with_reducible refine wd_intb ?_ | with_reducible refine wd_abs ?_ | with_reducible refine wd_max2 ?_ | with_reducible refine wd_min2 ?_ | with_reducible refine wd_neg ?_ | with_reducible refine wd_inS ?_
  | with_reducible refine wd_pow (by decide +kernel) ?_
  | with_reducible refine wp_tst ?_ | with_reducible refine wp_if ?_ | with_reducible refine wp_and ?_ | with_reducible refine wp_or ?_ | with_reducible refine wp_not ?_ | with_reducible refine wp_ch ?_ | with_reducible refine wp_lst ?_ | with_reducible refine wp_tup ?_ | with_reducible refine wp_lstM ?_ | with_reducible refine wp_rng1 ?_
  | with_reducible refine ⟨_, rfl, ?_⟩))

theorem is_integer_int {v : Int} {M : Sto} {P : D → Sto → Prop} (h : P (.bl (decide (-c_LIMIT < v ∧ v < c_LIMIT))) M) : wp (F_is_integer [.int v] M) P := by
  unfold F_is_integer
  refine wp_fn rfl ?_
  unfold b_is_integer
  walk_at "wp"
  refine wd_isi (t := .ty .int) (by rfl) ?_
  refine ⟨_, rfl, ?_, ?_⟩
  · intro hc; exact absurd hc (by decide)
  intro _
  walk_at "wp"
  refine wd_isi (t := .ty .int) (by rfl) ?_
  refine ⟨_, rfl, _, rfl, ?_, ?_⟩
  · intro hc; exact absurd hc (by decide)
  intro _
  walk_at "wp"
  refine ⟨?_, ?_⟩
  · intro hc
    rw [decide_eq_false_iff_not] at hc
    refine wp_finP rfl rfl ?_
    have e : decide (-c_LIMIT < v ∧ v < c_LIMIT) = false := by rw [decide_eq_false_iff_not]; exact fun h => hc h.1
    rw [e] at h; exact h
  · intro hc
    rw [decide_eq_true_eq] at hc
    walk_at "wp"
    refine wp_finP rfl rfl ?_
    have e : decide (-c_LIMIT < v ∧ v < c_LIMIT) = decide (v < c_LIMIT) := by
      rw [decide_eq_decide]; exact ⟨fun h => h.2, fun h => ⟨hc, h⟩⟩
    rw [e] at h; exact h
theorem is_integer_not {x : D} {t : TyV} {M : Sto} {P : D → Sto → Prop} (ht : tyOf M x = some t) (hn : isB t .int = false ∨ isB t .bool = true) (h : P (.bl false) M) : wp (F_is_integer [x] M) P := by
  unfold F_is_integer
  refine wp_fn rfl ?_
  unfold b_is_integer
  walk_at "wp"
  refine wd_isi ht ?_
  refine ⟨_, rfl, ?_, ?_⟩
  · intro _
    exact wp_finP rfl rfl h
  intro hc
  walk_at "wp"
  refine wd_isi ht ?_
  refine ⟨_, rfl, _, rfl, ?_, ?_⟩
  · intro _
    exact wp_finP rfl rfl h
  intro hc'
  rcases hn with hn | hn
  · rw [hn] at hc; exact absurd hc (by decide)
  · rw [hn] at hc'; exact absurd hc' (by decide)
theorem is_count_int {v : Int} {M : Sto} {P : D → Sto → Prop} (h : P (.bl (decide (-c_LIMIT < v ∧ v < c_LIMIT) && decide (0 ≤ v))) M) : wp (F_is_count [.int v] M) P := by
  unfold F_is_count
  refine wp_fn rfl ?_
  unfold b_is_count
  walk_at "wp"
  refine is_integer_int ?_
  refine ⟨_, rfl, ?_, ?_⟩
  · intro hc
    refine wp_finP rfl rfl ?_
    rw [hc] at h; exact h
  · intro hc
    walk_at "wp"
    refine wp_finP rfl rfl ?_
    rw [hc] at h; exact h
theorem is_count_not {x : D} {t : TyV} {M : Sto} {P : D → Sto → Prop} (ht : tyOf M x = some t) (hn : isB t .int = false ∨ isB t .bool = true) (h : P (.bl false) M) : wp (F_is_count [x] M) P := by
  unfold F_is_count
  refine wp_fn rfl ?_
  unfold b_is_count
  walk_at "wp"
  refine is_integer_not ht hn ?_
  refine ⟨_, rfl, ?_, ?_⟩
  · intro hc
    exact wp_finP rfl rfl h
  · intro hc; exact absurd hc (by decide)
theorem is_letter_not {x : D} {t : TyV} {M : Sto} {P : D → Sto → Prop} (ht : tyOf M x = some t) (hn : isB t .str = false) (h : P (.bl false) M) : wp (F_is_letter [x] M) P := by
  unfold F_is_letter
  refine wp_fn rfl ?_
  unfold b_is_letter
  walk_at "wp"
  refine wd_isi ht ?_
  refine ⟨_, rfl, ?_, ?_⟩
  · intro hc
    exact wp_finP rfl rfl h
  · intro hc; rw [hn] at hc; exact absurd hc (by decide)
theorem is_letter_str {x : Str} {M : Sto} {P : D → Sto → Prop} (hl : x.length ≤ lim) (h : P (.bl (decide ((x.length : Int) = 1) && inStr x c_LETTERS)) M) : wp (F_is_letter [.str x] M) P := by
  unfold F_is_letter
  refine wp_fn rfl ?_
  unfold b_is_letter
  walk_at "wp"
  refine wd_isi (t := .ty .str) (by rfl) ?_
  refine ⟨_, rfl, ?_, ?_⟩
  · intro hc; exact absurd hc (by decide)
  intro _
  walk_at "wp"
  refine wd_lens hl ?_
  walk_at "wp"
  refine wd_eq (by rfl) ?_
  refine ⟨_, rfl, ?_, ?_⟩
  · intro hc
    refine wp_finP rfl rfl ?_
    rw [hc] at h; exact h
  intro hc
  walk_at "wp"
  refine wp_finP rfl rfl ?_
  rw [hc] at h; exact h
def signsT : Str := "abcdefghijklmnopqrstuvwxyzABMZ0159 _-.,+*{}[]@"
def endsT : List Str := ["", "a", " ", "*"]
theorem letters : ∀ c ∈ signsT.cps.toList, ∀ e ∈ endsT, (decide (((((⟨#[c]⟩ : Str) ++ e).length : Nat) : Int) = 1) && inStr ((⟨#[c]⟩ : Str) ++ e) c_LETTERS) = (decide (((((⟨#[c]⟩ : Str) ++ e).length : Nat) : Int) = 1) && (!decide (((⟨#[c]⟩ : Str) ++ e).cps.toList < ("a" : Str).cps.toList) && !decide (("z" : Str).cps.toList < ((⟨#[c]⟩ : Str) ++ e).cps.toList))) := by decide +kernel
theorem short_len (n : Nat) : (Str.ofString (toString ((n : Nat) : Int))).length ≤ 200 ↔ n < 10 ^ 200 := by
  rw [SX.num_S]
  show ((TL.numL n).toArray).size ≤ 200 ↔ _
  rw [List.size_toArray, TL.numL, List.length_map]
  exact Nat.length_toDigits_le_iff (by decide) (by decide)
theorem rep4 (a b c d : Bool) : ∃ p, ∀ M, pyD M 12 (.lst [.bl a, .bl b, .bl c, .bl d]) = some p ∧ p.showable = true ∧ p.canLay0 = true ∧ p.depth ≤ 40 ∧ p.shown.length ≤ lim := by
  refine ⟨_, fun M => ⟨rfl, ?_⟩⟩
  revert a b c d
  decide +kernel

theorem atI_mem {xs : List Nat} {r : Int} (h0 : 0 ≤ r) (h1 : r < xs.length) : ∃ c, L2.atI xs r = some c ∧ c ∈ xs := by
  have hr : r.toNat < xs.length := by omega
  refine ⟨xs[r.toNat], ?_, List.getElem_mem hr⟩
  unfold L2.atI L2.ixN
  rw [if_pos h0, if_pos h1]
  exact List.getElem?_eq_getElem hr
theorem wd_ixs {z : Str} {i : Int} {c : Nat} {M : Sto} {P : D → Sto → Prop} (hl : z.length ≤ lim) (hc : L2.atI z.cps.toList i = some c) (h : P (.str ⟨#[c]⟩) M) : wp (dIx (.str z) (.int i) M) P := by
  simp only [dIx, hl, if_true, hc]; exact h
theorem wd_les {x y : Str} {M : Sto} {P : D → Sto → Prop} (h : P (.bl (!decide (y.cps.toList < x.cps.toList))) M) : wp (dLe (.str x) (.str y) M) P := h
theorem wd_repr4 {a b c d : Bool} {M : Sto} {P : D → Sto → Prop} (h : ∀ p, (∀ M, pyD M 12 (.lst [.bl a, .bl b, .bl c, .bl d]) = some p) → P (.str p.shown) M) : wp (dRepr [.lst [.bl a, .bl b, .bl c, .bl d]] M) P := by
  obtain ⟨p, hp⟩ := rep4 a b c d
  have := (hp M).2
  simp only [dRepr, (hp M).1]
  rw [if_pos this]
  exact h p fun M => (hp M).1
def odds : List D := [.non, .bl true, .bl false, .str "7", .tup [], .tup [.int 7], .lst [.int 7], .dct [(.inl 7, .int 7)], .tup [.str "a"], .lst [.str "a"], .str "", .str "ab", .dct [(.inr "a", .int 1)], .str "\n"]
theorem odd_int : ∀ x ∈ odds, ∃ t, (∀ M, tyOf M x = some t) ∧ (isB t .int = false ∨ isB t .bool = true) ∧ ((∃ z : Str, x = .str z ∧ z.length ≤ lim ∧ (decide ((z.length : Int) = 1) && inStr z c_LETTERS) = false) ∨ isB t .str = false) := by
  intro x hx
  simp only [odds, List.mem_cons, List.not_mem_nil, or_false] at hx
  rcases hx with rfl | rfl | rfl | rfl | rfl | rfl | rfl | rfl | rfl | rfl | rfl | rfl | rfl | rfl <;> refine ⟨_, fun _ => rfl, by decide, ?_⟩ <;>
    first | (right; decide) | (left; refine ⟨_, rfl, by decide +kernel, by decide +kernel⟩)
end Law
set_option maxHeartbeats 4000000
namespace Law
open PySem PySem.Spec PyProof.Rows L2 EV
local macro_rules | `(tactic| walk_at "wp") => `(tactic| repeat (first
  | with_reducible refine wp_var (by with_unfolding_all rfl) ?_ | with_reducible refine wp_k ?_ | with_reducible refine wp_cons ?_ | with_reducible refine wp_nil ?_ | with_reducible refine wp_m2 ?_ | with_reducible refine wp_mL ?_ | with_reducible refine wp_m1 ?_ | with_reducible refine wp_call ?_ | with_reducible refine wp_call0 ?_
  | with_reducible refine wd_add ?_ | with_reducible refine wd_sub ?_ | with_reducible refine wd_lt ?_ | with_reducible refine wd_le ?_ | with_reducible refine wd_gt ?_ | with_reducible refine wd_ge ?_ | with_reducible refine wd_int ?_ | with_reducible refine wd_intb ?_ | with_reducible refine wd_abs ?_ | with_reducible refine wd_max2 ?_ | with_reducible refine wd_min2 ?_ | with_reducible refine wd_neg ?_ | with_reducible refine wd_inS ?_
  | with_reducible refine wd_pow (by decide +kernel) ?_
  | with_reducible refine ws_seq ?_ | with_reducible refine ws_nil ?_ | with_reducible refine ws_set ?_ | with_reducible refine ws_put ?_ | with_reducible refine ws_par ?_ | with_reducible refine ws_if ?_ | with_reducible refine ws_ret ?_ | with_reducible refine ws_expr ?_
  | with_reducible refine wp_tst ?_ | with_reducible refine wp_if ?_ | with_reducible refine wp_and ?_ | with_reducible refine wp_or ?_ | with_reducible refine wp_not ?_ | with_reducible refine wp_ch ?_ | with_reducible refine wp_lst ?_ | with_reducible refine wp_tup ?_ | with_reducible refine wp_lstM ?_ | with_reducible refine wp_rng1 ?_
  | with_reducible refine ⟨_, rfl, ?_⟩))
local macro_rules | `(tactic| walk_at "e") => `(tactic| repeat (first
  | with_reducible refine wp_var (by with_unfolding_all rfl) ?_ | with_reducible refine wp_k ?_ | with_reducible refine wp_cons ?_ | with_reducible refine wp_nil ?_ | with_reducible refine wp_m2 ?_ | with_reducible refine wp_mL ?_ | with_reducible refine wp_m1 ?_ | with_reducible refine wp_call ?_ | with_reducible refine wp_call0 ?_
  | with_reducible refine wd_add ?_ | with_reducible refine wd_sub ?_ | with_reducible refine wd_lt ?_ | with_reducible refine wd_le ?_ | with_reducible refine wd_gt ?_ | with_reducible refine wd_ge ?_ | with_reducible refine wd_int ?_ | with_reducible refine wd_intb ?_ | with_reducible refine wd_abs ?_ | with_reducible refine wd_max2 ?_ | with_reducible refine wd_min2 ?_ | with_reducible refine wd_neg ?_ | with_reducible refine wd_inS ?_
  | with_reducible refine wd_pow (by decide +kernel) ?_
  | with_reducible refine wp_tst ?_ | with_reducible refine wp_if ?_ | with_reducible refine wp_and ?_ | with_reducible refine wp_or ?_ | with_reducible refine wp_not ?_ | with_reducible refine wp_ch ?_ | with_reducible refine wp_lst ?_ | with_reducible refine wp_tup ?_ | with_reducible refine wp_lstM ?_ | with_reducible refine wp_rng1 ?_
  | with_reducible refine ⟨_, rfl, ?_⟩))

local macro_rules | `(tactic| walk_at "f") => `(tactic| repeat (first
  | with_reducible refine wp_var (by with_unfolding_all rfl) ?_ | with_reducible refine wp_k ?_ | with_reducible refine wp_cons ?_ | with_reducible refine wp_nil ?_ | with_reducible refine wp_m2 ?_ | with_reducible refine wp_mL ?_ | with_reducible refine wp_m1 ?_ | with_reducible refine wp_call ?_ | with_reducible refine wp_call0 ?_
  | with_reducible refine wd_add ?_ | with_reducible refine wd_sub ?_ | with_reducible refine wd_lt ?_ | with_reducible refine wd_le ?_ | with_reducible refine wd_gt ?_ | with_reducible refine wd_ge ?_ | with_reducible refine wd_int ?_ | with_reducible refine wd_intb ?_ | with_reducible refine wd_abs ?_ | with_reducible refine wd_max2 ?_ | with_reducible refine wd_min2 ?_ | with_reducible refine wd_neg ?_ | with_reducible refine wd_inS ?_
  | with_reducible refine wd_pow (by decide +kernel) ?_
  | with_reducible refine wp_tst ?_ | with_reducible refine wp_not ?_ | with_reducible refine wp_lst ?_ | with_reducible refine wp_tup ?_ | with_reducible refine wp_lstM ?_ | with_reducible refine wp_rng1 ?_
  | with_reducible refine ⟨_, rfl, ?_⟩))

theorem wp_andB {a b : DE} {env : DEnv} {M : Sto} {P : D → Sto → Prop} (p q : Bool) (ha : wp (a env M) fun x M1 => x = .bl p ∧ M1 = M) (hb : wp (b env M) fun x M1 => x = .bl q ∧ M1 = M) (h : P (.bl (p && q)) M) : wp (mAnd a b env M) P := by
  refine wp_and (wp_mono ha fun x M1 hx => ?_)
  obtain ⟨rfl, rfl⟩ := hx
  refine ⟨_, rfl, ?_, ?_⟩
  · intro e; subst e; exact h
  · intro e
    subst e
    refine wp_mono hb fun x M1 hx => ?_
    obtain ⟨rfl, rfl⟩ := hx
    exact h
def shown4 (a b c d : Bool) : Str := match pyD [] 12 (.lst [.bl a, .bl b, .bl c, .bl d]) with
  | some p => p.shown
  | none => ""
theorem wd_repr4s {a b c d : Bool} {M : Sto} {P : D → Sto → Prop} (h : P (.str (shown4 a b c d)) M) : wp (dRepr [.lst [.bl a, .bl b, .bl c, .bl d]] M) P := by
  refine wd_repr4 fun p hp => ?_
  have e : shown4 a b c d = p.shown := by unfold shown4; rw [hp]
  rw [← e]; exact h
theorem ends_len : ∀ z ∈ endsT, z.length ≤ 1 := by decide +kernel
theorem num_len {n : Nat} (h : n < 2 ^ 900) : (Str.ofString (toString ((n : Nat) : Int))).length ≤ lim := by
  rw [SX.num_S]
  show ((TL.numL n).toArray).size ≤ lim
  rw [List.size_toArray, TL.numL, List.length_map]
  have : (Nat.toDigits 10 n).length ≤ 1000 := (Nat.length_toDigits_le_iff (by decide) (by decide)).2 (Nat.lt_trans h (by decide +kernel))
  exact Nat.le_trans this (by decide)
theorem short_iff (v : Int) : decide (((Str.ofString (toString ((v.natAbs : Nat) : Int))).length : Int) ≤ 200) = decide (-c_LIMIT < v ∧ v < c_LIMIT) := by
  rw [decide_eq_decide]
  have e : c_LIMIT = ((10 ^ 200 : Nat) : Int) := by decide +kernel
  rw [e]
  have := short_len v.natAbs
  generalize 10 ^ 200 = z at this
  omega
def EnvI (s : D) (n : Nat) (e : DEnv) : Prop := ∃ a2 a4 a5 a6 a7 a8 a9 a10, e = [some s, some (.str signsT), a2, some (.ref n), a4, a5, a6, a7, a8, a9, a10]
def EnvO (s : D) (e : DEnv) : Prop := ∃ a2 a3 a4 a5 a6 a7 a8 a9 a10, e = [some s, some (.str signsT), a2, a3, a4, a5, a6, a7, a8, a9, a10]
theorem plain_wp (ns : List Int) (hn : ns.length ≤ 63) : wp (F_law [.lst (ns.map D.int)] []) fun d _ => d = .bl true := by
  unfold F_law
  refine wp_fn rfl ?_
  unfold b_law
  refine ws_seq (ws_set (wp_k ?_))
  refine ws_seq ?_
  refine ws_for (fun xs e M => EnvO (.lst (ns.map D.int)) e ∧ ∀ x ∈ xs, ∃ i : Nat, x = .int (i : Int) ∧ i < 2 ^ 60) ?_ ?_ ?_
  · walk_at "e"
    refine wd_len (by rfl) ?_
    walk_at "e"
    refine ⟨?_, _, rfl, ⟨_, _, _, _, _, _, _, _, _, rfl⟩, ?_⟩
    · rw [List.length_map]
      have hb : big = 1000000000000 := rfl
      rw [hb]
      constructor <;> split <;> split <;> omega
    · intro x hx
      unfold rngD at hx
      rw [List.mem_map] at hx
      obtain ⟨i, hi, rfl⟩ := hx
      rw [List.mem_range, List.length_map] at hi
      refine ⟨i, by rw [Int.zero_add], ?_⟩
      have : i < 100 := by
        revert hi
        split <;> split <;> omega
      omega
  · intro e M hI
    obtain ⟨⟨a2, a3, a4, a5, a6, a7, a8, a9, a10, rfl⟩, _⟩ := hI
    walk_at "wp"
    refine is_integer_int ?_
    walk_at "wp"
    refine is_count_int ?_
    walk_at "wp"
    refine is_count_int ?_
    walk_at "wp"
    refine ⟨Nat.le_of_ble_eq_true rfl, ?_⟩
    walk_at "wp"
    refine ⟨Nat.le_of_ble_eq_true rfl, ?_⟩
    refine wd_eq (k := true) (by rfl) ?_
    exact wp_finP' rfl rfl
  · intro x xs e M hI
    obtain ⟨⟨a2, a3, a4, a5, a6, a7, a8, a9, a10, rfl⟩, hx⟩ := hI
    have hx0 := hx
    obtain ⟨i, rfl, hi⟩ := hx x (List.mem_cons_self ..)
    refine ⟨_, rfl, ?_⟩
    refine ws_seq (ws_set ?_)
    walk_at "e"
    refine dice_wp hi ?_
    intro a b ha hb1 hb2
    refine ws_seq ?_
    refine ws_for (fun ys e M' => EnvI (.lst (ns.map D.int)) M.length e ∧ ∃ k : Nat, k + 10 * ys.length ≤ 1000 ∧ Dice k M' M.length) ?_ ?_ ?_
    · walk_at "e"
      refine ⟨by decide, _, rfl, ⟨_, _, _, _, _, _, _, _, rfl⟩, 0, by decide, a, b, 0, by simp, ha, hb1, hb2, by decide, by decide⟩
    · intro e M' hI
      obtain ⟨⟨a2, a4, a5, a6, a7, a8, a9, a10, rfl⟩, k, hk, hd⟩ := hI
      have hk' : k ≤ 1000 := by omega
      refine ws_seq (ws_set ?_)
      walk_at "e"
      refine ⟨Nat.le_of_ble_eq_true rfl, ?_⟩
      walk_at "e"
      refine ⟨Nat.le_of_ble_eq_true rfl, ?_⟩
      walk_at "e"
      refine ⟨Nat.le_of_ble_eq_true rfl, ?_⟩
      walk_at "e"
      refine wp_of_eq (a := .dct [(.inl 7, .int 7)]) (by rfl) ?_
      walk_at "e"
      refine ⟨Nat.le_of_ble_eq_true rfl, ?_⟩
      walk_at "e"
      refine ⟨Nat.le_of_ble_eq_true rfl, ?_⟩
      walk_at "e"
      refine wp_of_eq (a := .dct [(.inr "a", .int 1)]) (by rfl) ?_
      walk_at "e"
      refine ⟨Nat.le_of_ble_eq_true rfl, ?_⟩
      walk_at "e"
      refine pick_wp hd (by omega) (by decide) (by decide) rfl ?_
      intro x M1 hx s1 d1
      obtain ⟨t, ht, hn1, hn2⟩ := odd_int x hx
      refine ws_if ?_
      walk_at "e"
      refine is_integer_not (ht _) hn1 ?_
      walk_at "e"
      refine is_count_not (ht _) hn1 ?_
      walk_at "e"
      have fin : ∀ P : D → Sto → Prop, P (.bl false) M1 → wp (F_is_letter [x] M1) P := by
        intro P h
        rcases hn2 with ⟨z, rfl, hz1, hz2⟩ | hn2
        · refine is_letter_str hz1 ?_
          rw [hz2]; exact h
        · exact is_letter_not (ht _) hn2 h
      refine fin _ ?_
      walk_at "e"
      refine ⟨Nat.le_of_ble_eq_true rfl, ?_⟩
      walk_at "e"
      refine ⟨Nat.le_of_ble_eq_true rfl, ?_⟩
      refine wd_ne (k := true) (by rfl) ?_
      refine ⟨_, rfl, ?_, ?_⟩
      · intro hc; exact absurd hc (by decide)
      · intro _
        exact ⟨⟨_, _, _, _, _, _, _, _, _, rfl⟩, fun u hu => hx0 u (List.mem_cons_of_mem _ hu)⟩
    · intro y ys e M' hI
      obtain ⟨⟨a2, a4, a5, a6, a7, a8, a9, a10, rfl⟩, k, hk, hd⟩ := hI
      rw [List.length_cons] at hk
      have hk' : k ≤ 1000 := by omega
      refine ⟨_, rfl, ?_⟩
      refine ws_seq (ws_par ?_)
      walk_at "e"
      refine number_wp hd (by omega) ?_
      intro v M1 hv s1 d1
      walk_at "e"
      refine wd_lens (by decide +kernel) ?_
      walk_at "e"
      refine roll_wp d1 (by omega) (by decide) (by decide +kernel) ?_
      intro r M2 hr0 hr1 s2 d2
      obtain ⟨c, hc, hcm⟩ := atI_mem (xs := signsT.cps.toList) hr0 hr1
      refine wd_ixs (by decide +kernel) hc ?_
      refine ws_seq (ws_set ?_)
      walk_at "e"
      refine ⟨Nat.le_of_ble_eq_true rfl, ?_⟩
      walk_at "e"
      refine pick_wp d2 (by omega) (by decide) (by decide) rfl ?_
      intro x M3 hx s3 d3
      have hx' : ∃ z, x = .str z ∧ z ∈ endsT := by
        simp only [List.mem_cons, List.not_mem_nil, or_false] at hx
        rcases hx with rfl | rfl | rfl | rfl | rfl | rfl <;> exact ⟨_, rfl, by decide +kernel⟩
      obtain ⟨z, rfl, hz⟩ := hx'
      have hzl : z.length ≤ 1 := ends_len z hz
      have hlet := letters c hcm z hz
      refine wd_adds (by show 1 + z.length ≤ 1000000; omega) ?_
      have htl : ((⟨#[c]⟩ : Str) ++ z).length ≤ lim := by
        show (#[c] ++ z.cps).size ≤ 1000000
        rw [Array.size_append]
        have : z.cps.size ≤ 1 := hzl
        show 1 + z.cps.size ≤ 1000000
        omega
      generalize ((⟨#[c]⟩ : Str) ++ z) = tx at hlet htl
      refine ws_seq (ws_set ?_)
      walk_at "e"
      refine wd_str (lg_lt (k := 1920) (Nat.lt_trans (m := 2 ^ 900) (by rw [Int.natAbs_natCast]; exact hv) (by decide +kernel)) (by decide)) ?_
      refine wd_lens (num_len hv) ?_
      walk_at "e"
      rw [short_iff v]
      refine ws_seq (ws_set ?_)
      walk_at "e"
      refine is_integer_int ?_
      walk_at "e"
      refine is_count_int ?_
      walk_at "e"
      refine is_letter_str htl ?_
      rw [hlet]
      walk_at "e"
      refine is_letter_not (t := .ty .int) (by rfl) (by decide) ?_
      walk_at "e"
      refine ⟨Nat.le_of_ble_eq_true rfl, ?_⟩
      generalize decide (-c_LIMIT < v ∧ v < c_LIMIT) = B
      refine ws_if ?_
      walk_at "f"
      refine wd_repr4s ?_
      walk_at "f"
      refine wp_andB B (decide (0 ≤ v)) ?_ ?_ ?_
      · walk_at "f"
        exact ⟨rfl, rfl⟩
      · walk_at "f"
        exact ⟨rfl, rfl⟩
      walk_at "f"
      refine wp_andB (decide ((tx.length : Int) = 1)) (!decide (tx.cps.toList < (Str.ofString "a").cps.toList) && !decide ((Str.ofString "z").cps.toList < tx.cps.toList)) ?_ ?_ ?_
      · walk_at "f"
        refine wd_lens htl ?_
        walk_at "f"
        refine wd_eq (by rfl) ?_
        exact ⟨rfl, rfl⟩
      · refine wp_ch ?_
        walk_at "f"
        refine wd_les ?_
        refine ⟨_, rfl, ?_, ?_⟩
        · intro e; rw [e]; exact ⟨rfl, rfl⟩
        · intro e
          walk_at "f"
          refine wd_les ?_
          rw [e]; exact ⟨rfl, rfl⟩
      walk_at "f"
      refine ⟨Nat.le_of_ble_eq_true rfl, ?_⟩
      walk_at "f"
      refine wd_repr4s ?_
      generalize shown4 _ _ _ _ = sh
      refine wd_ne (k := true) (by show some (decide (sh = sh)) = some true; rw [decide_eq_true rfl]) ?_
      refine ⟨_, rfl, ?_, ?_⟩
      · intro hc; exact absurd hc (by decide)
      · intro _
        exact ⟨⟨_, _, _, _, _, _, _, _, rfl⟩, k + 5, by omega, d3⟩
theorem plain (ns : List Int) (h : ns.length ≤ 63) : ∃ M, F_law [.lst (ns.map D.int)] [] = .ok (.bl true) M := by
  obtain ⟨a, M, e, rfl⟩ := wp_eq (plain_wp ns h)
  exact ⟨M, e⟩
end Law
open PySem PySem.W PyProof.Rows
set_option maxRecDepth 100000 in
set_option maxHeartbeats 0 in
theorem PySem.Challenge.cw_onebetween_k00_integers_and_letters_holds : PySem.Challenge.rw_onebetween_k00_integers_and_letters.Holds := by
  w_on; o_law; k_head; (case hw => w_witness2)
  k_fill
  refine EV.walkG (l := PySem.Challenge.rw_onebetween_k00_integers_and_letters) (k := 4) (x := "script") (Fn := Law.F_law) rfl rfl ⟨rfl, by decide, by decide⟩ (fun w h Y => PySem.W.kIn_of Y) ?F Law.plain
  case F =>
    intro w mg fa h KX G hmg
    refine' Law.all_mk KX G hmg ?a0 ?l0 ?c0 ?k0 ?a1 ?l1 ?c1 ?k1 ?a2 ?l2 ?c2 ?k2 ?a3 ?l3 ?c3 ?k3 ?a4 ?l4 ?c4 ?k4 ?a5 ?l5 ?c5 ?k5 ?a6 ?l6 ?c6 ?k6 ?a7 ?l7 ?c7 ?k7 ?a8 ?l8 ?c8 ?k8 ?z_abs ?z_bool ?z_int ?z_isinstance ?z_len ?z_max ?z_min ?z_range ?z_repr ?z_str ?g_LETTERS ?g_LIMIT ?g_MAX_FIGURES
    (case a0 => k_is); (case l0 => k_is); (case c0 => k_is); (case k0 => k_is); (case a1 => k_is); (case l1 => k_is); (case c1 => k_is); (case k1 => k_is); (case a2 => k_is); (case l2 => k_is); (case c2 => k_is); (case k2 => k_is); (case a3 => k_is); (case l3 => k_is); (case c3 => k_is); (case k3 => k_is); (case a4 => k_is); (case l4 => k_is); (case c4 => k_is); (case k4 => k_is); (case a5 => k_is); (case l5 => k_is); (case c5 => k_is); (case k5 => k_is); (case a6 => k_is); (case l6 => k_is); (case c6 => k_is); (case k6 => k_is); (case a7 => k_is); (case l7 => k_is); (case c7 => k_is); (case k7 => k_is); (case a8 => k_is); (case l8 => k_is); (case c8 => k_is); (case k8 => k_is); (case z_abs => k_is); (case z_bool => k_is); (case z_int => k_is); (case z_isinstance => k_is); (case z_len => k_is); (case z_max => k_is); (case z_min => k_is); (case z_range => k_is); (case z_repr => k_is); (case z_str => k_is); (case g_LETTERS => k_is); (case g_LIMIT => k_is); (case g_MAX_FIGURES => k_is)
