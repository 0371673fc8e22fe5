import PyProof.Rows.All
import Wide.All
import OpenK.AllK
import Wide.FinOn
import HandS.ForMost
import HandS.Exc
import HandS.ExcOwn
import HandS.WordsExc
import HandS.Flow
import HandS.TupAny
import HandS.TupMul
import HandS.IsInst
import HandS.NoneIn
import HandS.Style
import HandS.Zip
import HandS.Rev
import KE.KExcIs
import HandS.Wide
import HandS.Dict
import PySem.Challenge.RW_zonestold_k15_values_of_expressions
import HandS.Ends
import HandS.TryMany
import KE.KDictPairs
import PyProof.ReprBulk
import HandS.ExcIs
set_option Elab.async false
set_option linter.all false
set_option maxRecDepth 100000
set_option maxHeartbeats 4000000
/-! ZA: values by value (PyData), the machine's state of a small semantics, and how it stands in the abstract heap. -/
namespace Zo
open PySem PySem.Spec PyProof.Rows L2
abbrev D := PyData
abbrev Fr := PySem.W.Frag
/-- the deck of a law: its cells, what they mix to, the turn -/
structure Dk where
  cells : List Int
  mixed : Int
  turn : Int
/-- what a slot holds: nothing told; a value that nobody changes any more; a list of this frame's own; the deck -/
inductive Sv where
  | un
  | fz (d : D)
  | own (ds : List D)
  | deck
structure Ms where
  env : List Sv
  dk : Dk
  sm : Bool
inductive Out (α : Type) where
  | ok (a : α) (s : Ms)
  | exc (c : Nat) (t : D) (s : Ms)
  | no
def Out.bind {α β : Type} : Out α → (α → Ms → Out β) → Out β
  | .ok a s, f => f a s
  | .exc c t s, _ => .exc c t s
  | .no, _ => .no
@[simp] theorem Out.bind_ok {α β : Type} (a : α) (s : Ms) (f : α → Ms → Out β) : (Out.ok a s).bind f = f a s := rfl
@[simp] theorem Out.bind_exc {α β : Type} (c : Nat) (t : D) (s : Ms) (f : α → Ms → Out β) : (Out.exc c t s).bind f = .exc c t s := rfl
@[simp] theorem Out.bind_no {α β : Type} (f : α → Ms → Out β) : (Out.no).bind f = .no := rfl
inductive Fl where
  | nx
  | rt (d : D)
  | bk
  | ct
abbrev Ev := Ms → Out D
abbrev Evs := Ms → Out (List D)
abbrev Ex := Ms → Out Fl
/-- what a def without the deck answers -/
inductive Ro where
  | ok (d : D)
  | exc (c : Nat) (t : D)
  | no
/-- what a def with the deck answers -/
inductive Rd where
  | ok (d : D) (k : Dk)
  | no
def keyD : Key → D
  | .inl i => .int i
  | .inr x => .str x

/-! ### a value in the abstract heap; Xs: addresses that it does not use -/
def FL (H : Hp) (Xs : List Addr) (a : Addr) (vs : List V) : Prop := H a = some (.lst vs) ∧ a ∉ Xs
/-- a tuple of which it is known that it has no dict -/
def TupD (H : Hp) (a : Addr) (vs : List V) : Prop := ∃ o : Obj, H a = some (.frz o (.tup vs)) ∧ o.dict = none
/-- a tuple of the module's own -/
def KTup (K : Fr) (a : Addr) (vs : List V) : Prop := ∃ (o : Obj) (its : Array Value) (n : Nat), K.lookup a = some o ∧ o.cls = .type "tuple" ∧ o.dict = none ∧ o.data = .seq its n ∧ its.size ≤ sizeLine ∧ Vals vs its.toList
def FT (K : Fr) (H : Hp) (Xs : List Addr) (a : Addr) (vs : List V) : Prop := (TupD H a vs ∧ a ∉ Xs) ∨ KTup K a vs
mutual
def Rp (K : Fr) (H : Hp) (Xs : List Addr) : D → V → Prop
  | .none, v => v = .non
  | .bool b, v => v = .bl b
  | .int i, v => v = .int i
  | .str x, v => v = .str x
  | .list ds, v => ∃ a vs, v = .ref a ∧ FL H Xs a vs ∧ RpA K H Xs ds vs
  | .tuple ds, v => ∃ a vs, v = .ref a ∧ FT K H Xs a vs ∧ RpA K H Xs ds vs
  | .dict es, v => ∃ a kvs, v = .ref a ∧ H a = some (.dK kvs) ∧ a ∉ Xs ∧ RpK K H Xs es kvs
def RpA (K : Fr) (H : Hp) (Xs : List Addr) : List D → List V → Prop
  | [], vs => vs = []
  | d :: ds, vs => ∃ v r, vs = v :: r ∧ Rp K H Xs d v ∧ RpA K H Xs ds r
def RpK (K : Fr) (H : Hp) (Xs : List Addr) : List (D × D) → List (Key × V) → Prop
  | [], kvs => kvs = []
  | (k, d) :: es, kvs => ∃ kk v r, kvs = (kk, v) :: r ∧ k = keyD kk ∧ Rp K H Xs d v ∧ RpK K H Xs es r
end
/-- all that stood, but at M, stands -/
def Stay (M : List Addr) (H H' : Hp) : Prop := ∀ a o, H a = some o → a ∉ M → H' a = some o
theorem Stay.refl (M : List Addr) (H : Hp) : Stay M H H := fun _ _ h _ => h
theorem Stay.trans {M : List Addr} {H H1 H2 : Hp} (a : Stay M H H1) (b : Stay M H1 H2) : Stay M H H2 := fun x o h n => b x o (a x o h n) n
theorem Stay.more {M N : List Addr} {H H' : Hp} (a : Stay M H H') (s : ∀ x ∈ M, x ∈ N) : Stay N H H' := fun x o h n => a x o h fun z => n (s x z)
theorem Stay.laid {M : List Addr} {H : Hp} {p : Addr} {o : HO} (h : H p = none) : Stay M H (upd H p o) := fun x u q _ => by rw [upd_ne (ne_of_none q h)]; exact q
theorem Stay.put {M : List Addr} {H : Hp} {p : Addr} {o : HO} (h : p ∈ M) : Stay M H (upd H p o) := fun x u q n => by
  have z : x ≠ p := fun e => n (e ▸ h)
  rw [upd_ne z]; exact q
theorem rd_stay {M Xs : List Addr} {H H' : Hp} {a : Addr} {u : HO} (r : L2.Rd H a u) (n : a ∉ Xs) (s : Stay M H H') (hm : ∀ x ∈ M, x ∈ Xs) : L2.Rd H' a u := by
  have nm : a ∉ M := fun z => n (hm a z)
  rcases r with r | ⟨o, r⟩
  · exact .inl (s _ _ r nm)
  · exact .inr ⟨o, s _ _ r nm⟩
theorem TupD.stay {M Xs : List Addr} {H H' : Hp} {a : Addr} {vs : List V} (r : TupD H a vs) (n : a ∉ Xs) (s : Stay M H H') (hm : ∀ x ∈ M, x ∈ Xs) : TupD H' a vs := by
  obtain ⟨o, e, d⟩ := r
  exact ⟨o, s _ _ e fun z => n (hm a z), d⟩
theorem FL.stay {M Xs : List Addr} {H H' : Hp} {a : Addr} {vs : List V} (r : FL H Xs a vs) (s : Stay M H H') (hm : ∀ x ∈ M, x ∈ Xs) : FL H' Xs a vs :=
  ⟨s _ _ r.1 fun z => r.2 (hm a z), r.2⟩
theorem FT.stay {K : Fr} {M Xs : List Addr} {H H' : Hp} {a : Addr} {vs : List V} (r : FT K H Xs a vs) (s : Stay M H H') (hm : ∀ x ∈ M, x ∈ Xs) : FT K H' Xs a vs :=
  r.elim (fun ⟨h, n⟩ => .inl ⟨h.stay n s hm, n⟩) .inr
section
variable {K : Fr} {M Xs Ys : List Addr} {H H' : Hp}
mutual
theorem Rp.stay (s : Stay M H H') (hm : ∀ x ∈ M, x ∈ Xs) : ∀ (d : D) (v : V), Rp K H Xs d v → Rp K H' Xs d v
  | .none, _, h => h
  | .bool _, _, h => h
  | .int _, _, h => h
  | .str _, _, h => h
  | .list ds, v, h => by
    obtain ⟨a, vs, e, f, r⟩ := h
    exact ⟨a, vs, e, f.stay s hm, RpA.stay s hm ds vs r⟩
  | .tuple ds, v, h => by
    obtain ⟨a, vs, e, f, r⟩ := h
    exact ⟨a, vs, e, f.stay s hm, RpA.stay s hm ds vs r⟩
  | .dict es, v, h => by
    obtain ⟨a, kvs, e, f, n, r⟩ := h
    exact ⟨a, kvs, e, s _ _ f fun z => n (hm a z), n, RpK.stay s hm es kvs r⟩
theorem RpA.stay (s : Stay M H H') (hm : ∀ x ∈ M, x ∈ Xs) : ∀ (ds : List D) (vs : List V), RpA K H Xs ds vs → RpA K H' Xs ds vs
  | [], _, h => h
  | d :: ds, _, h => by
    obtain ⟨v, r, e, p, q⟩ := h
    exact ⟨v, r, e, Rp.stay s hm d v p, RpA.stay s hm ds r q⟩
theorem RpK.stay (s : Stay M H H') (hm : ∀ x ∈ M, x ∈ Xs) : ∀ (es : List (D × D)) (kvs : List (Key × V)), RpK K H Xs es kvs → RpK K H' Xs es kvs
  | [], _, h => h
  | (k, d) :: es, _, h => by
    obtain ⟨kk, v, r, e, ek, p, q⟩ := h
    exact ⟨kk, v, r, e, ek, Rp.stay s hm d v p, RpK.stay s hm es r q⟩
end
theorem FL.less {a : Addr} {vs : List V} (r : FL H Xs a vs) (hs : ∀ x ∈ Ys, x ∈ Xs) : FL H Ys a vs := ⟨r.1, fun z => r.2 (hs a z)⟩
theorem FT.less {a : Addr} {vs : List V} (r : FT K H Xs a vs) (hs : ∀ x ∈ Ys, x ∈ Xs) : FT K H Ys a vs := r.elim (fun ⟨h, n⟩ => .inl ⟨h, fun z => n (hs a z)⟩) .inr
mutual
/-- fewer addresses to be left alone -/
theorem Rp.less (hs : ∀ x ∈ Ys, x ∈ Xs) : ∀ (d : D) (v : V), Rp K H Xs d v → Rp K H Ys d v
  | .none, _, h => h
  | .bool _, _, h => h
  | .int _, _, h => h
  | .str _, _, h => h
  | .list ds, v, h => by
    obtain ⟨a, vs, e, f, r⟩ := h
    exact ⟨a, vs, e, f.less hs, RpA.less hs ds vs r⟩
  | .tuple ds, v, h => by
    obtain ⟨a, vs, e, f, r⟩ := h
    exact ⟨a, vs, e, f.less hs, RpA.less hs ds vs r⟩
  | .dict es, v, h => by
    obtain ⟨a, kvs, e, f, n, r⟩ := h
    exact ⟨a, kvs, e, f, fun z => n (hs a z), RpK.less hs es kvs r⟩
theorem RpA.less (hs : ∀ x ∈ Ys, x ∈ Xs) : ∀ (ds : List D) (vs : List V), RpA K H Xs ds vs → RpA K H Ys ds vs
  | [], _, h => h
  | d :: ds, _, h => by
    obtain ⟨v, r, e, p, q⟩ := h
    exact ⟨v, r, e, Rp.less hs d v p, RpA.less hs ds r q⟩
theorem RpK.less (hs : ∀ x ∈ Ys, x ∈ Xs) : ∀ (es : List (D × D)) (kvs : List (Key × V)), RpK K H Xs es kvs → RpK K H Ys es kvs
  | [], _, h => h
  | (k, d) :: es, _, h => by
    obtain ⟨kk, v, r, e, ek, p, q⟩ := h
    exact ⟨kk, v, r, e, ek, Rp.less hs d v p, RpK.less hs es r q⟩
end
theorem rd_ne {p a : Addr} {u : HO} (r : L2.Rd H a u) (h : H p = none) : a ≠ p := by
  rcases r with r | ⟨o, r⟩
  · exact ne_of_none r h
  · exact ne_of_none r h
theorem notMem_cons {p a : Addr} (h : a ≠ p) (n : a ∉ Xs) : a ∉ p :: Xs := fun z => (List.mem_cons.mp z).elim h n
theorem FL.fresh {p a : Addr} {vs : List V} (h : H p = none) (r : FL H Xs a vs) : FL H (p :: Xs) a vs := ⟨r.1, notMem_cons (ne_of_none r.1 h) r.2⟩
theorem FT.fresh {p a : Addr} {vs : List V} (h : H p = none) (r : FT K H Xs a vs) : FT K H (p :: Xs) a vs := r.elim (fun ⟨q, n⟩ => .inl ⟨q, notMem_cons (by obtain ⟨o, e, _⟩ := q; exact ne_of_none e h) n⟩) .inr
mutual
/-- what stands uses no free address -/
theorem Rp.fresh {p : Addr} (hp : H p = none) : ∀ (d : D) (v : V), Rp K H Xs d v → Rp K H (p :: Xs) d v
  | .none, _, h => h
  | .bool _, _, h => h
  | .int _, _, h => h
  | .str _, _, h => h
  | .list ds, v, h => by
    obtain ⟨a, vs, e, f, r⟩ := h
    exact ⟨a, vs, e, f.fresh hp, RpA.fresh hp ds vs r⟩
  | .tuple ds, v, h => by
    obtain ⟨a, vs, e, f, r⟩ := h
    exact ⟨a, vs, e, f.fresh hp, RpA.fresh hp ds vs r⟩
  | .dict es, v, h => by
    obtain ⟨a, kvs, e, f, n, r⟩ := h
    exact ⟨a, kvs, e, f, notMem_cons (ne_of_none f hp) n, RpK.fresh hp es kvs r⟩
theorem RpA.fresh {p : Addr} (hp : H p = none) : ∀ (ds : List D) (vs : List V), RpA K H Xs ds vs → RpA K H (p :: Xs) ds vs
  | [], _, h => h
  | d :: ds, _, h => by
    obtain ⟨v, r, e, q, t⟩ := h
    exact ⟨v, r, e, Rp.fresh hp d v q, RpA.fresh hp ds r t⟩
theorem RpK.fresh {p : Addr} (hp : H p = none) : ∀ (es : List (D × D)) (kvs : List (Key × V)), RpK K H Xs es kvs → RpK K H (p :: Xs) es kvs
  | [], _, h => h
  | (k, d) :: es, _, h => by
    obtain ⟨kk, v, r, e, ek, q, t⟩ := h
    exact ⟨kk, v, r, e, ek, Rp.fresh hp d v q, RpK.fresh hp es r t⟩
end
theorem RpA.len : ∀ {ds : List D} {vs : List V}, RpA K H Xs ds vs → vs.length = ds.length
  | [], _, h => by cases h; rfl
  | d :: ds, _, h => by
    obtain ⟨v, r, e, q, t⟩ := h
    subst e
    simp [RpA.len t]
theorem RpA.app : ∀ {ds es : List D} {vs ws : List V}, RpA K H Xs ds vs → RpA K H Xs es ws → RpA K H Xs (ds ++ es) (vs ++ ws)
  | [], _, _, _, h, k => by cases h; exact k
  | d :: ds, _, _, _, h, k => by
    obtain ⟨v, r, e, q, t⟩ := h
    subst e
    exact ⟨v, _, rfl, q, RpA.app t k⟩
theorem RpA.one {d : D} {v : V} (h : Rp K H Xs d v) : RpA K H Xs [d] [v] := ⟨v, [], rfl, h, rfl⟩
theorem RpA.take : ∀ {ds : List D} {vs : List V} (n : Nat), RpA K H Xs ds vs → RpA K H Xs (ds.take n) (vs.take n)
  | [], _, n, h => by cases h; simp [RpA]
  | d :: ds, _, 0, h => by simp [RpA]
  | d :: ds, _, n + 1, h => by
    obtain ⟨v, r, e, q, t⟩ := h
    subst e
    exact ⟨v, _, rfl, q, RpA.take n t⟩
theorem RpA.drop : ∀ {ds : List D} {vs : List V} (n : Nat), RpA K H Xs ds vs → RpA K H Xs (ds.drop n) (vs.drop n)
  | [], _, n, h => by cases h; simp [RpA]
  | d :: ds, _, 0, h => h
  | d :: ds, _, n + 1, h => by
    obtain ⟨v, r, e, q, t⟩ := h
    subst e
    exact RpA.drop n t
theorem RpA.get : ∀ {ds : List D} {vs : List V} {n : Nat} {d : D}, RpA K H Xs ds vs → ds[n]? = some d → ∃ v, vs[n]? = some v ∧ Rp K H Xs d v
  | [], _, n, _, h, e => by simp at e
  | d :: ds, _, 0, _, h, e => by
    obtain ⟨v, r, q, p, t⟩ := h
    subst q
    simp at e
    subst e
    exact ⟨v, rfl, p⟩
  | d :: ds, _, n + 1, _, h, e => by
    obtain ⟨v, r, q, p, t⟩ := h
    subst q
    exact RpA.get (n := n) t (by simpa using e)
theorem RpA.getV {ds : List D} {vs : List V} {n : Nat} {v : V} (h : RpA K H Xs ds vs) (e : vs[n]? = some v) : ∃ d, ds[n]? = some d ∧ Rp K H Xs d v := by
  have hl := h.len
  have hn : n < ds.length := by
    have := (List.getElem?_eq_some_iff.mp e).1
    omega
  obtain ⟨w, e', p⟩ := h.get (List.getElem?_eq_getElem hn)
  rw [e] at e'
  cases e'
  exact ⟨_, List.getElem?_eq_getElem hn, p⟩
theorem FT.sq {a : Addr} {vs : List V} (h : FT K H Xs a vs) : SqT K H a vs := by
  rcases h with ⟨⟨o, h, _⟩, _⟩ | ⟨o, its, n, h1, h2, _, h3, h4, h5⟩
  · exact .inl (.inr ⟨o, h⟩)
  · exact .inr ⟨o, its, n, h1, h2, h3, h4, h5⟩
end

/-! ### the frame's facts and the state -/
def dkl : Option (Addr × Addr) → List Addr
  | none => []
  | some (a, b) => [a, b]
def DkAt (H : Hp) (kd kc : Addr) (k : Dk) : Prop :=
  kd ≠ kc ∧ H kd = some (.dK [(.inr "cells", .ref kc), (.inr "mixed", .int k.mixed), (.inr "turn", .int k.turn)]) ∧ H kc = some (.lst (k.cells.map V.int)) ∧ k.cells.length ≤ 1000
/-- what does not change in a body: the heap at its entry, what its arguments leave alone, where the deck stands -/
structure Fm where
  H0 : Hp
  X0 : List Addr
  dka : Option (Addr × Addr)
  /-- values that are held besides (what a loop walks) -/
  tmp : List (D × V)
def SlotOk (K : Fr) (H : Hp) (X : List Addr) (os : List (Nat × Addr)) (dka : Option (Addr × Addr)) (i : Nat) (o : Option V) : Sv → Prop
  | .un => True
  | .fz d => ∃ v, o = some v ∧ Rp K H X d v
  | .own ds => ∃ a vs, o = some (.ref a) ∧ (i, a) ∈ os ∧ H a = some (.lst vs) ∧ RpA K H X ds vs
  | .deck => ∃ kd kc, dka = some (kd, kc) ∧ o = some (.ref kd)
structure Rel (K : Fr) (fm : Fm) (X : List Addr) (os : List (Nat × Addr)) (s : Ms) (σ : L2.St) (H : Hp) : Prop where
  len : s.env.length = σ.length
  slot : ∀ i sv, s.env[i]? = some sv → SlotOk K H X os fm.dka i (σ[i]?.join) sv
  nd : (os.map (·.2)).Nodup
  sub : ∀ p ∈ os, p.2 ∈ X ∧ p.2 ∉ dkl fm.dka ∧ fm.H0 p.2 = none
  lv : ∀ p ∈ os, ∃ vs, H p.2 = some (.lst vs)
  x0 : ∀ a ∈ fm.X0, a ∈ X
  x1 : ∀ a ∈ fm.X0, fm.H0 a ≠ none
  xt : ∀ a ∈ X, H a ≠ none
  dks : ∀ a ∈ dkl fm.dka, a ∈ X
  dk : ∀ kd kc, fm.dka = some (kd, kc) → DkAt H kd kc s.dk
  ent : Stay (dkl fm.dka) fm.H0 H
  one : s.sm = true → ∃ o u, H sysModules = some (.frz o u)
  tm : ∀ p ∈ fm.tmp, Rp K H X p.1 p.2
/-- what may change: the deck, and (unless still) the frame's own lists -/
def Mu (dka : Option (Addr × Addr)) (os : List (Nat × Addr)) (m : Bool) : List Addr := dkl dka ++ (if m then [] else os.map (·.2))
theorem Mu.sub {K : Fr} {fm : Fm} {X : List Addr} {os : List (Nat × Addr)} {s : Ms} {σ : L2.St} {H : Hp} (r : Rel K fm X os s σ H) (m : Bool) : ∀ a ∈ Mu fm.dka os m, a ∈ X := fun a ha => by
  unfold Mu at ha
  rcases List.mem_append.mp ha with h | h
  · exact r.dks a h
  · cases m with
    | true => simp at h
    | false =>
      simp only [Bool.false_eq_true, if_false] at h
      obtain ⟨p, hp, e⟩ := List.mem_map.mp h
      rw [← e]
      exact (r.sub p hp).1
theorem Mu.still {dka : Option (Addr × Addr)} {os : List (Nat × Addr)} {m : Bool} : ∀ a ∈ Mu dka os true, a ∈ Mu dka os m := fun a ha => by
  unfold Mu at ha ⊢
  rcases List.mem_append.mp ha with h | h
  · exact List.mem_append_left _ h
  · simp at h
end Zo
/-! ZB: how the state's standing goes on behind a change. -/
namespace Zo
open PySem PySem.Spec PyProof.Rows L2
section
variable {K : Fr} {fm : Fm} {X : List Addr} {os : List (Nat × Addr)} {s : Ms} {σ : L2.St} {H H' : Hp}
theorem Stay.some {H H' : Hp} (st : Stay [] H H') {a : Addr} (h : H a ≠ none) : H' a ≠ none := by
  cases e : H a with
  | none => exact absurd e h
  | some o => rw [st a o e (by simp)]; simp
/-- nothing that stood was changed -/
theorem Rel.stay (r : Rel K fm X os s σ H) (st : Stay [] H H') : Rel K fm X os s σ H' where
  len := r.len
  slot := fun i sv e => by
    have q := r.slot i sv e
    cases sv with
    | un => exact q
    | fz d =>
      obtain ⟨v, e1, p⟩ := q
      exact ⟨v, e1, Rp.stay st (fun a h => absurd h (by simp)) d v p⟩
    | own ds =>
      obtain ⟨a, vs, e1, e2, e3, p⟩ := q
      exact ⟨a, vs, e1, e2, st _ _ e3 (by simp), RpA.stay st (fun a h => absurd h (by simp)) ds vs p⟩
    | deck => exact q
  nd := r.nd
  sub := r.sub
  lv := fun p hp => by
    obtain ⟨vs, e⟩ := r.lv p hp
    exact ⟨vs, st _ _ e (by simp)⟩
  x0 := r.x0
  x1 := r.x1
  xt := fun a h => st.some (r.xt a h)
  dks := r.dks
  dk := fun kd kc e => by
    obtain ⟨h1, h2, h3, h4⟩ := r.dk kd kc e
    exact ⟨h1, st _ _ h2 (by simp), st _ _ h3 (by simp), h4⟩
  ent := r.ent.trans (st.more fun a h => absurd h (by simp))
  one := fun e => by
    obtain ⟨o, u, q⟩ := r.one e
    exact ⟨o, u, st _ _ q (by simp)⟩
  tm := fun p hp => Rp.stay st (fun a h => absurd h (by simp)) p.1 p.2 (r.tm p hp)
theorem Rel.laid (r : Rel K fm X os s σ H) {p : Addr} {o : HO} (h : H p = none) : Rel K fm X os s σ (upd H p o) := r.stay (Stay.laid h)
theorem Rel.nx (r : Rel K fm X os s σ H) {p : Addr} (h : H p = none) : p ∉ X := fun z => r.xt p z h
/-- the deck was changed -/
theorem Rel.dput (r : Rel K fm X os s σ H) {k : Dk} (st : Stay (dkl fm.dka) H H') (h : ∀ kd kc, fm.dka = some (kd, kc) → DkAt H' kd kc k) : Rel K fm X os { s with dk := k } σ H' where
  len := r.len
  slot := fun i sv e => by
    have q := r.slot i sv e
    cases sv with
    | un => exact q
    | fz d =>
      obtain ⟨v, e1, p⟩ := q
      exact ⟨v, e1, Rp.stay st r.dks d v p⟩
    | own ds =>
      obtain ⟨a, vs, e1, e2, e3, p⟩ := q
      exact ⟨a, vs, e1, e2, st _ _ e3 (r.sub _ e2).2.1, RpA.stay st r.dks ds vs p⟩
    | deck => exact q
  nd := r.nd
  sub := r.sub
  lv := fun p hp => by
    obtain ⟨vs, e⟩ := r.lv p hp
    exact ⟨vs, st _ _ e (r.sub p hp).2.1⟩
  x0 := r.x0
  x1 := r.x1
  xt := fun a ha => by
    by_cases hd : a ∈ dkl fm.dka
    · cases e : fm.dka with
      | none => rw [e] at hd; simp [dkl] at hd
      | some p =>
        obtain ⟨kd, kc⟩ := p
        obtain ⟨_, h2, h3, _⟩ := h kd kc e
        rw [e] at hd
        simp only [dkl, List.mem_cons, List.not_mem_nil, or_false] at hd
        rcases hd with rfl | rfl
        · rw [h2]; simp
        · rw [h3]; simp
    · cases e : H a with
      | none => exact absurd e (r.xt a ha)
      | some o => rw [st a o e hd]; simp
  dks := r.dks
  dk := h
  ent := r.ent.trans st
  one := fun e => by
    obtain ⟨o, u, q⟩ := r.one e
    refine ⟨o, u, st _ _ q fun z => ?_⟩
    cases e2 : fm.dka with
    | none => rw [e2] at z; simp [dkl] at z
    | some p =>
      obtain ⟨kd, kc⟩ := p
      obtain ⟨_, h2, h3, _⟩ := r.dk kd kc e2
      rw [e2] at z
      simp only [dkl, List.mem_cons, List.not_mem_nil, or_false] at z
      rcases z with z | z
      · rw [← z, q] at h2; cases h2
      · rw [← z, q] at h3; cases h3
  tm := fun p hp => Rp.stay st r.dks p.1 p.2 (r.tm p hp)
def rid (os : List (Nat × Addr)) (i : Nat) : List (Nat × Addr) := os.filter fun p => decide (p.1 ≠ i)
theorem rid_mem {os : List (Nat × Addr)} {i : Nat} {p : Nat × Addr} : p ∈ rid os i ↔ p ∈ os ∧ p.1 ≠ i := by simp [rid]
theorem rid_nd {os : List (Nat × Addr)} (h : (os.map (·.2)).Nodup) (i : Nat) : ((rid os i).map (·.2)).Nodup := h.sublist ((List.filter_sublist).map _)
theorem getD_set_self {σ : L2.St} {i : Nat} {v : V} (h : i < σ.length) : ((σ.set i (some v))[i]?).join = some v := by simp [h]
theorem getD_set_ne {σ : L2.St} {i j : Nat} {o : Option V} (h : i ≠ j) : ((σ.set i o)[j]?) = σ[j]? := by simp [h]
/-- a slot is given a value -/
theorem Rel.setfz (r : Rel K fm X os s σ H) {i : Nat} {d : D} {v : V} (p : Rp K H X d v) : Rel K fm X (rid os i) { s with env := s.env.set i (.fz d) } (σ.set i (some v)) H where
  len := by simp [r.len]
  slot := fun j sv e => by
    by_cases hij : i = j
    · subst hij
      by_cases hl : i < s.env.length
      · simp [hl] at e
        subst e
        exact ⟨v, getD_set_self (by rw [← r.len]; exact hl), p⟩
      · exact absurd (by simpa using (List.getElem?_eq_some_iff.mp e).1) hl
    · have e' : s.env[j]? = some sv := by simpa [hij] using e
      have q := r.slot j sv e'
      rw [getD_set_ne hij]
      cases sv with
      | un => exact q
      | fz d => exact q
      | own ds =>
        obtain ⟨a, vs, e1, e2, e3⟩ := q
        exact ⟨a, vs, e1, rid_mem.mpr ⟨e2, fun z => hij z.symm⟩, e3⟩
      | deck => exact q
  nd := rid_nd r.nd i
  sub := fun p hp => r.sub p (rid_mem.mp hp).1
  lv := fun p hp => r.lv p (rid_mem.mp hp).1
  x0 := r.x0
  x1 := r.x1
  xt := r.xt
  dks := r.dks
  dk := r.dk
  ent := r.ent
  one := r.one
  tm := r.tm
theorem Rel.ent0 (r : Rel K fm X os s σ H) {p : Addr} (h : H p = none) : fm.H0 p = none := by
  cases e : fm.H0 p with
  | none => rfl
  | some o =>
    have hd : p ∉ dkl fm.dka := fun z => r.nx h (r.dks p z)
    rw [r.ent p o e hd] at h
    cases h
/-- a new list, told -/
theorem Rel.laidL (r : Rel K fm X os s σ H) {p : Addr} {vs : List V} (h : H p = none) : Rel K fm (p :: X) os s σ (upd H p (.lst vs)) where
  len := r.len
  slot := fun i sv e => by
    have q := (r.laid (o := .lst vs) h).slot i sv e
    have q0 := r.slot i sv e
    have st : Stay [] H (upd H p (.lst vs)) := Stay.laid h
    cases sv with
    | un => exact q
    | fz d =>
      obtain ⟨v, e1, z⟩ := q0
      exact ⟨v, e1, Rp.stay st (fun a h => absurd h (by simp)) d v (Rp.fresh h d v z)⟩
    | own ds =>
      obtain ⟨a, ws, e1, e2, e3, z⟩ := q0
      exact ⟨a, ws, e1, e2, st _ _ e3 (by simp), RpA.stay st (fun a h => absurd h (by simp)) ds ws (RpA.fresh h ds ws z)⟩
    | deck => exact q
  nd := r.nd
  sub := fun q hq => ⟨List.mem_cons_of_mem _ (r.sub q hq).1, (r.sub q hq).2⟩
  lv := (r.laid (o := .lst vs) h).lv
  x0 := fun a ha => List.mem_cons_of_mem _ (r.x0 a ha)
  x1 := r.x1
  xt := fun a ha => by
    rcases List.mem_cons.mp ha with rfl | ha
    · rw [upd_same]; simp
    · exact (r.laid (o := .lst vs) h).xt a ha
  dks := fun a ha => List.mem_cons_of_mem _ (r.dks a ha)
  dk := (r.laid (o := .lst vs) h).dk
  ent := (r.laid (o := .lst vs) h).ent
  one := (r.laid (o := .lst vs) h).one
  tm := fun q hq => Rp.stay (M := []) (Stay.laid h) (fun a h => absurd h (by simp)) q.1 q.2 (Rp.fresh h q.1 q.2 (r.tm q hq))
/-- a slot is given a new list, its own -/
theorem Rel.setown {p : Addr} (r : Rel K fm X os s σ H) {i : Nat} {ds : List D} {vs : List V} (hx : p ∈ X) (hp : H p = some (.lst vs)) (hn : p ∉ os.map (·.2)) (hd : p ∉ dkl fm.dka) (h0 : fm.H0 p = none) (ha : RpA K H X ds vs) :
    Rel K fm X ((i, p) :: rid os i) { s with env := s.env.set i (.own ds) } (σ.set i (some (.ref p))) H where
  len := by simp [r.len]
  slot := fun j sv e => by
    by_cases hij : i = j
    · subst hij
      by_cases hl : i < s.env.length
      · simp [hl] at e
        subst e
        exact ⟨p, vs, getD_set_self (by rw [← r.len]; exact hl), List.mem_cons_self, hp, ha⟩
      · have := (List.getElem?_eq_some_iff.mp e).1
        simp at this
        omega
    · have e' : s.env[j]? = some sv := by simpa [hij] using e
      have q := r.slot j sv e'
      rw [getD_set_ne hij]
      cases sv with
      | un => exact q
      | fz d => exact q
      | own ds =>
        obtain ⟨a, ws, e1, e2, e3⟩ := q
        exact ⟨a, ws, e1, List.mem_cons_of_mem _ (rid_mem.mpr ⟨e2, fun z => hij z.symm⟩), e3⟩
      | deck => exact q
  nd := by
    rw [List.map_cons, List.nodup_cons]
    refine ⟨fun z => ?_, rid_nd r.nd i⟩
    obtain ⟨q, hq, e⟩ := List.mem_map.mp z
    exact hn (List.mem_map.mpr ⟨q, (rid_mem.mp hq).1, e⟩)
  sub := fun q hq => by
    rcases List.mem_cons.mp hq with rfl | hq
    · exact ⟨hx, hd, h0⟩
    · exact r.sub q (rid_mem.mp hq).1
  lv := fun q hq => by
    rcases List.mem_cons.mp hq with rfl | hq
    · exact ⟨vs, hp⟩
    · exact r.lv q (rid_mem.mp hq).1
  x0 := r.x0
  x1 := r.x1
  xt := r.xt
  dks := r.dks
  dk := r.dk
  ent := r.ent
  one := r.one
  tm := r.tm
/-- a frame's own list is changed in its place -/
theorem Rel.put (r : Rel K fm X os s σ H) {i : Nat} {a : Addr} {ds ds' : List D} {vs' : List V} (he : s.env[i]? = some (.own ds)) (hs : σ[i]?.join = some (.ref a)) (hm : (i, a) ∈ os) (hr : RpA K H X ds' vs') :
    Rel K fm X os { s with env := s.env.set i (.own ds') } σ (upd H a (.lst vs')) ∧ Stay [a] H (upd H a (.lst vs')) := by
  have ax := (r.sub _ hm).1
  have st : Stay [a] H (upd H a (.lst vs')) := Stay.put List.mem_cons_self
  have sx : ∀ x ∈ [a], x ∈ X := fun x hx => by
    rw [List.mem_singleton.mp hx]; exact ax
  have hd := (r.sub _ hm).2.1
  have nda : ∀ {j b}, (j, b) ∈ os → b = a → j = i := fun {j b} h1 h2 => by
    subst h2
    have nd := r.nd
    have key : ∀ (l : List (Nat × Addr)), (l.map (·.2)).Nodup → (j, b) ∈ l → (i, b) ∈ l → j = i := by
      intro l
      induction l with
      | nil => intro _ h; cases h
      | cons q l ih =>
        intro nd h1 h2
        rw [List.map_cons, List.nodup_cons] at nd
        rcases List.mem_cons.mp h1 with e1 | h1
        · rcases List.mem_cons.mp h2 with e2 | h2
          · rw [← e2] at e1
            exact (Prod.mk.inj e1).1
          · exact absurd (List.mem_map.mpr ⟨_, h2, by rw [← e1]⟩) nd.1
        · rcases List.mem_cons.mp h2 with e2 | h2
          · exact absurd (List.mem_map.mpr ⟨_, h1, by rw [← e2]⟩) nd.1
          · exact ih nd.2 h1 h2
    exact key os nd h1 hm
  refine ⟨?_, st⟩
  exact {
    len := by simp [r.len]
    slot := fun j sv e => by
      by_cases hij : i = j
      · subst hij
        have hl := (List.getElem?_eq_some_iff.mp he).1
        simp [hl] at e
        subst e
        exact ⟨a, vs', hs, hm, upd_same, RpA.stay st sx ds' vs' hr⟩
      · have e' : s.env[j]? = some sv := by simpa [hij] using e
        have q := r.slot j sv e'
        cases sv with
        | un => exact q
        | fz d =>
          obtain ⟨v, e1, p⟩ := q
          exact ⟨v, e1, Rp.stay st sx d v p⟩
        | own ds =>
          obtain ⟨b, ws, e1, e2, e3, p⟩ := q
          have hb : b ≠ a := fun z => hij (nda e2 z).symm
          exact ⟨b, ws, e1, e2, by rw [upd_ne hb]; exact e3, RpA.stay st sx ds ws p⟩
        | deck => exact q
    nd := r.nd
    sub := r.sub
    lv := fun p hp => by
      by_cases hb : p.2 = a
      · exact ⟨vs', by rw [hb, upd_same]⟩
      · obtain ⟨ws, e⟩ := r.lv p hp
        exact ⟨ws, by rw [upd_ne hb]; exact e⟩
    x0 := r.x0
    x1 := r.x1
    xt := fun b hb => by
      by_cases hba : b = a
      · rw [hba, upd_same]; simp
      · rw [upd_ne hba]; exact r.xt b hb
    dks := r.dks
    dk := fun kd kc e => by
      obtain ⟨h1, h2, h3, h4⟩ := r.dk kd kc e
      have n1 : kd ≠ a := fun z => hd (by rw [e]; simp [dkl, z])
      have n2 : kc ≠ a := fun z => hd (by rw [e]; simp [dkl, z])
      exact ⟨h1, by rw [upd_ne n1]; exact h2, by rw [upd_ne n2]; exact h3, h4⟩
    ent := fun b o e n => by
      have hb : b ≠ a := fun z => by
        rw [z, (r.sub _ hm).2.2] at e
        cases e
      rw [upd_ne hb]
      exact r.ent b o e n
    one := fun e => by
      obtain ⟨o, u, q⟩ := r.one e
      obtain ⟨ws, z⟩ := r.lv _ hm
      refine ⟨o, u, ?_⟩
      have hb : sysModules ≠ a := fun e2 => by
        rw [← e2, q] at z
        cases z
      rw [upd_ne hb]
      exact q
    tm := fun p hp => Rp.stay st sx p.1 p.2 (r.tm p hp) }
/-- a frame's own list is left as it is for ever -/
theorem Rel.freeze (r : Rel K fm X os s σ H) {i : Nat} {ds : List D} (he : s.env[i]? = some (.own ds)) : ∃ X', Rel K fm X' (rid os i) { s with env := s.env.set i (.fz (.list ds)) } σ H := by
  obtain ⟨a, vs, hs, hm, hv, hr⟩ := r.slot i _ he
  have sub : ∀ x ∈ X.filter (fun x => decide (x ≠ a)), x ∈ X := fun x h => (List.mem_filter.mp h).1
  have na : a ∉ X.filter (fun x => decide (x ≠ a)) := fun h => by simpa using (List.mem_filter.mp h).2
  have keep : ∀ {x}, x ∈ X → x ≠ a → x ∈ X.filter (fun x => decide (x ≠ a)) := fun h n => List.mem_filter.mpr ⟨h, by simpa using n⟩
  have ha0 : fm.H0 a = none := (r.sub _ hm).2.2
  have nd := r.nd
  have other : ∀ {p : Nat × Addr}, p ∈ os → p.1 ≠ i → p.2 ≠ a := fun {p} h1 h2 z => by
    have key : ∀ (l : List (Nat × Addr)), (l.map (·.2)).Nodup → p ∈ l → (i, a) ∈ l → p.1 = i := by
      intro l
      induction l with
      | nil => intro _ h; cases h
      | cons q l ih =>
        intro nd h1 h2
        rw [List.map_cons, List.nodup_cons] at nd
        rcases List.mem_cons.mp h1 with e1 | h1
        · rcases List.mem_cons.mp h2 with e2 | h2
          · rw [e1, ← e2]
          · exact absurd (List.mem_map.mpr ⟨_, h2, by rw [← e1, z]⟩) nd.1
        · rcases List.mem_cons.mp h2 with e2 | h2
          · exact absurd (List.mem_map.mpr ⟨_, h1, by rw [← e2, z]⟩) nd.1
          · exact ih nd.2 h1 h2
    exact h2 (key os nd h1 hm)
  refine ⟨X.filter (fun x => decide (x ≠ a)), ?_⟩
  exact {
    len := by simp [r.len]
    slot := fun j sv e => by
      by_cases hij : i = j
      · subst hij
        have hl := (List.getElem?_eq_some_iff.mp he).1
        simp [hl] at e
        subst e
        exact ⟨.ref a, hs, a, vs, rfl, ⟨hv, na⟩, RpA.less sub ds vs hr⟩
      · have e' : s.env[j]? = some sv := by simpa [hij] using e
        have q := r.slot j sv e'
        cases sv with
        | un => exact q
        | fz d =>
          obtain ⟨v, e1, p⟩ := q
          exact ⟨v, e1, Rp.less sub d v p⟩
        | own ds =>
          obtain ⟨b, ws, e1, e2, e3, p⟩ := q
          exact ⟨b, ws, e1, rid_mem.mpr ⟨e2, fun z => hij z.symm⟩, e3, RpA.less sub ds ws p⟩
        | deck => exact q
    nd := rid_nd r.nd i
    sub := fun p hp => by
      obtain ⟨h1, h2⟩ := rid_mem.mp hp
      exact ⟨keep (r.sub p h1).1 (other h1 h2), (r.sub p h1).2⟩
    lv := fun p hp => r.lv p (rid_mem.mp hp).1
    x0 := fun b hb => keep (r.x0 b hb) fun z => r.x1 b hb (by rw [z]; exact ha0)
    x1 := r.x1
    xt := fun b hb => r.xt b (sub b hb)
    dks := fun b hb => keep (r.dks b hb) fun z => (r.sub _ hm).2.1 (by rw [← z]; exact hb)
    dk := r.dk
    ent := r.ent
    one := r.one
    tm := fun p hp => Rp.less sub p.1 p.2 (r.tm p hp) }
/-- a smaller set to be left alone -/
theorem Rel.lessX {p : Addr} (r : Rel K fm (p :: X) os s σ H) (hn : p ∉ os.map (·.2)) (hd : p ∉ dkl fm.dka) (h0 : fm.H0 p = none) (hx : p ∉ X) : Rel K fm X os s σ H := by
  have sub : ∀ x ∈ X, x ∈ p :: X := fun x h => List.mem_cons_of_mem _ h
  exact {
    len := r.len
    slot := fun j sv e => by
      have q := r.slot j sv e
      cases sv with
      | un => exact q
      | fz d =>
        obtain ⟨v, e1, p⟩ := q
        exact ⟨v, e1, Rp.less sub d v p⟩
      | own ds =>
        obtain ⟨b, ws, e1, e2, e3, p⟩ := q
        exact ⟨b, ws, e1, e2, e3, RpA.less sub ds ws p⟩
      | deck => exact q
    nd := r.nd
    sub := fun q hq => by
      refine ⟨(List.mem_cons.mp (r.sub q hq).1).resolve_left fun z => ?_, (r.sub q hq).2⟩
      exact hn (List.mem_map.mpr ⟨q, hq, z⟩)
    lv := r.lv
    x0 := fun b hb => (List.mem_cons.mp (r.x0 b hb)).resolve_left fun z => r.x1 b hb (by rw [z]; exact h0)
    x1 := r.x1
    xt := fun b hb => r.xt b (sub b hb)
    dks := fun b hb => (List.mem_cons.mp (r.dks b hb)).resolve_left fun z => hd (by rw [← z]; exact hb)
    dk := r.dk
    ent := r.ent
    one := r.one
    tm := fun q hq => Rp.less sub q.1 q.2 (r.tm q hq) }
/-- what is held besides -/
theorem Rel.hold (r : Rel K fm X os s σ H) {p : D × V} (h : Rp K H X p.1 p.2) : Rel K { fm with tmp := p :: fm.tmp } X os s σ H :=
  { len := r.len, slot := r.slot, nd := r.nd, sub := r.sub, lv := r.lv, x0 := r.x0, x1 := r.x1, xt := r.xt, dks := r.dks, dk := r.dk, ent := r.ent, one := r.one,
    tm := fun q hq => (List.mem_cons.mp hq).elim (fun e => by rw [e]; exact h) (r.tm q) }
theorem Rel.holds (r : Rel K fm X os s σ H) : ∀ (t : List (D × V)), (∀ p ∈ t, Rp K H X p.1 p.2) → Rel K { fm with tmp := t ++ fm.tmp } X os s σ H := fun t h =>
  { len := r.len, slot := r.slot, nd := r.nd, sub := r.sub, lv := r.lv, x0 := r.x0, x1 := r.x1, xt := r.xt, dks := r.dks, dk := r.dk, ent := r.ent, one := r.one,
    tm := fun q hq => (List.mem_append.mp hq).elim (h q) (r.tm q) }
theorem Rel.drops {t : List (D × V)} (r : Rel K { fm with tmp := t ++ fm.tmp } X os s σ H) : Rel K fm X os s σ H :=
  { len := r.len, slot := r.slot, nd := r.nd, sub := r.sub, lv := r.lv, x0 := r.x0, x1 := r.x1, xt := r.xt, dks := r.dks, dk := r.dk, ent := r.ent, one := r.one,
    tm := fun q hq => r.tm q (List.mem_append_right _ hq) }
/-- slots that nothing is told of may hold anything -/
theorem Rel.resig {σ' : L2.St} (r : Rel K fm X os s σ H) (hl : σ'.length = σ.length) (h : ∀ i : Nat, s.env[i]? = some Sv.un ∨ σ'[i]? = σ[i]?) : Rel K fm X os s σ' H where
  len := by rw [hl]; exact r.len
  slot := fun i sv e => by
    rcases h i with q | q
    · rw [q] at e
      cases e
      trivial
    · rw [q]; exact r.slot i sv e
  nd := r.nd
  sub := r.sub
  lv := r.lv
  x0 := r.x0
  x1 := r.x1
  xt := r.xt
  dks := r.dks
  dk := r.dk
  ent := r.ent
  one := r.one
  tm := r.tm
/-- a slot is forgotten -/
theorem Rel.forget (r : Rel K fm X os s σ H) (i : Nat) : Rel K fm X os { s with env := s.env.set i .un } σ H where
  len := by simp [r.len]
  slot := fun j sv e => by
    by_cases hij : i = j
    · subst hij
      by_cases hl : i < s.env.length
      · simp [hl] at e
        subst e
        trivial
      · exact absurd (by simpa using (List.getElem?_eq_some_iff.mp e).1) hl
    · exact r.slot j sv (by simpa [hij] using e)
  nd := r.nd
  sub := r.sub
  lv := r.lv
  x0 := r.x0
  x1 := r.x1
  xt := r.xt
  dks := r.dks
  dk := r.dk
  ent := r.ent
  one := r.one
  tm := r.tm
end
end Zo
/-! ZC: the judgements (an expression, its value by value), and the rules that do not hang on an operator. -/
namespace Zo
open PySem PySem.Spec PyProof.Rows L2
/-- what may be read: what nobody changes any more, or a list of the frame's own -/
def RpB (K : Fr) (H : Hp) (X : List Addr) (os : List (Nat × Addr)) (d : D) (v : V) : Prop :=
  Rp K H X d v ∨ ∃ i a vs ds, d = .list ds ∧ v = .ref a ∧ (i, a) ∈ os ∧ H a = some (.lst vs) ∧ RpA K H X ds vs
section
variable (K : Fr) (cl : Nat → Addr) (W : WX) (m : Bool)
def Wish (fm : Fm) (X : List Addr) (os : List (Nat × Addr)) (σ : L2.St) (c : Nat) (t : D) (s' : Ms) : Prop :=
  ∀ v dd H', Rel K fm X os s' σ H' → Rp K H' X t v → H' dd = some (.xd [(("thing" : Str), v)]) → W (.ref (cl c)) (some dd) σ H'
def GoodE (fm : Fm) (X : List Addr) (os : List (Nat × Addr)) (σ : L2.St) (H : Hp) (Q : VK) : Out D → Prop
  | .ok d s' => ∀ v H', Rel K fm X os s' σ H' → Stay (Mu fm.dka os m) H H' → Rp K H' X d v → Q v H'
  | .exc c t s' => Wish K cl W fm X os σ c t s'
  | .no => False
def GoodB (fm : Fm) (X : List Addr) (os : List (Nat × Addr)) (σ : L2.St) (H : Hp) (Q : VK) : Out D → Prop
  | .ok d s' => ∀ v H', Rel K fm X os s' σ H' → Stay (Mu fm.dka os m) H H' → RpB K H' X os d v → Q v H'
  | .exc c t s' => Wish K cl W fm X os σ c t s'
  | .no => False
/-- p is nobody's yet -/
structure Frsh (fm : Fm) (X : List Addr) (os : List (Nat × Addr)) (p : Addr) : Prop where
  nx : p ∉ X
  no : p ∉ os.map (·.2)
  nd : p ∉ dkl fm.dka
  n0 : fm.H0 p = none
/-- a new list -/
def GoodF (fm : Fm) (X : List Addr) (os : List (Nat × Addr)) (σ : L2.St) (H : Hp) (Q : VK) : Out (List D) → Prop
  | .ok ds s' => ∀ p vs H1, Rel K fm (p :: X) os s' σ H1 → Stay (Mu fm.dka os m) H H1 → Frsh fm X os p → H1 p = some (.lst vs) → RpA K H1 (p :: X) ds vs → Q (.ref p) H1
  | .exc c t s' => Wish K cl W fm X os σ c t s'
  | .no => False
def GoodA (fm : Fm) (X : List Addr) (os : List (Nat × Addr)) (σ : L2.St) (H : Hp) (Q : List V → Hp → Prop) : Out (List D) → Prop
  | .ok ds s' => ∀ vs H', Rel K fm X os s' σ H' → Stay (Mu fm.dka os m) H H' → RpA K H' X ds vs → Q vs H'
  | .exc c t s' => Wish K cl W fm X os σ c t s'
  | .no => False
def GoodT (fm : Fm) (X : List Addr) (os : List (Nat × Addr)) (σ : L2.St) (H : Hp) (Q : Bool → Hp → Prop) : Out Bool → Prop
  | .ok b s' => ∀ H', Rel K fm X os s' σ H' → Stay (Mu fm.dka os m) H H' → Q b H'
  | .exc c t s' => Wish K cl W fm X os σ c t s'
  | .no => False
def tE (ev : Ev) : TE := fun σ H Q => ∃ fm X os s, Rel K fm X os s σ H ∧ GoodE K cl W m fm X os σ H Q (ev s)
def tB (ev : Ev) : TE := fun σ H Q => ∃ fm X os s, Rel K fm X os s σ H ∧ GoodB K cl W m fm X os σ H Q (ev s)
def tF (ev : Evs) : TE := fun σ H Q => ∃ fm X os s, Rel K fm X os s σ H ∧ GoodF K cl W m fm X os σ H Q (ev s)
def tA (ev : Evs) : TA := fun σ H Q => ∃ fm X os s, Rel K fm X os s σ H ∧ GoodA K cl W m fm X os σ H Q (ev s)
def tT (ev : Ms → Out Bool) : TT := fun σ H Q => ∃ fm X os s, Rel K fm X os s σ H ∧ GoodT K cl W m fm X os σ H Q (ev s)
end
abbrev SE (cl : Nat → Addr) (X : Cx) (W : WX) (m : Bool) (e : Expr) (ev : Ev) : Prop := PE X e (tE X.K cl W m ev)
abbrev SB (cl : Nat → Addr) (X : Cx) (W : WX) (m : Bool) (e : Expr) (ev : Ev) : Prop := PE X e (tB X.K cl W m ev)
abbrev SF (cl : Nat → Addr) (X : Cx) (W : WX) (m : Bool) (e : Expr) (ev : Evs) : Prop := PE X e (tF X.K cl W m ev)
abbrev SA (cl : Nat → Addr) (X : Cx) (W : WX) (m : Bool) (es : List Expr) (ev : Evs) : Prop := PA X es (tA X.K cl W m ev)
abbrev STt (cl : Nat → Addr) (X : Cx) (W : WX) (m : Bool) (e : Expr) (ev : Ms → Out Bool) : Prop := PT X e (tT X.K cl W m ev)
abbrev SW (cl : Nat → Addr) (X : Cx) (W : WX) (m : Bool) (e : Expr) (ev : Ms → Out Bool) : Prop := PW X e (tT X.K cl W m ev)
section
variable {X : Cx} {e : Expr} {es : List Expr}
theorem pe_imp {t t' : TE} (h : PE X e t) (i : ∀ σ H Q, t' σ H Q → t σ H Q) : PE X e t' := ⟨fun pins s σ H Q I q => h.run pins s σ H Q I (i σ H Q q)⟩
theorem pa_imp {t t' : TA} (h : PA X es t) (i : ∀ σ H Q, t' σ H Q → t σ H Q) : PA X es t' := ⟨fun pos pins s σ H Q I q => h.run pos pins s σ H Q I (i σ H Q q)⟩
theorem pt_imp {t t' : TT} (h : PT X e t) (i : ∀ σ H Q, t' σ H Q → t σ H Q) : PT X e t' := ⟨fun pins s σ H Q I q => h.run pins s σ H Q I (i σ H Q q)⟩
theorem pw_imp {t t' : TT} (h : PW X e t) (i : ∀ σ H Q, t' σ H Q → t σ H Q) : PW X e t' := ⟨fun w pins s σ H Q I q => h.run w pins s σ H Q I (i σ H Q q)⟩
theorem ps_imp {st : Stmt} {t t' : TS} (h : PS X st t) (i : ∀ D σ H, t' D σ H → t D σ H) : PS X st t' := ⟨fun pins s σ H D I q => h.run pins s σ H D I (i D σ H q)⟩
theorem pss_imp {st : List Stmt} {t t' : TS} (h : PSs X st t) (i : ∀ D σ H, t' D σ H → t D σ H) : PSs X st t' := ⟨fun pins s σ H D I q => h.run pins s σ H D I (i D σ H q)⟩
end
section
variable {K : Fr} {fm : Fm} {X : List Addr} {os : List (Nat × Addr)} {s : Ms} {σ : L2.St} {H H' : Hp}
theorem RpB.list {ds : List D} {v : V} (h : RpB K H X os (.list ds) v) : ∃ a vs, v = .ref a ∧ H a = some (.lst vs) ∧ RpA K H X ds vs := by
  rcases h with ⟨a, vs, e, f, r⟩ | ⟨i, a, vs, ds', e, ev, hm, ha, r⟩
  · exact ⟨a, vs, e, f.1, r⟩
  · cases e
    exact ⟨a, vs, ev, ha, r⟩
theorem RpB.tuple {ds : List D} {v : V} (h : RpB K H X os (.tuple ds) v) : ∃ a vs, v = .ref a ∧ SqT K H a vs ∧ RpA K H X ds vs := by
  rcases h with ⟨a, vs, e, f, r⟩ | ⟨i, a, vs, ds', e, ev, hm, ha, r⟩
  · exact ⟨a, vs, e, f.sq, r⟩
  · cases e
theorem RpB.int {i : Int} {v : V} (h : RpB K H X os (.int i) v) : v = .int i := by
  rcases h with h | ⟨_, _, _, _, e, _⟩
  · exact h
  · cases e
theorem RpB.str {x : Str} {v : V} (h : RpB K H X os (.str x) v) : v = .str x := by
  rcases h with h | ⟨_, _, _, _, e, _⟩
  · exact h
  · cases e
theorem RpB.bool {b : Bool} {v : V} (h : RpB K H X os (.bool b) v) : v = .bl b := by
  rcases h with h | ⟨_, _, _, _, e, _⟩
  · exact h
  · cases e
theorem RpB.none {v : V} (h : RpB K H X os .none v) : v = .non := by
  rcases h with h | ⟨_, _, _, _, e, _⟩
  · exact h
  · cases e
theorem RpB.dict {es : List (D × D)} {v : V} (h : RpB K H X os (.dict es) v) : ∃ a kvs, v = .ref a ∧ H a = some (.dK kvs) ∧ a ∉ X ∧ RpK K H X es kvs := by
  rcases h with h | ⟨_, _, _, _, e, _⟩
  · exact h
  · cases e
theorem Rel.sx (r : Rel K fm X os s σ H) {m : Bool} : ∀ a ∈ Mu fm.dka os m, a ∈ X := Mu.sub r m
theorem RpB.still (r : Rel K fm X os s σ H) {d : D} {v : V} (h : RpB K H X os d v) (st : Stay (Mu fm.dka os true) H H') : RpB K H' X os d v := by
  rcases h with h | ⟨i, a, vs, ds, e, ev, hm, ha, q⟩
  · exact .inl (Rp.stay st r.sx d v h)
  · have na : a ∉ Mu fm.dka os true := fun z => by
      unfold Mu at z
      rcases List.mem_append.mp z with z | z
      · exact (r.sub _ hm).2.1 z
      · simp at z
    exact .inr ⟨i, a, vs, ds, e, ev, hm, st _ _ ha na, RpA.stay st r.sx ds vs q⟩
theorem Stay.any {M : List Addr} {H H' : Hp} (st : Stay [] H H') : Stay M H H' := st.more fun a h => absurd h (by simp)
end
/-! ### weakening -/
section
variable {cl : Nat → Addr} {X : Cx} {W : WX} {m : Bool} {e : Expr} {ev : Ev}
theorem sb_of (h : SE cl X W m e ev) : SB cl X W m e ev := pe_imp h fun σ H Q ⟨fm, Xs, os, s, r, g⟩ => ⟨fm, Xs, os, s, r, by
  cases q : ev s with
  | ok d s' =>
    rw [q] at g
    exact fun v H' r' st p => g v H' r' st (.inl p)
  | exc c t s' => rw [q] at g; exact g
  | no => rw [q] at g; exact g⟩
theorem Rel.nos {K : Fr} {fm : Fm} {Xs : List Addr} {os : List (Nat × Addr)} {s : Ms} {σ : L2.St} {H : Hp} (r : Rel K fm Xs os s σ H) {p : Addr} (h : H p = none) : p ∉ os.map (·.2) := fun z => by
  obtain ⟨q, hq, e⟩ := List.mem_map.mp z
  exact r.nx h (by rw [← e]; exact (r.sub q hq).1)
theorem Rel.frsh {K : Fr} {fm : Fm} {Xs : List Addr} {os : List (Nat × Addr)} {s : Ms} {σ : L2.St} {H : Hp} (r : Rel K fm Xs os s σ H) {p : Addr} (h : H p = none) : Frsh fm Xs os p := ⟨r.nx h, r.nos h, fun z => r.nx h (r.dks p z), r.ent0 h⟩
theorem useF {K : Fr} {fm : Fm} {Xs : List Addr} {os : List (Nat × Addr)} {s' : Ms} {σ : L2.St} {H H1 : Hp} {Q : VK} {ds : List D} {vs : List V} {p : Addr}
    (g : ∀ p vs H1, Rel K fm (p :: Xs) os s' σ H1 → Stay (Mu fm.dka os m) H H1 → Frsh fm Xs os p → H1 p = some (.lst vs) → RpA K H1 (p :: Xs) ds vs → Q (.ref p) H1)
    (r1 : Rel K fm Xs os s' σ H1) (st : Stay (Mu fm.dka os m) H H1) (hp : H1 p = none) (ra : RpA K H1 Xs ds vs) : Q (.ref p) (upd H1 p (.lst vs)) :=
  g p vs _ (r1.laidL hp) (st.trans (Stay.laid hp)) (r1.frsh hp) upd_same (RpA.stay (M := []) (Stay.laid hp) (fun a h => absurd h (by simp)) ds vs (RpA.fresh hp ds vs ra))
def lstOf (ev : Evs) : Ev := fun s => (ev s).bind fun ds s' => .ok (.list ds) s'
theorem sf_of {ev : Evs} (h : SF cl X W m e ev) : SE cl X W m e (lstOf ev) := pe_imp h fun σ H Q ⟨fm, Xs, os, s, r, g⟩ => ⟨fm, Xs, os, s, r, by
  unfold lstOf at g
  cases q : ev s with
  | ok ds s' =>
    rw [q] at g
    refine fun p vs H1 r1 st fp hp ra => g (.ref p) _ (r1.lessX fp.no fp.nd fp.n0 fp.nx) st ?_
    exact ⟨p, vs, rfl, ⟨hp, fp.nx⟩, RpA.less (fun x h => List.mem_cons_of_mem _ h) ds vs ra⟩
  | exc c t s' => rw [q] at g; exact g
  | no => rw [q] at g; exact g⟩
/-! ### names, constants -/
def evVar (i : Nat) : Ev := fun s => match s.env[i]? with
  | some (.fz d) => .ok d s
  | _ => .no
def evVarB (i : Nat) : Ev := fun s => match s.env[i]? with
  | some (.fz d) => .ok d s
  | some (.own ds) => .ok (.list ds) s
  | _ => .no
theorem join_some {σ : L2.St} {i : Nat} {v : V} (h : σ[i]?.join = some v) : σ[i]? = some (some v) := by
  cases e : σ[i]? with
  | none => rw [e] at h; cases h
  | some o => rw [e] at h; cases o <;> cases h; rfl
theorem se_var (i : Nat) (h : PE X e (tVar i)) : SE cl X W m e (evVar i) := pe_imp h fun σ H Q ⟨fm, Xs, os, s, r, g⟩ => by
  unfold evVar at g
  cases q : s.env[i]? with
  | none => rw [q] at g; exact g.elim
  | some sv =>
    rw [q] at g
    cases sv with
    | fz d =>
      obtain ⟨v, e1, p⟩ := r.slot i _ q
      exact ⟨v, join_some e1, g v H r (Stay.refl _ _) p⟩
    | _ => exact g.elim
theorem sb_var (i : Nat) (h : PE X e (tVar i)) : SB cl X W m e (evVarB i) := pe_imp h fun σ H Q ⟨fm, Xs, os, s, r, g⟩ => by
  unfold evVarB at g
  cases q : s.env[i]? with
  | none => rw [q] at g; exact g.elim
  | some sv =>
    rw [q] at g
    cases sv with
    | fz d =>
      obtain ⟨v, e1, p⟩ := r.slot i _ q
      exact ⟨v, join_some e1, g v H r (Stay.refl _ _) (.inl p)⟩
    | own ds =>
      obtain ⟨a, vs, e1, e2, e3, p⟩ := r.slot i _ q
      exact ⟨.ref a, join_some e1, g (.ref a) H r (Stay.refl _ _) (.inr ⟨i, a, vs, ds, rfl, rfl, e2, e3, p⟩)⟩
    | _ => exact g.elim
def evLit (d : D) : Ev := fun s => .ok d s
/-- a constant, written or of the module -/
theorem se_const {d : D} {v : V} (h : PE X e (tC v)) (p : ∀ H Xs, Rp X.K H Xs d v) : SE cl X W m e (evLit d) := pe_imp h fun σ H Q ⟨fm, Xs, os, s, r, g⟩ => g v H r (Stay.refl _ _) (p H Xs)
theorem se_int {i : Int} {j pos} : SE cl X W m (.Constant (.int i) j pos) (evLit (.int i)) := se_const pe_int fun _ _ => rfl
theorem se_str {x : Str} {j pos} : SE cl X W m (.Constant (.str x) j pos) (evLit (.str x)) := se_const pe_str fun _ _ => rfl
theorem se_bool {b : Bool} {j pos} : SE cl X W m (.Constant (.bool b) j pos) (evLit (.bool b)) := se_const pe_bl fun _ _ => rfl
theorem se_none {j pos} : SE cl X W m (.Constant .none j pos) (evLit .none) := se_const pe_non fun _ _ => rfl
/-! ### argument lists, displays -/
def evNil : Evs := fun s => .ok [] s
def evCons (a : Ev) (b : Evs) : Evs := fun s => (a s).bind fun d s1 => (b s1).bind fun ds s2 => .ok (d :: ds) s2
theorem sa_nil : SA cl X W m [] evNil := pa_imp pa_nil fun σ H Q ⟨fm, Xs, os, s, r, g⟩ => g [] H r (Stay.refl _ _) rfl
theorem sa_cons {es : List Expr} {evs : Evs} (h : SE cl X W m e ev) (hs : SA cl X W m es evs) (he : starEach (e :: es) X.env = (false, eval e X.env) :: starEach es X.env := by rfl) : SA cl X W m (e :: es) (evCons ev evs) :=
  pa_imp (pa_cons h hs he) fun σ H Q ⟨fm, Xs, os, s, r, g⟩ => by
    unfold evCons at g
    refine ⟨fm, Xs, os, s, r, ?_⟩
    cases q : ev s with
    | ok d s1 =>
      rw [q] at g
      simp only [Out.bind_ok] at g
      refine fun v H1 r1 st1 p1 => ⟨fm, Xs, os, s1, r1, ?_⟩
      cases q2 : evs s1 with
      | ok ds s2 =>
        rw [q2] at g
        refine fun vs H2 r2 st2 p2 => g (v :: vs) H2 r2 (st1.trans st2) ⟨v, vs, rfl, Rp.stay st2 r1.sx d v p1, p2⟩
      | exc c t s2 => rw [q2] at g; exact g
      | no => rw [q2] at g; exact g.elim
    | exc c t s1 => rw [q] at g; exact g
    | no => rw [q] at g; exact g.elim
def evTup (b : Evs) : Ev := fun s => (b s).bind fun ds s1 => if ds.length ≤ 1000 then .ok (.tuple ds) s1 else .no
def evLst (b : Evs) : Evs := fun s => (b s).bind fun ds s1 => if ds.length ≤ 1000 then .ok ds s1 else .no
theorem size1000 {n : Nat} (h : n ≤ 1000) : n ≤ sizeLine := Nat.le_of_lt (small1000 h)
/-- (e, ..): a new tuple without a dict -/
def tTupF (t : TA) : TE := fun σ H Q => t σ H fun xs H1 => xs.length ≤ sizeLine ∧ ∀ p o, H1 p = none → o.dict = none → Q (.ref p) (upd H1 p (.frz o (.tup xs)))
abbrev tupO (us : List Value) : Obj := { cls := .type "tuple", data := .seq us.toArray }
theorem pe_tupF {X : Cx} {es : List Expr} {t : TA} {pos : Pos} {x1} (h : PA X es t) : PE X (.Tuple es x1 pos) (tTupF t) := by
  refine ⟨fun pins s σ H Q I hq => ?_⟩
  refine wpAny_Tuple_spliced (thn (h.run pos pins s σ H _ I hq) fun us s1 ⟨xs, H1, I1, r, z, q⟩ => ⟨by rw [← r.length]; exact z, ?_⟩)
  have new := I1.hok.fresh (Nat.le_refl s1.heap.objs.size)
  refine ⟨.ref s1.heap.objs.size, upd H1 s1.heap.objs.size (.frz (tupO us) (.tup xs)), I1.laid (t' := s1.toks) (fun b u e => Heap.get?_push_of_some _ e) (Nat.le_refl _) ?_, rfl, q _ _ new rfl⟩
  exact ⟨Heap.get?_push_size _ rfl, z, us, r, ⟨_, Heap.get?_push_size _ rfl, rfl, _, rfl⟩⟩
theorem rp_newF {K : Fr} {H : Hp} {Xs : List Addr} {p : Addr} {o : Obj} {ds : List D} {vs : List V} (hp : H p = none) (nx : p ∉ Xs) (hd : o.dict = none) (h : RpA K H Xs ds vs) : Rp K (upd H p (.frz o (.tup vs))) Xs (.tuple ds) (.ref p) :=
  ⟨p, vs, rfl, .inl ⟨⟨o, upd_same, hd⟩, nx⟩, RpA.stay (M := []) (Stay.laid hp) (fun a h => absurd h (by simp)) ds vs h⟩
theorem se_tup {es : List Expr} {evs : Evs} {x1 pos} (h : SA cl X W m es evs) : SE cl X W m (.Tuple es x1 pos) (evTup evs) := pe_imp (pe_tupF h) fun σ H Q ⟨fm, Xs, os, s, r, g⟩ => by
  unfold evTup at g
  refine ⟨fm, Xs, os, s, r, ?_⟩
  cases q : evs s with
  | ok ds s1 =>
    rw [q] at g
    simp only [Out.bind_ok] at g
    refine fun vs H1 r1 st1 p1 => ?_
    split at g
    · rename_i hl
      exact ⟨by rw [p1.len]; exact size1000 hl, fun p o hp hd => g (.ref p) _ (r1.laid hp) (st1.trans (Stay.laid hp)) (rp_newF hp (r1.nx hp) hd p1)⟩
    · exact g.elim
  | exc c t s1 => rw [q] at g; exact g
  | no => rw [q] at g; exact g.elim
theorem sf_lst {es : List Expr} {evs : Evs} {pos} (h : SA cl X W m es evs) : SF cl X W m (.List es pos) (evLst evs) := pe_imp (pe_lst h) fun σ H Q ⟨fm, Xs, os, s, r, g⟩ => by
  unfold evLst at g
  refine ⟨fm, Xs, os, s, r, ?_⟩
  cases q : evs s with
  | ok ds s1 =>
    rw [q] at g
    simp only [Out.bind_ok] at g
    refine fun vs H1 r1 st1 p1 => ?_
    split at g
    · rename_i hl
      exact ⟨by rw [p1.len]; exact size1000 hl, fun p hp => useF g r1 st1 hp p1⟩
    · exact g.elim
  | exc c t s1 => rw [q] at g; exact g
  | no => rw [q] at g; exact g.elim
/-! ### operators by what they do on values -/
/-- from two values that may be read: what the operator's reading asks -/
def OpSem (X : Cx) (r : R2) (f : D → D → Option D) : Prop :=
  ∀ (fm : Fm) (Xs : List Addr) (os : List (Nat × Addr)) (s : Ms) (σ : L2.St) (H : Hp) (d1 d2 d : D) (v1 v2 : V) (Q : VK), Rel X.K fm Xs os s σ H → RpB X.K H Xs os d1 v1 → RpB X.K H Xs os d2 v2 → f d1 d2 = some d →
    (∀ v H', Rel X.K fm Xs os s σ H' → Stay [] H H' → Rp X.K H' Xs d v → Q v H') → r v1 v2 H Q
def orF (f g : D → D → Option D) : D → D → Option D := fun a b => match f a b with
  | some d => some d
  | none => g a b
theorem OpSem.or {r r' : R2} {f g : D → D → Option D} (h : OpSem X r f) (h' : OpSem X r' g) : OpSem X (fun x y H Q => r x y H Q ∨ r' x y H Q) (orF f g) := by
  intro fm Xs os s σ H d1 d2 d v1 v2 Q R p1 p2 e q
  unfold orF at e
  cases e1 : f d1 d2 with
  | some d' =>
    rw [e1] at e
    cases e
    exact .inl (h fm Xs os s σ H d1 d2 _ v1 v2 Q R p1 p2 e1 q)
  | none =>
    rw [e1] at e
    exact .inr (h' fm Xs os s σ H d1 d2 d v1 v2 Q R p1 p2 e q)
def toOut {α : Type} (o : Option α) (s : Ms) : Out α := match o with
  | some d => .ok d s
  | none => .no
@[simp] theorem toOut_some {α : Type} (d : α) (s : Ms) : toOut (some d) s = .ok d s := rfl
@[simp] theorem toOut_none {α : Type} (s : Ms) : (toOut none s : Out α) = .no := rfl
def evBin (f : D → D → Option D) (a b : Ev) : Ev := fun s => (a s).bind fun x s1 => (b s1).bind fun y s2 => toOut (f x y) s2
theorem tOp_sem {K : Fr} {r : R2} {f : D → D → Option D} {a b : Ev} (hK : K = X.K) (hs : OpSem X r f) {σ : L2.St} {H : Hp} {Q : VK} (h : tE X.K cl W m (evBin f a b) σ H Q) : tOp r (tB X.K cl W m a) (tB X.K cl W true b) σ H Q := by
  obtain ⟨fm, Xs, os, s, R, g⟩ := h
  unfold evBin at g
  refine ⟨fm, Xs, os, s, R, ?_⟩
  cases q : a s with
  | ok x s1 =>
    rw [q] at g
    simp only [Out.bind_ok] at g
    refine fun v1 H1 r1 st1 p1 => ⟨fm, Xs, os, s1, r1, ?_⟩
    cases q2 : b s1 with
    | ok y s2 =>
      rw [q2] at g
      simp only [Out.bind_ok] at g
      refine fun v2 H2 r2 st2 p2 => ?_
      cases q3 : f x y with
      | some d =>
        rw [q3] at g
        exact hs fm Xs os s2 σ H2 x y d v1 v2 Q r2 (p1.still r1 st2) p2 q3 fun v H3 r3 st3 p3 => g v H3 r3 (st1.trans ((st2.more Mu.still).trans st3.any)) p3
      | none => rw [q3] at g; exact g.elim
    | exc c t s2 => rw [q2] at g; exact g
    | no => rw [q2] at g; exact g.elim
  | exc c t s1 => rw [q] at g; exact g
  | no => rw [q] at g; exact g.elim
theorem se_bin {op : Operator} {r : R2} {f : D → D → Option D} {ea eb : Expr} {a b : Ev} {pos} (ho : OpR X (binaryOp op) r) (hs : OpSem X r f) (ha : SB cl X W m ea a) (hb : SB cl X W true eb b) : SE cl X W m (.BinOp ea op eb pos) (evBin f a b) :=
  pe_imp (pe_op ho ha hb) fun _ _ _ h => tOp_sem rfl hs h
theorem se_cmp {op : CmpOp} {r : R2} {f : D → D → Option D} {ea eb : Expr} {a b : Ev} {pos} (ho : OpR X (compareOp op) r) (hs : OpSem X r f) (ha : SB cl X W m ea a) (hb : SB cl X W true eb b) (hm : behindInMarks op eb = false) : SE cl X W m (.Compare ea [op] [eb] pos) (evBin f a b) :=
  pe_imp (pe_cmpR ho ha hb hm) fun _ _ _ h => tOp_sem rfl hs h
/-! ### tests -/
def asBool : D → Option Bool
  | .bool b => some b
  | _ => none
def evT (a : Ev) : Ms → Out Bool := fun s => (a s).bind fun d s1 => toOut (asBool d) s1
theorem asBool_some {d : D} {b : Bool} (h : asBool d = some b) : d = .bool b := by
  cases d <;> simp [asBool] at h
  rw [h]
theorem tT_of {a : Ev} {σ : L2.St} {H : Hp} {Q : Bool → Hp → Prop} (h : tT X.K cl W m (evT a) σ H Q) : tE X.K cl W m a σ H (fun x H1 => ∃ k, x = .bl k ∧ Q k H1) := by
  obtain ⟨fm, Xs, os, s, R, g⟩ := h
  unfold evT at g
  refine ⟨fm, Xs, os, s, R, ?_⟩
  cases q : a s with
  | ok x s1 =>
    rw [q] at g
    simp only [Out.bind_ok] at g
    cases q3 : asBool x with
    | some b =>
      rw [q3] at g
      have e := asBool_some q3
      subst e
      exact fun v H1 r1 st1 p1 => ⟨b, p1, g H1 r1 st1⟩
    | none => rw [q3] at g; exact g.elim
  | exc c t s1 => rw [q] at g; exact g
  | no => rw [q] at g; exact g.elim
theorem st_val {a : Ev} (h : SE cl X W m e a) (he : ∀ whole, isTrue e X.env whole = (do let v ← whole; standAt e.pos; holding [v] (truthy v)) := by intro _; rfl) : STt cl X W m e (evT a) :=
  pt_imp (pt_val h he) fun _ _ _ h => tT_of h
theorem st_cmp {op : CmpOp} {r : R2} {f : D → D → Option D} {ea eb : Expr} {a b : Ev} {pos} (ho : OpR X (compareOp op) r) (hs : OpSem X r f) (ha : SB cl X W m ea a) (hb : SB cl X W true eb b) (hm : behindInMarks op eb = false) : STt cl X W m (.Compare ea [op] [eb] pos) (evT (evBin f a b)) :=
  pt_imp (pt_cmpR ho ha hb hm) fun _ _ _ h => tOp_sem rfl hs (tT_of h)
def evTnot (a : Ms → Out Bool) : Ms → Out Bool := fun s => (a s).bind fun b s1 => .ok (!b) s1
def evTand (a b : Ms → Out Bool) : Ms → Out Bool := fun s => (a s).bind fun c s1 => if c = true then b s1 else .ok false s1
def evTor (a b : Ms → Out Bool) : Ms → Out Bool := fun s => (a s).bind fun c s1 => if c = true then .ok true s1 else b s1
theorem st_not {a : Ms → Out Bool} {pos} (h : STt cl X W m e a) : STt cl X W m (.UnaryOp .Not e pos) (evTnot a) := pt_imp (pt_not h) fun σ H Q ⟨fm, Xs, os, s, R, g⟩ => by
  unfold evTnot at g
  refine ⟨fm, Xs, os, s, R, ?_⟩
  cases q : a s with
  | ok x s1 => rw [q] at g; exact g
  | exc c t s1 => rw [q] at g; exact g
  | no => rw [q] at g; exact g.elim
theorem GoodT.imp {K : Fr} {fm : Fm} {Xs : List Addr} {os : List (Nat × Addr)} {s : Ms} {σ : L2.St} {H H1 : Hp} {Q : Bool → Hp → Prop} {o : Out Bool} (st : Stay (Mu fm.dka os m) H H1) (g : GoodT K cl W m fm Xs os σ H Q o) : GoodT K cl W m fm Xs os σ H1 Q o := by
  cases o with
  | ok b s => exact fun H' r st' => g H' r (st.trans st')
  | exc c t s => exact g
  | no => exact g
theorem sw_and1 {a : Ms → Out Bool} {pos} (h : STt cl X W m e a) : SW cl X W m (.BoolOp .And [e] pos) a := pw_and1 h
theorem sw_or1 {a : Ms → Out Bool} {pos} (h : STt cl X W m e a) : SW cl X W m (.BoolOp .Or [e] pos) a := pw_or1 h
theorem sw_and {a b : Ms → Out Bool} {e2 : Expr} {rest : List Expr} {pos} (h : STt cl X W m e a) (hb : SW cl X W m (.BoolOp .And (e2 :: rest) pos) b) : SW cl X W m (.BoolOp .And (e :: e2 :: rest) pos) (evTand a b) :=
  pw_imp (pw_and h hb) fun σ H Q ⟨fm, Xs, os, s, R, g⟩ => by
    unfold evTand at g
    refine ⟨fm, Xs, os, s, R, ?_⟩
    cases q : a s with
    | ok x s1 =>
      rw [q] at g
      simp only [Out.bind_ok] at g
      cases x with
      | true => exact fun H1 r1 st1 => ⟨fm, Xs, os, s1, r1, GoodT.imp (s := s1) st1 g⟩
      | false => exact fun H1 r1 st1 => g H1 r1 st1
    | exc c t s1 => rw [q] at g; exact g
    | no => rw [q] at g; exact g.elim
theorem sw_or {a b : Ms → Out Bool} {e2 : Expr} {rest : List Expr} {pos} (h : STt cl X W m e a) (hb : SW cl X W m (.BoolOp .Or (e2 :: rest) pos) b) : SW cl X W m (.BoolOp .Or (e :: e2 :: rest) pos) (evTor a b) :=
  pw_imp (pw_or h hb) fun σ H Q ⟨fm, Xs, os, s, R, g⟩ => by
    unfold evTor at g
    refine ⟨fm, Xs, os, s, R, ?_⟩
    cases q : a s with
    | ok x s1 =>
      rw [q] at g
      simp only [Out.bind_ok] at g
      cases x with
      | false => exact fun H1 r1 st1 => ⟨fm, Xs, os, s1, r1, GoodT.imp (s := s1) st1 g⟩
      | true => exact fun H1 r1 st1 => g H1 r1 st1
    | exc c t s1 => rw [q] at g; exact g
    | no => rw [q] at g; exact g.elim
theorem st_pw {a : Ms → Out Bool} (h : SW cl X W m e a) : STt cl X W m e a := h.pt
theorem GoodE.imp {K : Fr} {fm : Fm} {Xs : List Addr} {os : List (Nat × Addr)} {σ : L2.St} {H H1 : Hp} {Q : VK} {o : Out D} (st : Stay (Mu fm.dka os m) H H1) (g : GoodE K cl W m fm Xs os σ H Q o) : GoodE K cl W m fm Xs os σ H1 Q o := by
  cases o with
  | ok b s => exact fun v H' r st' => g v H' r (st.trans st')
  | exc c t s => exact g
  | no => exact g
/-! ### and, or, not, if as values -/
def evAnd (a b : Ev) : Ev := fun s => (a s).bind fun d s1 => match asBool d with
  | some true => b s1
  | some false => .ok (.bool false) s1
  | none => .no
def evOr (a b : Ev) : Ev := fun s => (a s).bind fun d s1 => match asBool d with
  | some true => .ok (.bool true) s1
  | some false => b s1
  | none => .no
def evNot (a : Ev) : Ev := fun s => (a s).bind fun d s1 => match asBool d with
  | some c => .ok (.bool (!c)) s1
  | none => .no
theorem se_one {op} {pos} (h : SE cl X W m e ev) : SE cl X W m (.BoolOp op [e] pos) ev := pe_one h
theorem se_and {a b : Ev} {e2 : Expr} {rest : List Expr} {pos} (h : SE cl X W m e a) (hb : SE cl X W m (.BoolOp .And (e2 :: rest) pos) b) : SE cl X W m (.BoolOp .And (e :: e2 :: rest) pos) (evAnd a b) :=
  pe_imp (pe_and h hb) fun σ H Q ⟨fm, Xs, os, s, R, g⟩ => by
    unfold evAnd at g
    refine ⟨fm, Xs, os, s, R, ?_⟩
    cases q : a s with
    | ok x s1 =>
      rw [q] at g
      simp only [Out.bind_ok] at g
      cases q3 : asBool x with
      | some c =>
        rw [q3] at g
        have e3 := asBool_some q3
        subst e3
        cases c with
        | true => exact fun v H1 r1 st1 p1 => ⟨true, p1, ⟨fm, Xs, os, s1, r1, GoodE.imp st1 g⟩⟩
        | false => exact fun v H1 r1 st1 p1 => ⟨false, p1, g _ H1 r1 st1 rfl⟩
      | none => rw [q3] at g; exact g.elim
    | exc c t s1 => rw [q] at g; exact g
    | no => rw [q] at g; exact g.elim
theorem se_or {a b : Ev} {e2 : Expr} {rest : List Expr} {pos} (h : SE cl X W m e a) (hb : SE cl X W m (.BoolOp .Or (e2 :: rest) pos) b) : SE cl X W m (.BoolOp .Or (e :: e2 :: rest) pos) (evOr a b) :=
  pe_imp (pe_or h hb) fun σ H Q ⟨fm, Xs, os, s, R, g⟩ => by
    unfold evOr at g
    refine ⟨fm, Xs, os, s, R, ?_⟩
    cases q : a s with
    | ok x s1 =>
      rw [q] at g
      simp only [Out.bind_ok] at g
      cases q3 : asBool x with
      | some c =>
        rw [q3] at g
        have e3 := asBool_some q3
        subst e3
        cases c with
        | true => exact fun v H1 r1 st1 p1 => ⟨true, p1, g _ H1 r1 st1 rfl⟩
        | false => exact fun v H1 r1 st1 p1 => ⟨false, p1, ⟨fm, Xs, os, s1, r1, GoodE.imp st1 g⟩⟩
      | none => rw [q3] at g; exact g.elim
    | exc c t s1 => rw [q] at g; exact g
    | no => rw [q] at g; exact g.elim
theorem se_not {a : Ev} {pos} (h : SE cl X W m e a) : SE cl X W m (.UnaryOp .Not e pos) (evNot a) := pe_imp (pe_not h) fun σ H Q ⟨fm, Xs, os, s, R, g⟩ => by
  unfold evNot at g
  refine ⟨fm, Xs, os, s, R, ?_⟩
  cases q : a s with
  | ok x s1 =>
    rw [q] at g
    simp only [Out.bind_ok] at g
    cases q3 : asBool x with
    | some c =>
      rw [q3] at g
      have e3 := asBool_some q3
      subst e3
      exact fun v H1 r1 st1 p1 => ⟨c, p1, g _ H1 r1 st1 rfl⟩
    | none => rw [q3] at g; exact g.elim
  | exc c t s1 => rw [q] at g; exact g
  | no => rw [q] at g; exact g.elim
def evIf (c : Ms → Out Bool) (a b : Ev) : Ev := fun s => (c s).bind fun k s1 => if k = true then a s1 else b s1
theorem se_if {c : Ms → Out Bool} {a b : Ev} {ec ea eb : Expr} {pos} (hc : STt cl X W m ec c) (ha : SE cl X W m ea a) (hb : SE cl X W m eb b) : SE cl X W m (.IfExp ec ea eb pos) (evIf c a b) :=
  pe_imp (pe_ifExp hc ha hb) fun σ H Q ⟨fm, Xs, os, s, R, g⟩ => by
    unfold evIf at g
    refine ⟨fm, Xs, os, s, R, ?_⟩
    cases q : c s with
    | ok k s1 =>
      rw [q] at g
      simp only [Out.bind_ok] at g
      cases k with
      | true => exact fun H1 r1 st1 => ⟨fm, Xs, os, s1, r1, GoodE.imp st1 g⟩
      | false => exact fun H1 r1 st1 => ⟨fm, Xs, os, s1, r1, GoodE.imp st1 g⟩
    | exc c t s1 => rw [q] at g; exact g
    | no => rw [q] at g; exact g.elim
/-! ### chains: a < b < c -/
def evChain (f f' : D → D → Option D) (a b c : Ev) : Ev := fun s => (a s).bind fun x s1 => (b s1).bind fun y s2 => match f x y with
  | some (.bool true) => (c s2).bind fun z s3 => toOut (f' y z) s3
  | some (.bool false) => .ok (.bool false) s2
  | _ => .no
theorem tChain_sem {r r' : R2} {f f' : D → D → Option D} {a b c : Ev} (hs : OpSem X r f) (hs' : OpSem X r' f') {σ : L2.St} {H : Hp} {Q : VK} (h : tE X.K cl W m (evChain f f' a b c) σ H Q) :
    tChain r r' (tB X.K cl W m a) (tB X.K cl W true b) (tB X.K cl W true c) σ H Q := by
  obtain ⟨fm, Xs, os, s, R, g⟩ := h
  unfold evChain at g
  refine ⟨fm, Xs, os, s, R, ?_⟩
  cases q : a s with
  | ok x s1 =>
    rw [q] at g
    simp only [Out.bind_ok] at g
    refine fun v1 H1 r1 st1 p1 => ⟨fm, Xs, os, s1, r1, ?_⟩
    cases q2 : b s1 with
    | ok y s2 =>
      rw [q2] at g
      simp only [Out.bind_ok] at g
      refine fun v2 H2 r2 st2 p2 => ?_
      cases q3 : f x y with
      | none => rw [q3] at g; exact g.elim
      | some d =>
        rw [q3] at g
        have step := hs fm Xs os s2 σ H2 x y d v1 v2
        cases d with
        | bool k =>
          refine step _ r2 (p1.still r1 st2) p2 q3 fun v H3 r3 st3 p3 => ⟨k, p3, ?_⟩
          cases k with
          | true =>
            rw [if_pos rfl]
            refine ⟨fm, Xs, os, s2, r3, ?_⟩
            cases q4 : c s2 with
            | ok z s3 =>
              rw [q4] at g
              simp only [Out.bind_ok] at g
              refine fun v4 H4 r4 st4 p4 => ?_
              cases q5 : f' y z with
              | none => rw [q5] at g; exact g.elim
              | some d5 =>
                rw [q5] at g
                refine hs' fm Xs os s3 σ H4 y z d5 v2 v4 Q r4 ?_ p4 q5 fun v H5 r5 st5 p5 => g v H5 r5 (st1.trans ((st2.more Mu.still).trans (st3.any.trans ((st4.more Mu.still).trans st5.any)))) p5
                exact (p2.still r2 st3.any).still r3 st4
            | exc cc t s3 => rw [q4] at g; exact g
            | no => rw [q4] at g; exact g.elim
          | false =>
            rw [if_neg Bool.false_ne_true]
            exact g _ H3 r3 (st1.trans ((st2.more Mu.still).trans st3.any)) rfl
        | _ => exact g.elim
    | exc cc t s2 => rw [q2] at g; exact g
    | no => rw [q2] at g; exact g.elim
  | exc cc t s1 => rw [q] at g; exact g
  | no => rw [q] at g; exact g.elim
end
end Zo
/-! ZD: operators, indices, slices, built-ins: what they do on values, and that they do it. -/
namespace Zo
open PySem PySem.Spec PyProof.Rows L2
section
variable {X : Cx}
/-! ### results -/
theorem RpA.laid {K : Fr} {H : Hp} {Xs : List Addr} {p : Addr} {o : HO} {ds : List D} {vs : List V} (hp : H p = none) (h : RpA K H Xs ds vs) : RpA K (upd H p o) Xs ds vs := RpA.stay (M := []) (Stay.laid hp) (fun a h => absurd h (by simp)) ds vs h
theorem rp_newL {K : Fr} {H : Hp} {Xs : List Addr} {p : Addr} {ds : List D} {vs : List V} (hp : H p = none) (nx : p ∉ Xs) (h : RpA K H Xs ds vs) : Rp K (upd H p (.lst vs)) Xs (.list ds) (.ref p) := ⟨p, vs, rfl, ⟨upd_same, nx⟩, h.laid hp⟩
theorem Rp.back {K : Fr} {H H' : Hp} {Xs : List Addr} {d : D} {v : V} (h : Rp K H Xs d v) (st : Stay [] H H') : Rp K H' Xs d v := Rp.stay st (fun a h => absurd h (by simp)) d v h
theorem RpB.tup {K : Fr} {H : Hp} {Xs : List Addr} {os : List (Nat × Addr)} {ds : List D} {v : V} (h : RpB K H Xs os (.tuple ds) v) : Rp K H Xs (.tuple ds) v := by
  rcases h with h | ⟨_, _, _, _, e, _⟩
  · exact h
  · cases e
/-! ### + -/
def addI : D → D → Option D
  | .int a, .int b => some (.int (a + b))
  | _, _ => none
def addS : D → D → Option D
  | .str a, .str b => if a.length + b.length ≤ sizeLine then some (.str (a ++ b)) else none
  | _, _ => none
def addL : D → D → Option (List D)
  | .list a, .list b => if a.length + b.length ≤ sizeLine then some (a ++ b) else none
  | _, _ => none
def addT : D → D → Option D
  | .tuple a, .tuple b => if a.length + b.length ≤ sizeLine then some (.tuple (a ++ b)) else none
  | _, _ => none
theorem addI_eq {a b d : D} (h : addI a b = some d) : ∃ i j, a = .int i ∧ b = .int j ∧ d = .int (i + j) := by
  cases a <;> cases b <;> simp [addI] at h
  exact ⟨_, _, rfl, rfl, h.symm⟩
theorem sem_addI : OpSem X (rI0 fun i j => .int (i + j)) addI := by
  intro fm Xs os s σ H d1 d2 d v1 v2 Q R p1 p2 e q
  obtain ⟨i, j, rfl, rfl, rfl⟩ := addI_eq e
  exact ⟨i, j, p1.int, p2.int, q _ H R (Stay.refl _ _) rfl⟩
theorem sem_addS : OpSem X (fun x y H Q => ∃ i j, x = .str i ∧ y = .str j ∧ i.length + j.length ≤ sizeLine ∧ Q (.str (i ++ j)) H) addS := by
  intro fm Xs os s σ H d1 d2 d v1 v2 Q R p1 p2 e q
  cases d1 <;> cases d2 <;> simp [addS] at e
  rename_i a b
  obtain ⟨hl, e⟩ := e
  subst e
  exact ⟨a, b, p1.str, p2.str, hl, q _ H R (Stay.refl _ _) rfl⟩
/-- t + u -/
def rCatF (K : Fr) : R2 := fun x y H Q => ∃ a b xs ys, x = .ref a ∧ y = .ref b ∧ SqT K H a xs ∧ SqT K H b ys ∧ xs.length + ys.length ≤ sizeLine ∧
  (xs = [] → Q (.ref b) H) ∧ (xs ≠ [] → ys = [] → Q (.ref a) H) ∧ (xs ≠ [] → ys ≠ [] → ∀ p o, H p = none → o.dict = none → Q (.ref p) (upd H p (.frz o (.tup (xs ++ ys)))))
theorem op_catF : OpR X (binaryOp .Add) (rCatF X.K) := by
  intro pins s σ H x y v u Q I rx ry h
  obtain ⟨a, b, xs, ys, rfl, rfl, ha, hb, hz, q0, q1, q2⟩ := h
  by_cases hx : xs = []
  · subst hx
    exact op_catA pins s σ H _ _ v u Q I rx ry ⟨a, b, [], ys, rfl, rfl, ha, hb, hz, q0, fun z => absurd rfl z, fun z => absurd rfl z⟩
  cases rx
  cases ry
  obtain ⟨ua, ra, pa, _⟩ := I.tuple ha
  obtain ⟨ub, rb, pb, _⟩ := I.tuple hb
  refine HT.cat_tup pa pb (fun z => hx (ra.nil_iff.mp z)) (fun z => ⟨.ref a, H, I, rfl, q1 hx (rb.nil_iff.mp z)⟩) (fun z => ?_) (by rw [← ra.length, ← rb.length]; exact hz)
  have new := I.hok.fresh (Nat.le_refl s.heap.objs.size)
  refine ⟨.ref s.heap.objs.size, _, I.laid (t' := s.toks) (o := .frz _ (.tup (xs ++ ys))) (fun b ob q => Heap.get?_push_of_some _ q) (Nat.le_refl _) ⟨Heap.get?_push_size _ rfl, ?_⟩, rfl, q2 hx (fun w => z (rb.nil_iff.mpr w)) _ _ new rfl⟩
  exact ⟨by rw [List.length_append]; exact hz, _, ra.append rb, IsTup.new _ _⟩
theorem sem_addT : OpSem X (rCatF X.K) addT := by
  intro fm Xs os s σ H d1 d2 d v1 v2 Q R p1 p2 e q
  cases d1 <;> cases d2 <;> simp [addT] at e
  rename_i a b
  obtain ⟨hl, e⟩ := e
  subst e
  obtain ⟨x, xs, e1, t1, r1⟩ := p1.tuple
  obtain ⟨y, ys, e2, t2, r2⟩ := p2.tuple
  subst e1 e2
  refine ⟨x, y, xs, ys, rfl, rfl, t1, t2, by rw [r1.len, r2.len]; exact hl, fun h => ?_, fun h h' => ?_, fun _ _ p o hp hd => ?_⟩
  · subst h
    have ea : a = [] := List.eq_nil_of_length_eq_zero r1.len.symm
    subst ea
    exact q _ H R (Stay.refl _ _) p2.tup
  · subst h'
    have eb : b = [] := List.eq_nil_of_length_eq_zero r2.len.symm
    subst eb
    rw [List.append_nil] at q
    exact q _ H R (Stay.refl _ _) p1.tup
  · exact q _ _ (R.laid hp) (Stay.laid hp) (rp_newF hp (R.nx hp) hd (r1.app r2))
/-! ### new lists by an operator -/
def OpSemL (X : Cx) (r : R2) (f : D → D → Option (List D)) : Prop :=
  ∀ (fm : Fm) (Xs : List Addr) (os : List (Nat × Addr)) (s : Ms) (σ : L2.St) (H : Hp) (d1 d2 : D) (ds : List D) (v1 v2 : V) (Q : VK), Rel X.K fm Xs os s σ H → RpB X.K H Xs os d1 v1 → RpB X.K H Xs os d2 v2 → f d1 d2 = some ds →
    (∀ p vs, H p = none → RpA X.K H Xs ds vs → Q (.ref p) (upd H p (.lst vs))) → r v1 v2 H Q
theorem sem_addL : OpSemL X rCat addL := by
  intro fm Xs os s σ H d1 d2 ds v1 v2 Q R p1 p2 e q
  cases d1 <;> cases d2 <;> simp [addL] at e
  obtain ⟨hl, e⟩ := e
  subst e
  obtain ⟨x, xs, e1, t1, r1⟩ := p1.list
  obtain ⟨y, ys, e2, t2, r2⟩ := p2.list
  subst e1 e2
  exact ⟨x, y, xs, ys, rfl, rfl, t1, t2, by rw [r1.len, r2.len]; exact hl, fun p hp => q p _ hp (r1.app r2)⟩
def repL : D → D → Option (List D)
  | .list a, .int k => if 0 ≤ k ∧ k ≤ 1000 ∧ a.length * k.toNat ≤ sizeLine then some (List.replicate k.toNat a).flatten else none
  | _, _ => none
theorem RpA.rep {K : Fr} {H : Hp} {Xs : List Addr} {ds : List D} {vs : List V} (h : RpA K H Xs ds vs) : ∀ n : Nat, RpA K H Xs (List.replicate n ds).flatten (List.replicate n vs).flatten
  | 0 => by simp [RpA]
  | n + 1 => by
    rw [List.replicate_succ, List.replicate_succ, List.flatten_cons, List.flatten_cons]
    exact h.app (RpA.rep h n)
theorem sem_repL : OpSemL X rRep repL := by
  intro fm Xs os s σ H d1 d2 ds v1 v2 Q R p1 p2 e q
  cases d1 <;> cases d2 <;> simp [repL] at e
  obtain ⟨⟨h0, h1, hl⟩, e⟩ := e
  subst e
  obtain ⟨x, xs, e1, t1, r1⟩ := p1.list
  have e2 := p2.int
  subst e1 e2
  exact ⟨x, _, xs, rfl, rfl, t1, by omega, by omega, by rw [r1.len]; exact hl, fun p hp => q p _ hp (r1.rep _)⟩
def evBinL (f : D → D → Option (List D)) (a b : Ev) : Evs := fun s => (a s).bind fun x s1 => (b s1).bind fun y s2 => toOut (f x y) s2
theorem sf_bin {cl : Nat → Addr} {W : WX} {m : Bool} {op : Operator} {r : R2} {f : D → D → Option (List D)} {ea eb : Expr} {a b : Ev} {pos} (ho : OpR X (binaryOp op) r) (hs : OpSemL X r f) (ha : SB cl X W m ea a) (hb : SB cl X W true eb b) : SF cl X W m (.BinOp ea op eb pos) (evBinL f a b) :=
  pe_imp (pe_op ho ha hb) fun σ H Q ⟨fm, Xs, os, s, R, g⟩ => by
    unfold evBinL at g
    refine ⟨fm, Xs, os, s, R, ?_⟩
    cases q : a s with
    | ok x s1 =>
      rw [q] at g
      simp only [Out.bind_ok] at g
      refine fun v1 H1 r1 st1 p1 => ⟨fm, Xs, os, s1, r1, ?_⟩
      cases q2 : b s1 with
      | ok y s2 =>
        rw [q2] at g
        simp only [Out.bind_ok] at g
        refine fun v2 H2 r2 st2 p2 => ?_
        cases q3 : f x y with
        | some d =>
          rw [q3] at g
          exact hs fm Xs os s2 σ H2 x y d v1 v2 Q r2 (p1.still r1 st2) p2 q3 fun p vs hp ra => useF g r2 (st1.trans (st2.more Mu.still)) hp ra
        | none => rw [q3] at g; exact g.elim
      | exc c t s2 => rw [q2] at g; exact g
      | no => rw [q2] at g; exact g.elim
    | exc c t s1 => rw [q] at g; exact g
    | no => rw [q] at g; exact g.elim
/-! ### the other operators of whole numbers -/
def subI : D → D → Option D
  | .int a, .int b => some (.int (a - b))
  | _, _ => none
def mulI : D → D → Option D
  | .int a, .int b => if (-(2 ^ 64) < a ∧ a < 2 ^ 64) ∨ (-(2 ^ 64) < b ∧ b < 2 ^ 64) then some (.int (a * b)) else none
  | _, _ => none
def modI : D → D → Option D
  | .int a, .int b => if 0 < b then some (.int (a % b)) else none
  | _, _ => none
def fdivI : D → D → Option D
  | .int a, .int b => if 0 < b ∧ b < 1073741824 then some (.int (a / b)) else none
  | _, _ => none
def powI : D → D → Option D
  | .int a, .int b => if 0 ≤ b ∧ b ≤ 1000000 ∧ a.natAbs < 2 ^ 64 then some (.int (a ^ b.toNat)) else none
  | _, _ => none
theorem sem_subI : OpSem X (rI0 fun i j => .int (i - j)) subI := by
  intro fm Xs os s σ H d1 d2 d v1 v2 Q R p1 p2 e q
  cases d1 <;> cases d2 <;> simp [subI] at e
  subst e
  exact ⟨_, _, p1.int, p2.int, q _ H R (Stay.refl _ _) rfl⟩
theorem sem_mulI : OpSem X (rI CMul fun i j => .int (i * j)) mulI := by
  intro fm Xs os s σ H d1 d2 d v1 v2 Q R p1 p2 e q
  cases d1 <;> cases d2 <;> simp only [mulI] at e <;> try cases e
  split at e <;> cases e
  rename_i h
  exact ⟨_, _, p1.int, p2.int, h, q _ H R (Stay.refl _ _) rfl⟩
theorem sem_modI : OpSem X (rI (fun _ j => 0 < j) fun i j => .int (i % j)) modI := by
  intro fm Xs os s σ H d1 d2 d v1 v2 Q R p1 p2 e q
  cases d1 <;> cases d2 <;> simp only [modI] at e <;> try cases e
  split at e <;> cases e
  rename_i h
  exact ⟨_, _, p1.int, p2.int, h, q _ H R (Stay.refl _ _) rfl⟩
theorem sem_fdivI : OpSem X (rI CDiv fun i j => .int (i / j)) fdivI := by
  intro fm Xs os s σ H d1 d2 d v1 v2 Q R p1 p2 e q
  cases d1 <;> cases d2 <;> simp only [fdivI] at e <;> try cases e
  split at e <;> cases e
  rename_i h
  exact ⟨_, _, p1.int, p2.int, h, q _ H R (Stay.refl _ _) rfl⟩
theorem sem_powI : OpSem X (rI CPow fun i j => .int (i ^ j.toNat)) powI := by
  intro fm Xs os s σ H d1 d2 d v1 v2 Q R p1 p2 e q
  cases d1 <;> cases d2 <;> simp only [powI] at e <;> try cases e
  split at e <;> cases e
  rename_i h
  exact ⟨_, _, p1.int, p2.int, h, q _ H R (Stay.refl _ _) rfl⟩
/-! ### comparisons -/
def cmpI (f : Int → Int → Bool) : D → D → Option D
  | .int a, .int b => some (.bool (f a b))
  | _, _ => none
theorem sem_cmpI (f : Int → Int → Bool) : OpSem X (rI0 fun i j => .bl (f i j)) (cmpI f) := by
  intro fm Xs os s σ H d1 d2 d v1 v2 Q R p1 p2 e q
  cases d1 <;> cases d2 <;> simp [cmpI] at e
  subst e
  exact ⟨_, _, p1.int, p2.int, q _ H R (Stay.refl _ _) rfl⟩
def ltS : D → D → Option D
  | .str a, .str b => some (.bool (decide (a.cps.toList < b.cps.toList)))
  | _, _ => none
theorem sem_ltS : OpSem X (fun x y H Q => ∃ i j, x = .str i ∧ y = .str j ∧ Q (.bl (decide (i.cps.toList < j.cps.toList))) H) ltS := by
  intro fm Xs os s σ H d1 d2 d v1 v2 Q R p1 p2 e q
  cases d1 <;> cases d2 <;> simp only [ltS] at e <;> cases e
  exact ⟨_, _, p1.str, p2.str, q _ H R (Stay.refl _ _) rfl⟩
mutual
theorem Rp.dp {K : Fr} {H : Hp} {Xs : List Addr} : ∀ (d : D) (v : V), Rp K H Xs d v → d.canLay0 = true → Dp K H v d
  | .none, _, h, _ => by cases h; exact .non
  | .bool b, _, h, _ => by cases h; exact .bl b
  | .int i, _, h, _ => by cases h; exact .int i
  | .str x, _, h, _ => by cases h; exact .str x
  | .list ds, _, h, c => by
    obtain ⟨a, vs, e, f, r⟩ := h
    subst e
    exact .lst (SqL.of f.1) (RpA.dp ds vs r (by simpa [PyData.canLay0] using c))
  | .tuple ds, _, h, c => by
    obtain ⟨a, vs, e, f, r⟩ := h
    subst e
    exact .tup f.sq (RpA.dp ds vs r (by simpa [PyData.canLay0] using c))
  | .dict es, _, h, c => by simp [PyData.canLay0] at c
theorem RpA.dp {K : Fr} {H : Hp} {Xs : List Addr} : ∀ (ds : List D) (vs : List V), RpA K H Xs ds vs → PyData.canLayAll0 ds = true → DpAll K H vs ds
  | [], _, h, _ => by cases h; exact .nil
  | d :: ds, _, h, c => by
    obtain ⟨v, r, e, p, q⟩ := h
    subst e
    simp only [PyData.canLayAll0, Bool.and_eq_true] at c
    exact .cons (Rp.dp d v p c.1) (RpA.dp ds r q c.2)
end
theorem RpB.dp {K : Fr} {H : Hp} {Xs : List Addr} {os : List (Nat × Addr)} {d : D} {v : V} (h : RpB K H Xs os d v) (c : d.canLay0 = true) : Dp K H v d := by
  rcases h with h | ⟨i, a, vs, ds, e, ev, _, ha, r⟩
  · exact Rp.dp d v h c
  · subst e ev
    exact .lst (SqL.of ha) (RpA.dp ds vs r (by simpa [PyData.canLay0] using c))
def eqD (a b : D) : Option D := if SeqAt.shaped a = true ∧ SeqAt.shaped b = true then some (.bool (PyData.eqv a b)) else none
def neD (a b : D) : Option D := if SeqAt.shaped a = true ∧ SeqAt.shaped b = true then some (.bool (!PyData.eqv a b)) else none
theorem sem_eqD : OpSem X (rEqD X.K) eqD := by
  intro fm Xs os s σ H d1 d2 d v1 v2 Q R p1 p2 e q
  unfold eqD at e
  split at e <;> cases e
  rename_i h
  exact ⟨d1, d2, p1.dp (SeqAt.canLay_of_shaped h.1), p2.dp (SeqAt.canLay_of_shaped h.2), h.1, h.2, q _ H R (Stay.refl _ _) rfl⟩
theorem sem_neD : OpSem X (rNeD X.K) neD := by
  intro fm Xs os s σ H d1 d2 d v1 v2 Q R p1 p2 e q
  unfold neD at e
  split at e <;> cases e
  rename_i h
  exact ⟨d1, d2, p1.dp (SeqAt.canLay_of_shaped h.1), p2.dp (SeqAt.canLay_of_shaped h.2), h.1, h.2, q _ H R (Stay.refl _ _) rfl⟩
def isNone : D → Bool
  | .none => true
  | _ => false
def isN : D → D → Option D
  | a, .none => some (.bool (isNone a))
  | _, _ => none
def isNotN : D → D → Option D
  | a, .none => some (.bool (!isNone a))
  | _, _ => none
theorem rp_none_iff {K : Fr} {H : Hp} {Xs : List Addr} {os : List (Nat × Addr)} {d : D} {v : V} (h : RpB K H Xs os d v) : decide (v = .non) = isNone d := by
  rcases h with h | ⟨i, a, vs, ds, e, ev, _, ha, r⟩
  · cases d with
    | none => cases h; rfl
    | bool b => cases h; rfl
    | int b => cases h; rfl
    | str b => cases h; rfl
    | list b => obtain ⟨a, vs, e, _⟩ := h; subst e; rfl
    | tuple b => obtain ⟨a, vs, e, _⟩ := h; subst e; rfl
    | dict b => obtain ⟨a, vs, e, _⟩ := h; subst e; rfl
  · subst e ev; rfl
theorem sem_isN : OpSem X (fun x y H Q => y = .non ∧ Q (.bl (decide (x = .non))) H) isN := by
  intro fm Xs os s σ H d1 d2 d v1 v2 Q R p1 p2 e q
  cases d2 <;> simp only [isN] at e <;> cases e
  refine ⟨p2.none, ?_⟩
  rw [rp_none_iff p1]
  exact q _ H R (Stay.refl _ _) rfl
theorem sem_isNotN : OpSem X (fun x y H Q => y = .non ∧ Q (.bl (!decide (x = .non))) H) isNotN := by
  intro fm Xs os s σ H d1 d2 d v1 v2 Q R p1 p2 e q
  cases d2 <;> simp only [isNotN] at e <;> cases e
  refine ⟨p2.none, ?_⟩
  rw [rp_none_iff p1]
  exact q _ H R (Stay.refl _ _) rfl
/-! ### in -/
def flatD : D → Bool
  | .none | .bool _ | .int _ | .str _ => true
  | _ => false
def eqFlat : D → D → Bool
  | .none, .none => true
  | .bool a, .bool b => a == b
  | .bool a, .int b => (if a then 1 else 0) == b
  | .int a, .bool b => a == (if b then 1 else 0)
  | .int a, .int b => a == b
  | .str a, .str b => a == b
  | _, _ => false
def inItems (x : D) (ys : List D) : Option Bool := if flatD x = true ∧ ys.all flatD = true then some (ys.any fun y => eqFlat y x) else none
def inSeq (neg : Bool) : D → D → Option D
  | x, .list ys => (inItems x ys).map fun b => .bool (if neg then !b else b)
  | x, .tuple ys => (inItems x ys).map fun b => .bool (if neg then !b else b)
  | _, _ => none
theorem flat_rp {K : Fr} {H : Hp} {Xs : List Addr} {d : D} {v : V} (h : Rp K H Xs d v) (f : flatD d = true) : flatV v = true := by
  cases d <;> simp [flatD] at f <;> cases h <;> rfl
theorem eqFlat_rp {K : Fr} {H : Hp} {Xs : List Addr} {d e : D} {v w : V} (h : Rp K H Xs d v) (k : Rp K H Xs e w) (f : flatD d = true) (g : flatD e = true) : eqV v w = eqFlat d e := by
  cases d <;> simp [flatD] at f <;> cases h <;> cases e <;> simp [flatD] at g <;> cases k <;> rfl
theorem flatAll_rp {K : Fr} {H : Hp} {Xs : List Addr} : ∀ {ds : List D} {vs : List V}, RpA K H Xs ds vs → ds.all flatD = true → vs.all flatV = true
  | [], _, h, _ => by cases h; rfl
  | d :: ds, _, h, f => by
    obtain ⟨v, r, e, p, q⟩ := h
    subst e
    simp only [List.all_cons, Bool.and_eq_true] at f ⊢
    exact ⟨flat_rp p f.1, flatAll_rp q f.2⟩
theorem inV_rp {K : Fr} {H : Hp} {Xs : List Addr} {x : D} {w : V} (hx : Rp K H Xs x w) (fx : flatD x = true) : ∀ {ds : List D} {vs : List V}, RpA K H Xs ds vs → ds.all flatD = true → inV w vs = ds.any fun y => eqFlat y x
  | [], _, h, _ => by cases h; rfl
  | d :: ds, _, h, f => by
    obtain ⟨v, r, e, p, q⟩ := h
    subst e
    simp only [List.all_cons, Bool.and_eq_true] at f
    have ih := inV_rp hx fx q f.2
    unfold inV at ih ⊢
    rw [List.any_cons, List.any_cons, ih, eqFlat_rp p hx f.1 fx]
theorem RpB.flat {K : Fr} {H : Hp} {Xs : List Addr} {os : List (Nat × Addr)} {d : D} {v : V} (h : RpB K H Xs os d v) (f : flatD d = true) : Rp K H Xs d v := by
  rcases h with h | ⟨_, _, _, _, e, _⟩
  · exact h
  · subst e; simp [flatD] at f
theorem sem_inSeq (neg : Bool) : OpSem X (rIn X.K neg) (inSeq neg) := by
  intro fm Xs os s σ H d1 d2 d v1 v2 Q R p1 p2 e q
  have key : ∀ (p : Addr) (vs : List V) (ys : List D), v2 = .ref p → (SqL X.K H p vs ∨ SqT X.K H p vs) → RpA X.K H Xs ys vs → (inItems d1 ys).map (fun b => PyData.bool (if neg then !b else b)) = some d → rIn X.K neg v1 v2 H Q := fun p vs ys ev sq r e => by
    obtain ⟨b, e1, e2⟩ := Option.map_eq_some_iff.mp e
    unfold inItems at e1
    split at e1
    · rename_i h
      cases e1
      subst e2
      refine ⟨p, vs, ev, sq, flat_rp (p1.flat h.1) h.1, flatAll_rp r h.2, ?_⟩
      rw [inV_rp (p1.flat h.1) h.1 r h.2]
      refine q _ H R (Stay.refl _ _) ?_
      cases neg <;> rfl
    · cases e1
  cases d2 with
  | list ys =>
    obtain ⟨p, vs, ev, ha, r⟩ := p2.list
    exact key p vs ys ev (.inl (SqL.of ha)) r e
  | tuple ys =>
    obtain ⟨p, vs, ev, ha, r⟩ := p2.tuple
    exact key p vs ys ev (.inr ha) r e
  | _ => simp [inSeq] at e
/-- one sign in a text -/
def inSign (neg : Bool) : D → D → Option D
  | .str x, .str z => match x.cps.toList with
    | [c] => some (.bool (if neg then !decide (c ∈ z.cps.toList) else decide (c ∈ z.cps.toList)))
    | _ => none
  | _, _ => none
theorem str_one {x : Str} {c : Nat} (h : x.cps.toList = [c]) : x = ⟨#[c]⟩ := by
  obtain ⟨a⟩ := x
  congr 1
  exact Array.ext' h
theorem sem_inSign : OpSem X (fun x y H Q => ∃ (c : Nat) (z : Str), x = .str ⟨#[c]⟩ ∧ y = .str z ∧ Q (.bl (decide (c ∈ z.cps.toList))) H) (inSign false) := by
  intro fm Xs os s σ H d1 d2 d v1 v2 Q R p1 p2 e q
  cases d1 <;> cases d2 <;> simp only [inSign] at e <;> try cases e
  split at e
  · rename_i c hc
    cases e
    refine ⟨c, _, ?_, p2.str, q _ H R (Stay.refl _ _) rfl⟩
    rw [← str_one hc]; exact p1.str
  · cases e
theorem sem_notInSign : OpSem X (fun x y H Q => ∃ (c : Nat) (z : Str), x = .str ⟨#[c]⟩ ∧ y = .str z ∧ Q (.bl (!decide (c ∈ z.cps.toList))) H) (inSign true) := by
  intro fm Xs os s σ H d1 d2 d v1 v2 Q R p1 p2 e q
  cases d1 <;> cases d2 <;> simp only [inSign] at e <;> try cases e
  split at e
  · rename_i c hc
    cases e
    refine ⟨c, _, ?_, p2.str, q _ H R (Stay.refl _ _) rfl⟩
    rw [← str_one hc]; exact p1.str
  · cases e
/-! ### a[i] -/
def ixD : D → D → Option D
  | .list xs, .int i => atI xs i
  | .tuple xs, .int i => atI xs i
  | .str z, .int i => if z.length ≤ sizeLine then (atI z.cps.toList i).map fun c => .str ⟨#[c]⟩ else none
  | _, _ => none
theorem RpA.at {K : Fr} {H : Hp} {Xs : List Addr} {ds : List D} {vs : List V} {i : Int} {d : D} (h : RpA K H Xs ds vs) (e : atI ds i = some d) : ∃ v, atI vs i = some v ∧ Rp K H Xs d v := by
  unfold atI at e ⊢
  rw [h.len]
  cases q : ixN ds.length i with
  | none => rw [q] at e; cases e
  | some j =>
    rw [q] at e
    exact h.get e
theorem sem_ix : OpSem X (rIx X.K) ixD := by
  intro fm Xs os s σ H d1 d2 d v1 v2 Q R p1 p2 e q
  cases d2 with
  | int i =>
    cases d1 with
    | list ds =>
      simp only [ixD] at e
      obtain ⟨x, xs, e1, t1, r1⟩ := p1.list
      obtain ⟨v, ev, rv⟩ := r1.at e
      exact .inl ⟨x, xs, _, v, e1, p2.int, SqL.of t1, ev, q v H R (Stay.refl _ _) rv⟩
    | tuple ds =>
      simp only [ixD] at e
      obtain ⟨x, xs, e1, t1, r1⟩ := p1.tuple
      obtain ⟨v, ev, rv⟩ := r1.at e
      exact .inr (.inl ⟨x, xs, _, v, e1, p2.int, t1, ev, q v H R (Stay.refl _ _) rv⟩)
    | str z =>
      simp only [ixD] at e
      split at e
      · rename_i hl
        obtain ⟨c, e1, e2⟩ := Option.map_eq_some_iff.mp e
        subst e2
        exact .inr (.inr ⟨z, i, c, p1.str, p2.int, hl, e1, q _ H R (Stay.refl _ _) rfl⟩)
      · cases e
    | _ => simp [ixD] at e
  | _ => cases d1 <;> simp [ixD] at e
theorem se_ix {cl : Nat → Addr} {W : WX} {m : Bool} {ea eb : Expr} {a b : Ev} {pos} (ha : SB cl X W m ea a) (hb : SB cl X W true eb b) (hs : PlainIx eb := by exact fun _ _ => rfl) : SE cl X W m (.Subscript ea eb pos) (evBin ixD a b) :=
  pe_imp (pe_ix ix_seq ha hb hs) fun _ _ _ h => tOp_sem rfl sem_ix h
end
end Zo
/-! ZE: slices, built-ins by name, calls of defs. -/
namespace Zo
open PySem PySem.Spec PyProof.Rows L2
/-! ### slices -/
def cutL {α : Type} (xs : List α) (lo hi : Option Int) : List α := (xs.drop (HT.sIx xs.length 0 lo)).take (HT.sIx xs.length xs.length hi - HT.sIx xs.length 0 lo)
theorem RpA.cut {K : Fr} {H : Hp} {Xs : List Addr} {ds : List D} {vs : List V} (h : RpA K H Xs ds vs) (lo hi : Option Int) : RpA K H Xs (cutL ds lo hi) (cutV vs lo hi) := by
  unfold cutL cutV
  rw [h.len]
  exact (h.drop _).take _
abbrev Pt := Ms → Out (Option Int)
def ptNo : Pt := fun s => .ok none s
def asInt : D → Option Int
  | .int i => some i
  | _ => none
theorem asInt_some {d : D} {i : Int} (h : asInt d = some i) : d = .int i := by
  cases d <;> simp [asInt] at h
  rw [h]
def ptOf (a : Ev) : Pt := fun s => (a s).bind fun d s1 => match asInt d with
  | some i => .ok (some i) s1
  | none => .no
section
variable (K : Fr) (cl : Nat → Addr) (W : WX) (m : Bool)
def GoodP (fm : Fm) (X : List Addr) (os : List (Nat × Addr)) (σ : L2.St) (H : Hp) (Q : Option Int → Hp → Prop) : Out (Option Int) → Prop
  | .ok b s' => ∀ H', Rel K fm X os s' σ H' → Stay (Mu fm.dka os m) H H' → Q b H'
  | .exc c t s' => Wish K cl W fm X os σ c t s'
  | .no => False
def tP (ev : Pt) : TO := fun σ H Q => ∃ fm X os s, Rel K fm X os s σ H ∧ GoodP K cl W m fm X os σ H Q (ev s)
end
abbrev SP (cl : Nat → Addr) (X : Cx) (W : WX) (m : Bool) (e : Option Expr) (ev : Pt) : Prop := PO X e (tP X.K cl W m ev)
section
variable {cl : Nat → Addr} {X : Cx} {W : WX} {m : Bool} {e : Expr} {ev : Ev}
theorem po_imp {eo : Option Expr} {t t' : TO} (h : PO X eo t) (i : ∀ σ H Q, t' σ H Q → t σ H Q) : PO X eo t' := ⟨fun pins s σ H Q I q => h.run pins s σ H Q I (i σ H Q q)⟩
theorem sp_none : SP cl X W m none ptNo := po_imp po_none fun σ H Q ⟨fm, Xs, os, s, r, g⟩ => g H r (Stay.refl _ _)
theorem sp_some (h : SB cl X W m e ev) : SP cl X W m (some e) (ptOf ev) := po_imp (po_some h) fun σ H Q ⟨fm, Xs, os, s, r, g⟩ => by
  unfold ptOf at g
  refine ⟨fm, Xs, os, s, r, ?_⟩
  cases q : ev s with
  | ok d s1 =>
    rw [q] at g
    simp only [Out.bind_ok] at g
    cases q2 : asInt d with
    | some i =>
      rw [q2] at g
      have e2 := asInt_some q2
      subst e2
      exact fun v H1 r1 st1 p1 => ⟨i, p1.int, g H1 r1 st1⟩
    | none => rw [q2] at g; exact g.elim
  | exc c t s1 => rw [q] at g; exact g
  | no => rw [q] at g; exact g.elim
/-- what a slice of a tuple or a text is -/
def slD : D → Option Int → Option Int → Option D
  | .tuple xs, lo, hi => some (.tuple (cutL xs lo hi))
  | .str z, lo, hi => if z.length ≤ sizeLine then some (.str (cutS z lo hi)) else none
  | _, _, _ => none
def slL : D → Option Int → Option Int → Option (List D)
  | .list xs, lo, hi => some (cutL xs lo hi)
  | _, _, _ => none
def evSl (a : Ev) (lo hi : Pt) : Ev := fun s => (a s).bind fun x s1 => (lo s1).bind fun l s2 => (hi s2).bind fun u s3 => toOut (slD x l u) s3
def evSlL (a : Ev) (lo hi : Pt) : Evs := fun s => (a s).bind fun x s1 => (lo s1).bind fun l s2 => (hi s2).bind fun u s3 => toOut (slL x l u) s3
/-- t[lo:hi] -/
def rSlF (K : Fr) : V → Option Int → Option Int → Hp → VK → Prop := fun x lo hi H Q => ∃ a xs, x = .ref a ∧ SqT K H a xs ∧
  (HT.sIx xs.length 0 lo = 0 ∧ HT.sIx xs.length xs.length hi = xs.length → Q (.ref a) H) ∧ (¬ (HT.sIx xs.length 0 lo = 0 ∧ HT.sIx xs.length xs.length hi = xs.length) → ∀ p o, H p = none → o.dict = none → Q (.ref p) (upd H p (.frz o (.tup (cutV xs lo hi)))))
theorem sl_tupF : SlR X (rSlF X.K) := by
  intro pins s σ H x v vl vu lo hi sl Q I rx hs pl pu h
  obtain ⟨a, xs, rfl, hx, q1, q2⟩ := h
  by_cases hw : HT.sIx xs.length 0 lo = 0 ∧ HT.sIx xs.length xs.length hi = xs.length
  · exact sl_tupA pins s σ H _ v vl vu lo hi sl Q I rx hs pl pu ⟨a, xs, rfl, hx, q1, fun z => absurd hw z⟩
  cases rx
  obtain ⟨its, r, ht, hz⟩ := I.tuple hx
  have hlen : its.toArray.size = xs.length := by rw [List.size_toArray]; exact r.length.symm
  refine ⟨"tuple", _, PyProof.Rows.slot_tuple_getitem.lookup, ht.typeIs, ?_⟩
  refine HT.getItem_tuple_cut ht hs pl pu (by rw [hlen]; exact hw) ?_ (by rw [hlen]; exact hz)
  rw [hlen]
  have new := I.hok.fresh (Nat.le_refl s.heap.objs.size)
  refine ⟨.ref s.heap.objs.size, _, I.laid (t' := s.toks) (o := .frz _ (.tup (cutV xs lo hi))) (fun b ob q => Heap.get?_push_of_some _ q) (Nat.le_refl _) ⟨Heap.get?_push_size _ rfl, ?_⟩, rfl, q2 hw _ _ new rfl⟩
  exact ⟨Nat.le_trans (cutV_length xs lo hi) hz, _, (r.drop (HT.sIx xs.length 0 lo)).take (HT.sIx xs.length xs.length hi - HT.sIx xs.length 0 lo), IsTup.new _ _⟩
theorem se_slice {lo hi : Option Expr} {pl pu : Pt} {p2 pos} (h : SB cl X W m e ev) (hl : SP cl X W true lo pl) (hu : SP cl X W true hi pu) : SE cl X W m (.Subscript e (.Slice lo hi none p2) pos) (evSl ev pl pu) :=
  pe_imp (pe_slice (sl_tupF.or sl_str) h hl hu) fun σ H Q ⟨fm, Xs, os, s, R, g⟩ => by
    unfold evSl at g
    refine ⟨fm, Xs, os, s, R, ?_⟩
    cases q : ev s with
    | ok x s1 =>
      rw [q] at g
      simp only [Out.bind_ok] at g
      refine fun v1 H1 r1 st1 p1 => ⟨fm, Xs, os, s1, r1, ?_⟩
      cases q2 : pl s1 with
      | ok l s2 =>
        rw [q2] at g
        simp only [Out.bind_ok] at g
        refine fun H2 r2 st2 => ⟨fm, Xs, os, s2, r2, ?_⟩
        cases q3 : pu s2 with
        | ok u s3 =>
          rw [q3] at g
          simp only [Out.bind_ok] at g
          refine fun H3 r3 st3 => ?_
          have p3 := (p1.still r1 st2).still r2 st3
          have st := st1.trans ((st2.more Mu.still).trans (st3.more Mu.still))
          cases x with
          | tuple xs =>
            simp only [slD, toOut_some] at g
            obtain ⟨a, vs, ev, ha, ra⟩ := p3.tuple
            subst ev
            refine .inl ⟨a, vs, rfl, ha, fun hw => ?_, fun hw p o hp hd => ?_⟩
            · have e0 : cutL xs l u = xs := by
                obtain ⟨h1, h2⟩ := hw
                rw [ra.len] at h1 h2
                unfold cutL
                rw [h1, h2]
                simp
              rw [e0] at g
              exact g _ H3 r3 st p3.tup
            · exact g _ _ (r3.laid hp) (st.trans (Stay.laid hp)) (rp_newF hp (r3.nx hp) hd (ra.cut l u))
          | str z =>
            simp only [slD] at g
            split at g
            · rename_i hz
              exact .inr ⟨z, p3.str, hz, g _ H3 r3 st rfl⟩
            · exact g.elim
          | _ => exact g.elim
        | exc c t s3 => rw [q3] at g; exact g
        | no => rw [q3] at g; exact g.elim
      | exc c t s2 => rw [q2] at g; exact g
      | no => rw [q2] at g; exact g.elim
    | exc c t s1 => rw [q] at g; exact g
    | no => rw [q] at g; exact g.elim
theorem sf_slice {lo hi : Option Expr} {pl pu : Pt} {p2 pos} (h : SB cl X W m e ev) (hl : SP cl X W true lo pl) (hu : SP cl X W true hi pu) : SF cl X W m (.Subscript e (.Slice lo hi none p2) pos) (evSlL ev pl pu) :=
  pe_imp (pe_slice sl_list h hl hu) fun σ H Q ⟨fm, Xs, os, s, R, g⟩ => by
    unfold evSlL at g
    refine ⟨fm, Xs, os, s, R, ?_⟩
    cases q : ev s with
    | ok x s1 =>
      rw [q] at g
      simp only [Out.bind_ok] at g
      refine fun v1 H1 r1 st1 p1 => ⟨fm, Xs, os, s1, r1, ?_⟩
      cases q2 : pl s1 with
      | ok l s2 =>
        rw [q2] at g
        simp only [Out.bind_ok] at g
        refine fun H2 r2 st2 => ⟨fm, Xs, os, s2, r2, ?_⟩
        cases q3 : pu s2 with
        | ok u s3 =>
          rw [q3] at g
          simp only [Out.bind_ok] at g
          refine fun H3 r3 st3 => ?_
          have p3 := (p1.still r1 st2).still r2 st3
          have st := st1.trans ((st2.more Mu.still).trans (st3.more Mu.still))
          cases x with
          | list xs =>
            simp only [slL, toOut_some] at g
            obtain ⟨a, vs, ev, ha, ra⟩ := p3.list
            subst ev
            exact ⟨a, vs, rfl, SqL.of ha, fun p hp => useF g r3 st hp (ra.cut l u)⟩
          | _ => exact g.elim
        | exc c t s3 => rw [q3] at g; exact g
        | no => rw [q3] at g; exact g.elim
      | exc c t s2 => rw [q2] at g; exact g
      | no => rw [q2] at g; exact g.elim
    | exc c t s1 => rw [q] at g; exact g
    | no => rw [q] at g; exact g.elim
/-! ### a built-in of one value -/
def CallSem (X : Cx) (r : List V → Hp → VK → Prop) (f : D → Option D) : Prop :=
  ∀ (fm : Fm) (Xs : List Addr) (os : List (Nat × Addr)) (s : Ms) (σ : L2.St) (H : Hp) (d d' : D) (v : V) (Q : VK), Rel X.K fm Xs os s σ H → RpB X.K H Xs os d v → f d = some d' →
    (∀ v' H', Rel X.K fm Xs os s σ H' → Stay [] H H' → Rp X.K H' Xs d' v' → Q v' H') → r [v] H Q
def CallSemL (X : Cx) (r : List V → Hp → VK → Prop) (f : D → Option (List D)) : Prop :=
  ∀ (fm : Fm) (Xs : List Addr) (os : List (Nat × Addr)) (s : Ms) (σ : L2.St) (H : Hp) (d : D) (ds : List D) (v : V) (Q : VK), Rel X.K fm Xs os s σ H → RpB X.K H Xs os d v → f d = some ds →
    (∀ p vs, H p = none → RpA X.K H Xs ds vs → Q (.ref p) (upd H p (.lst vs))) → r [v] H Q
def ev1 (f : D → Option D) (a : Ev) : Ev := fun s => (a s).bind fun x s1 => toOut (f x) s1
def ev1L (f : D → Option (List D)) (a : Ev) : Evs := fun s => (a s).bind fun x s1 => toOut (f x) s1
theorem tCB_sem {r : List V → Hp → VK → Prop} {f : D → Option D} {a : Ev} (hs : CallSem X r f) {σ : L2.St} {H : Hp} {Q : VK} (h : tE X.K cl W m (ev1 f a) σ H Q) : tCB r (tCons (tB X.K cl W m a) tNil) σ H Q := by
  obtain ⟨fm, Xs, os, s, R, g⟩ := h
  unfold ev1 at g
  refine ⟨fm, Xs, os, s, R, ?_⟩
  cases q : a s with
  | ok x s1 =>
    rw [q] at g
    simp only [Out.bind_ok] at g
    cases q3 : f x with
    | some d => rw [q3] at g; exact fun v1 H1 r1 st1 p1 => hs fm Xs os s1 σ H1 x d v1 Q r1 p1 q3 fun v H3 r3 st3 p3 => g v H3 r3 (st1.trans st3.any) p3
    | none => rw [q3] at g; exact g.elim
  | exc c t s1 => rw [q] at g; exact g
  | no => rw [q] at g; exact g.elim
theorem tCB_semL {r : List V → Hp → VK → Prop} {f : D → Option (List D)} {a : Ev} (hs : CallSemL X r f) {σ : L2.St} {H : Hp} {Q : VK} (h : tF X.K cl W m (ev1L f a) σ H Q) : tCB r (tCons (tB X.K cl W m a) tNil) σ H Q := by
  obtain ⟨fm, Xs, os, s, R, g⟩ := h
  unfold ev1L at g
  refine ⟨fm, Xs, os, s, R, ?_⟩
  cases q : a s with
  | ok x s1 =>
    rw [q] at g
    simp only [Out.bind_ok] at g
    cases q3 : f x with
    | some d => rw [q3] at g; exact fun v1 H1 r1 st1 p1 => hs fm Xs os s1 σ H1 x d v1 Q r1 p1 q3 fun p vs hp ra => useF g r1 st1 hp ra
    | none => rw [q3] at g; exact g.elim
  | exc c t s1 => rw [q] at g; exact g
  | no => rw [q] at g; exact g.elim
theorem se_b {r : List V → Hp → VK → Prop} {f : D → Option D} {x : Str} {id : String} {p pos} (hc : CallR X (.builtin id) r) (hs : CallSem X r f) (hg : Gl X x) (hm : X.mg x = none) (hv : bootBuiltins x = some (.builtin id)) (ha : SB cl X W m e ev)
    (hn : x ≠ "__name__" := by decide) (hdb : (x == ("__debug__" : Str)) = false := by decide) (he : starEach [e] X.env = (false, eval e X.env) :: starEach [] X.env := by rfl) : SE cl X W m (.Call (.Name x p) [e] [] pos) (ev1 f ev) :=
  pe_imp (pe_callB hc hg hm hv (pa_cons ha pa_nil he) hn hdb he) fun _ _ _ h => tCB_sem hs h
theorem se_ty {r : List V → Hp → VK → Prop} {f : D → Option D} {x : Str} {T : String} {p pos} (hc : CallR X (.type T) r) (hs : CallSem X r f) (hg : Gl X x) (hm : X.mg x = none) (hv : bootBuiltins x = some (.type T)) (ha : SB cl X W m e ev)
    (hn : x ≠ "__name__" := by decide) (hdb : (x == ("__debug__" : Str)) = false := by decide) (he : starEach [e] X.env = (false, eval e X.env) :: starEach [] X.env := by rfl) : SE cl X W m (.Call (.Name x p) [e] [] pos) (ev1 f ev) :=
  pe_imp (pe_callTy hc hg hm hv (pa_cons ha pa_nil he) hn hdb he) fun _ _ _ h => tCB_sem hs h
theorem sf_b {r : List V → Hp → VK → Prop} {f : D → Option (List D)} {x : Str} {id : String} {p pos} (hc : CallR X (.builtin id) r) (hs : CallSemL X r f) (hg : Gl X x) (hm : X.mg x = none) (hv : bootBuiltins x = some (.builtin id)) (ha : SB cl X W m e ev)
    (hn : x ≠ "__name__" := by decide) (hdb : (x == ("__debug__" : Str)) = false := by decide) (he : starEach [e] X.env = (false, eval e X.env) :: starEach [] X.env := by rfl) : SF cl X W m (.Call (.Name x p) [e] [] pos) (ev1L f ev) :=
  pe_imp (pe_callB hc hg hm hv (pa_cons ha pa_nil he) hn hdb he) fun _ _ _ h => tCB_semL hs h
theorem sf_ty {r : List V → Hp → VK → Prop} {f : D → Option (List D)} {x : Str} {T : String} {p pos} (hc : CallR X (.type T) r) (hs : CallSemL X r f) (hg : Gl X x) (hm : X.mg x = none) (hv : bootBuiltins x = some (.type T)) (ha : SB cl X W m e ev)
    (hn : x ≠ "__name__" := by decide) (hdb : (x == ("__debug__" : Str)) = false := by decide) (he : starEach [e] X.env = (false, eval e X.env) :: starEach [] X.env := by rfl) : SF cl X W m (.Call (.Name x p) [e] [] pos) (ev1L f ev) :=
  pe_imp (pe_callTy hc hg hm hv (pa_cons ha pa_nil he) hn hdb he) fun _ _ _ h => tCB_semL hs h
/-! ### len, list, tuple, all, any -/
def lenD : D → Option D
  | .list xs => some (.int xs.length)
  | .tuple xs => some (.int xs.length)
  | .str z => if z.length ≤ sizeLine then some (.int z.length) else none
  | _ => none
theorem sem_len : CallSem X (fun xs H Q => ∃ x n, xs = [x] ∧ LenV X.K x H n ∧ Q (.int n) H) lenD := by
  intro fm Xs os s σ H d d' v Q R p e q
  cases d with
  | list xs =>
    cases e
    obtain ⟨a, vs, ev, ha, ra⟩ := p.list
    subst ev
    exact ⟨_, _, rfl, .inl ⟨vs, SqL.of ha, ra.len.symm⟩, q _ H R (Stay.refl _ _) rfl⟩
  | tuple xs =>
    cases e
    obtain ⟨a, vs, ev, ha, ra⟩ := p.tuple
    subst ev
    exact ⟨_, _, rfl, .inr ⟨vs, ha, ra.len.symm⟩, q _ H R (Stay.refl _ _) rfl⟩
  | str z =>
    simp only [lenD] at e
    split at e
    · rename_i hz
      cases e
      have ev := p.str
      subst ev
      exact ⟨_, _, rfl, ⟨hz, rfl⟩, q _ H R (Stay.refl _ _) rfl⟩
    · cases e
  | _ => cases e
def listD : D → Option (List D)
  | .list xs => some xs
  | .tuple xs => some xs
  | _ => none
theorem sem_list : CallSemL X (fun xs H Q => ∃ p ys, xs = [.ref p] ∧ (SqL X.K H p ys ∨ SqT X.K H p ys) ∧ ∀ l, H l = none → Q (.ref l) (upd H l (.lst ys))) listD := by
  intro fm Xs os s σ H d ds v Q R p e q
  cases d with
  | list xs =>
    cases e
    obtain ⟨a, vs, ev, ha, ra⟩ := p.list
    subst ev
    exact ⟨a, vs, rfl, .inl (SqL.of ha), fun l hl => q l vs hl ra⟩
  | tuple xs =>
    cases e
    obtain ⟨a, vs, ev, ha, ra⟩ := p.tuple
    subst ev
    exact ⟨a, vs, rfl, .inr ha, fun l hl => q l vs hl ra⟩
  | _ => cases e
def tupD : D → Option D
  | .list xs => some (.tuple xs)
  | .tuple xs => some (.tuple xs)
  | _ => none
/-- tuple(xs) -/
def rTupF (K : Fr) : List V → Hp → VK → Prop := fun xs H Q => ∃ p ys, xs = [.ref p] ∧ ((SqL K H p ys ∧ ∀ l o, H l = none → o.dict = none → Q (.ref l) (upd H l (.frz o (.tup ys)))) ∨ (SqT K H p ys ∧ Q (.ref p) H))
theorem call_tupF : CallR X (.type "tuple") (rTupF X.K) := by
  intro pins s σ H xs us Q I r h
  obtain ⟨p, ys, rfl, h⟩ := h
  rcases h with ⟨hq, q⟩ | ⟨hq, q⟩
  · obtain ⟨u, rfl, rx⟩ := vals1 r
    cases rx
    obtain ⟨its, r', pl, hz⟩ := I.list hq
    have few := r'.length
    refine call_tuple_list pl.isList (fun h' kp => ?_) (by simp only [List.size_toArray] <;> omega)
    have I1 : Inv X pins σ H { s with heap := h' } := I.kept (t' := s.toks) kp
    have I2 : Inv X pins σ (upd H h'.objs.size (.frz (tupO its) (.tup ys))) { s with heap := h'.push (tupO its) } :=
      I1.laid (t' := s.toks) (fun b o e => Heap.get?_push_of_some _ e) (Nat.le_refl _) (show ObjOk X.prog X.w _ _ _ (.frz (tupO its) (.tup ys)) from ⟨Heap.get?_push_size _ rfl, hz, its, r', IsTup.new _ _⟩)
    exact ⟨.ref h'.objs.size, _, I2, rfl, q _ _ (I1.hok.fresh (Nat.le_refl _)) rfl⟩
  · exact call_tuple_of pins s σ H _ us Q I r ⟨p, ys, rfl, .inr ⟨hq, q⟩⟩
theorem sem_tuple : CallSem X (rTupF X.K) tupD := by
  intro fm Xs os s σ H d d' v Q R p e q
  cases d with
  | list xs =>
    cases e
    obtain ⟨a, vs, ev, ha, ra⟩ := p.list
    subst ev
    exact ⟨a, vs, rfl, .inl ⟨SqL.of ha, fun l o hl hd => q _ _ (R.laid hl) (Stay.laid hl) (rp_newF hl (R.nx hl) hd ra)⟩⟩
  | tuple xs =>
    cases e
    obtain ⟨a, vs, ev, ha, ra⟩ := p.tuple
    subst ev
    exact ⟨a, vs, rfl, .inr ⟨ha, q _ H R (Stay.refl _ _) p.tup⟩⟩
  | _ => cases e
def boolsOf : List D → Option (List Bool)
  | [] => some []
  | d :: ds => match asBool d, boolsOf ds with
    | some b, some bs => some (b :: bs)
    | _, _ => none
theorem boolsOf_rp {K : Fr} {H : Hp} {Xs : List Addr} : ∀ {ds : List D} {vs : List V} {bs : List Bool}, RpA K H Xs ds vs → boolsOf ds = some bs → vs = bs.map V.bl
  | [], _, _, h, e => by cases h; cases e; rfl
  | d :: ds, _, bs, h, e => by
    obtain ⟨v, r, e1, p, q⟩ := h
    subst e1
    unfold boolsOf at e
    cases q1 : asBool d with
    | none => rw [q1] at e; cases e
    | some b =>
      cases q2 : boolsOf ds with
      | none => rw [q1, q2] at e; cases e
      | some bs' =>
        rw [q1, q2] at e
        cases e
        have e3 := asBool_some q1
        subst e3
        have e4 := boolsOf_rp q q2
        subst e4
        have e5 : v = .bl b := p
        subst e5
        rfl
def allD : D → Option D
  | .list xs => (boolsOf xs).map fun bs => .bool (bs.all id)
  | _ => none
def anyD : D → Option D
  | .list xs => (boolsOf xs).map fun bs => .bool (bs.any id)
  | _ => none
theorem sem_all : CallSem X (rAll X.K) allD := by
  intro fm Xs os s σ H d d' v Q R p e q
  cases d with
  | list xs =>
    obtain ⟨bs, e1, e2⟩ := Option.map_eq_some_iff.mp e
    subst e2
    obtain ⟨a, vs, ev, ha, ra⟩ := p.list
    subst ev
    have e3 := boolsOf_rp ra e1
    subst e3
    exact ⟨a, bs, rfl, SqL.of ha, q _ H R (Stay.refl _ _) rfl⟩
  | _ => cases e
theorem sem_any : CallSem X (rAny X.K) anyD := by
  intro fm Xs os s σ H d d' v Q R p e q
  cases d with
  | list xs =>
    obtain ⟨bs, e1, e2⟩ := Option.map_eq_some_iff.mp e
    subst e2
    obtain ⟨a, vs, ev, ha, ra⟩ := p.list
    subst ev
    have e3 := boolsOf_rp ra e1
    subst e3
    exact ⟨a, bs, rfl, SqL.of ha, q _ H R (Stay.refl _ _) rfl⟩
  | _ => cases e
/-! ### isinstance -/
def tyName : D → String
  | .none => "NoneType"
  | .bool _ => "bool"
  | .int _ => "int"
  | .str _ => "str"
  | .list _ => "list"
  | .tuple _ => "tuple"
  | .dict _ => "dict"
def isT (T : String) : D → Bool
  | .none => false
  | .bool _ => T == "bool" || T == "int"
  | .int _ => T == "int"
  | .str _ => T == "str"
  | .list _ => T == "list"
  | .tuple _ => T == "tuple"
  | .dict _ => T == "dict"
/-- the model's own answers for the class T, one by one -/
def TyOk (T : String) : Prop := kitB "NoneType" T = some false ∧ kitB "bool" T = some (T == "bool" || T == "int") ∧ kitB "int" T = some (T == "int") ∧ kitB "str" T = some (T == "str") ∧ kitB "list" T = some (T == "list") ∧ kitB "tuple" T = some (T == "tuple") ∧ kitB "dict" T = some (T == "dict")
theorem kit_isT {T : String} (h : TyOk T) (d : D) : kitB (tyName d) T = some (isT T d) := by
  obtain ⟨h1, h2, h3, h4, h5, h6, h7⟩ := h
  cases d <;> assumption
theorem tyok_int : TyOk "int" := by refine ⟨?_, ?_, ?_, ?_, ?_, ?_, ?_⟩ <;> decide +kernel
theorem tyok_bool : TyOk "bool" := by refine ⟨?_, ?_, ?_, ?_, ?_, ?_, ?_⟩ <;> decide +kernel
theorem tyok_str : TyOk "str" := by refine ⟨?_, ?_, ?_, ?_, ?_, ?_, ?_⟩ <;> decide +kernel
theorem tyok_tuple : TyOk "tuple" := by refine ⟨?_, ?_, ?_, ?_, ?_, ?_, ?_⟩ <;> decide +kernel
theorem tyok_list : TyOk "list" := by refine ⟨?_, ?_, ?_, ?_, ?_, ?_, ?_⟩ <;> decide +kernel
theorem tyok_dict : TyOk "dict" := by refine ⟨?_, ?_, ?_, ?_, ?_, ?_, ?_⟩ <;> decide +kernel
theorem tyx_of {K : Fr} {H : Hp} {Xs : List Addr} {os : List (Nat × Addr)} {d : D} {v : V} (h : RpB K H Xs os d v) : TyX K H v (.type (tyName d)) := by
  cases d with
  | none => rw [h.none]; exact .base .non
  | bool b => rw [h.bool]; exact .base (.bl b)
  | int i => rw [h.int]; exact .base (.int i)
  | str x => rw [h.str]; exact .base (.str x)
  | list ds =>
    obtain ⟨a, vs, ev, ha, ra⟩ := h.list
    subst ev
    exact .base (.lst ha)
  | tuple ds =>
    obtain ⟨a, vs, ev, ha, ra⟩ := h.tuple
    subst ev
    rcases ha with (ha | ⟨o, ha⟩) | ⟨o, its, n, hk, hc, _⟩
    · exact .base (.tup ha)
    · exact .fTuple ha
    · exact .kTuple hk hc
  | dict es =>
    obtain ⟨a, kvs, ev, ha, _⟩ := h.dict
    subst ev
    exact .base (.dK ha)
def isiD (T : String) (d : D) : Option D := some (.bool (isT T d))
theorem se_isi {T : String} {x : Str} {p p2 pos} (ht : TyOk T) (hg : Gl X "isinstance") (hm : X.mg "isinstance" = none) (hx : PE X (.Name x p2) (tC (.ty T))) (ha : SB cl X W m e ev)
    (he : starEach [e, .Name x p2] X.env = (false, eval e X.env) :: starEach [.Name x p2] X.env := by rfl) (he2 : starEach [Expr.Name x p2] X.env = (false, eval (.Name x p2) X.env) :: starEach [] X.env := by rfl) (hpl : (backTo pos (starEach [Expr.Name x p2] X.env)).any (·.1) = false := by rfl) :
    SE cl X W m (.Call (.Name "isinstance" p) [e, .Name x p2] [] pos) (ev1 (isiD T) ev) :=
  pe_imp (pe_callB call_isi hg hm PyProof.Rows.boot_isinstance (pa_cons ha (pa_cons hx pa_nil he2) he) (by decide) (by decide) he hpl) fun σ H Q ⟨fm, Xs, os, s, R, g⟩ => by
    unfold ev1 at g
    refine ⟨fm, Xs, os, s, R, ?_⟩
    cases q : ev s with
    | ok x s1 =>
      rw [q] at g
      simp only [Out.bind_ok, isiD, toOut_some] at g
      exact fun v1 H1 r1 st1 p1 => ⟨v1, _, _, _, isT T x, rfl, .ty T, tyx_of p1, kit_ty (kit_isT ht x), g _ H1 r1 st1 rfl⟩
    | exc c t s1 => rw [q] at g; exact g
    | no => rw [q] at g; exact g.elim
end
/-! ### calls of defs -/
/-- a def that knows no deck: from values to values; nothing that stood is changed -/
def spP (K : Fr) (cl : Nat → Addr) (n : Nat) (f : List D → Ro) : Sp := fun vs H Q E => ∃ Xs ds, RpA K H Xs ds vs ∧ ds.length = n ∧ (∀ a ∈ Xs, H a ≠ none) ∧ (match f ds with
  | .ok d => ∀ v H', Stay [] H H' → Rp K H' Xs d v → Q v H'
  | .exc c t => ∀ v dd H', Stay [] H H' → Rp K H' Xs t v → H' dd = some (.xd [(("thing" : Str), v)]) → E (.ref (cl c)) (some dd) H'
  | .no => False)
/-- a def that is handed the deck first -/
def spD (K : Fr) (n : Nat) (f : List D → Dk → Rd) : Sp := fun vs H Q _ => ∃ kd kc ws Xs ds k, vs = .ref kd :: ws ∧ RpA K H Xs ds ws ∧ ds.length = n ∧ (∀ a ∈ Xs, H a ≠ none) ∧ kd ∈ Xs ∧ kc ∈ Xs ∧ DkAt H kd kc k ∧ (match f ds k with
  | .ok d k' => ∀ v H', Stay [kd, kc] H H' → DkAt H' kd kc k' → Rp K H' Xs d v → Q v H'
  | .no => False)
def ofRo (r : Ro) (s : Ms) : Out D := match r with
  | .ok d => .ok d s
  | .exc c t => .exc c t s
  | .no => .no
def ofRd (r : Rd) (s : Ms) : Out D := match r with
  | .ok d k => .ok d { s with dk := k }
  | .no => .no
def evCall (f : List D → Ro) (as : Evs) : Ev := fun s => (as s).bind fun ds s1 => ofRo (f ds) s1
section
variable {cl : Nat → Addr} {X : Cx} {W : WX} {m : Bool} {e : Expr} {es : List Expr} {ev : Ev} {evs : Evs} {k n : Nat} {f : Addr} {fd : FuncData} {ps : List Str} {x : Str} {p pos : Pos}
theorem GoodE.call {fm : Fm} {Xs : List Addr} {os : List (Nat × Addr)} {s : Ms} {σ : L2.St} {H H1 : Hp} {Q : VK} {g : List D → Ro} {ds : List D} {vs : List V} (r1 : Rel X.K fm Xs os s σ H1) (st : Stay (Mu fm.dka os m) H H1) (ra : RpA X.K H1 Xs ds vs) (hl : ds.length = n)
    (h : GoodE X.K cl W m fm Xs os σ H Q (ofRo (g ds) s)) : spP X.K cl n g vs H1 Q (WE W σ) := by
  refine ⟨Xs, ds, ra, hl, r1.xt, ?_⟩
  cases q : g ds with
  | ok d =>
    rw [q] at h
    exact fun v H' st' p => h v H' (r1.stay st') (st.trans st'.any) p
  | exc c t =>
    rw [q] at h
    exact fun v dd H' st' p hd => h v dd H' (r1.stay st') p hd
  | no => rw [q] at h; exact h
theorem se_call {g : List D → Ro} (F : FnOk X.prog X.w X.K X.mg X.base (L2.CX X.prog X.w) k f fd ps (spP X.K cl n g)) (hr : Room k X.A) (hg : Gl X x) (hm : X.mg x = some (.ref f)) (hk : PySem.W.keepIn X.K (.ref f) = true) (hb : Binds X.K fd ps []) (tk : Takes X W)
    (ha : SA cl X W m (e :: es) evs) (hn : ∀ s ds s1, evs s = .ok ds s1 → ds.length = n) (hdb : (x == ("__debug__" : Str)) = false := by decide) (he : starEach (e :: es) X.env = (false, eval e X.env) :: starEach es X.env := by rfl) (hpl : (backTo pos (starEach es X.env)).any (·.1) = false := by rfl) :
    SE cl X W m (.Call (.Name x p) (e :: es) [] pos) (evCall g evs) :=
  pe_imp (pe_callS F hr hg hm hk hb (fun σ => passAt tk σ) ha hdb he hpl) fun σ H Q ⟨fm, Xs, os, s, R, h⟩ => by
    unfold evCall at h
    refine ⟨fm, Xs, os, s, R, ?_⟩
    cases q : evs s with
    | ok ds s1 =>
      rw [q] at h
      simp only [Out.bind_ok] at h
      exact fun vs H1 r1 st1 ra => GoodE.call r1 st1 ra (hn _ _ _ q) h
    | exc c t s1 => rw [q] at h; exact h
    | no => rw [q] at h; exact h.elim
theorem evCons_len {a : Ev} {b : Evs} {j : Nat} (h : ∀ s ds s1, b s = .ok ds s1 → ds.length = j) : ∀ s ds s1, evCons a b s = .ok ds s1 → ds.length = j + 1 := by
  intro s ds s1 e
  unfold evCons at e
  cases q : a s with
  | ok d s2 =>
    rw [q] at e
    simp only [Out.bind_ok] at e
    cases q2 : b s2 with
    | ok ds' s3 =>
      rw [q2] at e
      simp only [Out.bind_ok, Out.ok.injEq] at e
      rw [← e.1, List.length_cons, h _ _ _ q2]
    | exc c t s3 => rw [q2] at e; cases e
    | no => rw [q2] at e; cases e
  | exc c t s2 => rw [q] at e; cases e
  | no => rw [q] at e; cases e
theorem evNil_len : ∀ s ds s1, evNil s = .ok ds s1 → ds.length = 0 := by
  intro s ds s1 e
  cases e
  rfl
/-- f(deck, ..): the deck stands in a slot -/
def evCallD (i : Nat) (f : List D → Dk → Rd) (as : Evs) : Ev := fun s => match s.env[i]? with
  | some .deck => (as s).bind fun ds s1 => ofRd (f ds s1.dk) s1
  | _ => .no
theorem se_callD {g : List D → Dk → Rd} {ed : Expr} (i : Nat) (F : FnOk X.prog X.w X.K X.mg X.base (L2.CX X.prog X.w) k f fd ps (spD X.K n g)) (hr : Room k X.A) (hg : Gl X x) (hm : X.mg x = some (.ref f)) (hk : PySem.W.keepIn X.K (.ref f) = true) (hb : Binds X.K fd ps []) (tk : Takes X W)
    (hd : PE X ed (tVar i)) (ha : SA cl X W m es evs) (hn : ∀ s ds s1, evs s = .ok ds s1 → ds.length = n) (hdb : (x == ("__debug__" : Str)) = false := by decide) (he : starEach (ed :: es) X.env = (false, eval ed X.env) :: starEach es X.env := by rfl) (hpl : (backTo pos (starEach es X.env)).any (·.1) = false := by rfl) :
    SE cl X W m (.Call (.Name x p) (ed :: es) [] pos) (evCallD i g evs) :=
  pe_imp (pe_callS F hr hg hm hk hb (fun σ => passAt tk σ) (pa_cons hd ha he) hdb he hpl) fun σ H Q ⟨fm, Xs, os, s, R, h⟩ => by
    unfold evCallD at h
    cases q0 : s.env[i]? with
    | none => rw [q0] at h; exact h.elim
    | some sv =>
      rw [q0] at h
      cases sv with
      | deck =>
        obtain ⟨kd, kc, ek, es⟩ := R.slot i _ q0
        refine ⟨.ref kd, join_some es, fm, Xs, os, s, R, ?_⟩
        cases q : evs s with
        | ok ds s1 =>
          rw [q] at h
          simp only [Out.bind_ok] at h
          refine fun vs H1 r1 st1 ra => ?_
          have d1 : kd ∈ Xs := r1.dks kd (by rw [ek]; simp [dkl])
          have d2 : kc ∈ Xs := r1.dks kc (by rw [ek]; simp [dkl])
          refine ⟨kd, kc, vs, Xs, ds, s1.dk, rfl, ra, hn _ _ _ q, r1.xt, d1, d2, r1.dk kd kc ek, ?_⟩
          cases q2 : g ds s1.dk with
          | ok d k' =>
            rw [q2] at h
            refine fun v H' st' dk' p' => ?_
            have st2 : Stay (dkl fm.dka) H1 H' := by rw [ek]; exact st'
            have r2 := r1.dput (k := k') st2 fun a b e => by
              rw [ek] at e
              cases e
              exact dk'
            refine h v H' r2 (st1.trans (st2.more fun a ha => ?_)) p'
            unfold Mu
            exact List.mem_append_left _ ha
          | no => rw [q2] at h; exact h
        | exc c t s1 => rw [q] at h; exact h
        | no => rw [q] at h; exact h.elim
      | _ => exact h.elim
end
end Zo
/-! ZF: statements; a frame's own lists: append, extend, pop. -/
namespace Zo
open PySem PySem.Spec PyProof.Rows L2
section
variable (K : Fr) (cl : Nat → Addr) (W : WX)
def GoodS (fm : Fm) (Dn : Ends) : Out Fl → Prop
  | .ok fl s' => ∀ X os σ' H', Rel K fm X os s' σ' H' → (match fl with
    | .nx => Dn.nx σ' H'
    | .bk => Dn.bk σ' H'
    | .ct => Dn.ct σ' H'
    | .rt d => ∀ v, Rp K H' X d v → Dn.rt v H')
  | .exc c t s' => ∀ X os σ', Wish K cl W fm X os σ' c t s'
  | .no => False
def tS (run : Ex) : TS := fun Dn σ H => ∃ fm X os s, Rel K fm X os s σ H ∧ GoodS K cl W fm Dn (run s)
end
abbrev SS (cl : Nat → Addr) (X : Cx) (W : WX) (st : Stmt) (run : Ex) : Prop := PS X st (tS X.K cl W run)
abbrev SSs (cl : Nat → Addr) (X : Cx) (W : WX) (st : List Stmt) (run : Ex) : Prop := PSs X st (tS X.K cl W run)
section
variable {cl : Nat → Addr} {X : Cx} {W : WX} {m : Bool} {e : Expr} {ev : Ev} {evs : Evs} {st : Stmt} {rest : List Stmt} {pos : Pos}
def seqS (a b : Ex) : Ex := fun s => (a s).bind fun fl s1 => match fl with
  | .nx => b s1
  | f => .ok f s1
def skipS : Ex := fun s => .ok .nx s
theorem ss_nil : SSs cl X W [] skipS := pss_imp pss_nil fun Dn σ H ⟨fm, Xs, os, s, r, g⟩ => g Xs os σ H r
theorem ss_one {a : Ex} (h : SS cl X W st a) : SSs cl X W [st] a := pss_one h
theorem ss_cons {a b : Ex} (h : SS cl X W st a) (hs : SSs cl X W rest b) : SSs cl X W (st :: rest) (seqS a b) := pss_imp (pss_cons h hs) fun Dn σ H ⟨fm, Xs, os, s, r, g⟩ => by
  unfold seqS at g
  refine ⟨fm, Xs, os, s, r, ?_⟩
  cases q : a s with
  | ok fl s1 =>
    rw [q] at g
    simp only [Out.bind_ok] at g
    intro X' os' σ' H' r'
    cases fl with
    | nx => exact ⟨fm, X', os', s1, r', g⟩
    | rt d => exact g X' os' σ' H' r'
    | bk => exact g X' os' σ' H' r'
    | ct => exact g X' os' σ' H' r'
  | exc c t s1 => rw [q] at g; exact g
  | no => rw [q] at g; exact g.elim
/-- a list that nobody changes any more: nothing is run -/
def fixS (i : Nat) (b : Ex) : Ex := fun s => match s.env[i]? with
  | some (.own ds) => b { s with env := s.env.set i (.fz (.list ds)) }
  | _ => .no
theorem ss_fix {b : Ex} (i : Nat) (h : SSs cl X W rest b) : SSs cl X W rest (fixS i b) := pss_imp h fun Dn σ H ⟨fm, Xs, os, s, r, g⟩ => by
  unfold fixS at g
  cases q : s.env[i]? with
  | none => rw [q] at g; exact g.elim
  | some sv =>
    rw [q] at g
    cases sv with
    | own ds =>
      obtain ⟨X', r'⟩ := r.freeze q
      exact ⟨fm, X', _, _, r', g⟩
    | _ => exact g.elim
/-! ### names are given values -/
def setS (i : Nat) (a : Ev) : Ex := fun s => (a s).bind fun d s1 => .ok .nx { s1 with env := s1.env.set i (.fz d) }
theorem ss_set {i : Nat} {x : Str} {p : Pos} (hN : X.N.Nodup) (hi : X.N[i]? = some x) (hx : Loc X.env.scope x) (h : SE cl X W m e ev) (hs : swapsWith e (some (.Name x p)) pos.line X.env = pure false := by rfl)
    (hf : X.fn x = true ∨ X.env.scope.names.lookup x = some .local := by first | exact .inl rfl | exact .inr rfl | assumption) : SS cl X W (.Assign [.Name x p] e pos) (setS i ev) :=
  ps_imp (ps_set hN hi hx h hs hf) fun Dn σ H ⟨fm, Xs, os, s, r, g⟩ => by
    unfold setS at g
    refine ⟨fm, Xs, os, s, r, ?_⟩
    cases q : ev s with
    | ok d s1 =>
      rw [q] at g
      simp only [Out.bind_ok] at g
      exact fun v H1 r1 st1 p1 => g Xs _ _ H1 (r1.setfz p1)
    | exc c t s1 => rw [q] at g; exact g Xs os σ
    | no => rw [q] at g; exact g.elim
def ownS (i : Nat) (a : Evs) : Ex := fun s => (a s).bind fun ds s1 => .ok .nx { s1 with env := s1.env.set i (.own ds) }
theorem Rel.newown {K : Fr} {fm : Fm} {Xs : List Addr} {os : List (Nat × Addr)} {s : Ms} {σ : L2.St} {H : Hp} (r : Rel K fm Xs os s σ H) {p : Addr} {i : Nat} {ds : List D} {vs : List V} (h : H p = none) (ra : RpA K H Xs ds vs) :
    Rel K fm (p :: Xs) ((i, p) :: rid os i) { s with env := s.env.set i (.own ds) } (σ.set i (some (.ref p))) (upd H p (.lst vs)) :=
  (r.laidL h).setown List.mem_cons_self upd_same (r.nos h) (fun z => r.nx h (r.dks p z)) (r.ent0 h) (RpA.stay (M := []) (Stay.laid h) (fun a h => absurd h (by simp)) ds vs (RpA.fresh h ds vs ra))
theorem ss_own {i : Nat} {x : Str} {p : Pos} (hN : X.N.Nodup) (hi : X.N[i]? = some x) (hx : Loc X.env.scope x) (h : SF cl X W m e evs) (hs : swapsWith e (some (.Name x p)) pos.line X.env = pure false := by rfl)
    (hf : X.fn x = true ∨ X.env.scope.names.lookup x = some .local := by first | exact .inl rfl | exact .inr rfl | assumption) : SS cl X W (.Assign [.Name x p] e pos) (ownS i evs) :=
  ps_imp (ps_set hN hi hx h hs hf) fun Dn σ H ⟨fm, Xs, os, s, r, g⟩ => by
    unfold ownS at g
    refine ⟨fm, Xs, os, s, r, ?_⟩
    cases q : evs s with
    | ok d s1 =>
      rw [q] at g
      simp only [Out.bind_ok] at g
      exact fun p vs H1 r1 st1 fp hp ra => g _ _ _ _ (r1.setown (i := i) List.mem_cons_self hp fp.no fp.nd fp.n0 ra)
    | exc c t s1 => rw [q] at g; exact g Xs os σ
    | no => rw [q] at g; exact g.elim
/-- a, b, .. = e -/
def setMany : List Nat → List D → List Sv → List Sv
  | i :: is, d :: ds, env => setMany is ds (env.set i (.fz d))
  | _, _, env => env
def unpS (is : List Nat) (a : Ev) : Ex := fun s => (a s).bind fun d s1 => match d with
  | .tuple ds => if ds.length = is.length then .ok .nx { s1 with env := setMany is ds s1.env } else .no
  | _ => .no
def unpLS (is : List Nat) (a : Ev) : Ex := fun s => (a s).bind fun d s1 => match d with
  | .list ds => if ds.length = is.length then .ok .nx { s1 with env := setMany is ds s1.env } else .no
  | _ => .no
def gNames : List Nat → TGs
  | [] => gNil
  | i :: is => gCons (gName i) (gNames is)
theorem gNames_rel {K : Fr} {fm : Fm} {Xs : List Addr} {H : Hp} {Q : L2.St → Hp → Prop} : ∀ (is : List Nat) (ds : List D) (vs : List V) (os : List (Nat × Addr)) (s : Ms) (σ : L2.St), Rel K fm Xs os s σ H → RpA K H Xs ds vs → ds.length = is.length →
    (∀ os' σ', Rel K fm Xs os' { s with env := setMany is ds s.env } σ' H → Q σ' H) → gNames is vs σ H Q
  | [], [], _, os, s, σ, r, ra, _, q => by
    cases ra
    exact ⟨rfl, q os σ r⟩
  | i :: is, d :: ds, _, os, s, σ, r, ra, hl, q => by
    obtain ⟨v, w, e, p, t⟩ := ra
    subst e
    refine ⟨v, w, rfl, ?_⟩
    exact gNames_rel is ds w _ { s with env := s.env.set i (.fz d) } _ (r.setfz p) t (by simpa using hl) fun os' σ' r' => q os' σ' r'
  | [], _ :: _, _, _, _, _, _, _, hl, _ => by simp at hl
  | _ :: _, [], _, _, _, _, _, _, hl, _ => by simp at hl
theorem ss_unp {tg : Expr} {is : List Nat} {n : Nat} (hn : n = is.length) (hP : PS X (.Assign [tg] e pos) (tAsg (tE X.K cl W m ev) (gTup X.K n (gNames is)))) : SS cl X W (.Assign [tg] e pos) (unpS is ev) :=
  ps_imp hP fun Dn σ H ⟨fm, Xs, os, s, r, g⟩ => by
    unfold unpS at g
    refine ⟨fm, Xs, os, s, r, ?_⟩
    cases q : ev s with
    | ok d s1 =>
      rw [q] at g
      simp only [Out.bind_ok] at g
      refine fun v H1 r1 st1 p1 => ?_
      cases d with
      | tuple ds =>
        dsimp only at g
        split at g
        · rename_i hl
          obtain ⟨a, vs, ev, ha, ra⟩ := p1
          exact ⟨a, vs, ev, ha.sq, by rw [ra.len, hl, hn], gNames_rel is ds vs os s1 σ r1 ra hl fun os' σ' r' => g Xs os' σ' H1 r'⟩
        · exact g.elim
      | _ => exact g.elim
    | exc c t s1 => rw [q] at g; exact g Xs os σ
    | no => rw [q] at g; exact g.elim
theorem ss_unpL {tg : Expr} {is : List Nat} {n : Nat} (hn : n = is.length) (hP : PS X (.Assign [tg] e pos) (tAsg (tE X.K cl W m ev) (gUnl X.K n (gNames is)))) : SS cl X W (.Assign [tg] e pos) (unpLS is ev) :=
  ps_imp hP fun Dn σ H ⟨fm, Xs, os, s, r, g⟩ => by
    unfold unpLS at g
    refine ⟨fm, Xs, os, s, r, ?_⟩
    cases q : ev s with
    | ok d s1 =>
      rw [q] at g
      simp only [Out.bind_ok] at g
      refine fun v H1 r1 st1 p1 => ?_
      cases d with
      | list ds =>
        dsimp only at g
        split at g
        · rename_i hl
          obtain ⟨a, vs, ev, ha, ra⟩ := p1
          exact ⟨a, vs, ev, SqL.of ha.1, by rw [ra.len, hl, hn], gNames_rel is ds vs os s1 σ r1 ra hl fun os' σ' r' => g Xs os' σ' H1 r'⟩
        · exact g.elim
      | _ => exact g.elim
    | exc c t s1 => rw [q] at g; exact g Xs os σ
    | no => rw [q] at g; exact g.elim
/-- a, b = e1, e2 -/
def par2S (i j : Nat) (a b : Ev) : Ex := fun s => (a s).bind fun d s1 => (b s1).bind fun d2 s2 => .ok .nx { s2 with env := (s2.env.set i (.fz d)).set j (.fz d2) }
theorem par2_rel {fm : Fm} {Xs : List Addr} {os : List (Nat × Addr)} {s : Ms} {σ : L2.St} {H : Hp} {i j : Nat} {a b : Ev} {Dn : Ends} (r : Rel X.K fm Xs os s σ H) (g : GoodS X.K cl W fm Dn (par2S i j a b s)) :
    tCons (tE X.K cl W m a) (tCons (tE X.K cl W m b) tNil) σ H fun vs H1 => ∃ v w, vs = [v, w] ∧ Dn.nx ((σ.set i (some v)).set j (some w)) H1 := by
  unfold par2S at g
  refine ⟨fm, Xs, os, s, r, ?_⟩
  cases q : a s with
  | ok d s1 =>
    rw [q] at g
    simp only [Out.bind_ok] at g
    refine fun v H1 r1 st1 p1 => ⟨fm, Xs, os, s1, r1, ?_⟩
    cases q2 : b s1 with
    | ok d2 s2 =>
      rw [q2] at g
      simp only [Out.bind_ok] at g
      exact fun v2 H2 r2 st2 p2 => ⟨v, v2, rfl, g Xs _ _ H2 ((r2.setfz (Rp.stay st2 r1.sx d v p1)).setfz p2)⟩
    | exc c t s2 => rw [q2] at g; exact g Xs os σ
    | no => rw [q2] at g; exact g.elim
  | exc c t s1 => rw [q] at g; exact g Xs os σ
  | no => rw [q] at g; exact g.elim
theorem ss_par2 {i j : Nat} {x y : Str} {ea eb : Expr} {a b : Ev} {px py pt : Pos} {kt k2 pt2} (hc : X.calm = true) (hN : X.N.Nodup) (hi : X.N[i]? = some x) (hj : X.N[j]? = some y) (hij : i ≠ j) (ha : SE cl X W m ea a) (hb : SE cl X W m eb b)
    (hP : ∀ ta, PA X [ea, eb] ta → PS X (.Assign [.Tuple [.Name x px, .Name y py] kt pt] (.Tuple [ea, eb] k2 pt2) pos) (tPar i j ta))
    (he : starEach [ea, eb] X.env = (false, eval ea X.env) :: starEach [eb] X.env := by rfl) (he2 : starEach [eb] X.env = (false, eval eb X.env) :: starEach [] X.env := by rfl) :
    SS cl X W (.Assign [.Tuple [.Name x px, .Name y py] kt pt] (.Tuple [ea, eb] k2 pt2) pos) (par2S i j a b) :=
  ps_imp (hP _ (pa_cons ha (pa_cons hb pa_nil he2) he)) fun Dn σ H ⟨fm, Xs, os, s, r, g⟩ => par2_rel r g
theorem RpA.pairs {K : Fr} {H : Hp} {Xs : List Addr} : ∀ {ds : List D} {vs : List V}, RpA K H Xs ds vs → ∀ p ∈ ds.zip vs, Rp K H Xs p.1 p.2
  | [], _, _, p, h => by simp at h
  | d :: ds, _, h, p, hp => by
    obtain ⟨v, r, e, q, t⟩ := h
    subst e
    rw [List.zip_cons_cons] at hp
    rcases List.mem_cons.mp hp with e | hp
    · rw [e]; exact q
    · exact RpA.pairs t p hp
theorem RpA.ofPairs {K : Fr} {H : Hp} {Xs : List Addr} : ∀ {ds : List D} {vs : List V}, vs.length = ds.length → (∀ p ∈ ds.zip vs, Rp K H Xs p.1 p.2) → RpA K H Xs ds vs
  | [], [], _, _ => rfl
  | [], _ :: _, h, _ => by simp at h
  | _ :: _, [], h, _ => by simp at h
  | d :: ds, v :: vs, h, q => by
    rw [List.zip_cons_cons] at q
    exact ⟨v, vs, rfl, q (d, v) List.mem_cons_self, RpA.ofPairs (by simpa using h) fun p hp => q p (List.mem_cons_of_mem _ hp)⟩
/-- a, b = [..], [..]: both the frame's own -/
def parOS (i j : Nat) (a b : Evs) : Ex := fun s => (a s).bind fun d s1 => (b s1).bind fun d2 s2 => .ok .nx { s2 with env := (s2.env.set i (.own d)).set j (.own d2) }
theorem parO_rel {fm : Fm} {Xs : List Addr} {os : List (Nat × Addr)} {s : Ms} {σ : L2.St} {H : Hp} {i j : Nat} {a b : Evs} {Dn : Ends} (hij : i ≠ j) (r : Rel X.K fm Xs os s σ H) (g : GoodS X.K cl W fm Dn (parOS i j a b s)) :
    tCons (tF X.K cl W m a) (tCons (tF X.K cl W true b) tNil) σ H fun vs H1 => ∃ v w, vs = [v, w] ∧ Dn.nx ((σ.set i (some v)).set j (some w)) H1 := by
  unfold parOS at g
  refine ⟨fm, Xs, os, s, r, ?_⟩
  cases q : a s with
  | ok d s1 =>
    rw [q] at g
    simp only [Out.bind_ok] at g
    refine fun p vs H1 r1 st1 fp hp ra => ⟨{ fm with tmp := d.zip vs ++ fm.tmp }, p :: Xs, os, s1, r1.holds _ (ra.pairs), ?_⟩
    cases q2 : b s1 with
    | ok d2 s2 =>
      rw [q2] at g
      simp only [Out.bind_ok] at g
      refine fun p2 ws H2 r2' st2 fp2' hp2 ra2 => ⟨.ref p, .ref p2, rfl, g (p2 :: p :: Xs) ((j, p2) :: rid ((i, p) :: rid os i) j) _ _ ?_⟩
      have ra1 : RpA X.K H2 (p2 :: p :: Xs) d vs := RpA.ofPairs ra.len fun q hq => r2'.tm q (List.mem_append_left _ hq)
      have r2 := r2'.drops
      have fp2 : Frsh fm (p :: Xs) os p2 := ⟨fp2'.nx, fp2'.no, fp2'.nd, fp2'.n0⟩
      have nm : p ∉ Mu fm.dka os true := fun z => by
        unfold Mu at z
        rcases List.mem_append.mp z with z | z
        · exact fp.nd z
        · simp at z
      have hv : H2 p = some (.lst vs) := st2 p _ hp nm
      have npp : p2 ≠ p := fun e => fp2.nx (by rw [e]; exact List.mem_cons_self)
      have rA := r2.setown (i := i) (List.mem_cons_of_mem _ List.mem_cons_self) hv fp.no fp.nd fp.n0 ra1
      refine rA.setown (i := j) List.mem_cons_self hp2 (fun z => ?_) fp2.nd fp2.n0 ra2
      rw [List.map_cons] at z
      rcases List.mem_cons.mp z with z | z
      · exact npp z
      · obtain ⟨q, hq, e⟩ := List.mem_map.mp z
        exact fp2.no (List.mem_map.mpr ⟨q, (rid_mem.mp hq).1, e⟩)
    | exc c t s2 =>
      rw [q2] at g
      exact fun v dd H' r' p' hd => g (p :: Xs) os σ v dd H' r'.drops p' hd
    | no => rw [q2] at g; exact g.elim
  | exc c t s1 => rw [q] at g; exact g Xs os σ
  | no => rw [q] at g; exact g.elim
theorem ss_parO {i j : Nat} {x y : Str} {ea eb : Expr} {a b : Evs} {px py pt : Pos} {kt k2 pt2} (hij : i ≠ j) (ha : SF cl X W m ea a) (hb : SF cl X W true eb b)
    (hP : ∀ ta, PA X [ea, eb] ta → PS X (.Assign [.Tuple [.Name x px, .Name y py] kt pt] (.Tuple [ea, eb] k2 pt2) pos) (tPar i j ta))
    (he : starEach [ea, eb] X.env = (false, eval ea X.env) :: starEach [eb] X.env := by rfl) (he2 : starEach [eb] X.env = (false, eval eb X.env) :: starEach [] X.env := by rfl) :
    SS cl X W (.Assign [.Tuple [.Name x px, .Name y py] kt pt] (.Tuple [ea, eb] k2 pt2) pos) (parOS i j a b) :=
  ps_imp (hP _ (pa_cons ha (pa_cons hb pa_nil he2) he)) fun Dn σ H ⟨fm, Xs, os, s, r, g⟩ => parO_rel hij r g
/-! ### return, if, an expression alone -/
def retS (a : Ev) : Ex := fun s => (a s).bind fun d s1 => .ok (.rt d) s1
theorem ss_ret (h : SE cl X W m e ev) : SS cl X W (.Return (some e) pos) (retS ev) := ps_imp (ps_ret h) fun Dn σ H ⟨fm, Xs, os, s, r, g⟩ => by
  unfold retS at g
  refine ⟨fm, Xs, os, s, r, ?_⟩
  cases q : ev s with
  | ok d s1 =>
    rw [q] at g
    exact fun v H1 r1 st1 p1 => g Xs os σ H1 r1 v p1
  | exc c t s1 => rw [q] at g; exact g Xs os σ
  | no => rw [q] at g; exact g.elim
def ifS (c : Ms → Out Bool) (a b : Ex) : Ex := fun s => (c s).bind fun k s1 => if k = true then a s1 else b s1
theorem ss_if {c : Ms → Out Bool} {p q : List Stmt} {a b : Ex} (hc : STt cl X W m e c) (ha : SSs cl X W p a) (hb : SSs cl X W q b) : SS cl X W (.If e p q pos) (ifS c a b) := ps_imp (ps_if hc ha hb) fun Dn σ H ⟨fm, Xs, os, s, r, g⟩ => by
  unfold ifS at g
  refine ⟨fm, Xs, os, s, r, ?_⟩
  cases q : c s with
  | ok k s1 =>
    rw [q] at g
    simp only [Out.bind_ok] at g
    cases k with
    | true => exact fun H1 r1 st1 => ⟨fm, Xs, os, s1, r1, g⟩
    | false => exact fun H1 r1 st1 => ⟨fm, Xs, os, s1, r1, g⟩
  | exc c t s1 => rw [q] at g; exact g Xs os σ
  | no => rw [q] at g; exact g.elim
def doS (a : Ev) : Ex := fun s => (a s).bind fun _ s1 => .ok .nx s1
theorem ss_do (h : SE cl X W m e ev) (hs : swapsWith e none pos.line X.env = pure false := by rfl) : SS cl X W (.Expr e pos) (doS ev) := ps_imp (ps_expr h hs) fun Dn σ H ⟨fm, Xs, os, s, r, g⟩ => by
  unfold doS at g
  refine ⟨fm, Xs, os, s, r, ?_⟩
  cases q : ev s with
  | ok d s1 =>
    rw [q] at g
    exact fun v H1 r1 st1 p1 => g Xs os σ H1 r1
  | exc c t s1 => rw [q] at g; exact g Xs os σ
  | no => rw [q] at g; exact g.elim
/-! ### a frame's own list: pop, append, extend -/
def evPop (i : Nat) : Ev := fun s => match s.env[i]? with
  | some (.own ds) => match ds.getLast? with
    | some d => .ok d { s with env := s.env.set i (.own ds.dropLast) }
    | none => .no
  | _ => .no
theorem mu_own {fm : Fm} {os : List (Nat × Addr)} {i : Nat} {a : Addr} (h : (i, a) ∈ os) : ∀ x ∈ [a], x ∈ Mu fm.dka os false := fun x hx => by
  rw [List.mem_singleton.mp hx]
  unfold Mu
  exact List.mem_append_right _ (List.mem_map.mpr ⟨_, h, rfl⟩)
theorem RpA.dropLast {K : Fr} {H : Hp} {Xs : List Addr} {ds : List D} {vs : List V} (h : RpA K H Xs ds vs) : RpA K H Xs ds.dropLast vs.dropLast := by
  rw [List.dropLast_eq_take, List.dropLast_eq_take, h.len]
  exact h.take _
theorem se_pop (i : Nat) {o : Expr} {apos cpos : Pos} (ho : PE X o (tVar i)) (hbase : attributeBase o "pop" X.env (eval o X.env) = eval o X.env := by rfl) (hline : (apos.endLine == cpos.line) = true := by rfl) :
    SE cl X W false (.Call (.Attribute o "pop" apos) [] [] cpos) (evPop i) :=
  pe_imp (pe_bm0 PySem.F.plainAttrs_list PySem.F.slot_list_pop PySem.F.type_list_pop mt_pop ho hbase hline) fun σ H Q ⟨fm, Xs, os, s, R, g⟩ => by
    unfold evPop at g
    cases q0 : s.env[i]? with
    | none => rw [q0] at g; exact g.elim
    | some sv =>
      rw [q0] at g
      cases sv with
      | own ds =>
        dsimp only at g
        obtain ⟨a, vs, hs, hm, hv, ra⟩ := R.slot i _ q0
        refine ⟨.ref a, join_some hs, .inl ⟨rfl, vs, SqL.of hv⟩, ?_⟩
        cases q1 : ds.getLast? with
        | none => rw [q1] at g; exact g.elim
        | some d =>
          rw [q1] at g
          have q2 : ds[ds.length - 1]? = some d := by rw [← List.getLast?_eq_getElem?]; exact q1
          obtain ⟨v, ev, pv⟩ := ra.get q2
          obtain ⟨r2, st2⟩ := R.put q0 hs hm ra.dropLast
          refine ⟨a, vs, v, rfl, rfl, hv, by rw [ra.len]; exact ev, g v _ r2 (st2.more (mu_own hm)) (Rp.stay st2 (fun x hx => by rw [List.mem_singleton.mp hx]; exact (R.sub _ hm).1) d v pv)⟩
      | _ => exact g.elim
def evPopAt (i : Nat) (a : Ev) : Ev := fun s => match s.env[i]? with
  | some (.own _) => (a s).bind fun d s1 => match s1.env[i]?, asInt d with
    | some (.own ds), some k => if 0 ≤ k ∧ k < 1000000 then (match ds[k.toNat]? with
      | some x => .ok x { s1 with env := s1.env.set i (.own (ds.eraseIdx k.toNat)) }
      | none => .no) else .no
    | _, _ => .no
  | _ => .no
theorem RpA.erase {K : Fr} {H : Hp} {Xs : List Addr} {ds : List D} {vs : List V} (h : RpA K H Xs ds vs) (n : Nat) : RpA K H Xs (ds.eraseIdx n) (vs.eraseIdx n) := by
  rw [List.eraseIdx_eq_take_drop_succ, List.eraseIdx_eq_take_drop_succ]
  exact (h.take n).app (h.drop (n + 1))
theorem se_popAt (i : Nat) {o : Expr} {apos cpos : Pos} (ho : PE X o (tVar i)) (h : SB cl X W true e ev)
    (he : starEach [e] X.env = (false, eval e X.env) :: starEach [] X.env := by rfl) (hP : ∀ t, PA X [e] t → PE X (.Call (.Attribute o "pop" apos) [e] [] cpos) (tBM X.K "list" rPopAt (tVar i) t)) :
    SE cl X W false (.Call (.Attribute o "pop" apos) [e] [] cpos) (evPopAt i ev) :=
  pe_imp (hP _ (pa_cons h pa_nil he)) fun σ H Q ⟨fm, Xs, os, s, R, g⟩ => by
    unfold evPopAt at g
    cases q0 : s.env[i]? with
    | none => rw [q0] at g; exact g.elim
    | some sv =>
      rw [q0] at g
      cases sv with
      | own ds0 =>
        dsimp only at g
        obtain ⟨a, vs, hs, hm, hv, ra⟩ := R.slot i _ q0
        refine ⟨.ref a, join_some hs, .inl ⟨rfl, vs, SqL.of hv⟩, fm, Xs, os, s, R, ?_⟩
        cases q : ev s with
        | ok d s1 =>
          rw [q] at g
          simp only [Out.bind_ok] at g
          refine fun v H1 r1 st1 p1 => ?_
          cases q1 : s1.env[i]? with
          | none => rw [q1] at g; exact g.elim
          | some sv1 =>
            rw [q1] at g
            cases sv1 with
            | own ds =>
              cases q2 : asInt d with
              | none => rw [q2] at g; exact g.elim
              | some k =>
                rw [q2] at g
                dsimp only at g
                have ed := asInt_some q2
                subst ed
                split at g
                · rename_i hk
                  cases q3 : ds[k.toNat]? with
                  | none => rw [q3] at g; exact g.elim
                  | some x =>
                    rw [q3] at g
                    obtain ⟨a1, vs1, hs1, hm1, hv1, ra1⟩ := r1.slot i _ q1
                    rw [hs] at hs1
                    cases hs1
                    obtain ⟨y, ey, py⟩ := ra1.get q3
                    obtain ⟨r2, st2⟩ := r1.put q1 hs hm1 (ra1.erase k.toNat)
                    have hlt : k.toNat < vs1.length := (List.getElem?_eq_some_iff.mp ey).1
                    refine ⟨a, vs1, k, k.toNat, y, rfl, by rw [p1.int], hv1, by omega, by omega, ?_, ey, g y _ r2 ((st1.more Mu.still).trans (st2.more (mu_own hm1))) (Rp.stay st2 (fun z hz => by rw [List.mem_singleton.mp hz]; exact (r1.sub _ hm1).1) x y py)⟩
                    rw [seqIndex_of hk.1 (by omega)]
                · exact g.elim
            | _ => exact g.elim
        | exc c t s1 => rw [q] at g; exact g
        | no => rw [q] at g; exact g.elim
      | _ => exact g.elim
def evApp (i : Nat) (a : Ev) : Ev := fun s => match s.env[i]? with
  | some (.own _) => (a s).bind fun d s1 => match s1.env[i]? with
    | some (.own ds) => if ds.length < 1000000 then .ok .none { s1 with env := s1.env.set i (.own (ds ++ [d])) } else .no
    | _ => .no
  | _ => .no
theorem line1M {n : Nat} (h : n < 1000000) : n < sizeLine := by rw [sizeLine_eq]; omega
theorem se_app (i : Nat) {o : Expr} {apos cpos : Pos} (ho : PE X o (tVar i)) (h : SE cl X W false e ev) (hbase : attributeBase o "append" X.env (eval o X.env) = eval o X.env := by rfl) (hP : ∀ t, PA X [e] t → PE X (.Call (.Attribute o "append" apos) [e] [] cpos) (tBM X.K "list" rAppend (tVar i) t))
    (he : starEach [e] X.env = (false, eval e X.env) :: starEach [] X.env := by rfl) : SE cl X W false (.Call (.Attribute o "append" apos) [e] [] cpos) (evApp i ev) :=
  pe_imp (hP _ (pa_cons h pa_nil he)) fun σ H Q ⟨fm, Xs, os, s, R, g⟩ => by
    unfold evApp at g
    cases q0 : s.env[i]? with
    | none => rw [q0] at g; exact g.elim
    | some sv =>
      rw [q0] at g
      cases sv with
      | own ds0 =>
        dsimp only at g
        obtain ⟨a, vs, hs, hm, hv, ra⟩ := R.slot i _ q0
        refine ⟨.ref a, join_some hs, .inl ⟨rfl, vs, SqL.of hv⟩, fm, Xs, os, s, R, ?_⟩
        cases q : ev s with
        | ok d s1 =>
          rw [q] at g
          simp only [Out.bind_ok] at g
          refine fun v H1 r1 st1 p1 => ?_
          cases q1 : s1.env[i]? with
          | none => rw [q1] at g; exact g.elim
          | some sv1 =>
            rw [q1] at g
            cases sv1 with
            | own ds =>
              dsimp only at g
              split at g
              · rename_i hl
                obtain ⟨a1, vs1, hs1, hm1, hv1, ra1⟩ := r1.slot i _ q1
                rw [hs] at hs1
                cases hs1
                obtain ⟨r2, st2⟩ := r1.put q1 hs hm1 (ra1.app (RpA.one p1))
                exact ⟨a, vs1, v, rfl, rfl, hv1, by rw [ra1.len]; exact line1M hl, g .non _ r2 (st1.trans (st2.more (mu_own hm1))) rfl⟩
              · exact g.elim
            | _ => exact g.elim
        | exc c t s1 => rw [q] at g; exact g
        | no => rw [q] at g; exact g.elim
      | _ => exact g.elim
def evExt (i : Nat) (a : Ev) : Ev := fun s => match s.env[i]? with
  | some (.own _) => (a s).bind fun d s1 => match s1.env[i]?, d with
    | some (.own ds), .list es => if ds.length + es.length < 1000000 then .ok .none { s1 with env := s1.env.set i (.own (ds ++ es)) } else .no
    | _, _ => .no
  | _ => .no
theorem se_ext (i : Nat) {o : Expr} {apos cpos : Pos} (ho : PE X o (tVar i)) (h : SE cl X W false e ev) (hP : ∀ t, PA X [e] t → PE X (.Call (.Attribute o "extend" apos) [e] [] cpos) (tBM X.K "list" rExtend (tVar i) t))
    (he : starEach [e] X.env = (false, eval e X.env) :: starEach [] X.env := by rfl) : SE cl X W false (.Call (.Attribute o "extend" apos) [e] [] cpos) (evExt i ev) :=
  pe_imp (hP _ (pa_cons h pa_nil he)) fun σ H Q ⟨fm, Xs, os, s, R, g⟩ => by
    unfold evExt at g
    cases q0 : s.env[i]? with
    | none => rw [q0] at g; exact g.elim
    | some sv =>
      rw [q0] at g
      cases sv with
      | own ds0 =>
        dsimp only at g
        obtain ⟨a, vs, hs, hm, hv, ra⟩ := R.slot i _ q0
        refine ⟨.ref a, join_some hs, .inl ⟨rfl, vs, SqL.of hv⟩, fm, Xs, os, s, R, ?_⟩
        cases q : ev s with
        | ok d s1 =>
          rw [q] at g
          simp only [Out.bind_ok] at g
          refine fun v H1 r1 st1 p1 => ?_
          cases q1 : s1.env[i]? with
          | none => rw [q1] at g; exact g.elim
          | some sv1 =>
            rw [q1] at g
            cases sv1 with
            | own ds =>
              cases d with
              | list es =>
                dsimp only at g
                split at g
                · rename_i hl
                  obtain ⟨a1, vs1, hs1, hm1, hv1, ra1⟩ := r1.slot i _ q1
                  rw [hs] at hs1
                  cases hs1
                  obtain ⟨b, ws, eb, fb, rb⟩ := p1
                  obtain ⟨r2, st2⟩ := r1.put q1 hs hm1 (ra1.app rb)
                  exact ⟨a, b, vs1, ws, rfl, by rw [eb], hv1, fb.1, by rw [ra1.len, rb.len]; exact Nat.le_of_lt (line1M hl), g .non _ r2 (st1.trans (st2.more (mu_own hm1))) rfl⟩
                · exact g.elim
              | _ => exact g.elim
            | _ => exact g.elim
        | exc c t s1 => rw [q] at g; exact g
        | no => rw [q] at g; exact g.elim
      | _ => exact g.elim
end
end Zo
/-! ZG: what is walked; for, while, list comprehensions. -/
namespace Zo
open PySem PySem.Spec PyProof.Rows L2
/-! ### what is walked -/
/-- a tuple that may be taken apart alone -/
def RpU (K : Fr) (H : Hp) (Xs : List Addr) (d : D) (v : V) : Prop := Rp K H Xs d v ∨ ∃ ds a vs, d = .tuple ds ∧ v = .ref a ∧ SqT K H a vs ∧ RpA K H Xs ds vs
def RpW (u : Bool) (K : Fr) (H : Hp) (Xs : List Addr) (d : D) (v : V) : Prop := if u = true then RpU K H Xs d v else Rp K H Xs d v
theorem RpW.of {u : Bool} {K : Fr} {H : Hp} {Xs : List Addr} {d : D} {v : V} (h : Rp K H Xs d v) : RpW u K H Xs d v := by
  cases u
  · exact h
  · exact .inl h
theorem RpW.tuple {u : Bool} {K : Fr} {H : Hp} {Xs : List Addr} {ds : List D} {v : V} (h : RpW u K H Xs (.tuple ds) v) : ∃ a vs, v = .ref a ∧ SqT K H a vs ∧ RpA K H Xs ds vs := by
  cases u
  · obtain ⟨a, vs, e, f, r⟩ := (show Rp K H Xs (.tuple ds) v from h)
    exact ⟨a, vs, e, f.sq, r⟩
  · rcases (show RpU K H Xs (.tuple ds) v from h) with ⟨a, vs, e, f, r⟩ | ⟨ds', a, vs, e, ev, f, r⟩
    · exact ⟨a, vs, e, f.sq, r⟩
    · cases e
      exact ⟨a, vs, ev, f, r⟩
/-- the iterator gives the values ds, one after the other, while what it leans on (tmp) stands -/
def Walks (u : Bool) (K : Fr) (J : It) (tmp : List (D × V)) (ds : List D) : Prop := ∀ (X : List Addr) (i : Nat) (H : Hp), (∀ p ∈ tmp, Rp K H X p.1 p.2) → (∀ a ∈ X, H a ≠ none) →
  (∀ d, ds[i]? = some d → J.go i H ∧ ∀ x H', J.yld i H x H' → Stay [] H H' ∧ RpW u K H' X d x) ∧ (ds.length ≤ i → J.stop i H)
section
variable (K : Fr) (cl : Nat → Addr) (W : WX) (m u : Bool)
def GoodI (fm : Fm) (X : List Addr) (os : List (Nat × Addr)) (σ : L2.St) (H : Hp) (R : It → Hp → Prop) : Out (List D) → Prop
  | .ok ds s' => ∀ J H' tmp, Rel K fm X os s' σ H' → Stay (Mu fm.dka os m) H H' → (∀ p ∈ tmp, Rp K H' X p.1 p.2) → Walks u K J tmp ds → R J H'
  | .exc c t s' => Wish K cl W fm X os σ c t s'
  | .no => False
def tI (ev : Evs) : TI := fun σ H R => ∃ fm X os s, Rel K fm X os s σ H ∧ GoodI K cl W m u fm X os σ H R (ev s)
end
abbrev SI (cl : Nat → Addr) (X : Cx) (W : WX) (m u : Bool) (tg e : Expr) (ev : Evs) : Prop := PI X tg e (tI X.K cl W m u ev)
section
variable {cl : Nat → Addr} {X : Cx} {W : WX} {m : Bool} {e e2 tg : Expr} {ev : Ev} {evs : Evs} {pos p : Pos}
theorem pi_imp {it : Expr} {t t' : TI} (h : PI X tg it t) (i : ∀ σ H R, t' σ H R → t σ H R) : PI X tg it t' := ⟨fun pins s σ H R I q => h.run pins s σ H R I (i σ H R q)⟩
/-- a list -/
theorem walks_list {K : Fr} {a : Addr} {ds : List D} : Walks false K (Itl K a) [(.list ds, .ref a)] ds := by
  intro Xs i H ht hx
  have h := ht _ List.mem_cons_self
  obtain ⟨b, vs, eb, hf, ra⟩ := h
  cases eb
  refine ⟨fun d e => ?_, fun hl => ⟨vs, SqL.of hf.1, by rw [ra.len]; exact hl⟩⟩
  obtain ⟨v, ev, pv⟩ := ra.get e
  refine ⟨⟨vs, v, SqL.of hf.1, ev⟩, fun x H' hy => ?_⟩
  obtain ⟨eH, hy⟩ := hy
  subst eH
  have q := hy vs (SqL.of hf.1)
  rw [ev] at q
  cases q
  exact ⟨Stay.refl _ _, pv⟩
theorem walks_tup {K : Fr} {a : Addr} {ds : List D} : Walks false K (Itt K a) [(.tuple ds, .ref a)] ds := by
  intro Xs i H ht hx
  have h := ht _ List.mem_cons_self
  obtain ⟨b, vs, eb, hf, ra⟩ := h
  cases eb
  refine ⟨fun d e => ?_, fun hl => ⟨vs, hf.sq, by rw [ra.len]; exact hl⟩⟩
  obtain ⟨v, ev, pv⟩ := ra.get e
  refine ⟨⟨vs, v, hf.sq, ev⟩, fun x H' hy => ?_⟩
  obtain ⟨eH, hy⟩ := hy
  subst eH
  have q := hy vs hf.sq
  rw [ev] at q
  cases q
  exact ⟨Stay.refl _ _, pv⟩
def evItL (a : Ev) : Evs := fun s => (a s).bind fun d s1 => match d with
  | .list ds => .ok ds s1
  | _ => .no
def evItT (a : Ev) : Evs := fun s => (a s).bind fun d s1 => match d with
  | .tuple ds => .ok ds s1
  | _ => .no
def signs (x : Str) : List D := x.cps.toList.map fun c => .str ⟨#[c]⟩
def evItS (a : Ev) : Evs := fun s => (a s).bind fun d s1 => match d with
  | .str x => .ok (signs x) s1
  | _ => .no
theorem si_list (h : SE cl X W m e ev) : SI cl X W m false tg e (evItL ev) := pi_imp (pi_list h) fun σ H R ⟨fm, Xs, os, s, r, g⟩ => by
  unfold evItL at g
  refine ⟨fm, Xs, os, s, r, ?_⟩
  cases q : ev s with
  | ok d s1 =>
    rw [q] at g
    simp only [Out.bind_ok] at g
    refine fun v H1 r1 st1 p1 => ?_
    cases d with
    | list ds =>
      obtain ⟨a, vs, ev, hf, ra⟩ := id p1
      subst ev
      exact ⟨a, rfl, ⟨vs, SqL.of hf.1⟩, g _ H1 [(.list ds, .ref a)] r1 st1 (fun q hq => by rw [List.mem_singleton.mp hq]; exact p1) walks_list⟩
    | _ => exact g.elim
  | exc c t s1 => rw [q] at g; exact g
  | no => rw [q] at g; exact g.elim
theorem si_tup (h : SE cl X W m e ev) : SI cl X W m false tg e (evItT ev) := pi_imp (pi_tup h) fun σ H R ⟨fm, Xs, os, s, r, g⟩ => by
  unfold evItT at g
  refine ⟨fm, Xs, os, s, r, ?_⟩
  cases q : ev s with
  | ok d s1 =>
    rw [q] at g
    simp only [Out.bind_ok] at g
    refine fun v H1 r1 st1 p1 => ?_
    cases d with
    | tuple ds =>
      obtain ⟨a, vs, ev, hf, ra⟩ := id p1
      subst ev
      exact ⟨a, rfl, ⟨vs, hf.sq⟩, g _ H1 [(.tuple ds, .ref a)] r1 st1 (fun q hq => by rw [List.mem_singleton.mp hq]; exact p1) walks_tup⟩
    | _ => exact g.elim
  | exc c t s1 => rw [q] at g; exact g
  | no => rw [q] at g; exact g.elim
theorem walks_str {K : Fr} {x : Str} : Walks false K (Its x) [] (signs x) := by
  intro Xs i H _ _
  refine ⟨fun d e => ?_, fun hl => ?_⟩
  · unfold signs at e
    rw [List.getElem?_map] at e
    obtain ⟨c, ec, ed⟩ := Option.map_eq_some_iff.mp e
    subst ed
    have hc : x.cps[i]? = some c := by
      rw [← ec]; simp
    refine ⟨(Array.getElem?_eq_some_iff.mp hc).1, fun v H' hy => ?_⟩
    obtain ⟨eH, c', ec', ev⟩ := hy
    subst eH ev
    rw [hc] at ec'
    cases ec'
    exact ⟨Stay.refl _ _, rfl⟩
  · unfold signs at hl
    show x.cps.size ≤ i
    simpa using hl
theorem si_str (h : SE cl X W m e ev) : SI cl X W m false tg e (evItS ev) := pi_imp (pi_str h) fun σ H R ⟨fm, Xs, os, s, r, g⟩ => by
  unfold evItS at g
  refine ⟨fm, Xs, os, s, r, ?_⟩
  cases q : ev s with
  | ok d s1 =>
    rw [q] at g
    simp only [Out.bind_ok] at g
    refine fun v H1 r1 st1 p1 => ?_
    cases d with
    | str x => exact ⟨x, p1, g _ H1 [] r1 st1 (fun q hq => absurd hq (by simp)) walks_str⟩
    | _ => exact g.elim
  | exc c t s1 => rw [q] at g; exact g
  | no => rw [q] at g; exact g.elim
def intsD (lo : Int) (n : Nat) : List D := (List.range n).map fun i => .int (lo + (i : Nat))
theorem walks_rng {K : Fr} {lo : Int} {n : Nat} : Walks false K (Itr lo n) [] (intsD lo n) := by
  intro Xs i H _ _
  refine ⟨fun d e => ?_, fun hl => ?_⟩
  · unfold intsD at e
    rw [List.getElem?_map] at e
    obtain ⟨c, ec, ed⟩ := Option.map_eq_some_iff.mp e
    subst ed
    have hi : i < n := by simpa using (List.getElem?_eq_some_iff.mp ec).1
    have hc : c = i := by
      rw [List.getElem?_range hi] at ec
      exact (Option.some.inj ec).symm
    subst hc
    refine ⟨hi, fun v H' hy => ?_⟩
    obtain ⟨eH, ev⟩ := hy
    subst eH ev
    exact ⟨Stay.refl _ _, rfl⟩
  · unfold intsD at hl
    show n ≤ i
    simpa using hl
def evRng1 (a : Ev) : Evs := fun s => (a s).bind fun d s1 => match d with
  | .int j => if -(2 ^ 62) ≤ j ∧ j < 2 ^ 62 then .ok (intsD 0 j.toNat) s1 else .no
  | _ => .no
theorem si_rng1 (hg : Gl X "range") (hm : X.mg "range" = none) (h : SB cl X W m e ev) (hs : starEach [e] X.env = [(false, eval e X.env)] := by rfl) : SI cl X W m false tg (.Call (.Name "range" p) [e] [] pos) (evRng1 ev) :=
  pi_imp (pi_range1 hg hm (pa_cons h pa_nil hs) hs) fun σ H R ⟨fm, Xs, os, s, r, g⟩ => by
    unfold evRng1 at g
    refine ⟨fm, Xs, os, s, r, ?_⟩
    cases q : ev s with
    | ok d s1 =>
      rw [q] at g
      simp only [Out.bind_ok] at g
      refine fun v H1 r1 st1 p1 => ?_
      cases d with
      | int j =>
        dsimp only at g
        split at g
        · rename_i hj
          exact ⟨j, by rw [p1.int], hj.1, hj.2, g _ H1 [] r1 st1 (fun q hq => absurd hq (by simp)) walks_rng⟩
        · exact g.elim
      | _ => exact g.elim
    | exc c t s1 => rw [q] at g; exact g
    | no => rw [q] at g; exact g.elim
def evRng2 (a b : Ev) : Evs := fun s => (a s).bind fun d s1 => (b s1).bind fun d2 s2 => match d, d2 with
  | .int i, .int j => if -(2 ^ 62) ≤ i ∧ i < 2 ^ 62 ∧ -(2 ^ 62) ≤ j ∧ j < 2 ^ 62 then .ok (intsD i (j - i).toNat) s2 else .no
  | _, _ => .no
theorem si_rng2 {b : Ev} (hg : Gl X "range") (hm : X.mg "range" = none) (h : SB cl X W m e ev) (h2 : SB cl X W true e2 b) (hs : starEach [e, e2] X.env = [(false, eval e X.env), (false, eval e2 X.env)] := by rfl) (hs2 : starEach [e2] X.env = [(false, eval e2 X.env)] := by rfl) :
    SI cl X W m false tg (.Call (.Name "range" p) [e, e2] [] pos) (evRng2 ev b) :=
  pi_imp (pi_range2 hg hm (pa_cons h (pa_cons h2 pa_nil hs2) (by rw [hs, hs2])) hs hs2) fun σ H R ⟨fm, Xs, os, s, r, g⟩ => by
    unfold evRng2 at g
    refine ⟨fm, Xs, os, s, r, ?_⟩
    cases q : ev s with
    | ok d s1 =>
      rw [q] at g
      simp only [Out.bind_ok] at g
      refine fun v H1 r1 st1 p1 => ⟨fm, Xs, os, s1, r1, ?_⟩
      cases q2 : b s1 with
      | ok d2 s2 =>
        rw [q2] at g
        simp only [Out.bind_ok] at g
        refine fun v2 H2 r2 st2 p2 => ?_
        cases d with
        | int i =>
          cases d2 with
          | int j =>
            dsimp only at g
            split at g
            · rename_i hj
              exact ⟨i, j, by rw [p1.int, p2.int], hj, g _ H2 [] r2 (st1.trans (st2.more Mu.still)) (fun q hq => absurd hq (by simp)) walks_rng⟩
            · exact g.elim
          | _ => exact g.elim
        | _ => exact g.elim
      | exc c t s2 => rw [q2] at g; exact g
      | no => rw [q2] at g; exact g.elim
    | exc c t s1 => rw [q] at g; exact g
    | no => rw [q] at g; exact g.elim
/-- reversed(a list) -/
theorem walks_rev {K : Fr} {a : Addr} {ds : List D} : Walks false K (Itv K a ds.length) [(.list ds, .ref a)] ds.reverse := by
  intro Xs i H ht hx
  have h := ht _ List.mem_cons_self
  obtain ⟨b, vs, eb, hf, ra⟩ := h
  cases eb
  refine ⟨fun d e => ?_, fun hl => show ds.length ≤ i by simpa using hl⟩
  have hi : i < ds.length := by simpa using (List.getElem?_eq_some_iff.mp e).1
  rw [List.getElem?_reverse hi] at e
  obtain ⟨v, ev, pv⟩ := ra.get e
  refine ⟨⟨hi, vs, v, SqL.of hf.1, ev⟩, fun x H' hy => ?_⟩
  obtain ⟨eH, hy⟩ := hy
  subst eH
  have q := hy vs (SqL.of hf.1)
  rw [ev] at q
  cases q
  exact ⟨Stay.refl _ _, pv⟩
def evRevL (a : Ev) : Evs := fun s => (a s).bind fun d s1 => match d with
  | .list ds => .ok ds.reverse s1
  | _ => .no
theorem si_rev (hg : Gl X "reversed") (hm : X.mg "reversed" = none) (h : SE cl X W m e ev) (hs : starEach [e] X.env = (false, eval e X.env) :: starEach [] X.env := by rfl) : SI cl X W m false tg (.Call (.Name "reversed" p) [e] [] pos) (evRevL ev) :=
  pi_imp (RT.pi_revA hg hm h hs) fun σ H R ⟨fm, Xs, os, s, r, g⟩ => by
    unfold evRevL at g
    refine ⟨fm, Xs, os, s, r, ?_⟩
    cases q : ev s with
    | ok d s1 =>
      rw [q] at g
      simp only [Out.bind_ok] at g
      refine fun v H1 r1 st1 p1 => ?_
      cases d with
      | list ds =>
        obtain ⟨a, vs, ev, hf, ra⟩ := id p1
        subst ev
        refine ⟨a, vs, rfl, .inl ⟨SqL.of hf.1, ?_⟩⟩
        rw [ra.len]
        exact g _ H1 [(.list ds, .ref a)] r1 st1 (fun q hq => by rw [List.mem_singleton.mp hq]; exact p1) walks_rev
      | _ => exact g.elim
    | exc c t s1 => rw [q] at g; exact g
    | no => rw [q] at g; exact g.elim
/-- zip of two tuples, of two lists -/
def zipD (xs ys : List D) : List D := (xs.zip ys).map fun p => .tuple [p.1, p.2]
theorem zipD_get {xs ys : List D} {i : Nat} {d : D} (h : (zipD xs ys)[i]? = some d) : ∃ x y, xs[i]? = some x ∧ ys[i]? = some y ∧ d = .tuple [x, y] := by
  unfold zipD at h
  rw [List.getElem?_map] at h
  obtain ⟨p, ep, ed⟩ := Option.map_eq_some_iff.mp h
  obtain ⟨h1, h2⟩ := List.getElem?_zip_eq_some.mp ep
  exact ⟨_, _, h1, h2, ed.symm⟩
theorem zipD_len (xs ys : List D) : (zipD xs ys).length = min xs.length ys.length := by simp [zipD]
theorem rp_pair {K : Fr} {H : Hp} {Xs : List Addr} {T : Addr} {x y : D} {v w : V} (hT : H T = none) (nx : T ∉ Xs) (hx : Rp K H Xs x v) (hy : Rp K H Xs y w) : RpW true K (upd H T (.tup [v, w])) Xs (.tuple [x, y]) (.ref T) :=
  .inr ⟨[x, y], T, [v, w], rfl, rfl, .inl (.inl upd_same), RpA.laid hT ⟨v, [w], rfl, hx, w, [], rfl, hy, rfl⟩⟩
theorem free_nx {H : Hp} {Xs : List Addr} {T : Addr} (hx : ∀ a ∈ Xs, H a ≠ none) (h : H T = none) : T ∉ Xs := fun z => hx T z h
theorem walks_zipT {K : Fr} {a b : Addr} {ds es : List D} : Walks true K (RZ.ItzT K a b) [(.tuple ds, .ref a), (.tuple es, .ref b)] (zipD ds es) := by
  intro Xs i H ht hx
  obtain ⟨a', vs, ea, hf, ra⟩ := ht _ List.mem_cons_self
  obtain ⟨b', ws, eb, hf2, rb⟩ := ht _ (List.mem_cons_of_mem _ List.mem_cons_self)
  cases ea
  cases eb
  refine ⟨fun d e => ?_, fun hl => ⟨vs, ws, hf.sq, hf2.sq, ?_⟩⟩
  · obtain ⟨x, y, e1, e2, ed⟩ := zipD_get e
    subst ed
    obtain ⟨v, ev, pv⟩ := ra.get e1
    obtain ⟨w, ew, pw⟩ := rb.get e2
    refine ⟨⟨vs, ws, v, w, hf.sq, hf2.sq, ev, ew⟩, fun z H' hy => ?_⟩
    obtain ⟨T, x', y', ez, hT, eH, h1, h2⟩ := hy
    have q1 := h1 vs hf.sq
    have q2 := h2 ws hf2.sq
    rw [ev] at q1
    rw [ew] at q2
    cases q1
    cases q2
    subst ez eH
    exact ⟨Stay.laid hT, rp_pair hT (free_nx hx hT) pv pw⟩
  · rw [zipD_len] at hl
    rw [ra.len, rb.len]
    omega
theorem walks_zipL {K : Fr} {a b : Addr} {ds es : List D} : Walks true K (Itz K a b) [(.list ds, .ref a), (.list es, .ref b)] (zipD ds es) := by
  intro Xs i H ht hx
  obtain ⟨a', vs, ea, hf, ra⟩ := ht _ List.mem_cons_self
  obtain ⟨b', ws, eb, hf2, rb⟩ := ht _ (List.mem_cons_of_mem _ List.mem_cons_self)
  cases ea
  cases eb
  refine ⟨fun d e => ?_, fun hl => ⟨vs, ws, SqL.of hf.1, SqL.of hf2.1, ?_⟩⟩
  · obtain ⟨x, y, e1, e2, ed⟩ := zipD_get e
    subst ed
    obtain ⟨v, ev, pv⟩ := ra.get e1
    obtain ⟨w, ew, pw⟩ := rb.get e2
    refine ⟨⟨vs, ws, v, w, SqL.of hf.1, SqL.of hf2.1, ev, ew⟩, fun z H' hy => ?_⟩
    obtain ⟨T, x', y', ez, hT, eH, h1, h2⟩ := hy
    have q1 := h1 vs (SqL.of hf.1)
    have q2 := h2 ws (SqL.of hf2.1)
    rw [ev] at q1
    rw [ew] at q2
    cases q1
    cases q2
    subst ez eH
    exact ⟨Stay.laid hT, rp_pair hT (free_nx hx hT) pv pw⟩
  · rw [zipD_len] at hl
    rw [ra.len, rb.len]
    omega
def evZip (a b : Ev) : Evs := fun s => (a s).bind fun d s1 => (b s1).bind fun d2 s2 => match d, d2 with
  | .tuple xs, .tuple ys => .ok (zipD xs ys) s2
  | .list xs, .list ys => .ok (zipD xs ys) s2
  | _, _ => .no
theorem si_zip {b : Ev} {elts : List Expr} {kk : Nat} {tpos : Pos} (hg : Gl X "zip") (hm : X.mg "zip" = none) (h : SE cl X W m e ev) (h2 : SE cl X W m e2 b) (hs : starEach [e, e2] X.env = (false, eval e X.env) :: starEach [e2] X.env := by rfl)
    (hs2 : starEach [e2] X.env = (false, eval e2 X.env) :: starEach [] X.env := by rfl) (hpl : (backTo pos (starEach [e2] X.env)).any (·.1) = false := by rfl) : SI cl X W m true (.Tuple elts kk tpos) (.Call (.Name "zip" p) [e, e2] [] pos) (evZip ev b) :=
  pi_imp (RZ.pi_zipA hg hm (pa_cons h (pa_cons h2 pa_nil hs2) hs) hs hpl) fun σ H R ⟨fm, Xs, os, s, r, g⟩ => by
    unfold evZip at g
    refine ⟨fm, Xs, os, s, r, ?_⟩
    cases q : ev s with
    | ok d s1 =>
      rw [q] at g
      simp only [Out.bind_ok] at g
      refine fun v H1 r1 st1 p1 => ⟨fm, Xs, os, s1, r1, ?_⟩
      cases q2 : b s1 with
      | ok d2 s2 =>
        rw [q2] at g
        simp only [Out.bind_ok] at g
        refine fun v2 H2 r2 st2 p2 => ?_
        have p1' := Rp.stay st2 r1.sx d v p1
        cases d with
        | tuple xs =>
          cases d2 with
          | tuple ys =>
            obtain ⟨a, vs, ea, hf, ra⟩ := id p1'
            obtain ⟨b, ws, eb, hf2, rb⟩ := id p2
            subst ea eb
            exact ⟨a, b, vs, ws, rfl, .inr ⟨hf.sq, hf2.sq, g _ H2 [(.tuple xs, .ref a), (.tuple ys, .ref b)] r2 (st1.trans st2) (fun q hq => by
              rcases List.mem_cons.mp hq with e | hq
              · rw [e]; exact p1'
              · rw [List.mem_singleton.mp hq]; exact p2) walks_zipT⟩⟩
          | _ => exact g.elim
        | list xs =>
          cases d2 with
          | list ys =>
            obtain ⟨a, vs, ea, hf, ra⟩ := id p1'
            obtain ⟨b, ws, eb, hf2, rb⟩ := id p2
            subst ea eb
            exact ⟨a, b, vs, ws, rfl, .inl ⟨SqL.of hf.1, SqL.of hf2.1, g _ H2 [(.list xs, .ref a), (.list ys, .ref b)] r2 (st1.trans st2) (fun q hq => by
              rcases List.mem_cons.mp hq with e | hq
              · rw [e]; exact p1'
              · rw [List.mem_singleton.mp hq]; exact p2) walks_zipL⟩⟩
          | _ => exact g.elim
        | _ => exact g.elim
      | exc c t s2 => rw [q2] at g; exact g
      | no => rw [q2] at g; exact g.elim
    | exc c t s1 => rw [q] at g; exact g
    | no => rw [q] at g; exact g.elim
/-! ### targets -/
/-- a target stores a value: what it makes of the state -/
def TgSem (u : Bool) (K : Fr) (g : TG) (vs : List Nat) (f : D → Ms → Option Ms) : Prop :=
  ∀ (fm : Fm) (Xs : List Addr) (os : List (Nat × Addr)) (s s' : Ms) (σ : L2.St) (H : Hp) (d : D) (x : V) (Q : L2.St → Hp → Prop), Rel K fm Xs os s σ H → RpW u K H Xs d x → f d s = some s' →
    (∀ σ', Rel K fm Xs os s' σ' H → wipe σ' vs = wipe σ vs → Q σ' H) → g x σ H Q
def tgN (i : Nat) : D → Ms → Option Ms := fun d s => some { s with env := s.env.set i (.fz d) }
def tgT (is : List Nat) : D → Ms → Option Ms := fun d s => match d with
  | .tuple ds => if ds.length = is.length then some { s with env := setMany is ds s.env } else none
  | _ => none
/-- as setfz, the frame's own lists as they were told -/
theorem Rel.setfz0 {K : Fr} {fm : Fm} {Xs : List Addr} {os : List (Nat × Addr)} {s : Ms} {σ : L2.St} {H : Hp} (r : Rel K fm Xs os s σ H) {i : Nat} {d : D} {v : V} (p : Rp K H Xs d v) : Rel K fm Xs os { s with env := s.env.set i (.fz d) } (σ.set i (some v)) H :=
  { len := by simp [r.len]
    slot := fun j sv e => by
      by_cases hij : i = j
      · subst hij
        by_cases hl : i < s.env.length
        · simp [hl] at e
          subst e
          exact ⟨v, getD_set_self (by rw [← r.len]; exact hl), p⟩
        · exact absurd (by simpa using (List.getElem?_eq_some_iff.mp e).1) hl
      · have e' : s.env[j]? = some sv := by simpa [hij] using e
        have q := r.slot j sv e'
        rw [getD_set_ne hij]
        exact q
    nd := r.nd, sub := r.sub, lv := r.lv, x0 := r.x0, x1 := r.x1, xt := r.xt, dks := r.dks, dk := r.dk, ent := r.ent, one := r.one, tm := r.tm }
theorem wipe_get {σ : L2.St} {i : Nat} : ∀ {vs : List Nat}, (wipe σ vs)[i]? = if i ∈ vs ∧ i < σ.length then some none else σ[i]?
  | [] => by simp [wipe]
  | v :: vs => by
    unfold wipe
    by_cases h : v = i
    · subst h
      by_cases hl : v < σ.length
      · rw [List.getElem?_set_self (by rw [wipe_length]; exact hl), if_pos ⟨List.mem_cons_self, hl⟩]
      · rw [List.getElem?_eq_none (by rw [List.length_set, wipe_length]; omega), if_neg (fun q => hl q.2), List.getElem?_eq_none (by omega)]
    · rw [List.getElem?_set_ne h, wipe_get]
      by_cases hm : i ∈ vs
      · simp [hm]
      · have : i ∉ v :: vs := fun z => (List.mem_cons.mp z).elim (fun e => h e.symm) hm
        simp [hm, this]
theorem wipe_set {σ : L2.St} {vs : List Nat} {i : Nat} {o : Option V} (h : i ∈ vs) : wipe (σ.set i o) vs = wipe σ vs := by
  apply List.ext_getElem?
  intro j
  rw [wipe_get, wipe_get, List.length_set]
  by_cases hj : j ∈ vs ∧ j < σ.length
  · rw [if_pos hj, if_pos hj]
  · rw [if_neg hj, if_neg hj]
    by_cases e : i = j
    · subst e
      have : ¬ i < σ.length := fun z => hj ⟨h, z⟩
      rw [List.getElem?_eq_none (by rw [List.length_set]; omega), List.getElem?_eq_none (by omega)]
    · rw [List.getElem?_set_ne e]
theorem tgN_sem {K : Fr} {i : Nat} {vs : List Nat} (h : i ∈ vs) : TgSem false K (gName i) vs (tgN i) := by
  intro fm Xs os s s' σ H d x Q r p e q
  cases e
  exact q _ (r.setfz0 p) (wipe_set h)
theorem gNames_sem {K : Fr} {fm : Fm} {Xs : List Addr} {os : List (Nat × Addr)} {H : Hp} {Q : L2.St → Hp → Prop} {vs : List Nat} {σ0 : L2.St} : ∀ (is : List Nat) (ds : List D) (ws : List V) (s : Ms) (σ : L2.St), (∀ i ∈ is, i ∈ vs) → Rel K fm Xs os s σ H → RpA K H Xs ds ws → ds.length = is.length → wipe σ vs = wipe σ0 vs →
    (∀ σ', Rel K fm Xs os { s with env := setMany is ds s.env } σ' H → wipe σ' vs = wipe σ0 vs → Q σ' H) → gNames is ws σ H Q
  | [], [], _, s, σ, _, r, ra, _, hw, q => by
    cases ra
    exact ⟨rfl, q σ r hw⟩
  | i :: is, d :: ds, _, s, σ, hm, r, ra, hl, hw, q => by
    obtain ⟨v, w, e, p, t⟩ := ra
    subst e
    refine ⟨v, w, rfl, ?_⟩
    exact gNames_sem is ds w { s with env := s.env.set i (.fz d) } _ (fun j hj => hm j (List.mem_cons_of_mem _ hj)) (r.setfz0 p) t (by simpa using hl) (by rw [wipe_set (hm i List.mem_cons_self)]; exact hw) q
  | [], _ :: _, _, _, _, _, _, _, hl, _, _ => by simp at hl
  | _ :: _, [], _, _, _, _, _, _, hl, _, _ => by simp at hl
theorem tgT_sem {u : Bool} {K : Fr} {n : Nat} {is vs : List Nat} (hn : n = is.length) (h : ∀ i ∈ is, i ∈ vs) : TgSem u K (gTup K n (gNames is)) vs (tgT is) := by
  intro fm Xs os s s' σ H d x Q r p e q
  unfold tgT at e
  cases d with
  | tuple ds =>
    dsimp only at e
    split at e
    · rename_i hl
      cases e
      obtain ⟨a, ws, ea, hf, ra⟩ := p.tuple
      exact ⟨a, ws, ea, hf, by rw [ra.len, hl, hn], gNames_sem is ds ws s σ h r ra hl rfl fun σ' r' hw => q σ' r' hw⟩
    · cases e
  | _ => cases e
end
end Zo
/-! ZH: while, for, list comprehensions. -/
namespace Zo
open PySem PySem.Spec PyProof.Rows L2
section
variable {K : Fr} {fm : Fm} {X : List Addr} {os : List (Nat × Addr)} {s : Ms} {σ : L2.St} {H H' : Hp}
/-- a list that is being made is changed -/
theorem Rel.putX (r : Rel K fm X os s σ H) {p : Addr} {ws ws' : List V} (hx : p ∈ X) (no : p ∉ os.map (·.2)) (nd : p ∉ dkl fm.dka) (n0 : fm.H0 p = none) (hp : H p = some (.lst ws)) : Rel K fm X os s σ (upd H p (.lst ws')) := by
  have st : Stay [p] H (upd H p (.lst ws')) := Stay.put List.mem_cons_self
  have sx : ∀ x ∈ [p], x ∈ X := fun x h => by rw [List.mem_singleton.mp h]; exact hx
  exact {
    len := r.len
    slot := fun i sv e => by
      have q := r.slot i sv e
      cases sv with
      | un => exact q
      | fz d =>
        obtain ⟨v, e1, z⟩ := q
        exact ⟨v, e1, Rp.stay st sx d v z⟩
      | own ds =>
        obtain ⟨a, vs, e1, e2, e3, z⟩ := q
        have na : a ≠ p := fun e => no (List.mem_map.mpr ⟨_, e2, e⟩)
        exact ⟨a, vs, e1, e2, by rw [upd_ne na]; exact e3, RpA.stay st sx ds vs z⟩
      | deck => exact q
    nd := r.nd
    sub := r.sub
    lv := fun q hq => by
      obtain ⟨vs, e⟩ := r.lv q hq
      have na : q.2 ≠ p := fun e => no (List.mem_map.mpr ⟨_, hq, e⟩)
      exact ⟨vs, by rw [upd_ne na]; exact e⟩
    x0 := r.x0
    x1 := r.x1
    xt := fun b hb => by
      by_cases hbp : b = p
      · rw [hbp, upd_same]; simp
      · rw [upd_ne hbp]; exact r.xt b hb
    dks := r.dks
    dk := fun kd kc e => by
      obtain ⟨h1, h2, h3, h4⟩ := r.dk kd kc e
      have m1 : kd ≠ p := fun z => nd (by rw [e]; simp [dkl, z])
      have m2 : kc ≠ p := fun z => nd (by rw [e]; simp [dkl, z])
      exact ⟨h1, by rw [upd_ne m1]; exact h2, by rw [upd_ne m2]; exact h3, h4⟩
    ent := fun b o e n => by
      have hb : b ≠ p := fun z => by rw [z, n0] at e; cases e
      rw [upd_ne hb]
      exact r.ent b o e n
    one := fun e => by
      obtain ⟨o, u, q⟩ := r.one e
      have hb : sysModules ≠ p := fun z => by rw [← z, q] at hp; cases hp
      exact ⟨o, u, by rw [upd_ne hb]; exact q⟩
    tm := fun q hq => Rp.stay st sx q.1 q.2 (r.tm q hq) }
/-! ### slots are forgotten -/
def forgetE : List Nat → List Sv → List Sv
  | [], e => e
  | i :: is, e => forgetE is (e.set i .un)
def forgetS (vs : List Nat) (s : Ms) : Ms := { s with env := forgetE vs s.env }
theorem forgetE_len : ∀ (vs : List Nat) (e : List Sv), (forgetE vs e).length = e.length
  | [], _ => rfl
  | i :: is, e => by unfold forgetE; rw [forgetE_len is, List.length_set]
theorem forgetE_get : ∀ (vs : List Nat) (e : List Sv) (i : Nat), i ∈ vs → i < e.length → (forgetE vs e)[i]? = some .un := by
  have keep : ∀ (vs : List Nat) (e : List Sv) (i : Nat), e[i]? = some .un → (forgetE vs e)[i]? = some .un := by
    intro vs
    induction vs with
    | nil => intro e i h; exact h
    | cons j js ih =>
      intro e i h
      refine ih _ i ?_
      by_cases hij : j = i
      · subst hij
        rw [List.getElem?_set_self (List.getElem?_eq_some_iff.mp h).1]
      · rw [List.getElem?_set_ne hij]; exact h
  intro vs
  induction vs with
  | nil => intro e i h; simp at h
  | cons j js ih =>
    intro e i h hl
    unfold forgetE
    rcases List.mem_cons.mp h with rfl | h
    · exact keep js _ i (List.getElem?_set_self hl)
    · exact ih _ i h (by rw [List.length_set]; exact hl)
theorem Rel.forgets (r : Rel K fm X os s σ H) : ∀ (vs : List Nat), Rel K fm X os (forgetS vs s) σ H := by
  intro vs
  induction vs generalizing s with
  | nil => exact r
  | cons i is ih => exact ih (r.forget i)
theorem Rel.wiped {σ' : L2.St} {vs : List Nat} (r : Rel K fm X os (forgetS vs s) σ H) (h : wipe σ' vs = wipe σ vs) : Rel K fm X os (forgetS vs s) σ' H := by
  have hl : σ'.length = σ.length := by
    have := congrArg List.length h
    rwa [wipe_length, wipe_length] at this
  refine r.resig hl fun i => ?_
  by_cases hi : i ∈ vs
  · by_cases hl2 : i < s.env.length
    · exact .inl (forgetE_get vs s.env i hi hl2)
    · refine .inr ?_
      have e := r.len
      have e2 : (forgetS vs s).env.length = s.env.length := forgetE_len _ _
      rw [e2] at e
      rw [List.getElem?_eq_none (by omega), List.getElem?_eq_none (by omega)]
  · refine .inr ?_
    have q := congrArg (fun l : L2.St => l[i]?) h
    simp only [wipe_get, hi, false_and, if_false] at q
    exact q
theorem wipe_wipe {σ : L2.St} {vs : List Nat} : wipe (wipe σ vs) vs = wipe σ vs := by
  apply List.ext_getElem?
  intro j
  rw [wipe_get, wipe_get, wipe_length]
  by_cases h : j ∈ vs ∧ j < σ.length
  · rw [if_pos h, if_pos h]
  · rw [if_neg h, if_neg h]
end
section
variable {cl : Nat → Addr} {X : Cx} {W : WX} {m : Bool} {e e2 tg iter : Expr} {ev : Ev} {evs : Evs} {pos p : Pos} {body : List Stmt}
/-! ### while -/
def stepS (o : Out Fl) (k : Ex) : Out Fl := match o with
  | .ok .nx s => k s
  | .ok .ct s => k s
  | .ok .bk s => .ok .nx s
  | .ok (.rt d) s => .ok (.rt d) s
  | .exc c t s => .exc c t s
  | .no => .no
def whileS : Nat → (Ms → Out Bool) → Ex → Ex
  | 0, _, _ => fun _ => .no
  | n + 1, c, b => fun s => (c s).bind fun k s1 => if k = true then stepS (b s1) (whileS n c b) else .ok .nx s1
theorem GoodS.step {K : Fr} {fm fm' : Fm} {Dn : Ends} {o : Out Fl} {k : Ex} {N : L2.St → Hp → Prop} (h : GoodS K cl W fm Dn (stepS o k)) (hd : ∀ {Xs os s σ H}, Rel K fm' Xs os s σ H → Rel K fm Xs os s σ H)
    (hN : ∀ Xs os s σ H, Rel K fm' Xs os s σ H → GoodS K cl W fm Dn (k s) → N σ H) : GoodS K cl W fm' { Dn with nx := N, ct := N, bk := Dn.nx } o := by
  cases o with
  | ok fl s1 =>
    cases fl with
    | nx => exact fun Xs os σ H r => hN Xs os s1 σ H r h
    | ct => exact fun Xs os σ H r => hN Xs os s1 σ H r h
    | bk => exact fun Xs os σ H r => h Xs os σ H (hd r)
    | rt d => exact fun Xs os σ H r => h Xs os σ H (hd r)
  | exc c t s1 => exact fun Xs os σ v dd H' r p q => h Xs os σ v dd H' (hd r) p q
  | no => exact h.elim
theorem ss_while {c : Ms → Out Bool} {b : Ex} (n : Nat) (hp : PassesOwn (model X.prog X.w) X.A X.env X.xe) (hc : STt cl X W m e c) (hb : SSs cl X W body b) : SS cl X W (.While e body [] pos) (whileS n c b) :=
  ps_imp (ps_while hp hc hb) fun Dn σ H ⟨fm, Xs, os, s, r, g⟩ => by
    refine ⟨fun k σ H => ∃ Xs os s, Rel X.K fm Xs os s σ H ∧ GoodS X.K cl W fm Dn (whileS k c b s), ⟨n, Xs, os, s, r, g⟩, ?_⟩
    rintro k σ H ⟨Xs, os, s, r, g⟩
    cases k with
    | zero => exact g.elim
    | succ k =>
      unfold whileS at g
      refine ⟨fm, Xs, os, s, r, ?_⟩
      cases q : c s with
      | ok v s1 =>
        rw [q] at g
        simp only [Out.bind_ok] at g
        intro H1 r1 st1
        cases v with
        | true =>
          rw [if_pos rfl] at g ⊢
          refine ⟨fun σ H => ∃ Xs os s, Rel X.K fm Xs os s σ H ∧ GoodS X.K cl W fm Dn (whileS k c b s), fun σ' H' z => ⟨k, Nat.lt_succ_self _, z⟩, fm, Xs, os, s1, r1, ?_⟩
          exact GoodS.step g (fun r => r) fun Xs os s σ H r g => ⟨Xs, os, s, r, g⟩
        | false =>
          rw [if_neg Bool.false_ne_true] at g ⊢
          exact g Xs os σ H1 r1
      | exc cc t s1 => rw [q] at g; exact g Xs os σ
      | no => rw [q] at g; exact g.elim
/-! ### for -/
def forGo (tgt : D → Ms → Option Ms) (b : Ex) : List D → Ex
  | [] => fun s => .ok .nx s
  | d :: ds => fun s => match tgt d s with
    | some s1 => stepS (b s1) (forGo tgt b ds)
    | none => .no
def forS (src : Evs) (tgt : D → Ms → Option Ms) (b : Ex) : Ex := fun s => (src s).bind fun ds s1 => forGo tgt b ds s1
theorem ss_for {u : Bool} {g : TG} {vs : List Nat} {src : Evs} {tgt : D → Ms → Option Ms} {b : Ex} (hp : PassesOwn (model X.prog X.w) X.A X.env X.xe) (hc : X.calm = true) (hi : SI cl X W m u tg iter src) (hg : PG X tg g) (ht : TgSem u X.K g vs tgt) (hb : SSs cl X W body b)
    (hs : ∀ x, foldedSetIterable iter X.env x = pure x := by intro _; rfl) : SS cl X W (.For tg iter body [] pos) (forS src tgt b) :=
  ps_imp (ps_for hp hc hi hg hb hs) fun Dn σ H ⟨fm, Xs, os, s, r, g⟩ => by
    unfold forS at g
    refine ⟨fm, Xs, os, s, r, ?_⟩
    cases q : src s with
    | ok ds s1 =>
      rw [q] at g
      simp only [Out.bind_ok] at g
      intro J H1 tmp r1 st1 htm hw
      refine ⟨fun i k σ H => i ≤ ds.length ∧ k = ds.length - i ∧ ∃ Xs os s, Rel X.K { fm with tmp := tmp ++ fm.tmp } Xs os s σ H ∧ GoodS X.K cl W fm Dn (forGo tgt b (ds.drop i) s), ⟨_, Nat.zero_le _, rfl, Xs, os, s1, r1.holds tmp htm, g⟩, ?_⟩
      rintro i k σ H ⟨hle, hk, Xs, os, s, r, g⟩
      obtain ⟨hgo, hstop⟩ := hw Xs i H (fun p hp => r.tm p (List.mem_append_left _ hp)) r.xt
      by_cases hlt : i < ds.length
      · rw [List.drop_eq_getElem_cons hlt] at g
        obtain ⟨go, yl⟩ := hgo _ (List.getElem?_eq_getElem hlt)
        refine .inr ⟨go, fun σ H => ∃ Xs os s, Rel X.K { fm with tmp := tmp ++ fm.tmp } Xs os s σ H ∧ GoodS X.K cl W fm Dn (forGo tgt b (ds.drop (i + 1)) s), fun σ' H' z => ⟨ds.length - (i + 1), by omega, hlt, rfl, z⟩, fun x H' hy => ?_⟩
        obtain ⟨st, px⟩ := yl x H' hy
        unfold forGo at g
        cases q2 : tgt ds[i] s with
        | none => rw [q2] at g; exact g.elim
        | some s2 =>
          rw [q2] at g
          refine ht _ Xs os s s2 σ H' _ x _ (r.stay st) px q2 fun σ' r' _ => ⟨_, Xs, os, s2, r', ?_⟩
          exact GoodS.step g (fun r => r.drops) fun Xs os s σ H r g => ⟨Xs, os, s, r, g⟩
      · have e : i = ds.length := by omega
        subst e
        rw [List.drop_length] at g
        exact .inl ⟨hstop (Nat.le_refl _), g Xs os σ H r.drops⟩
    | exc c t s1 => rw [q] at g; exact g Xs os σ
    | no => rw [q] at g; exact g.elim
/-! ### list comprehensions -/
def evYes : Ms → Out Bool := fun s => .ok true s
theorem pts_yes : PTs X [] (tT X.K cl W m evYes) := ⟨fun pins s σ H Q I ⟨fm, Xs, os, ms, r, g⟩ => pts_nil.run pins s σ H Q I (g H r (Stay.refl _ _))⟩
def compGo (vs : List Nat) (tgt : D → Ms → Option Ms) (cond : Ms → Out Bool) (elt : Ev) : List D → List D → Evs
  | [], acc => fun s => .ok acc s
  | d :: ds, acc => fun s => match tgt d s with
    | none => .no
    | some s1 => match cond s1 with
      | .ok k s2 => if k = true then (match elt s2 with
          | .ok x s3 => if acc.length < 1000000 then compGo vs tgt cond elt ds (acc ++ [x]) (forgetS vs s3) else .no
          | _ => .no)
        else compGo vs tgt cond elt ds acc (forgetS vs s2)
      | _ => .no
def evComp (vs : List Nat) (src : Evs) (tgt : D → Ms → Option Ms) (cond : Ms → Out Bool) (elt : Ev) : Evs := fun s => (src s).bind fun ds s1 => compGo vs tgt cond elt ds [] (forgetS vs s1)
abbrev W0 : WX := fun _ _ _ _ => False
theorem sf_comp {u : Bool} {g : TG} {vs : List Nat} {src : Evs} {tgt : D → Ms → Option Ms} {cond : Ms → Out Bool} {elt : Ev} (ht : TgSem u X.K g vs tgt) (hP : PE X e (tLc (tI X.K cl W m u src) g (tT X.K cl W0 m cond) (tE X.K cl W0 m elt) vs)) : SF cl X W m e (evComp vs src tgt cond elt) :=
  pe_imp hP fun σ H Q ⟨fm, Xs, os, s, R, gg⟩ => by
    unfold evComp at gg
    refine ⟨fm, Xs, os, s, R, ?_⟩
    cases q : src s with
    | ok ds s1 =>
      rw [q] at gg
      simp only [Out.bind_ok] at gg
      intro J H1 tmp r1 st1 htm hw Dl hD
      have fr := r1.frsh hD
      have nMu : Dl ∉ Mu fm.dka os m := fun z => fr.nx (Mu.sub r1 m Dl z)
      have hDH : H Dl = none := by
        cases e : H Dl with
        | none => rfl
        | some o => rw [st1 Dl o e nMu] at hD; cases hD
      have r2 : Rel X.K { fm with tmp := tmp ++ fm.tmp } (Dl :: Xs) os (forgetS vs s1) (wipe σ vs) (upd H1 Dl (.lst [])) := by
        have a := ((r1.holds tmp htm).laidL (vs := []) hD).forgets vs
        exact a.wiped wipe_wipe
      refine ⟨fun i k H2 => i ≤ ds.length ∧ k = ds.length - i ∧ ∃ s2 acc ws, Rel X.K { fm with tmp := tmp ++ fm.tmp } (Dl :: Xs) os (forgetS vs s2) (wipe σ vs) H2 ∧ Stay (Mu fm.dka os m) H H2 ∧ H2 Dl = some (.lst ws) ∧ RpA X.K H2 (Dl :: Xs) acc ws ∧
        GoodF X.K cl W m fm Xs os σ H Q (compGo vs tgt cond elt (ds.drop i) acc (forgetS vs s2)), ⟨_, Nat.zero_le _, rfl, s1, [], [], r2, st1.trans (Stay.laid hD), upd_same, rfl, gg⟩, ?_⟩
      rintro i k H2 ⟨hle, hk, s2, acc, ws, r, st, hDl, ra, g⟩
      obtain ⟨hgo, hstop⟩ := hw (Dl :: Xs) i H2 (fun p hp => r.tm p (List.mem_append_left _ hp)) r.xt
      by_cases hlt : i < ds.length
      · rw [List.drop_eq_getElem_cons hlt] at g
        obtain ⟨go, yl⟩ := hgo _ (List.getElem?_eq_getElem hlt)
        refine .inr ⟨go, fun H2 => ∃ s2 acc ws, Rel X.K { fm with tmp := tmp ++ fm.tmp } (Dl :: Xs) os (forgetS vs s2) (wipe σ vs) H2 ∧ Stay (Mu fm.dka os m) H H2 ∧ H2 Dl = some (.lst ws) ∧ RpA X.K H2 (Dl :: Xs) acc ws ∧
          GoodF X.K cl W m fm Xs os σ H Q (compGo vs tgt cond elt (ds.drop (i + 1)) acc (forgetS vs s2)), fun H' z => ⟨ds.length - (i + 1), by omega, hlt, rfl, z⟩, fun x H3 hy => ?_⟩
        obtain ⟨st3, px⟩ := yl x H3 hy
        have r3 := r.stay st3
        have hD3 := st3 _ _ hDl (by simp)
        have ra3 : RpA X.K H3 (Dl :: Xs) acc ws := RpA.stay st3 (fun a h => absurd h (by simp)) acc ws ra
        have sA := st.trans st3.any
        unfold compGo at g
        cases q2 : tgt ds[i] (forgetS vs s2) with
        | none => rw [q2] at g; exact g.elim
        | some s4 =>
          rw [q2] at g
          dsimp only at g
          refine ht _ (Dl :: Xs) os _ s4 _ H3 _ x _ r3 px q2 fun σ4 r4 hw4 => ?_
          have hw4' : wipe σ4 vs = wipe σ vs := by rw [hw4, wipe_wipe]
          refine ⟨hw4', _, Dl :: Xs, os, s4, r4, ?_⟩
          cases q3 : cond s4 with
          | ok b s5 =>
            rw [q3] at g
            dsimp only at g
            intro H5 r5 st5
            have hD5 := st5 _ _ hD3 nMu
            have ra5 : RpA X.K H5 (Dl :: Xs) acc ws := RpA.stay st5 (Mu.sub r4 m) acc ws ra3
            cases b with
            | true =>
              rw [if_pos rfl] at g ⊢
              refine ⟨_, Dl :: Xs, os, s5, r5, ?_⟩
              cases q4 : elt s5 with
              | ok y s6 =>
                rw [q4] at g
                dsimp only at g
                intro v H6 r6 st6 p6
                split at g
                · rename_i hl
                  have hD6 := st6 _ _ hD5 nMu
                  have ra6 : RpA X.K H6 (Dl :: Xs) acc ws := RpA.stay st6 (Mu.sub r5 m) acc ws ra5
                  refine ⟨ws, hD6, by rw [ra6.len]; exact line1M hl, s6, acc ++ [y], ws ++ [v], ?_, ?_, upd_same, ?_, g⟩
                  · have a := r6.putX (ws' := ws ++ [v]) List.mem_cons_self fr.no fr.nd fr.n0 hD6
                    refine (a.forgets vs).wiped ?_
                    rw [wipe_wipe, hw4']
                  · have sB := (sA.trans st5).trans st6
                    intro a o h n
                    have na : a ≠ Dl := fun e => by rw [e, hDH] at h; cases h
                    rw [upd_ne na]
                    exact sB a o h n
                  · exact RpA.stay (M := [Dl]) (Stay.put List.mem_cons_self) (fun a h => by rw [List.mem_singleton.mp h]; exact List.mem_cons_self) _ _ (ra6.app (RpA.one p6))
                · exact g.elim
              | exc c t s6 => rw [q4] at g; exact g.elim
              | no => rw [q4] at g; exact g.elim
            | false =>
              rw [if_neg Bool.false_ne_true] at g ⊢
              refine ⟨s5, acc, ws, ?_, sA.trans st5, hD5, ra5, g⟩
              refine (r5.forgets vs).wiped ?_
              rw [wipe_wipe, hw4']
          | exc c t s5 => rw [q3] at g; exact g.elim
          | no => rw [q3] at g; exact g.elim
      · have e : i = ds.length := by omega
        subst e
        rw [List.drop_length] at g
        refine .inl ⟨hstop (Nat.le_refl _), ?_⟩
        exact g Dl ws H2 (r.drops.wiped wipe_wipe.symm) st fr hDl ra
    | exc c t s1 => rw [q] at gg; exact gg
    | no => rw [q] at gg; exact gg.elim
end
end Zo
/-! ZI: a def keeps its promise, from what its body is run to. -/
namespace Zo
open PySem PySem.Spec PyProof.Rows L2
def dk0 : Dk := ⟨[], 0, 0⟩
def envOf0 (n : Nat) (ds : List D) : List Sv := ds.map .fz ++ List.replicate (n - ds.length) .un
def roOf (o : Out Fl) : Ro := match o with
  | .ok (.rt d) _ => .ok d
  | .ok .nx _ => .ok .none
  | .ok _ _ => .no
  | .exc c t _ => .exc c t
  | .no => .no
/-- what a def without the deck answers: n slots -/
def runFn (n : Nat) (run : Ex) (ds : List D) : Ro := roOf (run ⟨envOf0 n ds, dk0, false⟩)
def rdOf (o : Out Fl) : Rd := match o with
  | .ok (.rt d) s => .ok d s.dk
  | .ok .nx s => .ok .none s.dk
  | _ => .no
/-- .. with the deck, its first argument -/
def runFnD (n : Nat) (run : Ex) (ds : List D) (k : Dk) : Rd := rdOf (run ⟨.deck :: envOf0 (n - 1) ds, k, false⟩)
section
variable {P : Program} {w : World} {K : Fr} {mg : Str → Option Value} {base : Heap} {cl : Nat → Addr}
theorem start_get {N : List Str} {vs : List V} {i : Nat} {v : V} (h : vs[i]? = some v) : (L2.start N vs)[i]?.join = some v := by
  have hl := (List.getElem?_eq_some_iff.mp h).1
  unfold L2.start
  rw [List.getElem?_append_left (by rw [List.length_map]; exact hl), List.getElem?_map, h]
  rfl
theorem env0_get {n : Nat} {ds : List D} {i : Nat} {sv : Sv} (h : (envOf0 n ds)[i]? = some sv) : (∃ d, ds[i]? = some d ∧ sv = .fz d) ∨ sv = .un := by
  unfold envOf0 at h
  by_cases hl : i < ds.length
  · rw [List.getElem?_append_left (by rw [List.length_map]; exact hl), List.getElem?_map] at h
    obtain ⟨d, e1, e2⟩ := Option.map_eq_some_iff.mp h
    exact .inl ⟨d, e1, e2.symm⟩
  · rw [List.getElem?_append_right (by rw [List.length_map]; omega), List.getElem?_replicate] at h
    split at h
    · cases h; exact .inr rfl
    · cases h
theorem start_len {N : List Str} {vs : List V} (h : vs.length ≤ N.length) : (L2.start N vs).length = N.length := by
  unfold L2.start
  rw [List.length_append, List.length_map, List.length_replicate]
  omega
theorem rel_start {N : List Str} {Xs : List Addr} {ds : List D} {vs : List V} {H : Hp} (ra : RpA K H Xs ds vs) (hn : ds.length ≤ N.length) (xt : ∀ a ∈ Xs, H a ≠ none) : Rel K ⟨H, Xs, none, []⟩ Xs [] ⟨envOf0 N.length ds, dk0, false⟩ (L2.start N vs) H where
  len := by
    rw [start_len (by rw [ra.len]; exact hn)]
    unfold envOf0
    simp
    omega
  slot := fun i sv e => by
    rcases env0_get e with ⟨d, e1, e2⟩ | e2
    · subst e2
      obtain ⟨v, ev, pv⟩ := ra.get e1
      exact ⟨v, start_get ev, pv⟩
    · subst e2; trivial
  nd := by simp
  sub := fun p hp => absurd hp (by simp)
  lv := fun p hp => absurd hp (by simp)
  x0 := fun a h => h
  x1 := xt
  xt := xt
  dks := fun a h => absurd h (by simp [dkl])
  dk := fun kd kc e => by cases e
  ent := Stay.refl _ _
  one := fun e => by cases e
  tm := fun p hp => absurd hp (by simp)
theorem fn_pure {x qual : Str} {st : Stmt} {f : Addr} {fd : FuncData} {N ps : List Str} {k n : Nat} {run : Ex} (F : Fun K x qual st f fd) (S : FnScope N ps (defScope st)) (hn : ps.length = n) (hN : ps.length ≤ N.length)
    (hb : ∀ (cdv : Value) (A : Around) (outer : List Env) (s : Shared) (H : Hp) (E : XK), Room k (A.deeper (envOfC qual (defScope st) s.heap.objs.size f cdv)) → SSs cl (cxOf (L2.CX P w) P w K mg base N qual (defScope st) f cdv A outer s H E) (fun c d _ H => E c d H) (defBody st) run) :
    FnOk P w K mg base (L2.CX P w) (k + 1) f fd ps (spP K cl n (runFn N.length run)) := by
  refine F.okX S (fun vs H Q E h => ?_) fun cdv A outer s H vs Q E hr h => ⟨_, hb cdv A outer s H E hr, ?_⟩
  · obtain ⟨Xs, ds, ra, hl, _⟩ := h
    rw [ra.len, hl, hn]
  · obtain ⟨Xs, ds, ra, hl, xt, hm⟩ := h
    refine ⟨_, Xs, [], _, rel_start ra (by omega) xt, ?_⟩
    unfold runFn at hm
    cases q : run ⟨envOf0 N.length ds, dk0, false⟩ with
    | ok fl s' =>
      rw [q] at hm
      intro X os σ' H' r
      cases fl with
      | nx => exact hm .non H' r.ent rfl
      | rt d => exact fun v p => hm v H' r.ent (Rp.less r.x0 d v p)
      | bk => exact hm.elim
      | ct => exact hm.elim
    | exc c t s' =>
      rw [q] at hm
      exact fun X os σ' v dd H' r p hd => hm v dd H' r.ent (Rp.less r.x0 t v p) hd
    | no => rw [q] at hm; exact hm.elim
theorem rel_startD {N : List Str} {Xs : List Addr} {ds : List D} {vs : List V} {H : Hp} {kd kc : Addr} {k : Dk} (ra : RpA K H Xs ds vs) (hn : ds.length + 1 ≤ N.length) (xt : ∀ a ∈ Xs, H a ≠ none) (h1 : kd ∈ Xs) (h2 : kc ∈ Xs) (hk : DkAt H kd kc k) :
    Rel K ⟨H, Xs, some (kd, kc), []⟩ Xs [] ⟨.deck :: envOf0 (N.length - 1) ds, k, false⟩ (L2.start N (.ref kd :: vs)) H where
  len := by
    rw [start_len (by rw [List.length_cons, ra.len]; exact hn)]
    unfold envOf0
    simp
    omega
  slot := fun i sv e => by
    cases i with
    | zero =>
      cases e
      exact ⟨kd, kc, rfl, start_get rfl⟩
    | succ i =>
      have e' : (envOf0 (N.length - 1) ds)[i]? = some sv := by simpa using e
      rcases env0_get e' with ⟨d, e1, e2⟩ | e2
      · subst e2
        obtain ⟨v, ev, pv⟩ := ra.get e1
        exact ⟨v, start_get (by simpa using ev), pv⟩
      · subst e2; trivial
  nd := by simp
  sub := fun p hp => absurd hp (by simp)
  lv := fun p hp => absurd hp (by simp)
  x0 := fun a h => h
  x1 := xt
  xt := xt
  dks := fun a h => by
    simp only [dkl, List.mem_cons, List.not_mem_nil, or_false] at h
    rcases h with rfl | rfl
    · exact h1
    · exact h2
  dk := fun kd kc e => by cases e; exact hk
  ent := Stay.refl _ _
  one := fun e => by cases e
  tm := fun p hp => absurd hp (by simp)
theorem fn_deck {x qual : Str} {st : Stmt} {f : Addr} {fd : FuncData} {N ps : List Str} {k n : Nat} {run : Ex} (F : Fun K x qual st f fd) (S : FnScope N ps (defScope st)) (hn : ps.length = n + 1) (hN : ps.length ≤ N.length)
    (hb : ∀ (cdv : Value) (A : Around) (outer : List Env) (s : Shared) (H : Hp) (E : XK), Room k (A.deeper (envOfC qual (defScope st) s.heap.objs.size f cdv)) → SSs cl (cxOf (L2.CX P w) P w K mg base N qual (defScope st) f cdv A outer s H E) W0 (defBody st) run) :
    FnOk P w K mg base (L2.CX P w) (k + 1) f fd ps (spD K n (runFnD N.length run)) := by
  refine F.okX S (fun vs H Q E h => ?_) fun cdv A outer s H vs Q E hr h => ⟨_, hb cdv A outer s H E hr, ?_⟩
  · obtain ⟨kd, kc, ws, Xs, ds, kk, rfl, ra, hl, _⟩ := h
    rw [List.length_cons, ra.len, hl, hn]
  · obtain ⟨kd, kc, ws, Xs, ds, kk, rfl, ra, hl, xt, h1, h2, hk, hm⟩ := h
    refine ⟨_, Xs, [], _, rel_startD ra (by omega) xt h1 h2 hk, ?_⟩
    unfold runFnD at hm
    cases q : run ⟨.deck :: envOf0 (N.length - 1) ds, kk, false⟩ with
    | ok fl s' =>
      rw [q] at hm
      intro X os σ' H' r
      cases fl with
      | nx => exact hm .non H' r.ent (r.dk kd kc rfl) rfl
      | rt d => exact fun v p => hm v H' r.ent (r.dk kd kc rfl) (Rp.less r.x0 d v p)
      | bk => exact hm.elim
      | ct => exact hm.elim
    | exc c t s' => rw [q] at hm; exact hm.elim
    | no => rw [q] at hm; exact hm.elim
end
end Zo
/-! ZJ: the program's own errors: class BadX(ZonesError) with one thing, ZonesError(Exception); made, raised, caught. -/
namespace PySem
namespace Zx
open PySem.W PySem.Calls PyProof.Rows PySem.HandSPX
open Builtin Builtin.ObjectAttr
/-- what stands behind an own error's class: ZonesError, at Z, then Exception's row -/
def behind (Z : Addr) : List Value := [.ref Z, .type "Exception", .type "BaseException", .type "object"]
theorem behind_has (Z : Addr) (T : String) : (behind Z).contains (.type T) = ([.type "Exception", .type "BaseException", .type "object"] : List Value).contains (.type T) := by
  unfold behind
  rw [List.contains_cons]
  rfl
theorem behind_pass (self : Value) (C Z : Addr) : refuseLoop self "__setattr__" (.ref C :: behind Z) = pure () := by
  unfold behind
  rw [refuseLoop_ref, refuseLoop_ref]
  exact F.store_Exception.passes self
section
variable {prog : Program} {w : World} {A : Around} {E : Value → Shared → Prop} {R : Result → Shared → Prop} {hh : Heap} {gs : Array GenState} {dr : Drawn} {tt : Nat} {oo : OsState}
/-- self.field = v on an own error without a dict yet -/
theorem osa_ze {K : Frag} {field : Str} {tk : Tok} {v : Value} {e C Z : Addr} {fv : Array Value} {cd : ClassData}
    (kin : K.In hh) (he : hh.get? e = some { cls := .ref C, data := .fields fv }) (hcd : clsIn K C = some cd) (hmro : cd.mro = .ref C :: behind Z) (hdct : cd.hasDict = true) (hno : findIn K (.ref C) field = some none)
    (done : ∀ h2 tk2 d, (∀ b o, b ≠ e → hh.get? b = some o → h2.get? b = some o) → hh.objs.size ≤ d → d ≠ e → h2.get? e = some { cls := .ref C, dict := some d, data := .fields fv } →
      h2.Ns1 d (fun y => if y = field then some v else none) → R (.ok (.ret .none)) ⟨h2, gs, dr, tk2, oo⟩) :
    codeAny (model prog w) A (.call (.builtin "object.__setattr__") ⟨[.ref e, .str field tk, v], []⟩) R ⟨hh, gs, dr, tt, oo⟩ := by
  have inst : InstAt hh e { cls := .ref C, data := .fields fv } C none := ⟨he, rfl, rfl, trivial⟩
  have store := F.store_object
  have hobj : cd.mro.contains (.type "object") = true := by
    rw [hmro, List.contains_cons, behind_has, show (Value.type "object" == Value.ref C) = false from rfl, Bool.false_or]
    decide +kernel
  have hnemp : cd.mro.isEmpty = false := by rw [hmro]; rfl
  have hes : e ≠ hh.objs.size := Nat.ne_of_lt (Heap.lt_size he)
  have isObj : Looks (model prog w) hh (isInstance (.ref e) (.type "object")) true := inst.type.andThen (looks_mroIn kin (by
    unfold mroIn
    rw [hcd, Option.bind_some, if_neg (by rw [hnemp]; decide), hobj]))
  refine codeAny_call_builtin store.slot.plain store.entry (@check_slot (model prog w) _ _ ⟨hh, gs, dr, tt, oo⟩ "object.__setattr__" "object" "__setattr__" (.ref e) [.str field tk, v] [] _ store.kind store.split isObj (store.args (.ref e) (.str field tk) v) ?_)
  have lm : Looks (model prog w) hh (mroOf (.ref C)) cd.mro := (looks_clsIn kin hcd).andThen .now
  have lt : Looks (model prog w) hh (storeTaker? none) none := .now
  have lc : Looks (model prog w) hh (classData C) cd := looks_clsIn kin hcd
  rw [osa_eq, refuse_eq]
  refine wpAny_bind (wpAny_bind (inst.type.at (wpAny_bind (lm.at ?_))))
  rw [hmro, behind_pass]
  refine wpAny_pure (wpAny_bind (inst.type.at (wpAny_bind ((looks_findIn kin hno).at (wpAny_bind (lt.at ?_))))))
  show wpAny _ _ (storeInOwnDict (.ref e) (.ref C) (.str field tk) field v false) _ _ _
  obtain ⟨a1, a2, a3, a4, a5, a6, a7, a8, a9, a10, a11⟩ := cd
  dsimp only at hdct
  subst hdct
  unfold storeInOwnDict ownDictForStores
  repeat (first | with_reducible refine store_in_new ?_ ?_ | with_reducible refine wpAny_loadPart_at he ?_ | with_reducible refine lc.at ?_ | wp_step)
  · exact ⟨_, #[], _, (Heap.get?_update_ne _ _ _ _ hes.symm).trans (Heap.get?_push_at rfl rfl), rfl, fun q hq => absurd hq (by simp), fun _ => rfl⟩
  · intro h2 tk2 hn2 hsame
    have he1 : (hh.push { cls := .type "dict", data := .dict #[] }).get? e = some { cls := .ref C, data := .fields fv } := Heap.get?_push_of_some _ he
    refine done h2 tk2 hh.objs.size (fun b o hb ho => ?_) (Nat.le_refl _) hes.symm ?_ hn2
    · exact (hsame.2 b (Nat.ne_of_lt (Heap.lt_size ho))).trans ((Heap.get?_update_ne _ _ _ _ hb).trans (Heap.get?_push_of_some _ ho))
    · exact (hsame.2 e hes).trans (Heap.get?_update_self _ he1 rfl)
end
/-! ### the text of __init__ -/
def iA (p1 p2 : Pos) : Arguments := { posonlyargs := [], args := [{ arg := "self", annotation := none, pos := p1 }, { arg := "thing", annotation := none, pos := p2 }], vararg := none, kwonlyargs := [], kw_defaults := [], kwarg := none, defaults := [] }
def iB (q1 q2 q3 q4 : Pos) : List Stmt := [.Assign [.Attribute (.Name "self" q1) "thing" q2] (.Name "thing" q3) q4]
def iS : Scope := { kind := .function, names := [(PySem.Str.ofString "self", .local), (PySem.Str.ofString "thing", .local)], isGenerator := false, isCoroutine := false, more := [] }
/-- what the written part says of an own error's class x, at C, of its __init__ (called q), at fI, of ZonesError, at Z -/
structure ExTxt (K : Frag) (mg : Str → Option Value) (x q : Str) (C Z fI : Addr) : Prop where
  gC : mg x = some (.ref C)
  cls : ∃ nm qn N bs sn sub ab col dd k0 k1 k2 k3 k5, K.lookup C = some (excClassObj nm qn C N bs (behind Z) true sn sub ab col dd k0 k1 k2 k3 k5 "Exception.__new__")
  sa : findIn K (.ref C) "__setattr__" = some (some (.builtin "object.__setattr__"))
  ga : findIn K (.ref C) "__getattribute__" = some (some (.builtin "BaseException.__getattribute__"))
  gg : findIn K (.ref C) "__getattr__" = some none
  noN : findIn K (.ref C) "thing" = some none
  iC : findIn K (.ref C) "__init__" = some (some (.ref fI))
  tC : typeIn K (.ref fI) = some (.type "function")
  kC : keepIn K (.ref C) = true
  exC : subIn K (.ref C) (.type "BaseException") = some true
  tyC : typeIn K (.ref C) = some (.type "type")
  hdC : hasDictIn K C = true
  te : exmOne K (.ref C) (.ref C) = some true
  fn : ∃ (oc : Value) (od : Option Addr) (doc pm : Value) (an : Option Addr) (cdv ct : Value) (osl : Array (Option Value)) (p1 p2 q1 q2 q3 q4 : Pos),
    K.lookup fI = some ⟨oc, od, .func (fnOf "__init__" q (iA p1 p2) (iB q1 q2 q3 q4) iS .none .none doc pm an cdv ct), osl⟩ ∧ codeIn K cdv q = true
theorem single (v : Value) : [v].length ≤ sizeLine := by
  rw [sizeLine_eq]
  exact (by decide : 1 ≤ 16777216)
theorem ldN {M : Model} {s : Shared} {name : Str} {scope : Scope} {L a : Addr} {cd : Value} {m : Str → Option Value} {x : Str} {pos : Pos} {v : Value} {Q : Value → Shared → Prop} {A : Around} {E : Value → Shared → Prop} (hn : s.heap.Ns L m) (hv : m x = some v) (h : Q v s)
    (hk : scope.kind = .function := by rfl) (hl : (envOfC name scope L a cd).kindOf x = some .local := by rfl) (hd : (x == ("__debug__" : Str)) = false := by decide) :
    wpAny M A (eval (.Name x pos) (envOfC name scope L a cd)) Q E s := wpAny_Name (wpAny_loadName_local hk hl hn hv h) hd
/-- what __init__ leaves of a fresh exception at x -/
structure Told (h h' : Heap) (x C dx t1 : Addr) (v : Value) : Prop where
  keep : ∀ b o, b ≠ x → h.get? b = some o → h'.get? b = some o
  obj : h'.get? x = some { cls := .ref C, dict := some dx, data := .fields #[.ref t1, .none, .none, .none, .bool false, .none] }
  dbig : h.objs.size ≤ dx
  dne : dx ≠ x
  ns : h'.Ns1 dx (fun y => if y = "thing" then some v else none)
/-- a made one -/
structure Made (h h' : Heap) (e C d : Addr) (v : Value) : Prop where
  keep : ∀ b o, h.get? b = some o → h'.get? b = some o
  new : h.objs.size ≤ e
  obj : ∃ oe vs, h'.get? e = some oe ∧ oe.cls = .ref C ∧ oe.dict = some d ∧ oe.data = .fields vs ∧ vs[1]? = some .none
  dbig : h.objs.size ≤ d
  dne : d ≠ e
  ns : h'.Ns1 d (fun y => if y = "thing" then some v else none)
section
variable {prog : Program} {w : World} {A : Around} {E : Value → Shared → Prop} {R : Result → Shared → Prop} {s : Shared} {K : Frag} {mg : Str → Option Value} {x q : Str} {C Z fI : Addr}
theorem ze_init (T : ExTxt K mg x q C Z fI) {x t0 : Addr} {v : Value} (X : K.In s.heap) (hlim : s.heap.NoLimit) (hx : s.heap.get? x = some (excO C t0)) (hnx : K.lookup x = none) (hroom : A.depth < recursionLimit)
    (hq : ∀ h' tk dx, Told s.heap h' x C dx t0 v → R (.ok (.ret .none)) { s with heap := h', toks := tk }) :
    codeAny (model prog w) A (.call (.ref fI) ⟨[.ref x, v], []⟩) R s := by
  obtain ⟨oc, od, doc, pm, an, cdv, ct, osl, p1, p2, q1, q2, q3, q4, ho, hcd⟩ := T.fn
  obtain ⟨nm, qn, N, bs, sn, sub, ab, col, dd, k0, k1, k2, k3, k5, hC⟩ := T.cls
  have hcl : clsIn K C = some { name := nm, bases := bs, mro := .ref C :: behind Z, ns := N, qualname := qn, hasDict := true, slotNames := sn, subclasses := sub, abstract := ab, collection := col, hasDel := false } := by unfold clsIn; rw [hC] <;> rfl
  refine Att.call_fn (binds := [("self", .ref x), ("thing", v)]) X hlim ho hcd hroom (BindsTo.of_eq (by first | rfl | with_unfolding_all rfl)) (by first | rfl | decide | with_unfolding_all rfl) (fun s₁ IC => ?_) rfl rfl rfl
  obtain ⟨h₁, tk₁, rfl⟩ := IC.toInCall.same
  have k : ∀ b o, s.heap.get? b = some o → h₁.get? b = some o := IC.toInCall.keep
  have hn := IC.toInCall.ns
  have X₁ : K.In h₁ := X.keeps k
  have hx₁ := k _ _ hx
  show wpAny _ _ (execs _ _) _ _ _
  refine wpAny_execs_cons (plainObj_wpAny_Assign_Attribute ?_)
  refine ldN (v := v) hn (by first | rfl | with_unfolding_all rfl | kernel_rfl) (ldN (v := .ref x) hn (by first | rfl | with_unfolding_all rfl | kernel_rfl) ?_)
  refine set_plain X₁ (ox := excO C t0) (od := none) ⟨hx₁, rfl, rfl, trivial⟩ T.sa ?_
  refine osa_ze X₁ hx₁ hcl rfl rfl T.noN (fun h₃ tk₃ dx k₃ dn dne hx₃ hn₃ => ?_)
  show wpAny _ _ (execs _ _) _ _ _
  have z : s.heap.objs.size < h₁.objs.size := hn.lt
  exact wpAny_execs_nil (hq h₃ tk₃ dx ⟨fun b o hb e => k₃ b o hb (k b o e), hx₃, Nat.le_of_lt (Nat.lt_of_lt_of_le z dn), dne, hn₃⟩)
theorem ze_made (T : ExTxt K mg x q C Z fI) {v : Value} (X : K.In s.heap) (hlim : s.heap.NoLimit) (hroom : A.depth + 1 < recursionLimit)
    (hq : ∀ h' tk e d, Made s.heap h' e C d v → R (.ok (.ret (.ref e))) { s with heap := h', toks := tk }) :
    codeAny (model prog w) A (.call (.ref C) ⟨[v], []⟩) R s := by
  obtain ⟨nm, qn, N, bs, sn, sub, ab, col, dd, k0, k1, k2, k3, k5, hC⟩ := T.cls
  obtain ⟨hp, g, dr, tk, os⟩ := s
  have k : ∀ b o, hp.get? b = some o → ((hp.push (kdv_tup [v])).push (excO C hp.objs.size)).get? b = some o := fun b o e => Heap.get?_push_of_some _ (Heap.get?_push_of_some _ e)
  have hget : ((hp.push (kdv_tup [v])).push (excO C hp.objs.size)).get? (hp.objs.size + 1) = some (excO C hp.objs.size) := by heap_get
  have hnx : K.lookup (hp.objs.size + 1) = none := by
    cases e : K.lookup (hp.objs.size + 1) with
    | none => rfl
    | some o =>
      have z : hp.get? (hp.objs.size + 1) = some o := X _ _ e
      exact absurd (Nat.lt_of_succ_lt (Heap.lt_size z)) (Nat.lt_irrefl _)
  refine call_own F.excBase_Exception (behind_has Z) (X _ _ hC) (looks_findIn X T.iC) (fun self => bind_fn X self T.tC) (single v) ?_
  refine ze_init (s := ⟨(hp.push (kdv_tup [v])).push (excO C hp.objs.size), g, dr, tk, os⟩) T (X.keeps k) (hlim.keeps k) hget hnx ?_ fun h' tk' dx ⟨k', hx, dn, dne, hns⟩ => ?_
  · show A.depth + 1 < recursionLimit
    exact hroom
  · have old : ∀ b o, hp.get? b = some o → h'.get? b = some o := fun b o e => k' b o (Nat.ne_of_lt (Nat.lt_succ_of_lt (Heap.lt_size e))) (k b o e)
    have z : hp.objs.size + 1 + 1 ≤ dx := by
      first
        | (simpa only [Heap.size_push] using dn)
        | exact dn
        | (have q := dn; rw [Heap.size_push, Heap.size_push] at q; exact q)
    exact ⟨rfl, hq h' tk' (hp.objs.size + 1) dx ⟨old, Nat.le_succ _, ⟨_, _, hx, rfl, rfl, rfl, rfl⟩, Nat.le_trans (Nat.le_trans (Nat.le_succ _) (Nat.le_succ _)) z, dne, hns⟩⟩
end
end Zx
end PySem
namespace Zo
open PySem PySem.Spec PyProof.Rows L2
open PySem.Zx (ExTxt)
theorem relO_thing {v : V} {v' : Value} (r : RelV v v') (f : Str) : RelO (List.lookup f [(("thing" : Str), v)]) (if f = "thing" then some v' else none) := by
  by_cases hw : f = "thing"
  · subst hw
    rw [if_pos rfl]
    have q : List.lookup ("thing" : Str) [(("thing" : Str), v)] = some v := by simp [List.lookup]
    rw [q]
    exact r
  · rw [if_neg hw]
    have qw : (f == ("thing" : Str)) = false := by simpa using hw
    have q2 : List.lookup f [(("thing" : Str), v)] = none := by simp [List.lookup, qw]
    rw [q2]
    trivial
section
variable {X : Cx} {x q : Str} {C Z fI : Addr}
/-- BadX(e) -/
def tMkZ (C : Addr) (ta : TA) : L2.St → Hp → XK → Prop := fun σ H Q => ta σ H fun vs H1 => ∃ v, vs = [v] ∧ ∀ d, H1 d = none → Q (.ref C) (some d) (upd H1 d (.xd [(("thing" : Str), v)]))
theorem pmk_ze {a : Expr} {ta : TA} {p pos : Pos} {k : Nat} (T : ExTxt X.K X.mg x q C Z fI) (hr : Room k X.A) (ha : PA X [a] ta) (hg : Gl X x) (hdb : (x == ("__debug__" : Str)) = false := by decide)
    (he : starEach (a :: []) X.env = (false, eval a X.env) :: starEach [] X.env := by rfl) (hpl : (backTo pos (starEach [] X.env)).any (·.1) = false := by rfl) :
    PMk X (.Call (.Name x p) [a] [] pos) (tMkZ C ta) := by
  intro pins s σ H Q I h
  refine wpAny_Call_Name_kw (ld_glob I hg T.gC ?_ hdb)
  refine PySem.W.callWith_K (h₀ := X.base) I.ok.mod.kin T.kC (thn (ha.run pos pins s σ H _ I h) fun us s1 hh => ?_) he hpl
  obtain ⟨vs, H1, I1, r1, v, ev, q1⟩ := hh
  subst ev
  refine ⟨I1.kIn, ?_⟩
  cases r1 with
  | cons rv rn =>
    rename_i v' us'
    cases rn
    show wpAny _ _ (call (.ref C) [v']) _ _ _
    have hlim := I1.nolimit
    obtain ⟨hp, g, dr, tk, os⟩ := s1
    refine wpAny_call (PySem.Zx.ze_made T I1.kIn hlim (by have := hr.dp; omega) fun h' tk' e d M => ?_)
    show MkP X pins σ Q (.ref e) ⟨h', g, dr, tk', os⟩
    obtain ⟨oe, fv, hoe, hc, hd, hdat, h1⟩ := M.obj
    have hns := M.ns
    obtain ⟨G', g1, g2⟩ := restrict h' fun b => decide (b ≠ e)
    have gk : ∀ b, b ≠ e → G'.get? b = h'.get? b := fun b hb => g1 b (decide_eq_true hb)
    have ge : G'.get? e = none := g2 e (by simp)
    have old : ∀ b o, hp.get? b = some o → G'.get? b = some o := fun b o q => (gk b (Nat.ne_of_lt (Nat.lt_of_lt_of_le (Heap.lt_size q) M.new))).trans (M.keep b o q)
    have ob : ObjOk X.prog X.w (upd H1 d (.xd [(("thing" : Str), v)])) G' d (.xd [(("thing" : Str), v)]) :=
      ⟨_, hns.at (fun o q => (gk d M.dne).trans q), fun f => relO_thing rv f⟩
    have J : Inv X pins σ (upd H1 d (.xd [(("thing" : Str), v)])) ⟨G', g, dr, tk', os⟩ := I1.laid (t' := tk') old M.dbig ob
    refine ⟨e, oe, fv, ⟨G', g, dr, tk', os⟩, _, .ref C, some d, rfl, J, fun b o q => ?_, ge, hoe, ⟨hc, hd⟩, hdat, h1, ?_, rfl, I1.bare, raises_own T.exC T.tyC, q1 d (I1.hok.fresh M.dbig)⟩
    · by_cases hb : b = e
      · have q' : G'.get? b = some o := q
        rw [hb, ge] at q'; cases q'
      · exact (gk b hb).symm.trans q
    · rw [upd_ne (Ne.symm M.dne)]
      exact I1.hok.fresh M.new
/-- raise BadX(e) -/
def raiseS (c : Nat) (a : Ev) : Ex := fun s => (a s).bind fun d s1 => .exc c d s1
theorem ss_raise {cl : Nat → Addr} {W : WX} {m : Bool} {a : Expr} {ev : Ev} {p pos pos2 : Pos} {k : Nat} (c : Nat) (hc : X.calm = true) (T : ExTxt X.K X.mg x q (cl c) Z fI) (hr : Room k X.A) (tk : Takes X W) (ha : SE cl X W m a ev) (hg : Gl X x) (hdb : (x == ("__debug__" : Str)) = false := by decide)
    (he : starEach (a :: []) X.env = (false, eval a X.env) :: starEach [] X.env := by rfl) (hpl : (backTo pos (starEach [] X.env)).any (·.1) = false := by rfl) :
    SS cl X W (.Raise (some (.Call (.Name x p) [a] [] pos)) none pos2) (raiseS c ev) :=
  ps_imp (ps_raise hc tk (pmk_ze T hr (pa_cons ha pa_nil he) hg hdb he hpl)) fun Dn σ H ⟨fm, Xs, os, s, r, g⟩ => by
    unfold raiseS at g
    refine ⟨fm, Xs, os, s, r, ?_⟩
    cases q : ev s with
    | ok d s1 =>
      rw [q] at g
      simp only [Out.bind_ok] at g
      refine fun v H1 r1 st1 p1 => ⟨v, rfl, fun dd hd => ?_⟩
      exact g Xs os σ v dd _ (r1.laid hd) (Rp.stay (M := []) (Stay.laid hd) (fun a h => absurd h (by simp)) d v p1) upd_same
    | exc c t s1 => rw [q] at g; exact g Xs os σ
    | no => rw [q] at g; exact g.elim
/-! ### caught -/
/-- e.thing, e the exception that the suite holds -/
def tThing (C : Addr) (a : Addr) (cls : Value) (d : Option Addr) (te : TE) : TE := fun σ H Q => te σ H fun x H1 => x = .ref a ∧ cls = .ref C ∧ ∃ (dd : Addr) (v : V), d = some dd ∧ H1 dd = some (.xd [(("thing" : Str), v)]) ∧ Q v H1
theorem pe_thing {a : Addr} {oe : Obj} {cls : Value} {d : Option Addr} {pn : List (Addr × Obj)} {e : Expr} {te : TE} {pos : Pos} (T : ExTxt X.K X.mg x q C Z fI) (hz : Zc cls d oe) (hf : ∃ vs, oe.data = .fields vs) (he : PE (X.suite a ((a, oe) :: pn)) e te)
    (hb : attributeBase e "thing" X.env (eval e X.env) = eval e X.env := by rfl) :
    PE (X.suite a ((a, oe) :: pn)) (.Attribute e "thing" pos) (tThing C a cls d te) := by
  refine ⟨fun pins s σ H Q I h => ?_⟩
  refine attr_of hb (thn (he.run pins s σ H _ I h) fun u s1 hh => ?_)
  obtain ⟨x, H1, I1, rx, ex, ec, dd, v, ed, ea, q⟩ := hh
  subst ex
  obtain rfl : u = Value.ref a := rx
  subst ec
  subst ed
  obtain ⟨ha, _⟩ := I1.pin (a, oe) (List.mem_append_left _ List.mem_cons_self)
  obtain ⟨vs, hd⟩ := hf
  have hx : ObjOk X.prog X.w H1 s1.heap dd (.xd [(("thing" : Str), v)]) := I1.hok dd _ ea
  obtain ⟨mA, hns, hr⟩ := hx
  obtain ⟨od, ho, hl⟩ := lookIn_ns hns
  have l : List.lookup ("thing" : Str) [(("thing" : Str), v)] = some v := by simp [List.lookup]
  obtain ⟨u, hu, ru⟩ := RelO.some_of (v := v) (o := mA "thing") (by rw [← l]; exact hr "thing")
  have J : PySem.W.InstAt s1.heap a oe C (some od) := ⟨ha, hz.1, by unfold PySem.W.notCls; rw [hd] <;> rfl, by rw [hz.2]; exact ho⟩
  exact HandSPX.exc_get I1.kIn J T.ga T.gg T.exC (PySem.W.findObj_own T.hdC T.noN rfl (by rw [hl, hu])) (handed_of ru) ⟨v, H1, I1.tok _, ru, q⟩
/-- isinstance asks an error's class so -/
structure ExIs (K : PySem.W.Frag) (C : Addr) : Prop where
  ha : PySem.W.findIn K (.ref C) "__class__" = some (some (.builtin "object.__class__"))
  hn : PySem.W.specialIn K (.builtin "object.__class__") "__get__" = some (some (.builtin "getset_descriptor.__get__"))
  ht : PySem.W.takesIn K (.builtin "object.__class__") = some true
  hm : PySem.W.mroIn K C (.type "object") = some true
/-- isinstance(e, ZonesError) -/
def rIsZ (C : Addr) (Z : Addr) (cls : Value) (d : Option Addr) (a : Addr) : List V → Hp → VK → Prop := fun xs H Q => xs = [.ref a, .ref Z] ∧ cls = .ref C ∧ (∃ dd v, d = some dd ∧ H dd = some (.xd [(("thing" : Str), v)])) ∧ Q (.bl true) H
theorem call_isZ {a : Addr} {oe : Obj} {cls : Value} {d : Option Addr} {pn : List (Addr × Obj)} (T : ExTxt X.K X.mg x q C Z fI) (S : ExIs X.K C) (hk : PySem.W.kitOne X.K (.ref C) (.ref Z) = some true) (hz : Zc cls d oe) (hf : ∃ vs, oe.data = .fields vs) :
    CallR (X.suite a ((a, oe) :: pn)) (.builtin "isinstance") (rIsZ C Z cls d a) := by
  intro pins s σ H xs us Q I r h
  obtain ⟨rfl, ec, ⟨dd, v, ed, ea⟩, q⟩ := h
  subst ec ed
  cases r with
  | cons rx rr =>
    cases rr with
    | cons rt rr =>
      cases rr
      cases rx
      cases rt
      obtain ⟨hget, _⟩ := I.pin (a, oe) (List.mem_append_left _ List.mem_cons_self)
      obtain ⟨vs, hd⟩ := hf
      have hx : ObjOk X.prog X.w H s.heap dd (.xd [(("thing" : Str), v)]) := I.hok dd _ ea
      obtain ⟨mA, hns, hr⟩ := hx
      obtain ⟨od, ho, hl⟩ := lookIn_ns hns
      have J : PySem.W.InstAt s.heap a oe C (some od) := ⟨hget, hz.1, by unfold PySem.W.notCls; rw [hd] <;> rfl, by rw [hz.2]; exact ho⟩
      have hcl : (PySem.W.clsIn X.K C).isSome = true := by
        obtain ⟨cd, hc, _⟩ := PySem.W.any_some T.hdC
        rw [hc]; rfl
      exact PySem.W.kia_one (PySem.W.kitx_exc hcl T.ga T.gg T.exC S.ha S.hn S.ht S.hm) I.kIn J hk (fun z => nomatch z) fun tk => ⟨.bl true, H, I.kept (t' := tk) fun _ _ z => z, rfl, q⟩
/-- return (w, e.thing, isinstance(e, ZonesError)) -/
def heardS (c : Nat) (w : Str) (i : Nat) (b : Ex) : Ex := fun s => match b s with
  | .exc c' t s1 => if c' = c then (match s1.env[i]? with
    | some .un => .ok (.rt (.tuple [.str w, t, .bool true])) s1
    | _ => .no) else .no
  | o => o
theorem ss_heard {cl : Nat → Addr} {Wout : WX} {w n : Str} {i c : Nat} {body : List Stmt} {b : Ex} {pos pos' np p1 p2 p3 p4 p5 p6 p7 p8 p9 : Pos} {j k : Nat}
    (hs : X.stack = X.env :: X.outer) (hf : X.env.frame = some X.env.locals) (hN : X.N.Nodup) (hi : X.N[i]? = some n) (hln : X.env.kindOf n = some .local) (hc : Names X x (.ref (cl c))) (tk : Takes X Wout)
    (T : ExTxt X.K X.mg x q (cl c) Z fI) (S : ExIs X.K (cl c)) (hk : PySem.W.kitOne X.K (.ref (cl c)) (.ref Z) = some true) (hZ : X.mg "ZonesError" = some (.ref Z)) (gZ : Gl X "ZonesError") (hgi : Gl X "isinstance") (hmi : X.mg "isinstance" = none) (hnl : Loc X.env.scope n)
    (hfn : X.fn n = true ∨ X.env.scope.names.lookup n = some .local)
    (hb : ∀ (W : WX) (pn : List (Addr × Obj)) (xe : Value → Shared → Prop), Takes (X.tr pn xe) W → PassesOwn (model X.prog X.w) X.A X.env xe → SSs cl (X.tr pn xe) W body b)
    (hv : ∀ (a : Addr) (oe : Obj) (pn : List (Addr × Obj)) (p : Pos), PE (X.suite a ((a, oe) :: pn)) (.Name n p) (tVar i)) :
    SS cl X Wout (.Try body [.ExceptHandler (some (.Name x np)) (some n) [.Return (some (.Tuple [.Constant (.str w) j p1, .Attribute (.Name n p2) "thing" p3, .Call (.Name "isinstance" p4) [.Name n p5, .Name "ZonesError" p6] [] p7] k p8)) p9] pos'] [] [] pos) (heardS c w i b) := by
  refine ps_imp (ps_try_as (i := i) (tb := fun W => tS X.K cl W b) (ts := fun a cls d => tRet (tTupF (tCons (tC (.str w)) (tCons (tThing (cl c) a cls d (tVar i)) (tCons (tCB (rIsZ (cl c) Z cls d a) (tCons (tVar i) (tCons (tC (.ref Z)) tNil))) tNil))))) (Wout := Wout) hs hf hN hi hln hc tk hb ?_) ?_
  · intro a oe cls d pn hz hvs
    refine pss_one (ps_ret (pe_tupF (pa_cons pe_str (pa_cons (pe_thing T hz hvs (hv a oe pn p2)) (pa_cons (pe_callB (call_isZ T S hk hz hvs) hgi hmi PyProof.Rows.boot_isinstance (pa_cons (hv a oe pn p5) (pa_cons ?_ pa_nil))) pa_nil)))))
    exact pe_glob (v := V.ref Z) gZ hZ rfl
  · intro Dn σ H ⟨fm, Xs, os, s, r, g⟩
    refine ⟨fm, Xs, os, s, r, ?_⟩
    unfold heardS at g
    cases qb : b s with
    | ok fl s1 => rw [qb] at g; exact g
    | no => rw [qb] at g; exact g.elim
    | exc c' t s1 =>
      rw [qb] at g
      dsimp only at g
      split at g
      · rename_i ec
        subst ec
        split at g
        · rename_i hun
          intro X' os' σ' v dd H' r' pv hd
          refine ⟨true, T.te, fun _ a na => ?_, fun z => Bool.noConfusion z⟩
          have hlt : i < σ'.length := by
            rw [← r'.len]
            exact (List.getElem?_eq_some_iff.mp hun).1
          have hget : (σ'.set i (some (.ref a)))[i]? = some (some (.ref a)) := List.getElem?_set_self hlt
          refine ⟨_, hget, rfl, rfl, dd, v, rfl, hd, _, hget, rfl, rfl, ⟨dd, v, rfl, hd⟩, size1000 (show 3 ≤ 1000 by decide), fun p o hp hdo => ?_⟩
          refine g X' os' σ' _ (r'.laid hp) _ ?_
          exact ⟨p, _, rfl, .inl ⟨⟨o, upd_same, hdo⟩, r'.nx hp⟩, ⟨_, _, rfl, rfl, v, _, rfl, Rp.stay (M := []) (Stay.laid hp) (fun a h => absurd h (by simp)) t v pv, _, [], rfl, rfl, rfl⟩⟩
        · exact g.elim
      · exact g.elim
end
end Zo
/-! ZK: the law's deck: a draw. -/
namespace Zo
open PySem PySem.Spec PyProof.Rows L2
def top (i : Nat) : Stmt := PySem.Challenge.pw_zonestold_k15_values_of_expressions.main.body.getD i (.Pass ⟨0, 0, 0, 0⟩)
abbrev sDraw : Stmt := top 24
def drawA (c t : Int) : Int := (c % 2147483629 + 60013 * t * t + 47) * 40692 % 2147483647
def drawB (m t : Int) : Int := (m * m + 69997 * t + 31) % 2147483587
def drawV (c t b : Int) : Int := drawB (drawA c t) t * 39373 % 2147483563 / 64 % b
/-- _law_draw -/
def drawK (b : Int) (k : Dk) : Rd := if 0 < b ∧ b < 1000000000 ∧ 0 ≤ k.turn ∧ k.turn < 1000000000000 then
      (match k.cells.getLast? with
      | some c => if 10 ^ 18 ≤ c then .ok (.int (c % b)) { k with cells := k.cells.dropLast ++ [c / (if b > 2 then b else 2)], turn := k.turn + 1 }
        else .ok (.int (drawV (c + k.mixed) (k.turn + 1) b)) { k with cells := k.cells.dropLast, turn := k.turn + 1 }
      | none => .ok (.int (drawV k.mixed (k.turn + 1) b)) { k with turn := k.turn + 1 })
    else .no
def drawF : List D → Dk → Rd
  | [.int b], k => drawK b k
  | _, _ => .no
def dkv (kc : Addr) (m t : Int) : List (Key × V) := [(.inr "cells", .ref kc), (.inr "mixed", .int m), (.inr "turn", .int t)]
theorem ne_ct : ¬ (Str.ofString "cells" = Str.ofString "turn") := by decide +kernel
theorem ne_mt : ¬ (Str.ofString "mixed" = Str.ofString "turn") := by decide +kernel
theorem ne_cm : ¬ (Str.ofString "cells" = Str.ofString "mixed") := by decide +kernel
theorem dkv_put (kc : Addr) (m t u : Int) : putK (dkv kc m t) (.inr "turn") (.int u) = dkv kc m u := by
  simp [putK, dkv, ne_ct, ne_mt]
theorem dkv_c (kc : Addr) (m t : Int) : valV (dkv kc m t) (.inr "cells") = some (.ref kc) := rfl
theorem dkv_m (kc : Addr) (m t : Int) : valV (dkv kc m t) (.inr "mixed") = some (.int m) := by simp [valV, dkv, List.find?, ne_cm]
theorem dkv_t (kc : Addr) (m t : Int) : valV (dkv kc m t) (.inr "turn") = some (.int t) := by simp [valV, dkv, List.find?, ne_ct, ne_mt]
theorem dget_c {H : Hp} {kd kc : Addr} {m t : Int} (h : H kd = some (.dK (dkv kc m t))) : DGet H kd (.str "cells") (some (.ref kc)) := by
  have := DGet.k (k := .inr "cells") h
  rw [dkv_c] at this
  exact this
theorem dget_m {H : Hp} {kd kc : Addr} {m t : Int} (h : H kd = some (.dK (dkv kc m t))) : DGet H kd (.str "mixed") (some (.int m)) := by
  have := DGet.k (k := .inr "mixed") h
  rw [dkv_m] at this
  exact this
theorem dget_t {H : Hp} {kd kc : Addr} {m t : Int} (h : H kd = some (.dK (dkv kc m t))) : DGet H kd (.str "turn") (some (.int t)) := by
  have := DGet.k (k := .inr "turn") h
  rw [dkv_t] at this
  exact this
/-! ### readings -/
abbrev xCells : TE := tDGet (tVar 0) (tC (.str "cells"))
abbrev xMixed : TE := tDGet (tVar 0) (tC (.str "mixed"))
abbrev xTurn : TE := tDGet (tVar 0) (tC (.str "turn"))
abbrev tN (i : Int) : TE := tC (.int i)
abbrev rAddI : R2 := rI0 fun i j => .int (i + j)
abbrev rMulI : R2 := rI CMul fun i j => .int (i * j)
abbrev rModI : R2 := rI (fun _ j => 0 < j) fun i j => .int (i % j)
abbrev rDivI : R2 := rI CDivW fun i j => .int (i / j)
/-- (cell % 2147483629 + 60013 * turn * turn + 47) * 40692 % 2147483647 -/
abbrev xA : TE := tOp rModI (tOp rMulI (tOp rAddI (tOp rAddI (tOp rModI (tVar 2) (tN 2147483629)) (tOp rMulI (tOp rMulI (tN 60013) xTurn) xTurn)) (tN 47)) (tN 40692)) (tN 2147483647)
abbrev xB : TE := tOp rModI (tOp rAddI (tOp rAddI (tOp rMulI (tVar 3) (tVar 3)) (tOp rMulI (tN 69997) xTurn)) (tN 31)) (tN 2147483587)
abbrev xV : TE := tOp rModI (tOp rDivI (tOp rModI (tOp rMulI (tVar 3) (tN 39373)) (tN 2147483563)) (tN 64)) (tVar 1)
abbrev xInt : List V → Hp → VK → Prop := fun xs H Q => (∃ i, xs = [.int i] ∧ Q (.int i) H) ∨ ∃ k, xs = [.bl k] ∧ Q (.int (if k then 1 else 0)) H
abbrev xMax : List V → Hp → VK → Prop := fun xs H Q => ∃ i j, xs = [.int i, .int j] ∧ Q (.int (if j > i then j else i)) H
abbrev t_draw (K : Fr) : TS :=
  tSeq (sDPut (tVar 0) (tC (.str "turn")) (tOp rAddI xTurn (tN 1)))
  (tSeq (tAsg xMixed (gName 2))
  (tSeq (tIfS (tTest (tOp (rNeD K) xCells (tLst tNil)))
    (tSeq (tAsg (tBM0 K "list" rPop xCells) (gName 2))
    (tSeq (tIfS (tTest (tOp (rI0 fun i j => .bl (decide (j ≤ i))) (tVar 2) (tOp (rI CPow fun i j => .int (i ^ j.toNat)) (tN 10) (tN 18))))
      (tSeq (tDrop (tBM K "list" rAppend xCells (tCons (tOp rDivI (tVar 2) (tCB xMax (tCons (tN 2) (tCons (tVar 1) tNil)))) tNil)))
        (tRet (tCB xInt (tCons (tOp rModI (tVar 2) (tVar 1)) tNil)))) tNext)
    (tAsg (tOp rAddI (tVar 2) xMixed) (gName 2)))) tNext)
  (tSeq (tAsg xA (gName 3)) (tSeq (tAsg xB (gName 3)) (tRet (tCB xInt (tCons xV tNil)))))))
theorem cdivw {i j : Int} (h : 0 < j) (h2 : j < 1000000000) : CDivW i j := wide_div (b := 30) h (by
  have : (j.natAbs : Int) = j := Int.natAbs_of_nonneg (by omega)
  omega) (by decide) (by decide)
theorem cmul1 {i j : Int} (h : 0 ≤ i) (h2 : i < 2 ^ 62) : CMul i j := .inl ⟨by omega, by omega⟩
theorem cmul2 {i j : Int} (h : 0 ≤ j) (h2 : j < 2 ^ 62) : CMul i j := .inr ⟨by omega, by omega⟩
theorem mod_lt0 (a : Int) {b : Int} (h : 0 < b) : 0 ≤ a % b ∧ a % b < b := ⟨Int.emod_nonneg a (by omega), Int.emod_lt_of_pos a h⟩
/-- the reading gives the value, nothing is changed -/
def Gives (te : TE) (σ : L2.St) (H : Hp) (v : V) : Prop := ∀ Q : VK, Q v H → te σ H Q
section
variable {σ : L2.St} {H : Hp} {ta tb : TE} {a b : Int}
theorem g_var {i : Nat} {v : V} (h : σ[i]? = some (some v)) : Gives (tVar i) σ H v := fun Q q => ⟨v, h, q⟩
theorem g_c (v : V) : Gives (tC v) σ H v := fun Q q => q
theorem g_op0 {g : Int → Int → V} (h1 : Gives ta σ H (.int a)) (h2 : Gives tb σ H (.int b)) : Gives (tOp (rI0 g) ta tb) σ H (g a b) := fun Q q => h1 _ (h2 _ ⟨a, b, rfl, rfl, q⟩)
theorem g_op {C : Int → Int → Prop} {g : Int → Int → V} (h1 : Gives ta σ H (.int a)) (h2 : Gives tb σ H (.int b)) (c : C a b) : Gives (tOp (rI C g) ta tb) σ H (g a b) := fun Q q => h1 _ (h2 _ ⟨a, b, rfl, rfl, c, q⟩)
theorem g_dget {kd : Addr} {x : Str} {v : V} (h0 : σ[0]? = some (some (.ref kd))) (h : DGet H kd (.str x) (some v)) : Gives (tDGet (tVar 0) (tC (.str x))) σ H v := fun Q q => ⟨_, h0, kd, v, rfl, h, q⟩
end
theorem g_A {σ : L2.St} {H : Hp} {kd kc : Addr} {m t c : Int} (h : H kd = some (.dK (dkv kc m t))) (h0 : σ[0]? = some (some (.ref kd))) (h2 : σ[2]? = some (some (.int c))) (ht : 0 ≤ t) (ht2 : t < 1000000000001) : Gives xA σ H (.int (drawA c t)) := by
  have gt : Gives xTurn σ H (.int t) := g_dget h0 (dget_t h)
  exact g_op (g_op (g_op0 (g_op0 (g_op (g_var h2) (g_c _) (by decide)) (g_op (g_op (g_c _) gt (cmul1 (by decide) (by decide))) gt (cmul2 ht (by omega)))) (g_c _)) (g_c _) (cmul2 (by decide) (by decide))) (g_c _) (by decide)
theorem g_B {σ : L2.St} {H : Hp} {kd kc : Addr} {m t c : Int} (h : H kd = some (.dK (dkv kc m t))) (h0 : σ[0]? = some (some (.ref kd))) (h3 : σ[3]? = some (some (.int c))) (hc : 0 ≤ c) (hc2 : c < 2147483647) : Gives xB σ H (.int (drawB c t)) := by
  have gt : Gives xTurn σ H (.int t) := g_dget h0 (dget_t h)
  exact g_op (g_op0 (g_op0 (g_op (g_var h3) (g_var h3) (cmul1 hc (by omega))) (g_op (g_c _) gt (cmul1 (by decide) (by decide)))) (g_c _)) (g_c _) (by decide)
theorem g_V {σ : L2.St} {H : Hp} {b c : Int} (h1 : σ[1]? = some (some (.int b))) (h3 : σ[3]? = some (some (.int c))) (hb : 0 < b) : Gives xV σ H (.int (c * 39373 % 2147483563 / 64 % b)) :=
  g_op (g_op (g_op (g_op (g_var h3) (g_c _) (cmul2 (by decide) (by decide))) (g_c _) (by decide)) (g_c _) (cdivw (by decide) (by decide))) (g_var h1) hb
/-- the last three rows -/
theorem pure_tail {σ : L2.St} {H : Hp} {kd kc : Addr} {m t b c : Int} {Q : VK} {N : L2.St → Hp → Prop} (hl : σ.length = 4) (h : H kd = some (.dK (dkv kc m t))) (h0 : σ[0]? = some (some (.ref kd))) (h1 : σ[1]? = some (some (.int b))) (h2 : σ[2]? = some (some (.int c))) (hb : 0 < b) (ht : 0 ≤ t) (ht2 : t < 1000000000001) (q : Q (.int (drawV c t b)) H) {bk ct : L2.St → Hp → Prop} :
    tSeq (tAsg xA (gName 3)) (tSeq (tAsg xB (gName 3)) (tRet (tCB xInt (tCons xV tNil)))) { nx := N, rt := Q, bk := bk, ct := ct } σ H := by
  have hA := mod_lt0 ((c % 2147483629 + 60013 * t * t + 47) * 40692) (b := 2147483647) (by decide)
  have s0 : ∀ v, (σ.set 3 v)[0]? = σ[0]? := fun v => List.getElem?_set_ne (by decide)
  have s1 : ∀ v, (σ.set 3 v)[1]? = σ[1]? := fun v => List.getElem?_set_ne (by decide)
  have s3 : ∀ (τ : L2.St) v, τ.length = 4 → (τ.set 3 v)[3]? = some v := fun τ v h => List.getElem?_set_self (by omega)
  refine g_A h h0 h2 ht ht2 _ ?_
  show tSeq (tAsg xB (gName 3)) (tRet (tCB xInt (tCons xV tNil))) _ (σ.set 3 (some (.int (drawA c t)))) H
  refine g_B h (by rw [s0]; exact h0) (s3 _ _ hl) hA.1 hA.2 _ ?_
  show tRet (tCB xInt (tCons xV tNil)) _ ((σ.set 3 (some (.int (drawA c t)))).set 3 (some (.int (drawB (drawA c t) t)))) H
  rw [List.set_set]
  exact g_V (by rw [s1]; exact h1) (s3 _ _ hl) hb _ (.inl ⟨_, rfl, q⟩)
theorem dp_ints {K : Fr} {H : Hp} {a : Addr} {is : List Int} (h : H a = some (.lst (is.map V.int))) : Dp K H (.ref a) (.list (is.map PyData.int)) := by
  refine .lst (SqL.of h) ?_
  clear h
  induction is with
  | nil => exact .nil
  | cons i is ih => exact .cons (.int i) ih
theorem shapedI (is : List Int) : SeqAt.shaped (.list (is.map PyData.int)) = true := PySem.W.shaped_ints is
theorem eqv_ints (is : List Int) : PyData.eqv (.list (is.map PyData.int)) (.list []) = is.isEmpty := by
  cases is <;> rfl
theorem pure_draw {K : Fr} (vs : List V) (H : Hp) (Q : VK) (E : XK) (h : spD K 1 drawF vs H Q E) : t_draw K { nx := fun _ H' => Q .non H', rt := Q } (start ["deck", "below", "cell", "mixed"] vs) H := by
  obtain ⟨kd, kc, ws, Xs, ds, k, rfl, ra, hl, xt, m1, m2, hk, hm⟩ := h
  obtain ⟨hne, hkd, hkc, hlen⟩ := hk
  match ds, hl with
  | [d], _ =>
  obtain ⟨v, r, e, pv, er⟩ := ra
  subst e
  cases er
  cases d with
  | int b =>
    have ev : v = .int b := pv
    subst ev
    have hm : match drawK b k with
      | .ok d k' => ∀ v H', Stay [kd, kc] H H' → DkAt H' kd kc k' → Rp K H' Xs d v → Q v H'
      | .no => False := hm
    unfold drawK at hm
    by_cases hc : 0 < b ∧ b < 1000000000 ∧ 0 ≤ k.turn ∧ k.turn < 1000000000000
    · rw [if_pos hc] at hm
      obtain ⟨hb, hb2, ht, ht2⟩ := hc
      have h1 : H kd = some (.dK (dkv kc k.mixed k.turn)) := hkd
      refine g_op0 (g_dget rfl (dget_t h1)) (g_c _) _ ⟨_, rfl, kd, _, rfl, DPut.k (k := .inr "turn") h1 (by show 3 < sizeLine; decide), ?_⟩
      rw [dkv_put]
      have h2 : (upd H kd (.dK (dkv kc k.mixed (k.turn + 1)))) kd = some (.dK (dkv kc k.mixed (k.turn + 1))) := upd_same
      have h2c : (upd H kd (.dK (dkv kc k.mixed (k.turn + 1)))) kc = some (.lst (k.cells.map V.int)) := by rw [upd_ne (Ne.symm hne)]; exact hkc
      have st2 : Stay [kd, kc] H (upd H kd (.dK (dkv kc k.mixed (k.turn + 1)))) := Stay.put (by simp)
      refine g_dget rfl (dget_m h2) _ ?_
      show tSeq _ _ _ [some (.ref kd), some (.int b), some (.int k.mixed), none] _
      refine g_dget rfl (dget_c h2) _ ?_
      refine ⟨by show 0 ≤ sizeLine; decide, fun p hp => ?_⟩
      have st3 : Stay [kd, kc] H (upd (upd H kd (.dK (dkv kc k.mixed (k.turn + 1)))) p (.lst [])) := st2.trans (Stay.laid hp)
      have h3 := h2
      rw [← upd_ne (H := upd H kd (.dK (dkv kc k.mixed (k.turn + 1)))) (o := .lst []) (ne_of_none h2 hp)] at h3
      have h3c := h2c
      rw [← upd_ne (H := upd H kd (.dK (dkv kc k.mixed (k.turn + 1)))) (o := .lst []) (ne_of_none h2c hp)] at h3c
      have h3p : (upd (upd H kd (.dK (dkv kc k.mixed (k.turn + 1)))) p (.lst [])) p = some (.lst (([] : List Int).map V.int)) := upd_same
      generalize hH : upd (upd H kd (.dK (dkv kc k.mixed (k.turn + 1)))) p (.lst []) = H3 at *
      refine ⟨.list (k.cells.map PyData.int), .list (([] : List Int).map PyData.int), dp_ints h3c, dp_ints h3p, shapedI _, shapedI _, !k.cells.isEmpty, by rw [show (([] : List Int).map PyData.int) = [] from rfl, eqv_ints], ?_⟩
      cases hlast : k.cells.getLast? with
      | none =>
        have he : k.cells = [] := by simpa using hlast
        rw [hlast] at hm
        rw [if_neg (by rw [he]; simp)]
        refine pure_tail rfl h3 rfl rfl rfl hb (by omega) (by omega) ?_
        exact hm _ H3 st3 ⟨hne, h3, h3c, hlen⟩ rfl
      | some c =>
        have hnil : k.cells ≠ [] := fun z => by rw [z] at hlast; cases hlast
        have hget : (k.cells.map V.int)[(k.cells.map V.int).length - 1]? = some (V.int c) := by
          rw [List.length_map, List.getElem?_map, ← List.getLast?_eq_getElem?, hlast]
          rfl
        rw [hlast] at hm
        dsimp only at hm
        rw [if_pos (by simp [hnil])]
        refine g_dget rfl (dget_c h3) _ ⟨.inl ⟨rfl, _, SqL.of h3c⟩, kc, _, _, rfl, rfl, h3c, hget, ?_⟩
        have hdl : (k.cells.map V.int).dropLast = k.cells.dropLast.map V.int := by rw [List.map_dropLast]
        rw [hdl]
        have st4 : Stay [kd, kc] H (upd H3 kc (.lst (k.cells.dropLast.map V.int))) := st3.trans (Stay.put (by simp))
        have h4 : (upd H3 kc (.lst (k.cells.dropLast.map V.int))) kd = some (.dK (dkv kc k.mixed (k.turn + 1))) := by rw [upd_ne hne]; exact h3
        have h4c : (upd H3 kc (.lst (k.cells.dropLast.map V.int))) kc = some (.lst (k.cells.dropLast.map V.int)) := upd_same
        generalize hH4 : upd H3 kc (.lst (k.cells.dropLast.map V.int)) = H4 at *
        show tSeq _ _ _ [some (.ref kd), some (.int b), some (.int c), none] H4
        refine g_op0 (g_var rfl) (g_op (g_c _) (g_c _) ⟨by decide, by decide, by decide⟩) _ ⟨_, rfl, ?_⟩
        by_cases hbig : 10 ^ 18 ≤ c
        · rw [if_pos hbig] at hm
          rw [if_pos (decide_eq_true (by simpa using hbig))]
          have hmax : 0 < (if b > 2 then b else 2) ∧ (if b > 2 then b else 2) < 1000000000 := by split <;> omega
          refine g_dget rfl (dget_c h4) _ ⟨.inl ⟨rfl, _, SqL.of h4c⟩, ?_⟩
          refine g_op (g_var rfl) (show Gives (tCB xMax (tCons (tN 2) (tCons (tVar 1) tNil))) _ _ _ from fun Q q => ⟨_, rfl, 2, b, rfl, q⟩) (cdivw hmax.1 hmax.2) _ ?_
          have hlen5 : (k.cells.dropLast.map V.int).length < 1000 := by
            rw [List.length_map, List.length_dropLast]
            have : 0 < k.cells.length := List.length_pos_iff.mpr hnil
            omega
          refine ⟨kc, _, _, rfl, rfl, h4c, Nat.lt_of_lt_of_le hlen5 (size1000 (Nat.le_refl _)), ?_⟩
          show tRet (tCB xInt (tCons (tOp rModI (tVar 2) (tVar 1)) tNil)) _ [some (.ref kd), some (.int b), some (.int c), none] _
          refine (show Gives (tOp rModI (tVar 2) (tVar 1)) [some (.ref kd), some (.int b), some (.int c), none] _ (.int (c % b)) from g_op (g_var rfl) (g_var rfl) hb) _ ?_
          refine Or.inl ⟨_, rfl, ?_⟩
          refine hm _ _ (st4.trans (Stay.put (by simp))) ⟨hne, by rw [upd_ne hne]; exact h4, ?_, ?_⟩ rfl
          · rw [upd_same, List.map_append]
            rfl
          · rw [List.length_append, List.length_singleton, List.length_dropLast]
            omega
        · rw [if_neg hbig] at hm
          rw [if_neg (by simpa using hbig)]
          refine g_op0 (g_var rfl) (g_dget rfl (dget_m h4)) _ ?_
          refine pure_tail rfl h4 rfl rfl rfl hb (by omega) (by omega) ?_
          refine hm _ H4 st4 ⟨hne, h4, h4c, ?_⟩ rfl
          rw [List.length_dropLast]
          omega
    · rw [if_neg hc] at hm
      exact hm.elim
  | _ => exact hm.elim
theorem scDraw : FnScope ["deck", "below", "cell", "mixed"] ["deck", "below"] (defScope sDraw) := ⟨rfl, rfl, rfl, by decide +kernel, rfl, by decide +kernel, by decide +kernel⟩
theorem ok_draw {P : Program} {w : World} {K : Fr} {mg : Str → Option Value} {base : Heap} {f : Addr} {fd : FuncData} {k : Nat} (F : Fun K "_law_draw" "_law_draw" sDraw f fd) (mmax : mg "max" = none) (mint : mg "int" = none) : FnOk P w K mg base (L2.CX P w) (k + 1) f fd ["deck", "below"] (spD K 1 drawF) := by
  refine F.okX scDraw (fun vs H Q E h => ?_) fun cdv A outer s H vs Q E hr h => ⟨t_draw K, ?_, pure_draw vs H Q E h⟩
  · obtain ⟨kd, kc, ws, Xs, ds, k, rfl, ra, hl, _⟩ := h
    rw [List.length_cons, ra.len, hl]
    rfl
  · have hu := hr.units
    have hu1 := Nat.lt_of_le_of_lt (Nat.add_le_add_left (show 1 ≤ 64 by decide) _) hr.units
    exact pss_cons (ps_dput hu1 (pv 0) pe_str (pe_op op_add (pe_dget hu1 (pv 0) pe_str (fun _ _ => rfl)) pe_int) rfl)
      (pss_cons (ps_set (i := 2) scDraw.nd rfl (Or.inl rfl) (pe_dget hu1 (pv 0) pe_str (fun _ _ => rfl)))
      (pss_cons (ps_if (pt_cmpR (op_neD hu) (pe_dget hu1 (pv 0) pe_str (fun _ _ => rfl)) (pe_lst pa_nil) (nomark _))
        (pss_cons (ps_set (i := 2) scDraw.nd rfl (Or.inl rfl) (pe_bm0 PySem.F.plainAttrs_list PySem.F.slot_list_pop PySem.F.type_list_pop mt_pop (pe_dget hu1 (pv 0) pe_str (fun _ _ => rfl))))
        (pss_cons (ps_if (pt_cmpR op_ge (pv 2) (pe_op op_pow pe_int pe_int) (nomark _))
          (pss_cons (ps_expr (pe_bm PySem.F.plainAttrs_list PySem.F.slot_list_append PySem.F.type_list_append mt_append (pe_dget hu1 (pv 0) pe_str (fun _ _ => rfl)) (pa_cons (pe_op op_fdivW (pv 2) (pe_callB (call_max2 rfl) rfl mmax PyProof.Rows.boot_max (pa_cons pe_int (pa_cons (pv 1) pa_nil)))) pa_nil)))
          (pss_one (ps_ret (pe_callTy call_int1 rfl mint PyProof.Rows.boot_int (pa_cons (pe_op op_mod (pv 2) (pv 1)) pa_nil))))) pss_nil)
        (pss_one (ps_set (i := 2) scDraw.nd rfl (Or.inl rfl) (pe_op op_add (pv 2) (pe_dget hu1 (pv 0) pe_str (fun _ _ => rfl))))))) pss_nil)
      (pss_cons (ps_set (i := 3) scDraw.nd rfl (Or.inl rfl) (pe_op op_mod (pe_op op_mul (pe_op op_add (pe_op op_add (pe_op op_mod (pv 2) pe_int) (pe_op op_mul (pe_op op_mul pe_int (pe_dget hu1 (pv 0) pe_str (fun _ _ => rfl))) (pe_dget hu1 (pv 0) pe_str (fun _ _ => rfl)))) pe_int) pe_int) pe_int))
      (pss_cons (ps_set (i := 3) scDraw.nd rfl (Or.inl rfl) (pe_op op_mod (pe_op op_add (pe_op op_add (pe_op op_mul (pv 3) (pv 3)) (pe_op op_mul pe_int (pe_dget hu1 (pv 0) pe_str (fun _ _ => rfl)))) pe_int) pe_int))
      (pss_one (ps_ret (pe_callTy call_int1 rfl mint PyProof.Rows.boot_int (pa_cons (pe_op op_mod (pe_op op_fdivW (pe_op op_mod (pe_op op_mul (pv 3) pe_int) pe_int) pe_int) (pv 1)) pa_nil))))))))
end Zo
/-! ZL: repr of a value. -/
namespace Zo
open PySem PySem.Spec PyProof.Rows L2
mutual
/-- no dict but empty ones -/
def plainD : D → Bool
  | .dict es => es.isEmpty
  | .list ds => plainA ds
  | .tuple ds => plainA ds
  | _ => true
def plainA : List D → Bool
  | [] => true
  | d :: ds => plainD d && plainA ds
end
section
variable {X : Cx} {pins : List (Addr × Obj)} {σ : L2.St} {H : Hp} {s : Shared} {Xs : List Addr}
/-- what a walk of the text of a value asks -/
abbrev Shw (X : Cx) (s : Shared) (n : Nat) (u : Value) (d : D) (t : Str) : Prop := ∃ as bs, Reads s.heap u d as ∧ ReadAtMost s.heap n bs ∧ ReprK X.prog X.w bs s.heap n u t
abbrev ShwA (X : Cx) (s : Shared) (n : Nat) (us : List Value) (ds : List D) (ts : List Str) : Prop := ∃ as bs, ReadsAll s.heap us ds as ∧ ReadAtMost s.heap n bs ∧ ReprAllK X.prog X.w bs s.heap n us ts
theorem none_at (h : Heap) (n : Nat) : ReadAtMost h n [] := fun _ z => nomatch z
theorem shw_list (I : Inv X pins σ H s) {a : Addr} {vs : List V} {ds : List D} (ha : H a = some (.lst vs)) (hz : (PyData.shown (.list ds)).length ≤ sizeLine) (k : ∀ us, Vals vs us → ShwA X s (PyData.depthAll ds) us ds (PyData.shownAll ds)) :
    Shw X s (PyData.list ds).depth (.ref a) (.list ds) (PyData.shown (.list ds)) := by
  obtain ⟨its, rv, ⟨o, n, ho, hc, _, hd⟩, _⟩ := I.list (SqL.of ha)
  obtain ⟨as, bs, hr, hb, hk⟩ := k its rv
  have r : Reads s.heap (.ref a) (.list ds) (a :: as) := .list ho hc hd hr
  have deep : PyData.depthAll ds < (PyData.list ds).depth := by simp only [PyData.depth]; omega
  have fresh : a ∉ bs := not_mem_of_deeper r deep hb
  refine ⟨_, a :: bs, r, ReadAtMost.cons r (Nat.le_of_lt deep) hb, ?_⟩
  simp only [PyData.depth, PyData.shown]
  cases its with
  | nil =>
    cases hr
    simp only [PyData.shownAll, listText_nil]
    exact ReprK.listEmpty ho hc hd
  | cons x l => exact ReprK.list ho hc hd fresh (by simpa using hk.length_eq) fun i y e => hk.item i y (by simpa using e)
theorem shw_tup (I : Inv X pins σ H s) {a : Addr} {vs : List V} {ds : List D} (ha : SqT X.K H a vs) (hz : (PyData.shown (.tuple ds)).length ≤ sizeLine) (k : ∀ us, Vals vs us → ShwA X s (PyData.depthAll ds) us ds (PyData.shownAll ds)) :
    Shw X s (PyData.tuple ds).depth (.ref a) (.tuple ds) (PyData.shown (.tuple ds)) := by
  obtain ⟨its, rv, ⟨o, ho, hc, n, hd⟩, _⟩ := I.tuple ha
  obtain ⟨as, bs, hr, hb, hk⟩ := k its rv
  have r : Reads s.heap (.ref a) (.tuple ds) as := .tuple ho hc hd hr
  have deep : PyData.depthAll ds < (PyData.tuple ds).depth := by simp only [PyData.depth]; omega
  have fresh : a ∉ bs := not_mem_of_deeper r deep hb
  refine ⟨_, a :: bs, r, ReadAtMost.cons r (Nat.le_of_lt deep) hb, ?_⟩
  simp only [PyData.depth, PyData.shown]
  exact ReprK.tuple ho hc hd fresh hk
theorem shw_dict0 (I : Inv X pins σ H s) {a : Addr} (ha : H a = some (.dK [])) : Shw X s (PyData.dict []).depth (.ref a) (.dict []) (PyData.shown (.dict [])) := by
  obtain ⟨_, hsys, vs, rel, o, es, n, ho, hx, hd, _, hp, _⟩ := dk_of I.hok ha
  cases rel
  have e0 : es.toList = [] := List.eq_nil_of_length_eq_zero hp.length
  have r : Reads s.heap (.ref a) (.dict []) (a :: [] ++ []) := .dict ho hx.1 hd (by rw [e0]; exact .nil) (by rw [e0]; exact .nil)
  have deep : 0 < (PyData.dict []).depth := by simp only [PyData.depth]; omega
  refine ⟨_, [a], r, ReadAtMost.cons r (Nat.le_of_lt deep) (none_at _ 0), ?_⟩
  simp only [PyData.depth, PyData.shown]
  exact ReprK.dict ho hx.1 hd hsys (by simp) (by rw [e0]; exact .nil)
mutual
theorem Rp.shows (I : Inv X pins σ H s) : ∀ (d : D) (v : V) (u : Value), Rp X.K H Xs d v → RelV v u → plainD d = true → d.showable = true → d.shown.length ≤ sizeLine → Shw X s d.depth u d d.shown
  | .none, _, _, h, r, _, _, _ => by
    cases h
    cases r
    exact ⟨_, [], .none, none_at _ _, by simp only [PyData.shown]; exact .of_is ReprIs.none _ _ _⟩
  | .bool b, _, _, h, r, _, _, _ => by
    cases h
    cases r
    exact ⟨_, [], .bool b, none_at _ _, by simp only [PyData.shown]; exact .of_is (ReprIs.bool b) _ _ _⟩
  | .int i, _, _, h, r, _, hs, _ => by
    cases h
    obtain ⟨t, rfl⟩ := r
    exact ⟨_, [], .int i t, none_at _ _, by simp only [PyData.shown]; exact .of_is (ReprIs.int t (by simpa [PyData.showable] using hs)) _ _ _⟩
  | .str x, _, _, h, r, _, _, hz => by
    cases h
    obtain ⟨t, rfl⟩ := r
    exact ⟨_, [], .str x t, none_at _ _, by simp only [PyData.shown]; exact .of_is (ReprIs.str x t (by simpa only [PyData.shown] using hz)) _ _ _⟩
  | .list ds, _, _, h, r, hp, hs, hz => by
    obtain ⟨a, vs, e, f, q⟩ := h
    subst e
    cases r
    have hz' : (listText (PyData.shownAll ds)).length ≤ sizeLine := by simpa only [PyData.shown] using hz
    exact shw_list I f.1 hz fun us rv => RpA.shows I ds vs us q rv (by simpa [plainD] using hp) (by simpa [PyData.showable] using hs) fun t ht => Nat.le_trans (listText_mem_le ht) hz'
  | .tuple ds, _, _, h, r, hp, hs, hz => by
    obtain ⟨a, vs, e, f, q⟩ := h
    subst e
    cases r
    have hz' : (tupleText (PyData.shownAll ds)).length ≤ sizeLine := by simpa only [PyData.shown] using hz
    exact shw_tup I f.sq hz fun us rv => RpA.shows I ds vs us q rv (by simpa [plainD] using hp) (by simpa [PyData.showable] using hs) fun t ht => Nat.le_trans (tupleText_mem_le ht) hz'
  | .dict es, _, _, h, r, hp, _, _ => by
    obtain ⟨a, kvs, e, f, _, q⟩ := h
    subst e
    cases r
    cases es with
    | nil =>
      cases q
      exact shw_dict0 I f
    | cons p es => simp [plainD] at hp
theorem RpA.shows (I : Inv X pins σ H s) : ∀ (ds : List D) (vs : List V) (us : List Value), RpA X.K H Xs ds vs → Vals vs us → plainA ds = true → PyData.showableAll ds = true → (∀ t ∈ PyData.shownAll ds, t.length ≤ sizeLine) → ShwA X s (PyData.depthAll ds) us ds (PyData.shownAll ds)
  | [], _, _, h, r, _, _, _ => by
    cases h
    cases r
    exact ⟨_, [], .nil, none_at _ _, by simp only [PyData.shownAll]; exact .nil⟩
  | d :: ds, _, _, h, r, hp, hs, hz => by
    obtain ⟨v, vs, e, q, t⟩ := h
    subst e
    cases r with
    | cons r1 r2 =>
      have hs' : d.showable = true ∧ PyData.showableAll ds = true := by simpa [PyData.showableAll] using hs
      have hp' : plainD d = true ∧ plainA ds = true := by simpa [plainA] using hp
      obtain ⟨a1, b1, h1, m1, k1⟩ := Rp.shows I d v _ q r1 hp'.1 hs'.1 (hz _ (by simp only [PyData.shownAll]; exact List.mem_cons_self ..))
      obtain ⟨a2, b2, h2, m2, k2⟩ := RpA.shows I ds vs _ t r2 hp'.2 hs'.2 fun x hx => hz x (by simp only [PyData.shownAll]; exact List.mem_cons_of_mem _ hx)
      refine ⟨_, b1 ++ b2, .cons h1 h2, ?_, ?_⟩
      · simp only [PyData.depthAll]
        exact (m1.mono (Nat.le_max_left _ _)).append (m2.mono (Nat.le_max_right _ _))
      · simp only [PyData.depthAll, PyData.shownAll]
        exact .cons ((k1.more fun b hb => List.mem_append_left _ hb).level_le (Nat.le_max_left _ _)) (k2.more_le (fun b hb => List.mem_append_right _ hb) (Nat.le_max_right _ _))
end
/-! ### the rule -/
def seqD : D → Bool
  | .list _ => true
  | .tuple _ => true
  | _ => false
def reprD (d : D) : Option D := if seqD d = true ∧ plainD d = true ∧ d.showable = true ∧ d.shown.length ≤ sizeLine ∧ d.depth ≤ 60 then some (.str d.shown) else none
theorem sem_repr_at (hg : X.A.guards = some []) (hu : X.A.units + 64 < cLine) {Q : VK} {v : V} {u : Value} (I : Inv X pins σ H s) (r : RelV v u) : ∀ (d d' : D), Rp X.K H Xs d v → reprD d = some d' → Q (.str d.shown) H →
    wpAny (model X.prog X.w) X.A (call (.builtin "repr") [u]) (EP X pins σ Q) X.xe s := by
  intro d d' h e q
  unfold reprD at e
  split at e
  · rename_i hc
    cases e
    obtain ⟨h1, h2, h3, h4, h5⟩ := hc
    cases d with
    | list ds =>
      obtain ⟨a, vs, ev, f, ra⟩ := h
      subst ev
      cases r
      obtain ⟨its, rv, ⟨o, n, ho, hc, _, hd⟩, _⟩ := I.list (SqL.of f.1)
      have hz' : (listText (PyData.shownAll ds)).length ≤ sizeLine := by simpa only [PyData.shown] using h4
      obtain ⟨as, bs, hr, hb, hk⟩ := RpA.shows I ds vs its ra rv (by simpa [plainD] using h2) (by simpa [PyData.showable] using h3) fun t ht => Nat.le_trans (listText_mem_le ht) hz'
      have rr : Reads s.heap (.ref a) (.list ds) (a :: as) := .list ho hc hd hr
      have deep : PyData.depthAll ds < (PyData.list ds).depth := by simp only [PyData.depth]; omega
      have fresh : a ∉ bs := not_mem_of_deeper rr deep hb
      have hdep : PyData.depthAll ds + 1 ≤ 60 := by simpa only [PyData.depth, Nat.add_comm] using h5
      simp only [PyData.shown] at q
      refine call_repr_slot (by omega) ⟨o, ho, hc⟩ F.slot_list_repr.toG ?_
      cases its with
      | nil =>
        cases hr
        simp only [PyData.shownAll, listText_nil] at q
        exact call_list_repr_empty ⟨o, ho, hc⟩ ho hd ⟨_, _, rfl, .str "[]", H, I.tok _, ⟨_, rfl⟩, q⟩
      | cons x l =>
        refine call_list_reprK ho hc hd fresh (by simpa using hk.length_eq) (fun i y e => hk.item i y (by simpa using e)) hg (fun b _ => Clear.nil b) (by show X.A.units + 1 + (PyData.depthAll ds + 1) < cLine; omega) (fun _ _ z => z) (fun h' u tk k => ⟨_, _, rfl, .str (listText (PyData.shownAll ds)), H, I.kept (t' := tk) k, ⟨_, rfl⟩, q⟩) hz'
    | tuple ds =>
      obtain ⟨a, vs, ev, f, ra⟩ := h
      subst ev
      cases r
      obtain ⟨its, rv, ⟨o, ho, hc, n, hd⟩, _⟩ := I.tuple f.sq
      have hz' : (tupleText (PyData.shownAll ds)).length ≤ sizeLine := by simpa only [PyData.shown] using h4
      obtain ⟨as, bs, hr, hb, hk⟩ := RpA.shows I ds vs its ra rv (by simpa [plainD] using h2) (by simpa [PyData.showable] using h3) fun t ht => Nat.le_trans (tupleText_mem_le ht) hz'
      have rr : Reads s.heap (.ref a) (.tuple ds) as := .tuple ho hc hd hr
      have deep : PyData.depthAll ds < (PyData.tuple ds).depth := by simp only [PyData.depth]; omega
      have fresh : a ∉ bs := not_mem_of_deeper rr deep hb
      have hdep : PyData.depthAll ds + 1 ≤ 60 := by simpa only [PyData.depth, Nat.add_comm] using h5
      simp only [PyData.shown] at q
      refine call_repr_slot (by omega) ⟨o, ho, hc⟩ F.slot_tuple_repr ?_
      exact call_tuple_reprK ho hc hd fresh hk hg (fun b _ => Clear.nil b) (by show X.A.units + 1 + (PyData.depthAll ds + 1) < cLine; omega) (fun _ _ z => z) (fun h' u tk k => ⟨_, _, rfl, .str (tupleText (PyData.shownAll ds)), H, I.kept (t' := tk) k, ⟨_, rfl⟩, q⟩) hz'
    | _ => simp [seqD] at h1
  · cases e
def rRepr (K : Fr) : List V → Hp → VK → Prop := fun xs H Q => ∃ v Xs d d', xs = [v] ∧ Rp K H Xs d v ∧ reprD d = some d' ∧ Q (.str d.shown) H
theorem call_repr (hg : X.A.guards = some []) (hu : X.A.units + 64 < cLine) : CallR X (.builtin "repr") (rRepr X.K) := by
  intro pins s σ H xs us Q I r h
  obtain ⟨v, Xs, d, d', rfl, p, e, q⟩ := h
  cases r with
  | cons rx rr =>
    cases rr
    exact sem_repr_at hg hu I rx d d' p e q
theorem se_repr {cl : Nat → Addr} {W : WX} {m : Bool} {e : Expr} {ev : Ev} {p pos : Pos} (hg : X.A.guards = some []) (hu : X.A.units + 64 < cLine) (hgl : Gl X "repr") (hm : X.mg "repr" = none) (ha : SE cl X W m e ev) (he : starEach [e] X.env = (false, eval e X.env) :: starEach [] X.env := by rfl) :
    SE cl X W m (.Call (.Name "repr" p) [e] [] pos) (ev1 reprD ev) :=
  pe_imp (pe_callB (call_repr hg hu) hgl hm (show bootBuiltins "repr" = some (.builtin "repr") by decide +kernel) (pa_cons ha pa_nil he) (by decide) (by decide) he) fun σ H Q ⟨fm, Xs, os, s, R, g⟩ => by
    unfold ev1 at g
    refine ⟨fm, Xs, os, s, R, ?_⟩
    cases q : ev s with
    | ok x s1 =>
      rw [q] at g
      simp only [Out.bind_ok] at g
      cases q3 : reprD x with
      | some d =>
        rw [q3] at g
        have ed : d = .str x.shown := by
          unfold reprD at q3
          split at q3
          · cases q3; rfl
          · cases q3
        subst ed
        exact fun v1 H1 r1 st1 p1 => ⟨v1, Xs, x, _, rfl, p1, q3, g _ H1 r1 st1 rfl⟩
      | none => rw [q3] at g; exact g.elim
    | exc c t s1 => rw [q] at g; exact g
    | no => rw [q] at g; exact g.elim
end
end Zo
/-! ZM: the law is called by the claim: its body at that one caller. -/
namespace Zo
open PySem PySem.Spec PyProof.Rows L2
/-- a def's body at one caller -/
theorem run_at {P : Program} {w : World} {K : Fr} {mg : Str → Option Value} {base : Heap} {k : Nat} {f : Addr} {x qual : Str} {st : Stmt} {fd : FuncData} {N ps : List Str} {A : Around} {outer : List Env} {s : Shared} {H : Hp} {Q : VK} {E : XK} {args : Args} {us : List Value} {vs : List V}
    (F : Fun K x qual st f fd) (S : FnScope N ps (defScope st)) (hr : Room (k + 1) A) (e0 : Env0 P w K mg base A outer s H) (hb : BindsTo s fd args (ps.zip us)) (rel : Vals vs us) (hl : vs.length = ps.length)
    (body : ∀ cdv : Value, ∃ t, PSs (cxOf (L2.CX P w) P w K mg base N qual (defScope st) f cdv A outer s H E) (defBody st) t ∧ t { nx := fun _ H' => Q .non H', rt := Q } (start N vs) H) :
    codeAny (model P w) A (.call (.ref f) args) (CR (L2.CX P w) outer P w H s Q E) s := by
  obtain ⟨oc, od, kV, doc, pm, an, cdv, ct, osl, rfl, lk, code⟩ := F.ex
  have kin : K.In s.heap := e0.mod.kin.keeps fun b o z => (e0.bs b o z).1
  have free : s.heap.NoLimit := e0.mod.nolimit.keeps fun b o z => (e0.bs b o z).1
  have local_ : ∀ y ∈ ps.zip us, (defScope st).names.lookup y.1 = some .local ∨ ((defScope st).names.lookup y.1 = some .cell ∧ ((cellsFrom (s.heap.objs.size + 1) (defScope st).names []).lookup y.1).isSome = true) := by
    rintro ⟨n, v⟩ hy
    exact (S.par n (List.of_mem_zip hy).1).imp id fun q => ⟨q, PySem.W.cellsFrom_some _ _ _ (.inl q)⟩
  refine codeAny_call_function hr.depth (kin _ _ lk) rfl S.co S.gen rfl (PySem.W.codeRec_of kin code) (hb _ _ _ _ ?_)
  refine wpAny_newFunctionEnv_cells S.kind local_ fun en hen s1 entered => ?_
  subst hen
  refine ⟨free.keeps entered.toInCall.keep, codeAny_func ?_⟩
  obtain ⟨t, run, start_⟩ := body cdv
  have inv : Inv (cxOf (L2.CX P w) P w K mg base N qual (defScope st) f cdv A outer s H E) [] (start N vs) H s1 := inv_start S hr.hd e0 hl rel entered
  refine wpAny_mono (run.run [] s1 (start N vs) H _ inv start_) (fun fl s2 done => ?_) fun _ _ z => z
  cases fl with
  | ret u =>
    obtain ⟨v, τ, G, J, rv, q⟩ := done
    exact ⟨v, G, J.os, J.bare, J.base, J.hok, rv, q⟩
  | next =>
    obtain ⟨τ, G, J, q⟩ := done
    exact ⟨.non, G, J.os, J.bare, J.base, J.hok, rfl, q⟩
  | brk =>
    obtain ⟨_, _, _, q⟩ := done
    exact q.elim
  | cont =>
    obtain ⟨_, _, _, q⟩ := done
    exact q.elim
/-- the law at its caller: what its body is run to, from any heap in which nothing but the script stands -/
theorem law_at {P : Program} {w : World} {K : Fr} {mg mb : Str → Option Value} {k : Nat} {fa a : Addr} {x qual par : Str} {st : Stmt} {fd : FuncData} {N : List Str} {t0 : Shared} {its : List Value} {ns : List Int}
    (kin : K.In t0.heap) (glo : t0.heap.Ns mainGlobals mg) (blt : t0.heap.Ns builtinsNs mb) (boots : ∀ x : Str, x ≠ "__name__" → mb x = bootBuiltins x) (free : t0.heap.NoLimit) (nogen : t0.gens = #[])
    (script : t0.heap.get? a = some { cls := .type "list", data := .seq its.toArray }) (areI : IntsAre its ns) (few : ns.length ≤ sizeLine) (hr : Room (k + 1) callerA)
    (F : Fun K x qual st fa fd) (S : FnScope N [par] (defScope st)) (bind : ∀ (s : Shared) (u : Value), BindsTo s fd ⟨[u], []⟩ [(par, u)])
    (body : ∀ (base : Heap) (H : Hp) (cdv : Value), K.In base → base.Ns mainGlobals mg → SqL K H a (ns.map V.int) →
      ∃ t, PSs (cxOf (L2.CX P w) P w K mg base N qual (defScope st) fa cdv callerA [] t0 H (fun _ _ _ => False)) (defBody st) t ∧ t { nx := fun _ _ => False, rt := fun v _ => v = .bl true } (start N [.ref a]) H) :
    codeAny (model P w) callerA (.call (.ref fa) ⟨[.ref a], []⟩) (fun r s' => r = .ok (.ret (.bool true)) ∧ OldK t0.heap s'.heap ∧ s'.os = t0.os ∧ AllBare s'.gens) t0 := by
  have rels := vals_ints areI
  have count := areI.length
  have go : ∀ H : Hp, (∀ b, H b = none ∨ (b = a ∧ ∃ o xs, H b = some (.frz o (.lst xs)))) → SqL K H a (ns.map V.int) → HOk P w H t0.heap → (H a ≠ none → K.lookup a = none) →
      codeAny (model P w) callerA (.call (.ref fa) ⟨[.ref a], []⟩) (fun r s' => r = .ok (.ret (.bool true)) ∧ OldK t0.heap s'.heap ∧ s'.os = t0.os ∧ AllBare s'.gens) t0 := by
    intro H one sq hok nk
    have atA : ∀ b, H b ≠ none → b = a := fun b z => (one b).elim (fun e => absurd e z) fun e => e.1
    have dictFree : ∀ {b : Addr} {o : Obj} {es : Array DictEntry} {ep : Nat}, t0.heap.get? b = some o → o.data = .dict es ep → H b = none := by
      intro b o es ep get data
      rcases one b with e | ⟨e, _⟩
      · exact e
      · rw [e, script] at get
        cases get
        cases (show Data.seq its.toArray _ = Data.dict es ep from data)
    have names : ∀ {b : Addr} {m : Str → Option Value}, t0.heap.Ns b m → (hidT t0.heap H).Ns b m := by
      rintro b m ⟨o, es, ep, get, data, rest⟩
      exact ⟨o, es, ep, hidT_get get (dictFree get data), data, rest⟩
    have kinB : K.In (hidT t0.heap H) := fun b o z => hidT_get (kin b o z) (by
      rcases one b with e | ⟨e, o', xs, h⟩
      · exact e
      · subst e
        rw [nk (by rw [h]; simp)] at z
        cases z)
    have md : Mod K mg (hidT t0.heap H) := ⟨kinB, names glo, ⟨mb, names blt, boots⟩, let ⟨mc, c1, c2⟩ := free; ⟨mc, names c1, c2⟩⟩
    have env : Env0 P w K mg (hidT t0.heap H) callerA [] t0 H := ⟨rfl, md, fun _ _ z => of_hidT z, Nat.le_of_eq (hidT_size _ _), trivial, fun b z => absurd (show b ∈ ([] : List Addr) from z) (by simp), hok, .of_eq nogen⟩
    refine codeAny_mono (run_at (Q := fun v _ => v = .bl true) (E := fun _ _ _ => False) (us := [.ref a]) (vs := [.ref a]) F S hr env (bind t0 (.ref a)) (.cons rfl .nil) rfl fun cdv => ?_) fun r s' done => ?_
    · obtain ⟨t, ps, q⟩ := body (hidT t0.heap H) H cdv kinB (names glo) sq
      refine ⟨t, ps, ?_⟩
      have e : (fun (_ : L2.St) (H' : Hp) => (fun (v : V) (_ : Hp) => v = V.bl true) V.non H') = fun _ _ => False := by
        funext _ _
        simp
      rw [e]
      exact q
    cases r with
    | error e =>
      obtain ⟨_, _, _, _, _, _, _, _, _, _, _, _, z⟩ := done
      exact z.elim
    | ok fl =>
      cases fl with
      | next => exact done.elim
      | brk => exact done.elim
      | cont => exact done.elim
      | ret u =>
        obtain ⟨v, G, sameOs, bare, un, hok2, ru, q⟩ := done
        have q2 : v = .bl true := q
        subst q2
        obtain rfl : u = Value.bool true := ru
        refine ⟨rfl, OldK.of_keep fun b o get => ?_, sameOs, bare⟩
        rcases one b with e | ⟨_, ob, xs, e⟩
        · exact un.keep b o get e (fun z => absurd (show b ∈ ([] : List Addr) from z) (by simp)) (by simp)
        · obtain ⟨g1, _⟩ := hok b _ e
          obtain ⟨g2, _⟩ := hok2 b _ (un.frzs b ob _ e)
          rw [get] at g1
          cases g1
          exact g2
  cases inK : K.lookup a with
  | some o =>
    have get := kin a o inK
    rw [script] at get
    cases get
    exact go (fun _ => none) (fun _ => .inl rfl) (.inr ⟨_, its.toArray, _, inK, rfl, rfl, rfl, by rw [List.size_toArray, count]; exact few, by simpa using rels⟩) (fun b u z => by cases (show (none : Option HO) = some u from z)) fun z => absurd rfl z
  | none =>
    refine go (fun b => if b = a then some (.frz { cls := .type "list", data := .seq its.toArray } (.lst (ns.map V.int))) else none) (fun b => ?_) (.inl (.inr ⟨{ cls := .type "list", data := .seq its.toArray }, if_pos rfl⟩)) (fun b u z => ?_) fun _ => inK
    · by_cases e : b = a
      · exact .inr ⟨e, _, _, if_pos e⟩
      · exact .inl (if_neg e)
    · by_cases e : b = a
      · cases (if_pos e).symm.trans z
        subst e
        exact ⟨script, by rw [List.length_map]; exact few, its, _, rels, script⟩
      · cases (if_neg e).symm.trans z
/-- the goal that k_head leaves, from the law's body -/
theorem law_walk {l : PySem.W.OpenLaw} {n k : Nat} {q : Program} {loose : List Str} {XP : (Str → Option Value) → Heap → Prop} {YP : World → Heap → Prop} {d : DefRec} {K : Params → Fr} {x qual par : Str} {st : Stmt} {N : List Str}
    (hn : l.most = some n) (hn2 : n ≤ sizeLine) (hdf : d.params.defaults = []) (hr : Room (k + 1) callerA) (S : FnScope N [par] (defScope st))
    (hY : ∀ (w : World) (h : Heap), YP w h → (K w.params).In h)
    (F : ∀ (w : World) (mg : Str → Option Value) (fa : Addr) (h : Heap), (K w.params).In h → h.Ns mainGlobals mg → mg d.name = some (.ref fa) →
      ∃ fd : FuncData, Fun (K w.params) x qual st fa fd ∧ (∀ (s : Shared) (u : Value), BindsTo s fd ⟨[u], []⟩ [(par, u)]) ∧
        ∀ (base : Heap) (s : Shared) (H : Hp) (cdv : Value) (a : Addr) (ns : List Int), ns.length ≤ n → (K w.params).In base → base.Ns mainGlobals mg → SqL (K w.params) H a (ns.map V.int) →
          ∃ t, PSs (cxOf (L2.CX l.prog w) l.prog w (K w.params) mg base N qual (defScope st) fa cdv callerA [] s H (fun _ _ _ => False)) (defBody st) t ∧ t { nx := fun _ _ => False, rt := fun v _ => v = .bl true } (start N [.ref a]) H) :
    PySem.W.WalkO q loose XP YP l.row.toRowW d [] (fun f vs => PySem.call f vs) := by
  refine Att.attach_call hn hdf fun w s₀ t0 mg mb fa o pm cd doc a its ns G Y ho hd hcd hmg script areI few nogen => ?_
  have kin := hY w _ Y
  obtain ⟨fd, F1, bind, body⟩ := F w mg fa _ kin G.T.g hmg
  exact law_at kin G.T.g G.T.b G.T.builtins G.T.nolimit nogen script areI (Nat.le_trans few hn2) hr F1 S bind fun base H cdv kb nb sq => body base t0 H cdv a ns few kb nb sq
end Zo
/-! ZN: the deck is made, and the law goes on with it. -/
namespace Zo
open PySem PySem.Spec PyProof.Rows L2
abbrev sBegun : Stmt := top 23
def mixF (m c : Int) : Int := (m * 48271 + c % 2147483629 + 37) % 2147483587
/-- _law_begun(script, salt) -/
def begun (ns : List Int) (salt : Int) : Dk := ⟨(ns.take 63).reverse, (ns.take 63).foldl mixF salt, 0⟩
def spBegun (K : Fr) : Sp := fun vs H Q _ => ∃ (a : Addr) (salt : Int) (ns : List Int), vs = [.ref a, .int salt] ∧ SqL K H a (ns.map V.int) ∧ ∀ kd kc H', Stay [] H H' → H kd = none → H kc = none → DkAt H' kd kc (begun ns salt) → Q (.ref kd) H'
theorem mergeDk (kc : Addr) (m : Int) : mergeK [] (dkv kc m 0) = dkv kc m 0 := by
  have n1 : ¬ (Str.ofString "turn" = Str.ofString "cells") := fun e => ne_ct e.symm
  have n2 : ¬ (Str.ofString "turn" = Str.ofString "mixed") := fun e => ne_mt e.symm
  have n3 : ¬ (Str.ofString "mixed" = Str.ofString "cells") := fun e => ne_cm e.symm
  simp [mergeK, putK, dkv, ne_ct, ne_mt, ne_cm, n1, n2, n3]
theorem cutI (ns : List Int) : cutV (ns.map V.int) none (some 63) = (ns.take 63).map V.int := by
  unfold cutV
  have h0 : HT.sIx (ns.map V.int).length 0 none = 0 := rfl
  rw [h0, List.drop_zero, List.map_take, Nat.sub_zero]
  have h1 : HT.sIx (ns.map V.int).length (ns.map V.int).length (some 63) = min 63 (ns.map V.int).length := by
    simp [HT.sIx]
  rw [h1]
  by_cases h : (ns.map V.int).length ≤ 63
  · rw [Nat.min_eq_right h, List.take_of_length_le (Nat.le_refl _), List.take_of_length_le h]
  · rw [Nat.min_eq_left (by omega)]
theorem fold_take {ns : List Int} {i : Nat} {c : Int} {m : Int} (h : ns[i]? = some c) : (ns.take (i + 1)).foldl mixF m = mixF ((ns.take i).foldl mixF m) c := by
  have hi := (List.getElem?_eq_some_iff.mp h)
  obtain ⟨hl, e⟩ := hi
  rw [List.take_succ_eq_append_getElem hl, List.foldl_append, e]
  rfl
theorem scBegun : FnScope ["script", "salt", "cells", "mixed", "cell"] ["script", "salt"] (defScope sBegun) := ⟨rfl, rfl, rfl, by decide +kernel, rfl, by decide +kernel, by decide +kernel⟩
theorem ok_begun {P : Program} {w : World} {K : Fr} {mg : Str → Option Value} {base : Heap} {f : Addr} {fd : FuncData} {k : Nat} (F : Fun K "_law_begun" "_law_begun" sBegun f fd) (mlist : mg "list" = none) : FnOk P w K mg base (L2.CX P w) (k + 1) f fd ["script", "salt"] (spBegun K) := by
  refine F.okX scBegun (fun vs H Q E h => ?_) fun cdv A outer s H vs Q E hr h => ⟨_, pss_cons (ps_par (i := 2) (j := 3) rfl scBegun.nd rfl rfl (by decide) rfl rfl (pa_cons (pe_callTy call_list_of rfl mlist PyProof.Rows.boot_list (pa_cons (pe_slice sl_list (pv 0) po_none (po_some pe_int)) pa_nil)) (pa_cons (pv 1) pa_nil)) rfl)
      (pss_cons (ps_for (passes_of rfl) rfl (pi_list (pv 2)) (pg_name (i := 4) scBegun.nd rfl (Or.inl rfl)) (pss_one (ps_set (i := 3) scBegun.nd rfl (Or.inl rfl) (pe_op op_mod (pe_op op_add (pe_op op_add (pe_op op_mul (pv 3) pe_int) (pe_op op_mod (pv 4) pe_int)) pe_int) pe_int))))
      (pss_one (ps_ret (pe_disp (pps_cons pe_str (pe_revL (pv 2)) (pps_cons pe_str (pv 3) (pps_cons pe_str pe_int pps_nil))) rfl rfl (by simp) (by simp))))), ?_⟩
  · obtain ⟨a, salt, ns, rfl, _⟩ := h
    rfl
  · obtain ⟨a, salt, ns, rfl, hS, q⟩ := h
    refine ⟨_, rfl, ⟨63, rfl, a, _, rfl, hS, fun p hp => ⟨p, _, rfl, .inl (SqL.of upd_same), fun c hc => ?_⟩⟩⟩
    rw [cutI] at hc ⊢
    have st1 : Stay [] H (upd H p (.lst ((ns.take 63).map V.int))) := Stay.laid hp
    generalize hH1 : upd H p (.lst ((ns.take 63).map V.int)) = H1 at *
    have st2 : Stay [] H (upd H1 c (.lst ((ns.take 63).map V.int))) := st1.trans (Stay.laid hc)
    have hc0 : H c = none := by
      cases e : H c with
      | none => rfl
      | some o => rw [st1 c o e (by simp)] at hc; cases hc
    have hcc : (upd H1 c (.lst ((ns.take 63).map V.int))) c = some (.lst ((ns.take 63).map V.int)) := upd_same
    generalize hH2 : upd H1 c (.lst ((ns.take 63).map V.int)) = H2 at *
    refine ⟨_, rfl, _, _, rfl, ?_⟩
    refine ⟨_, rfl, c, rfl, ⟨_, SqL.of hcc⟩, for_list (K := K) (a := c) (xs := (ns.take 63).map V.int) (fun i σ H' => ∃ v : Option V, σ = [some (.ref a), some (.int salt), some (.ref c), some (.int (((ns.take 63).take i).foldl mixF salt)), v] ∧ H' = H2)
      ⟨none, rfl, rfl⟩ (fun i σ H' _ ⟨_, _, e⟩ => by rw [e]; exact SqL.of hcc) ?_ ?_⟩
    · rintro i y σ H' hi ⟨v, rfl, rfl⟩
      rw [List.getElem?_map] at hi
      obtain ⟨z, hz, ez⟩ := Option.map_eq_some_iff.mp hi
      subst ez
      refine g_op (g_op0 (g_op0 (g_op (g_var rfl) (g_c _) (cmul2 (by decide) (by decide))) (g_op (g_var rfl) (g_c _) (by decide))) (g_c _)) (g_c _) (by decide) _ ?_
      refine ⟨some (.int z), ?_, rfl⟩
      rw [fold_take hz]
      rfl
    · rintro σ H' ⟨v, rfl, rfl⟩
      rw [List.length_map, List.take_length]
      intro kd hkd
      refine ⟨_, rfl, c, _, rfl, SqL.of (show (upd H' kd (.dK [])) c = some (.lst ((ns.take 63).map V.int)) from ?_), fun kc hkc => ?_⟩
      · rw [upd_ne (ne_of_none hcc hkd)]; exact hcc
      have nkc : kc ≠ kd := fun e => by rw [e, upd_same] at hkc; cases hkc
      have hkc0 : H' kc = none := by rw [upd_ne nkc] at hkc; exact hkc
      have back : ∀ b, H' b = none → H b = none := fun b e => by
        cases z : H b with
        | none => rfl
        | some o => rw [st2 b o z (by simp)] at e; cases e
      refine ⟨_, rfl, ?_⟩
      refine ⟨by rw [upd_ne (Ne.symm nkc)]; exact upd_same, dkv kc (((ns.take 63)).foldl mixF salt) 0, rfl, (show 3 ≤ 15 by decide), ?_⟩
      rw [mergeDk]
      refine q kd kc _ ?_ (back _ hkd) (back _ hkc0) ⟨Ne.symm nkc, upd_same, ?_, ?_⟩
      · intro b o e _
        have h2 := st2 b o e (by simp)
        have n1 : b ≠ kd := ne_of_none h2 hkd
        have n2 : b ≠ kc := ne_of_none h2 hkc0
        rw [upd_ne n1, upd_ne n2, upd_ne n1]
        exact h2
      · rw [upd_ne nkc, upd_same, ← List.map_reverse]
        rfl
      · show (ns.take 63).reverse.length ≤ 1000
        rw [List.length_reverse, List.length_take]
        omega
end Zo
/-! ZO: calls by keywords, chains, -, {}, sorted. -/
namespace Zo
open PySem PySem.Spec PyProof.Rows L2
/-! ### f(k = v, ..) -/
def pick {α : Type} (ix : List Nat) (l : List α) : List α := ix.filterMap fun i => l[i]?
theorem pick_rp {K : Fr} {H : Hp} {Xs : List Addr} {ds : List D} {vs : List V} (h : RpA K H Xs ds vs) : ∀ ix : List Nat, RpA K H Xs (pick ix ds) (pick ix vs)
  | [] => rfl
  | i :: ix => by
    have ih := pick_rp h ix
    unfold pick at ih ⊢
    cases e : ds[i]? with
    | some d =>
      obtain ⟨v, ev, pv⟩ := h.get e
      rw [List.filterMap_cons_some e, List.filterMap_cons_some ev]
      exact ⟨v, _, rfl, pv, ih⟩
    | none =>
      have ev : vs[i]? = none := by
        have := List.getElem?_eq_none_iff.mp e
        exact List.getElem?_eq_none_iff.mpr (by rw [h.len]; exact this)
      rw [List.filterMap_cons_none e, List.filterMap_cons_none ev]
      exact ih
theorem pick_vals {vs : List V} {us : List Value} (h : Vals vs us) : ∀ ix : List Nat, Vals (pick ix vs) (pick ix us)
  | [] => .nil
  | i :: ix => by
    have ih := pick_vals h ix
    unfold pick at ih ⊢
    cases e : vs[i]? with
    | some d =>
      obtain ⟨v, ev, pv⟩ := h.get e
      rw [List.filterMap_cons_some e, List.filterMap_cons_some ev]
      exact .cons pv ih
    | none =>
      have ev : us[i]? = none := by
        have := List.getElem?_eq_none_iff.mp e
        exact List.getElem?_eq_none_iff.mpr (by rw [← h.length]; exact this)
      rw [List.filterMap_cons_none e, List.filterMap_cons_none ev]
      exact ih
/-- how a call by keywords alone binds -/
def KwB (fd : FuncData) (ps ks : List Str) (ix : List Nat) : Prop := ∀ (s : Shared) (ws : List Value), ws.length = ks.length → BindsTo s fd ⟨[], ks.zip ws⟩ (ps.zip (pick ix ws))
theorem kwB_of {K : Fr} {x qual : Str} {st : Stmt} {f : Addr} {fd : FuncData} {ps ks : List Str} {ix : List Nat} (F : Fun K x qual st f fd)
    (h : ∀ (kV doc pm : Value) (an : Option Addr) (cdv ct : Value) (ws : List Value), ws.length = ks.length → bindArgs (PySem.W.fnOf x qual (defArgs st) (defBody st) (defScope st) .none kV doc pm an cdv ct) ⟨[], ks.zip ws⟩ = pure (ps.zip (pick ix ws))) : KwB fd ps ks ix := by
  obtain ⟨oc, od, kV, doc, pm, an, cdv, ct, osl, rfl, lk, hcd⟩ := F.ex
  exact fun s ws hw => .of_eq (h kV doc pm an cdv ct ws hw)
abbrev SK (cl : Nat → Addr) (X : Cx) (W : WX) (m : Bool) (kws : List Keyword) (ev : Evs) : Prop := PK X kws (tA X.K cl W m ev)
section
variable {cl : Nat → Addr} {X : Cx} {W : WX} {m : Bool} {e : Expr} {ev : Ev} {evs : Evs} {kws : List Keyword} {k n : Nat} {f : Addr} {fd : FuncData} {ps ks : List Str} {x : Str} {p pos kpos : Pos} {nm : Option Str}
theorem pk_imp {t t' : TA} (h : PK X kws t) (i : ∀ σ H Q, t' σ H Q → t σ H Q) : PK X kws t' := ⟨fun pos pins s σ H Q I q => h.run pos pins s σ H Q I (i σ H Q q)⟩
theorem sk_nil : SK cl X W m [] evNil := pk_imp pk_nil fun σ H Q ⟨fm, Xs, os, s, r, g⟩ => g [] H r (Stay.refl _ _) rfl
theorem sk_cons (h : SE cl X W m e ev) (hs : SK cl X W m kws evs) : SK cl X W m (⟨nm, e, kpos⟩ :: kws) (evCons ev evs) :=
  pk_imp (pk_cons h hs) fun σ H Q ⟨fm, Xs, os, s, r, g⟩ => by
    unfold evCons at g
    refine ⟨fm, Xs, os, s, r, ?_⟩
    cases q : ev s with
    | ok d s1 =>
      rw [q] at g
      simp only [Out.bind_ok] at g
      refine fun v H1 r1 st1 p1 => ⟨fm, Xs, os, s1, r1, ?_⟩
      cases q2 : evs s1 with
      | ok ds s2 =>
        rw [q2] at g
        refine fun vs H2 r2 st2 p2 => g (v :: vs) H2 r2 (st1.trans st2) ⟨v, vs, rfl, Rp.stay st2 r1.sx d v p1, p2⟩
      | exc c t s2 => rw [q2] at g; exact g
      | no => rw [q2] at g; exact g.elim
    | exc c t s1 => rw [q] at g; exact g
    | no => rw [q] at g; exact g.elim
def evCallK (f : List D → Ro) (ix : List Nat) (as : Evs) : Ev := fun s => (as s).bind fun ds s1 => ofRo (f (pick ix ds)) s1
theorem se_callK {g : List D → Ro} {ix : List Nat} (F : FnOk X.prog X.w X.K X.mg X.base (L2.CX X.prog X.w) k f fd ps (spP X.K cl n g)) (hr : Room k X.A) (hg : Gl X x) (hm : X.mg x = some (.ref f)) (hk : PySem.W.keepIn X.K (.ref f) = true) (hb : KwB fd ps ks ix) (tk : Takes X W)
    (ha : SK cl X W m kws evs) (hl : ks.length = kws.length) (hn : ∀ s ds s1, evs s = .ok ds s1 → (pick ix ds).length = n ∧ ds.length = ks.length) (hall : (backToKw pos (keywordEach kws X.env)).all (·.1.isSome) = true := by rfl) (hks : (backToKw pos (keywordEach kws X.env)).filterMap (·.1) = ks := by rfl)
    (hdb : (x == ("__debug__" : Str)) = false := by decide) (hpl : ((backTo pos (starEach [] X.env)).any (·.1) || (backToKw pos (keywordEach kws X.env)).any (·.1.isNone)) = false := by rfl) :
    SE cl X W m (.Call (.Name x p) [] kws pos) (evCallK g ix evs) := by
  refine ⟨fun pins s σ H Q I h => ?_⟩
  obtain ⟨fm, Xs, os, ms, R, h⟩ := h
  refine wpAny_Call_Name_kw (ld_glob I hg hm ?_ hdb)
  refine PySem.W.callWith_KW0 (h₀ := X.base) I.ok.mod.kin hk hall ?_ hpl
  refine thn (ha.run pos pins s σ H (fun zs H2 => ∃ ds s1, zs.length = ks.length ∧ RpA X.K H2 Xs ds zs ∧ evs ms = .ok ds s1 ∧ Rel X.K fm Xs os s1 σ H2 ∧ Stay (Mu fm.dka os m) H H2) I ⟨fm, Xs, os, ms, R, ?_⟩) fun ws s2 hh => ?_
  · unfold evCallK at h
    cases q : evs ms with
    | ok ds s1 => exact fun vs H1 r1 st1 ra => ⟨ds, s1, by rw [ra.len, (hn _ _ _ q).2], ra, rfl, r1, st1⟩
    | exc c t s1 => rw [q] at h; exact h
    | no => rw [q] at h; exact h.elim
  · obtain ⟨zs, H2, I2, rz, ds, s1, hz, ra, q, r1, st1⟩ := hh
    refine ⟨I2.kIn, ?_⟩
    rw [hks]
    unfold evCallK at h
    rw [q] at h
    simp only [Out.bind_ok] at h
    have sp := GoodE.call (cl := cl) (m := m) (W := W) (n := n) r1 st1 (pick_rp ra ix) (hn _ _ _ q).1 h
    have hw : ws.length = ks.length := by rw [← rz.length]; exact hz
    refine wpAny_call (codeAny_mono (F.run X.A X.stack s2 H2 ⟨[], ks.zip ws⟩ (pick ix ws) (pick ix zs) Q (WE W σ) hr I2.env0 (hb s2 ws hw) (pick_vals rz ix) sp) fun r s' done => ?_)
    cases r with
    | error er => exact passAt tk σ pins H2 s2 er s' I2 done
    | ok fl =>
      cases fl with
      | ret u => exact I2.after done
      | next => exact done.elim
      | brk => exact done.elim
      | cont => exact done.elim
/-! ### chains -/
theorem se_chain {op op' : CmpOp} {r r' : R2} {f f' : D → D → Option D} {ea eb ec : Expr} {a b c : Ev} (ho : OpR X (compareOp op) r) (hs : OpSem X r f) (ho' : OpR X (compareOp op') r') (hs' : OpSem X r' f') (ha : SB cl X W m ea a) (hb : SB cl X W true eb b) (hc : SB cl X W true ec c)
    (hm : lastMarks [op, op'] [eb, ec] = false := by with_unfolding_all rfl) : SE cl X W m (.Compare ea [op, op'] [eb, ec] pos) (evChain f f' a b c) :=
  pe_imp (pe_chain ho ho' ha hb hc hm) fun _ _ _ h => tChain_sem hs hs' h
theorem st_chain {op op' : CmpOp} {r r' : R2} {f f' : D → D → Option D} {ea eb ec : Expr} {a b c : Ev} (ho : OpR X (compareOp op) r) (hs : OpSem X r f) (ho' : OpR X (compareOp op') r') (hs' : OpSem X r' f') (ha : SB cl X W m ea a) (hb : SB cl X W true eb b) (hc : SB cl X W true ec c)
    (hm : lastMarks [op, op'] [eb, ec] = false := by with_unfolding_all rfl) : STt cl X W m (.Compare ea [op, op'] [eb, ec] pos) (evT (evChain f f' a b c)) :=
  pt_imp (pt_chain ho ho' ha hb hc hm) fun _ _ _ h => tChain_sem hs hs' (tT_of h)
/-! ### - -/
def negD : D → Option D
  | .int i => some (.int (-i))
  | _ => none
theorem se_neg (h : SB cl X W m e ev) : SE cl X W m (.UnaryOp .USub e pos) (ev1 negD ev) := pe_imp (pe_un un_neg h) fun σ H Q ⟨fm, Xs, os, s, R, g⟩ => by
  unfold ev1 at g
  refine ⟨fm, Xs, os, s, R, ?_⟩
  cases q : ev s with
  | ok d s1 =>
    rw [q] at g
    simp only [Out.bind_ok] at g
    cases d with
    | int i => exact fun v H1 r1 st1 p1 => ⟨i, p1.int, g _ H1 r1 st1 rfl⟩
    | _ => exact g.elim
  | exc c t s1 => rw [q] at g; exact g
  | no => rw [q] at g; exact g.elim
/-! ### {} -/
theorem se_dict0 : SE cl X W m (.Dict [] [] pos) (evLit (.dict [])) := pe_imp pe_dnewK fun σ H Q ⟨fm, Xs, os, s, R, g⟩ => fun p hp =>
  g (.ref p) _ (R.laid hp) (Stay.laid hp) ⟨p, [], rfl, upd_same, R.nx hp, rfl⟩
/-! ### sorted: texts -/
def strsOf : List D → Option (List Str)
  | [] => some []
  | .str x :: ds => (strsOf ds).map fun xs => x :: xs
  | _ => none
theorem strsOf_rp {K : Fr} {H : Hp} {Xs : List Addr} : ∀ {ds : List D} {vs : List V} {xs : List Str}, RpA K H Xs ds vs → strsOf ds = some xs → vs = xs.map V.str
  | [], _, _, h, e => by cases h; cases e; rfl
  | d :: ds, _, xs, h, e => by
    obtain ⟨v, r, e1, p, q⟩ := h
    subst e1
    cases d with
    | str x =>
      obtain ⟨ys, e2, e3⟩ := Option.map_eq_some_iff.mp e
      subst e3
      have := strsOf_rp q e2
      subst this
      have ev : v = .str x := p
      subst ev
      rfl
    | _ => cases e
theorem strs_rp {K : Fr} {H : Hp} {Xs : List Addr} : ∀ xs : List Str, RpA K H Xs (xs.map PyData.str) (xs.map V.str)
  | [] => rfl
  | x :: xs => ⟨_, _, rfl, rfl, strs_rp xs⟩
def leS (a b : Str) : Bool := !decide (b.cps.toList < a.cps.toList)
def sortD : D → Option (List D)
  | .list ds => match strsOf ds with
    | some xs => if xs.length < 64 then some ((xs.mergeSort leS).map PyData.str) else none
    | none => none
  | _ => none
theorem leS_trans (a b c : Str) (h : leS a b = true) (k : leS b c = true) : leS a c = true := by
  simp only [leS, Bool.not_eq_true', decide_eq_false_iff_not, List.not_lt] at *
  exact List.le_trans h k
theorem leS_total (a b : Str) : (leS a b || leS b a) = true := by
  simp only [leS, Bool.or_eq_true, Bool.not_eq_true', decide_eq_false_iff_not, List.not_lt]
  exact (List.le_total b.cps.toList a.cps.toList).symm
theorem leS_anti (a b : Str) (h : leS a b = true) (k : leS b a = true) : a = b := by
  simp only [leS, Bool.not_eq_true', decide_eq_false_iff_not, List.not_lt] at *
  obtain ⟨x⟩ := a
  obtain ⟨y⟩ := b
  congr 1
  exact Array.ext' (List.le_antisymm h k)
theorem rising_leS : ∀ (p : Str) (l : List Str), PyProof.Rows.risingS p l = true → (p :: l).Pairwise fun a b => leS a b = true
  | p, [], _ => by simp
  | p, x :: r, h => by
    unfold PyProof.Rows.risingS at h
    rw [Bool.and_eq_true] at h
    have ih := rising_leS x r h.2
    have hx : leS p x = true := by
      unfold leS
      rw [← PyProof.Rows.ltCps_eq]
      exact h.1
    refine List.pairwise_cons.mpr ⟨fun b hb => ?_, ih⟩
    rcases List.mem_cons.mp hb with rfl | hb
    · exact hx
    · exact leS_trans _ _ _ hx ((List.pairwise_cons.mp ih).1 b hb)
theorem sorted_one {ys xs : List Str} (hp : ys.Perm xs) (hs : PyProof.Rows.sortedS ys = true) : ys = xs.mergeSort leS := by
  have h1 : ys.Pairwise fun a b => leS a b = true := by
    cases ys with
    | nil => simp
    | cons y ys => exact rising_leS y ys hs
  have h2 := List.pairwise_mergeSort (le := leS) leS_trans leS_total xs
  exact List.Perm.eq_of_pairwise (le := fun a b => leS a b = true) (fun a b _ _ => leS_anti a b) h1 h2 (hp.trans (List.mergeSort_perm xs leS).symm)
theorem sem_sorted : CallSemL X (rSortedS X.K) sortD := by
  intro fm Xs os s σ H d ds v Q R p e q
  cases d with
  | list xs =>
    simp only [sortD] at e
    cases q1 : strsOf xs with
    | none => rw [q1] at e; cases e
    | some ys =>
      rw [q1] at e
      dsimp only at e
      split at e
      · rename_i hl
        cases e
        obtain ⟨a, vs, ev, ha, ra⟩ := p.list
        subst ev
        have e3 := strsOf_rp ra q1
        subst e3
        refine ⟨a, ys, rfl, SqL.of ha, hl, fun zs p hz hs hp => ?_⟩
        have := sorted_one hz hs
        subst this
        exact q p _ hp (strs_rp _)
      · cases e
  | _ => cases e
end
end Zo
/-! ZR: several except clauses, each of which names its error. -/
namespace Zo
open PySem PySem.Spec PyProof.Rows L2
open PySem.Zx (ExTxt)
abbrev Suite := Addr → Value → Option Addr → TS
/-- what the clauses 'except c as n', one after the other, wish: slot i is n's -/
def wEach (K : Fr) (i : Nat) (Wout : WX) (Dn : Ends) : List (Value × Suite) → WX
  | [] => Wout
  | (c, ts) :: more => fun cls d σ H => ∃ b, PySem.W.exmOne K cls c = some b ∧
      (b = true → ∀ a, H a = none → ts a cls d { nx := fun τ G => Dn.nx (τ.set i none) G, rt := Dn.rt, bk := fun τ G => Dn.bk (τ.set i none) G, ct := fun τ G => Dn.ct (τ.set i none) G } (σ.set i (some (.ref a))) H) ∧ (b = false → wEach K i Wout Dn more cls d σ H)
inductive Clauses (X : Cx) (n : Str) : List ExceptHandler → List (Value × Suite) → Prop
  | nil : Clauses X n [] []
  | cons {x : Str} {c : Value} {ts : Suite} {b₀ : Stmt} {suite : List Stmt} {np pe : Pos} {hds : List ExceptHandler} {l : List (Value × Suite)} (named : Names X x c)
      (runs : ∀ (a : Addr) (oe : Obj) (cls : Value) (d : Option Addr) (pn : List (Addr × Obj)), Zc cls d oe → (∃ vs, oe.data = .fields vs) → PSs (X.suite a ((a, oe) :: pn)) (b₀ :: suite) (ts a cls d)) (more : Clauses X n hds l) :
      Clauses X n (.ExceptHandler (some (.Name x np)) (some n) (b₀ :: suite) pe :: hds) ((c, ts) :: l)
section
variable {X : Cx} {n : Str} {i : Nat} {body : List Stmt} {h₀ : ExceptHandler} {hds : List ExceptHandler} {l : List (Value × Suite)} {pos : Pos} {tb : WX → TS} {Wout : WX}
theorem ps_try_each (hs : X.stack = X.env :: X.outer) (hf : X.env.frame = some X.env.locals) (hN : X.N.Nodup) (hi : X.N[i]? = some n) (hln : X.env.kindOf n = some .local) (tk : Takes X Wout)
    (hb : ∀ (W : WX) (pn : List (Addr × Obj)) (xe : Value → Shared → Prop), Takes (X.tr pn xe) W → PassesOwn (model X.prog X.w) X.A X.env xe → PSs (X.tr pn xe) body (tb W))
    (hh : Clauses X n (h₀ :: hds) l) : PS X (.Try body (h₀ :: hds) [] [] pos) (fun Dn σ H => tb (wEach X.K i Wout Dn l) Dn σ H) := by
  refine ⟨fun pins s σ H Dn I want => ?_⟩
  have fine := I.ok
  have frames : X.A.frames = some (X.env :: X.outer) := by rw [fine.frames, hs]
  have loc : Loc X.env.scope n := .inl hln
  refine wpAny_Try_except ?_
  refine wpAny_mono ((hb (wEach X.K i Wout Dn l) (X.pn ++ pins) (fun u t₁ => wpAny (model X.prog X.w) X.A (noteFrame u X.env) (fun _ t₂ => wpAny (model X.prog X.w) X.A (setFlight u none) (fun _ t₃ =>
    wpAny (model X.prog X.w) X.A (handleBy u X.env (h₀ :: hds)) (L2.SP X pins Dn) X.xe t₃) X.xe t₂) X.xe t₁) (fun u t' flying => ?_) PassesOwn.looking).run [] s σ H Dn (I.toTry _) want) (fun fl t1 ended => ?_) (fun u t1 z => z)
  · obtain ⟨a, ground, sI, pins', τ, G, cls, d, rfl, J', kept, up, sky, na, os, ag, wish⟩ := flying
    have J : Inv X pins τ G sI := J'.ofTry fine
    have sky2 : Sky ground (X.env :: X.outer) a (Zc cls d) X.env.locals t'.heap := by rw [← hs]; exact sky
    show wpAny (model X.prog X.w) X.A (noteFrame (.ref a) X.env) _ _ _
    refine Sky.land Zc.steady frames hf sky2 fun g3 fly3 up3 => ?_
    have J3 : Inv X pins τ G { t' with heap := g3 } := J.landed kept fly3.1 (up.trans up3) os ag
    obtain ⟨oe3, vs3, get3, zc3, data3⟩ := fly3.there
    have nfr : a ∉ frs (X.env :: X.outer) := fun hm => by
      obtain ⟨_, o', e', hnf⟩ := fly3.2.2.1.mem hm
      rw [get3] at e'
      cases e'
      exact hnf _ data3
    have nL : a ≠ X.env.locals := fun z => nfr (List.mem_filterMap.mpr ⟨X.env, List.mem_cons_self, by rw [hf, z]⟩)
    have nF : a ∉ X.fs := fun hm => by
      obtain ⟨en, mem, q⟩ := List.mem_filterMap.mp hm
      exact nfr (List.mem_filterMap.mpr ⟨en, List.mem_cons_of_mem _ mem, q⟩)
    have S3 := J3.suite get3 data3 na nL nF
    have walk : ∀ {hds' : List ExceptHandler} {l' : List (Value × Suite)}, Clauses X n hds' l' → wEach X.K i Wout Dn l' cls d τ G →
        wpAny (model X.prog X.w) X.A (handleBy (.ref a) X.env hds') (L2.SP X pins Dn) X.xe { t' with heap := g3 } := by
      intro hds' l' cs
      induction cs with
      | nil =>
        intro wish
        refine wpAny_handleBy_nil ?_
        obtain ⟨_, _, _, oe, vs, T, oT, ts', he, hz, hd, h1, hr⟩ := id fly3
        unfold PySem.passOn
        refine wpAny_bind (wpAny_field he hd h1 ?_)
        rw [if_neg (show ¬ ((Value.ref T == Value.none) = true) from by simp)]
        have out : wpAny (model X.prog X.w) X.A (setFlight (.ref a) X.env.frame) (fun _ t4 => wpAny (model X.prog X.w) X.A (throw (.ref a) : Sem Flow) (L2.SP X pins Dn) X.xe t4) X.xe { t' with heap := g3 } := by
          rw [hf]
          refine HandSPX.setFlight_upZ fly3 fun g4 held4 up4 => wpAny_throw (tk _ _ ?_)
          exact ⟨a, ground, sI, pins, τ, G, cls, d, rfl, J, kept, (up.trans up3).trans up4, .inr (.inr (by rw [hs]; exact held4)), na, os, ag, wish⟩
        first
          | exact wpAny_bind (wpAny_pure (wpAny_bind out))
          | exact wpAny_bind out
      | @cons x c ts b₀ suite np pe hds2 l2 named runs more ih =>
        intro wish
        obtain ⟨b, answer, yes, no⟩ := wish
        refine wpAny_handleBy_cons (codeAny_handlers_test ?_) (by intro q; cases q)
        have lookT : PySem.W.Looks (model X.prog X.w) g3 (typeOf (.ref a)) cls := fun A Q E s k q => wpAny_typeOf_ref (k _ _ get3) (by rw [zc3.1]; exact q)
        have lookM := PySem.W.exm_one (M := model X.prog X.w) (J3.kIn) lookT answer
        have test : ∀ {Q : Value → Shared → Prop} {E : Value → Shared → Prop}, Q c { t' with heap := g3 } → wpAny (model X.prog X.w) (X.A.mark (some (.ref a))) (eval (.Name x np) X.env) Q E { t' with heap := g3 } := fun {Q E} q => by
          obtain ⟨hg, hdb, hm | ⟨hm, hv, hnn⟩⟩ := named
          · exact ld_glob (X := X.suite a ((a, oe3) :: (X.pn ++ pins))) S3 hg hm q hdb
          · exact ld_blt (X := X.suite a ((a, oe3) :: (X.pn ++ pins))) S3 hg hm hv q hnn hdb
        refine test (lookM.here ?_)
        cases b with
        | false =>
          show wpAny _ X.A (handleBy (.ref a) X.env hds2) _ _ _
          exact ih (no rfl)
        | true =>
          refine codeAny_handlers_suite_as ?_
          refine HandSPX.lands_againZ fly3 fun g4 fly4 up4 => ?_
          have J4 : Inv X pins τ G { t' with heap := g4 } := J.landed kept fly4.1 ((up.trans up3).trans up4) os ag
          obtain ⟨oe4, vs4, get4, zc4, data4⟩ := fly4.there
          have S4 := J4.suite get4 data4 na nL nF
          refine store_ok (X := X.suite a ((a, oe4) :: (X.pn ++ pins))) (v := .ref a) S4 hN hi loc rfl (fun t5 S5 => ?_) (.inr hln)
          refine wpAny_mono ((runs a oe4 cls d (X.pn ++ pins) zc4 ⟨_, data4⟩).run [] t5 _ G _ S5 (yes rfl a na)) (fun fl t6 done => ?_) (fun _ _ z => z.elim)
          have gone : ∀ {τ6 : L2.St} {G6 : Hp} {Q : Shared → Prop}, Inv (X.suite a ((a, oe4) :: (X.pn ++ pins))) [] τ6 G6 t6 → (∀ t7, Inv X pins (τ6.set i none) G6 t7 → Q t7) →
              wpAny (model X.prog X.w) X.A (do bindName X.env n .none; unbindBehindTheSuite X.env n pe) (fun _ t7 => Q t7) X.xe t6 := fun {τ6 G6 Q} S6 q => gone_ok (S6.unsuite fine) hN hi hln q
          cases fl with
          | ret u =>
            obtain ⟨v6, τ6, G6, S6, r6, q6⟩ := done
            exact gone S6 fun t7 J7 => ⟨_, _, _, J7, r6, q6⟩
          | next =>
            obtain ⟨τ6, G6, S6, q6⟩ := done
            exact gone S6 fun t7 J7 => ⟨_, _, J7, q6⟩
          | brk =>
            obtain ⟨τ6, G6, S6, q6⟩ := done
            exact gone S6 fun t7 J7 => ⟨_, _, J7, q6⟩
          | cont =>
            obtain ⟨τ6, G6, S6, q6⟩ := done
            exact gone S6 fun t7 J7 => ⟨_, _, J7, q6⟩
    exact walk hh wish
  · cases fl with
    | ret u =>
      obtain ⟨v, τ, G, J', r, q⟩ := ended
      exact ⟨v, τ, G, J'.ofTry fine, r, q⟩
    | next =>
      obtain ⟨τ, G, J', q⟩ := ended
      exact wpAny_execs_nil ⟨τ, G, J'.ofTry fine, q⟩
    | brk =>
      obtain ⟨τ, G, J', q⟩ := ended
      exact ⟨τ, G, J'.ofTry fine, q⟩
    | cont =>
      obtain ⟨τ, G, J', q⟩ := ended
      exact ⟨τ, G, J'.ofTry fine, q⟩
end
/-- except c as e: return (w, e.thing, isinstance(e, ZonesError)), for several c, w -/
def heardM (cs : List (Nat × Str)) (i : Nat) (b : Ex) : Ex := fun s => match b s with
  | .exc c t s1 => match cs.lookup c, s1.env[i]? with
    | some w, some .un => .ok (.rt (.tuple [.str w, t, .bool true])) s1
    | _, _ => .no
  | o => o
/-- the suite's reading -/
abbrev tHeard (c : Addr) (w : Str) (i : Nat) (za : Addr) : Suite := fun a cls d => tRet (tTupF (tCons (tC (.str w)) (tCons (tThing c a cls d (tVar i)) (tCons (tCB (rIsZ c za cls d a) (tCons (tVar i) (tCons (tC (.ref za)) tNil))) tNil))))
/-- among the classes of the clauses: the first one that names c is c's own -/
def Apart (K : Fr) (cl : Nat → Addr) (cs : List (Nat × Str)) : Prop := ∀ p ∈ cs, ∀ q ∈ cs, PySem.W.exmOne K (.ref (cl p.1)) (.ref (cl q.1)) = some (decide (p.1 = q.1))
section
variable {X : Cx} {n : Str} {za : Addr}
/-- one clause's suite -/
theorem heard_suite {x q w : Str} {C fI : Addr} {i : Nat} {p1 p2 p3 p4 p5 p6 p7 p8 p9 : Pos} {j k : Nat} (T : ExTxt X.K X.mg x q C za fI) (S : ExIs X.K C) (hk : PySem.W.kitOne X.K (.ref C) (.ref za) = some true) (hZ : X.mg "ZonesError" = some (.ref za)) (gZ : Gl X "ZonesError")
    (hgi : Gl X "isinstance") (hmi : X.mg "isinstance" = none) (hv : ∀ (a : Addr) (oe : Obj) (pn : List (Addr × Obj)) (p : Pos), PE (X.suite a ((a, oe) :: pn)) (.Name n p) (tVar i)) (a : Addr) (oe : Obj) (cls : Value) (d : Option Addr) (pn : List (Addr × Obj)) (hz : Zc cls d oe) (hvs : ∃ vs, oe.data = .fields vs) :
    PSs (X.suite a ((a, oe) :: pn)) [.Return (some (.Tuple [.Constant (.str w) j p1, .Attribute (.Name n p2) "thing" p3, .Call (.Name "isinstance" p4) [.Name n p5, .Name "ZonesError" p6] [] p7] k p8)) p9] (tHeard C w i za a cls d) := by
  refine pss_one (ps_ret (pe_tupF (pa_cons pe_str (pa_cons (pe_thing T hz hvs (hv a oe pn p2)) (pa_cons (pe_callB (call_isZ T S hk hz hvs) hgi hmi PyProof.Rows.boot_isinstance (pa_cons (hv a oe pn p5) (pa_cons ?_ pa_nil))) pa_nil)))))
  exact pe_glob (v := V.ref za) gZ hZ rfl
theorem ss_heardM {cl : Nat → Addr} {Wout : WX} {i : Nat} {cs : List (Nat × Str)} {body : List Stmt} {b : Ex} {h₀ : ExceptHandler} {hds : List ExceptHandler} {pos : Pos}
    (hs : X.stack = X.env :: X.outer) (hf : X.env.frame = some X.env.locals) (hN : X.N.Nodup) (hi : X.N[i]? = some n) (hln : X.env.kindOf n = some .local) (tk : Takes X Wout) (ap : Apart X.K cl cs)
    (hb : ∀ (W : WX) (pn : List (Addr × Obj)) (xe : Value → Shared → Prop), Takes (X.tr pn xe) W → PassesOwn (model X.prog X.w) X.A X.env xe → SSs cl (X.tr pn xe) W body b)
    (hh : Clauses X n (h₀ :: hds) (cs.map fun p => (.ref (cl p.1), tHeard (cl p.1) p.2 i za))) :
    SS cl X Wout (.Try body (h₀ :: hds) [] [] pos) (heardM cs i b) := by
  refine ps_imp (ps_try_each (i := i) (tb := fun W => tS X.K cl W b) (Wout := Wout) hs hf hN hi hln tk hb hh) ?_
  intro Dn σ H ⟨fm, Xs, os, s, r, g⟩
  refine ⟨fm, Xs, os, s, r, ?_⟩
  unfold heardM at g
  cases qb : b s with
  | ok fl s1 => rw [qb] at g; exact g
  | no => rw [qb] at g; exact g.elim
  | exc c t s1 =>
    rw [qb] at g
    dsimp only at g
    cases hl : cs.lookup c with
    | none => rw [hl] at g; exact g.elim
    | some w =>
      rw [hl] at g
      split at g
      · rename_i w' e1 e2
        cases e1
        intro X' os' τ v dd G r' pv hd
        have here : ∀ (rest : List (Nat × Str)), (∀ p ∈ rest, p ∈ cs) → rest.lookup c = some w → wEach X.K i Wout Dn (rest.map fun p => (.ref (cl p.1), tHeard (cl p.1) p.2 i za)) (.ref (cl c)) (some dd) τ G := by
          intro rest
          induction rest with
          | nil => intro _ z; cases z
          | cons p rest ih =>
            intro sub lk
            have inC : ∃ w0, (c, w0) ∈ cs := by
              have : ∀ (ds : List (Nat × Str)) (z : Str), ds.lookup c = some z → ∃ w0, (c, w0) ∈ ds := by
                intro ds
                induction ds with
                | nil => intro z e; cases e
                | cons y ds ih2 =>
                  intro z e
                  obtain ⟨y1, y2⟩ := y
                  by_cases hc : c = y1
                  · subst hc; exact ⟨y2, List.mem_cons_self⟩
                  · have hb2 : (c == y1) = false := by simpa using hc
                    simp only [List.lookup, hb2] at e
                    obtain ⟨w0, m⟩ := ih2 z e
                    exact ⟨w0, List.mem_cons_of_mem _ m⟩
              exact this cs w hl
            obtain ⟨w0, mc⟩ := inC
            have ans := ap (c, w0) mc p (sub p List.mem_cons_self)
            refine ⟨_, ans, fun yes a na => ?_, fun no => ?_⟩
            · have e : c = p.1 := of_decide_eq_true yes
              obtain ⟨p1, p2⟩ := p
              subst e
              have ew : p2 = w := by simpa [List.lookup] using lk
              subst ew
              have hlt : i < τ.length := by
                rw [← r'.len]
                exact (List.getElem?_eq_some_iff.mp e2).1
              have hget : (τ.set i (some (.ref a)))[i]? = some (some (.ref a)) := List.getElem?_set_self hlt
              refine ⟨_, hget, rfl, rfl, dd, v, rfl, hd, _, hget, rfl, rfl, ⟨dd, v, rfl, hd⟩, size1000 (show 3 ≤ 1000 by decide), fun p o hp hdo => ?_⟩
              refine g X' os' τ _ (r'.laid hp) _ ?_
              exact ⟨p, _, rfl, .inl ⟨⟨o, upd_same, hdo⟩, r'.nx hp⟩, ⟨_, _, rfl, rfl, v, _, rfl, Rp.stay (M := []) (Stay.laid hp) (fun a h => absurd h (by simp)) t v pv, _, [], rfl, rfl, rfl⟩⟩
            · have hne : ¬ c = p.1 := of_decide_eq_false no
              have hb2 : (c == p.1) = false := by simpa using hne
              obtain ⟨p1, p2⟩ := p
              simp only [List.lookup, hb2] at lk
              exact ih (fun q hq => sub q (List.mem_cons_of_mem _ hq)) lk
        exact here cs (fun _ h => h) hl
      · exact g.elim
end
end Zo
/-! ZS: dicts with ints and texts as keys. -/
namespace Zo
open PySem PySem.Spec PyProof.Rows L2
def keyOf : D → Option Key
  | .int i => some (.inl i)
  | .str x => some (.inr x)
  | _ => none
theorem keyOf_d {d : D} {k : Key} (h : keyOf d = some k) : d = keyD k := by
  cases d <;> simp [keyOf] at h <;> subst h <;> rfl
def pairOf : D → Option (Key × D)
  | .tuple [k, v] => (keyOf k).map fun x => (x, v)
  | .list [k, v] => (keyOf k).map fun x => (x, v)
  | _ => none
def pairsOf : List D → Option (List (Key × D))
  | [] => some []
  | d :: ds => match pairOf d, pairsOf ds with
    | some p, some ps => some (p :: ps)
    | _, _ => none
def putG (kvs : List (Key × D)) (k : Key) (v : D) : List (Key × D) :=
  if (kvs.any fun kv => decide (kv.1 = k)) = true then kvs.map (fun kv => if kv.1 = k then (kv.1, v) else kv) else kvs ++ [(k, v)]
def mergeG (kvs more : List (Key × D)) : List (Key × D) := more.foldl (fun acc p => putG acc p.1 p.2) kvs
def dictOf (kvs : List (Key × D)) : D := .dict (kvs.map fun p => (keyD p.1, p.2))
/-- dict(xs) -/
def dictD : D → Option D
  | .list ds => (pairsOf ds).map fun ps => dictOf (mergeG [] ps)
  | .tuple ds => (pairsOf ds).map fun ps => dictOf (mergeG [] ps)
  | _ => none
/-! ### pairs, there and here -/
def RG (K : Fr) (H : Hp) (Xs : List Addr) : List (Key × D) → List (Key × V) → Prop
  | [], l => l = []
  | (k, d) :: r, l => ∃ v t, l = (k, v) :: t ∧ Rp K H Xs d v ∧ RG K H Xs r t
section
variable {K : Fr} {H : Hp} {Xs : List Addr}
theorem RG.toK : ∀ {a : List (Key × D)} {b : List (Key × V)}, RG K H Xs a b → RpK K H Xs (a.map fun p => (keyD p.1, p.2)) b
  | [], _, h => h
  | (k, d) :: r, _, h => by
    obtain ⟨v, t, e, p, q⟩ := h
    exact ⟨k, v, t, e, rfl, p, RG.toK q⟩
theorem RG.any {k : Key} : ∀ {a : List (Key × D)} {b : List (Key × V)}, RG K H Xs a b → (a.any fun p => decide (p.1 = k)) = (b.any fun p => decide (p.1 = k))
  | [], _, h => by cases h; rfl
  | (k', d) :: r, _, h => by
    obtain ⟨v, t, e, p, q⟩ := h
    subst e
    simp only [List.any_cons, RG.any q]
theorem RG.app {k : Key} {d : D} {v : V} (hv : Rp K H Xs d v) : ∀ {a : List (Key × D)} {b : List (Key × V)}, RG K H Xs a b → RG K H Xs (a ++ [(k, d)]) (b ++ [(k, v)])
  | [], _, h => by cases h; exact ⟨v, [], rfl, hv, rfl⟩
  | (k', d') :: r, _, h => by
    obtain ⟨w, t, e, p, q⟩ := h
    subst e
    exact ⟨w, _, rfl, p, RG.app hv q⟩
theorem RG.set {k : Key} {d : D} {v : V} (hv : Rp K H Xs d v) : ∀ {a : List (Key × D)} {b : List (Key × V)}, RG K H Xs a b → RG K H Xs (a.map fun p => if p.1 = k then (p.1, d) else p) (b.map fun p => if p.1 = k then (p.1, v) else p)
  | [], _, h => by cases h; rfl
  | (k', d') :: r, _, h => by
    obtain ⟨w, t, e, p, q⟩ := h
    subst e
    by_cases c : k' = k
    · simp only [List.map_cons, c, if_true]
      exact ⟨v, _, rfl, hv, RG.set hv q⟩
    · simp only [List.map_cons, if_neg c]
      exact ⟨w, _, rfl, p, RG.set hv q⟩
theorem RG.put {k : Key} {d : D} {v : V} {a : List (Key × D)} {b : List (Key × V)} (h : RG K H Xs a b) (hv : Rp K H Xs d v) : RG K H Xs (putG a k d) (putK b k v) := by
  unfold putG putK
  rw [h.any (k := k)]
  split
  · exact h.set hv
  · exact h.app hv
theorem RG.merge : ∀ {more : List (Key × D)} {mv : List (Key × V)} {a : List (Key × D)} {b : List (Key × V)}, RG K H Xs more mv → RG K H Xs a b → RG K H Xs (mergeG a more) (mergeK b mv)
  | [], _, a, b, h, q => by cases h; exact q
  | (k, d) :: r, _, a, b, h, q => by
    obtain ⟨v, t, e, p, h2⟩ := h
    subst e
    show RG K H Xs (mergeG (putG a k d) r) (mergeK (putK b k v) t)
    exact RG.merge h2 (q.put p)
theorem RG.less {Ys : List Addr} {H' : Hp} (f : ∀ d v, Rp K H Xs d v → Rp K H' Ys d v) : ∀ {a : List (Key × D)} {b : List (Key × V)}, RG K H Xs a b → RG K H' Ys a b
  | [], _, h => h
  | (k, d) :: r, _, h => by
    obtain ⟨v, t, e, p, q⟩ := h
    exact ⟨v, t, e, f d v p, RG.less f q⟩
end
section
variable {X : Cx} {pins : List (Addr × Obj)} {σ : L2.St} {H : Hp} {s : Shared} {Xs : List Addr}
theorem pair_val (I : Inv X pins σ H s) {d : D} {v : V} {u : Value} {k : Key} {e : D} (h : Rp X.K H Xs d v) (r : RelV v u) (hp : pairOf d = some (k, e)) :
    ∃ (b : Addr) (uk uv : Value) (w : V), u = .ref b ∧ PairAt s.heap b uk uv ∧ (mixKind X.prog X.w).is k uk = true ∧ RelV w uv ∧ Rp X.K H Xs e w := by
  have two : ∀ {x y : D} {vs : List V} {its : List Value}, RpA X.K H Xs [x, y] vs → Vals vs its → (keyOf x).map (fun z => (z, y)) = some (k, e) → ∃ uk uv w, its = [uk, uv] ∧ (mixKind X.prog X.w).is k uk = true ∧ RelV w uv ∧ Rp X.K H Xs e w := by
    intro x y vs its ra rv hk
    obtain ⟨kk, e1, e2⟩ := Option.map_eq_some_iff.mp hk
    cases e2
    have ex := keyOf_d e1
    subst ex
    obtain ⟨v1, r1, q1, p1, t1⟩ := ra
    obtain ⟨v2, r2, q2, p2, t2⟩ := t1
    cases t2
    subst q2 q1
    cases rv with
    | @cons _ u1 _ _ h1 rv2 =>
      cases rv2 with
      | @cons _ u2 _ _ h2 rv3 =>
        cases rv3
        refine ⟨u1, u2, v2, rfl, ?_, h2, p2⟩
        have : v1 = kV k := by
          cases k with
          | inl i => exact p1
          | inr z => exact p1
        subst this
        exact kV_is (P := X.prog) (w := X.w) h1
  cases d with
  | tuple ds =>
    obtain ⟨a, vs, ev, f, ra⟩ := h
    subst ev
    cases r
    match ds, hp with
    | [x, y], hp =>
      obtain ⟨its, rv, ⟨o, ho, hc, n, hd⟩, _⟩ := I.tuple f.sq
      obtain ⟨uk, uv, w, e1, e2, e3, e4⟩ := two ra rv hp
      subst e1
      exact ⟨a, uk, uv, w, rfl, .inl ⟨o, ho, hc, n, hd⟩, e2, e3, e4⟩
  | list ds =>
    obtain ⟨a, vs, ev, f, ra⟩ := h
    subst ev
    cases r
    match ds, hp with
    | [x, y], hp =>
      obtain ⟨its, rv, ⟨o, n, ho, hc, _, hd⟩, _⟩ := I.list (SqL.of f.1)
      obtain ⟨uk, uv, w, e1, e2, e3, e4⟩ := two ra rv hp
      subst e1
      exact ⟨a, uk, uv, w, rfl, .inr ⟨o, ho, hc, n, hd⟩, e2, e3, e4⟩
  | _ => simp [pairOf] at hp
/-- the items as pairs of values -/
theorem pairs_vals (I : Inv X pins σ H s) : ∀ {ds : List D} {vs : List V} {us : List Value} {kd : List (Key × D)}, RpA X.K H Xs ds vs → Vals vs us → pairsOf ds = some kd →
    ∃ (bs : List Addr) (ps : List (Value × Value)) (prs : List (Key × Value)) (kv : List (Key × V)), us = bs.map Value.ref ∧ bs.length = ps.length ∧ prs.length = ps.length ∧ RG X.K H Xs kd kv ∧ KV kv prs ∧
      ∀ (j : Nat) (k v : Value), ps[j]? = some (k, v) → ∃ (b : Addr) (kk : Key), bs[j]? = some b ∧ PairAt s.heap b k v ∧ prs[j]? = some (kk, v) ∧ (mixKind X.prog X.w).is kk k = true
  | [], _, _, kd, h, r, e => by
    cases h
    cases r
    cases e
    exact ⟨[], [], [], [], rfl, rfl, rfl, rfl, .nil, fun j k v z => by simp at z⟩
  | d :: ds, _, _, kd, h, r, e => by
    obtain ⟨v, vs, ev, p, q⟩ := h
    subst ev
    cases r with
    | @cons _ u _ us r1 r2 =>
      unfold pairsOf at e
      cases e1 : pairOf d with
      | none => rw [e1] at e; cases e
      | some pr =>
        cases e2 : pairsOf ds with
        | none => rw [e1, e2] at e; cases e
        | some prd =>
          rw [e1, e2] at e
          cases e
          obtain ⟨k, x⟩ := pr
          obtain ⟨b, uk, uv, w, eu, pa, is, rw', pw⟩ := pair_val I p r1 e1
          obtain ⟨bs, ps, prs, kv, h1, h2, h3, h4, h5, h6⟩ := pairs_vals I q r2 e2
          refine ⟨b :: bs, (uk, uv) :: ps, (k, uv) :: prs, (k, w) :: kv, by rw [eu, h1]; rfl, by simp [h2], by simp [h3], ⟨w, kv, rfl, pw, h4⟩, .cons ⟨rfl, rw'⟩ h5, fun j k' v' z => ?_⟩
          cases j with
          | zero =>
            cases (Option.some.inj z)
            exact ⟨b, k, rfl, pa, rfl, is⟩
          | succ j =>
            obtain ⟨b', kk, z1, z2, z3, z4⟩ := h6 j k' v' (by simpa using z)
            exact ⟨b', kk, by simpa using z1, z2, by simpa using z3, z4⟩
/-- dict(xs), xs a list or a tuple of pairs -/
theorem call_dictP2 (hcalm : X.calm = true) : CallR X (.type "dict") (fun xs H Q => ∃ (v : V) (d : D) (ps : List (Key × D)) (Xs : List Addr), xs = [v] ∧ Rp X.K H Xs d v ∧ dictD d = some (dictOf (mergeG [] ps)) ∧ (∀ a ∈ Xs, H a ≠ none) ∧
    (∃ ds, (d = .list ds ∨ d = .tuple ds) ∧ pairsOf ds = some ps) ∧ ∀ p kv, H p = none → RG X.K H Xs (mergeG [] ps) kv → Q (.ref p) (upd H p (.dK kv))) := by
  intro pins s σ H xs us Q I r h
  obtain ⟨v, d, ps, Xs, rfl, p, _, xt, ⟨ds, hd, hps⟩, q⟩ := h
  obtain ⟨u, eu, rx⟩ := vals1 r
  subst eu
  have core : ∀ (a : Addr) (its : List Value) (vs : List V) (T : String), (T = "list" ∨ T = "tuple") → PlainSeq T s.heap a its.toArray → Vals vs its → RpA X.K H Xs ds vs → vs.length ≤ sizeLine → wpAny (model X.prog X.w) X.A (call (.type "dict") [.ref a]) (EP X pins σ Q) X.xe s := by
    intro a its vs T hT hseq rv ra hz
    obtain ⟨bs, pv, prs, kv, h1, h2, h3, h4, h5, h6⟩ := pairs_vals I ra rv hps
    have hlen : its.length = pv.length := by rw [h1, List.length_map, h2]
    have hz' : pv.length ≤ sizeLine := by rw [← hlen, ← rv.length]; exact hz
    have items : PairItems s.heap its.toArray (fun j => bs.getD j 0) pv := by
      refine ⟨by rw [List.size_toArray, hlen], fun j k v e => ?_⟩
      obtain ⟨b, kk, z1, z2, _, _⟩ := h6 j k v e
      have eb : bs.getD j 0 = b := by rw [List.getD_eq_getElem?_getD, z1]; rfl
      have e1 : its.toArray[j]? = some (Value.ref b) := by
        rw [h1]
        simp [z1]
      refine ⟨?_, ?_⟩
      · show its.toArray[j]? = some (Value.ref (bs.getD j 0))
        rw [eb]; exact e1
      · show PairAt s.heap (bs.getD j 0) k v
        rw [eb]; exact z2
    have have_ : PairsHave (mixKind X.prog X.w) pv.length (PairRel pv) prs := ⟨h3, fun i key v e => by
      obtain ⟨b, kk, _, _, z3, z4⟩ := h6 i key v e
      exact ⟨kk, z3, z4⟩⟩
    have fin : ∀ (h' : Heap) (tk : Nat), h'.DictOf (mixKind X.prog X.w) s.heap.objs.size (merged [] prs) → (∀ b o, b ∉ ([] : List Addr) → s.heap.get? b = some o → h'.get? b = some o) → EP X pins σ Q (.ref s.heap.objs.size) { s with heap := h', toks := tk } := by
      intro h' tk hd' keep
      have hm : (s.heap.objs.size == sysModules) = false := beq_eq_false_iff_ne.mpr (Nat.ne_of_gt I.big)
      have few : (mergeK [] kv).length ≤ sizeLine := by
        refine Nat.le_trans (length_mergeK kv []) ?_
        rw [List.length_nil, Nat.zero_add, h5.length, h3]
        exact hz'
      exact ⟨.ref s.heap.objs.size, upd H s.heap.objs.size (.dK (mergeK [] kv)), I.laid (t' := tk) (fun b o e => keep b o (by simp) e) (Nat.le_refl _) (show ObjOk X.prog X.w _ _ _ (.dK (mergeK [] kv)) from ⟨few, hm, merged [] prs, KV.merge h5 .nil, hd'⟩), rfl, q _ _ (I.hok.fresh (Nat.le_refl _)) (RG.merge h4 rfl)⟩
    rcases hT with rfl | rfl
    · exact PySem.call_dict_pairs (PairArg.list a its.toArray (fun j => bs.getD j 0) pv) (I.ok.hd hcalm) ⟨hseq, items⟩ have_ hz' fin
    · exact PySem.call_dict_pairs (PairArg.tuple a its.toArray (fun j => bs.getD j 0) pv) (I.ok.hd hcalm) ⟨hseq, items⟩ have_ hz' fin
  rcases hd with rfl | rfl
  · obtain ⟨a, vs, ev, f, ra⟩ := p
    subst ev
    cases rx
    obtain ⟨its, rv, ⟨o, n, ho, hc, hdn, hdat⟩, hz⟩ := I.list (SqL.of f.1)
    exact core a its vs "list" (.inl rfl) ⟨o, n, ho, hc, hdn, hdat⟩ rv ra hz
  · obtain ⟨a, vs, ev, f, ra⟩ := p
    subst ev
    cases rx
    obtain ⟨its, rv, ⟨o, ho, hc, n, hdat⟩, hz⟩ := I.tuple f.sq
    refine core a its vs "tuple" (.inr rfl) ⟨o, n, ho, hc, ?_, hdat⟩ rv ra hz
    rcases f with ⟨⟨o', e, dn⟩, _⟩ | ⟨o', _, _, e, _, dn, _⟩
    · have z := (I.hok a _ e).1
      rw [ho] at z
      cases z
      exact dn
    · have z := I.kIn a o' e
      rw [ho] at z
      cases z
      exact dn
end
/-! ### the rules -/
section
variable {cl : Nat → Addr} {X : Cx} {W : WX} {m : Bool} {e e2 : Expr} {ev ev2 : Ev} {p pos : Pos}
theorem dictD_some {d d' : D} (h : dictD d = some d') : ∃ ds ps, (d = .list ds ∨ d = .tuple ds) ∧ pairsOf ds = some ps ∧ d' = dictOf (mergeG [] ps) := by
  cases d <;> simp only [dictD] at h <;> try cases h
  · obtain ⟨ps, h1, h2⟩ := Option.map_eq_some_iff.mp h
    exact ⟨_, ps, .inl rfl, h1, h2.symm⟩
  · obtain ⟨ps, h1, h2⟩ := Option.map_eq_some_iff.mp h
    exact ⟨_, ps, .inr rfl, h1, h2.symm⟩
theorem RpK.laid {K : Fr} {H : Hp} {Xs : List Addr} {p : Addr} {o : HO} {es : List (D × D)} {kvs : List (Key × V)} (hp : H p = none) (h : RpK K H Xs es kvs) : RpK K (upd H p o) Xs es kvs := RpK.stay (M := []) (Stay.laid hp) (fun a h => absurd h (by simp)) es kvs h
theorem se_dict (hc : X.calm = true) (hg : Gl X "dict") (hm : X.mg "dict" = none) (ha : SE cl X W m e ev) (he : starEach [e] X.env = (false, eval e X.env) :: starEach [] X.env := by rfl) : SE cl X W m (.Call (.Name "dict" p) [e] [] pos) (ev1 dictD ev) :=
  pe_imp (pe_callTy (call_dictP2 hc) hg hm PyProof.Rows.boot_dict (pa_cons ha pa_nil he) (by decide) (by decide) he) fun σ H Q ⟨fm, Xs, os, s, R, g⟩ => by
    unfold ev1 at g
    refine ⟨fm, Xs, os, s, R, ?_⟩
    cases q : ev s with
    | ok x s1 =>
      rw [q] at g
      simp only [Out.bind_ok] at g
      cases q3 : dictD x with
      | none => rw [q3] at g; exact g.elim
      | some d' =>
        rw [q3] at g
        obtain ⟨ds, ps, h1, h2, h3⟩ := dictD_some q3
        subst h3
        exact fun v1 H1 r1 st1 p1 => ⟨v1, x, ps, Xs, rfl, p1, q3, r1.xt, ⟨ds, h1, h2⟩, fun p kv hp rg => g (.ref p) _ (r1.laid hp) (st1.trans (Stay.laid hp)) ⟨p, kv, rfl, upd_same, r1.nx hp, RpK.laid hp rg.toK⟩⟩
    | exc c t s1 => rw [q] at g; exact g
    | no => rw [q] at g; exact g.elim
theorem RpK.len {K : Fr} {H : Hp} {Xs : List Addr} : ∀ {es : List (D × D)} {kvs : List (Key × V)}, RpK K H Xs es kvs → kvs.length = es.length
  | [], _, h => by cases h; rfl
  | (k, d) :: es, _, h => by
    obtain ⟨kk, v, r, e, _, _, t⟩ := h
    subst e
    simp [RpK.len t]
/-- len of a dict -/
def lenK : D → Option D
  | .dict es => some (.int es.length)
  | _ => none
theorem call_lenK : CallR X (.builtin "len") (fun xs H Q => ∃ a kvs, xs = [.ref a] ∧ L2.Rd H a (.dK kvs) ∧ Q (.int kvs.length) H) := by
  intro pins s σ H xs us Q I r h
  obtain ⟨a, kvs, rfl, rd, q⟩ := h
  obtain ⟨u, rfl, rx⟩ := vals1 r
  cases rx
  exact d_len I rd fun t s' I' => ⟨.int kvs.length, H, I', ⟨_, rfl⟩, q⟩
theorem sem_lenK : CallSem X (fun xs H Q => ∃ a kvs, xs = [.ref a] ∧ L2.Rd H a (.dK kvs) ∧ Q (.int kvs.length) H) lenK := by
  intro fm Xs os s σ H d d' v Q R p e q
  cases d with
  | dict es =>
    cases e
    obtain ⟨a, kvs, ev, ha, _, ra⟩ := p.dict
    subst ev
    exact ⟨a, kvs, rfl, .inl ha, q _ H R (Stay.refl _ _) (by rw [ra.len]; rfl)⟩
  | _ => cases e
def lookK (es : List (D × D)) (k : Key) : Option D := (es.find? fun p => decide (keyOf p.1 = some k)).map (·.2)
theorem keyOf_keyD (k : Key) : keyOf (keyD k) = some k := by cases k <;> rfl
theorem lookK_rp {K : Fr} {H : Hp} {Xs : List Addr} (k : Key) : ∀ {es : List (D × D)} {kvs : List (Key × V)}, RpK K H Xs es kvs → (∃ d v, lookK es k = some d ∧ valV kvs k = some v ∧ Rp K H Xs d v) ∨ (lookK es k = none ∧ valV kvs k = none)
  | [], _, h => by cases h; exact .inr ⟨rfl, rfl⟩
  | (k', d) :: es, _, h => by
    obtain ⟨kk, v, r, e, ek, p, t⟩ := h
    subst e ek
    have ih := lookK_rp k t
    by_cases c : kk = k
    · subst c
      exact .inl ⟨d, v, by simp [lookK, keyOf_keyD], valV_pos rfl, p⟩
    · have hc : ¬ (keyOf (keyD kk) = some k) := by rw [keyOf_keyD]; simpa using c
      have e1 : lookK ((keyD kk, d) :: es) k = lookK es k := by simp [lookK, List.find?_cons, hc]
      rw [e1, valV_neg (p := (kk, v)) c]
      exact ih
theorem kV_of {K : Fr} {H : Hp} {Xs : List Addr} {os : List (Nat × Addr)} {d : D} {v : V} {k : Key} (h : RpB K H Xs os d v) (hk : keyOf d = some k) : v = kV k := by
  have e := keyOf_d hk
  subst e
  cases k with
  | inl i => exact h.int
  | inr x => exact h.str
/-- k in d -/
def inK (neg : Bool) : D → D → Option D
  | k, .dict es => (keyOf k).map fun x => .bool (if neg then !(lookK es x).isSome else (lookK es x).isSome)
  | _, _ => none
theorem op_inK (hu : X.A.units + 1 < cLine) : OpR X (compareOp .In) (fun y x H Q => ∃ a o, x = .ref a ∧ DGet H a y o ∧ Q (.bl o.isSome) H) := by
  intro pins s σ H y x v u Q I ry rx h
  obtain ⟨a, o, rfl, g, q⟩ := h
  cases rx
  exact d_in hu I g ry fun s' I' => ⟨.bl o.isSome, H, I', rfl, q⟩
theorem op_notInK (hu : X.A.units + 1 < cLine) : OpR X (compareOp .NotIn) (fun y x H Q => ∃ a o, x = .ref a ∧ DGet H a y o ∧ Q (.bl (!o.isSome)) H) := by
  intro pins s σ H y x v u Q I ry rx h
  obtain ⟨a, o, rfl, g, q⟩ := h
  cases rx
  exact d_notIn hu I g ry fun s' I' => ⟨.bl (!o.isSome), H, I', rfl, q⟩
theorem sem_inK : OpSem X (fun y x H Q => ∃ a o, x = .ref a ∧ DGet H a y o ∧ Q (.bl o.isSome) H) (inK false) := by
  intro fm Xs os s σ H d1 d2 d v1 v2 Q R p1 p2 e q
  cases d2 with
  | dict es =>
    obtain ⟨k, h1, h2⟩ := Option.map_eq_some_iff.mp e
    subst h2
    obtain ⟨a, kvs, ev, ha, _, ra⟩ := p2.dict
    subst ev
    have ek := kV_of p1 h1
    subst ek
    refine ⟨a, valV kvs k, rfl, DGet.k ha, q _ H R (Stay.refl _ _) ?_⟩
    rcases lookK_rp k ra with ⟨x, w, l1, l2, _⟩ | ⟨l1, l2⟩ <;> (rw [l1, l2]; rfl)
  | _ => simp [inK] at e
theorem sem_notInK : OpSem X (fun y x H Q => ∃ a o, x = .ref a ∧ DGet H a y o ∧ Q (.bl (!o.isSome)) H) (inK true) := by
  intro fm Xs os s σ H d1 d2 d v1 v2 Q R p1 p2 e q
  cases d2 with
  | dict es =>
    obtain ⟨k, h1, h2⟩ := Option.map_eq_some_iff.mp e
    subst h2
    obtain ⟨a, kvs, ev, ha, _, ra⟩ := p2.dict
    subst ev
    have ek := kV_of p1 h1
    subst ek
    refine ⟨a, valV kvs k, rfl, DGet.k ha, q _ H R (Stay.refl _ _) ?_⟩
    rcases lookK_rp k ra with ⟨x, w, l1, l2, _⟩ | ⟨l1, l2⟩ <;> (rw [l1, l2]; rfl)
  | _ => simp [inK] at e
/-- d[k] -/
def getK : D → D → Option D
  | .dict es, k => (keyOf k).bind fun x => lookK es x
  | _, _ => none
theorem sem_getK : OpSem X (fun x y H Q => ∃ a v, x = .ref a ∧ DGet H a y (some v) ∧ Q v H) getK := by
  intro fm Xs os s σ H d1 d2 d v1 v2 Q R p1 p2 e q
  cases d1 with
  | dict es =>
    obtain ⟨k, h1, h2⟩ := Option.bind_eq_some_iff.mp e
    obtain ⟨a, kvs, ev, ha, _, ra⟩ := p1.dict
    subst ev
    have ek := kV_of p2 h1
    subst ek
    rcases lookK_rp k ra with ⟨x, w, l1, l2, pw⟩ | ⟨l1, l2⟩
    · rw [l1] at h2
      cases h2
      exact ⟨a, w, rfl, by rw [← l2]; exact DGet.k ha, q w H R (Stay.refl _ _) pw⟩
    · rw [l1] at h2; cases h2
  | _ => simp [getK] at e
theorem se_getK (hu : X.A.units + 1 < cLine) (ha : SB cl X W m e ev) (hb : SB cl X W true e2 ev2) (hs : NoSl e2 := by exact fun _ _ => rfl) : SE cl X W m (.Subscript e e2 pos) (evBin getK ev ev2) :=
  pe_imp (pe_dget hu ha hb hs) fun _ _ _ h => tOp_sem rfl sem_getK h
/-- d.get(k, x) -/
def evGet (a b c : Ev) : Ev := fun s => (a s).bind fun d s1 => match d with
  | .dict es => (b s1).bind fun k s2 => (c s2).bind fun x s3 => match keyOf k with
    | some kk => .ok ((lookK es kk).getD x) s3
    | none => .no
  | _ => .no
theorem se_get2 {e3 : Expr} {ev3 : Ev} {apos : Pos} (hu : X.A.units + 1 < cLine) (ha : SE cl X W m e ev) (hb : SE cl X W m e2 ev2) (hc : SE cl X W m e3 ev3) (hM : M2 X e "get" apos e2 e3 pos) :
    SE cl X W m (.Call (.Attribute e "get" apos) [e2, e3] [] pos) (evGet ev ev2 ev3) :=
  pe_imp (pe_dget2 hu ha hb hc hM) fun σ H Q ⟨fm, Xs, os, s, R, g⟩ => by
    unfold evGet at g
    refine ⟨fm, Xs, os, s, R, ?_⟩
    cases q : ev s with
    | ok d s1 =>
      rw [q] at g
      simp only [Out.bind_ok] at g
      refine fun v1 H1 r1 st1 p1 => ?_
      cases d with
      | dict es =>
        dsimp only at g
        obtain ⟨a, kvs, ev, ha, ax, ra⟩ := id p1
        subst ev
        refine ⟨a, rfl, .inl ⟨kvs, .inl ha⟩, fm, Xs, os, s1, r1, ?_⟩
        cases q2 : ev2 s1 with
        | ok k s2 =>
          rw [q2] at g
          simp only [Out.bind_ok] at g
          refine fun v2 H2 r2 st2 p2 => ⟨fm, Xs, os, s2, r2, ?_⟩
          cases q3 : ev3 s2 with
          | ok x s3 =>
            rw [q3] at g
            simp only [Out.bind_ok] at g
            refine fun v3 H3 r3 st3 p3 => ?_
            cases q4 : keyOf k with
            | none => rw [q4] at g; exact g.elim
            | some kk =>
              rw [q4] at g
              dsimp only at g
              have pd := Rp.stay (st2.trans st3) r1.sx _ _ p1
              obtain ⟨a', kvs', ev', ha', _, ra'⟩ := pd
              cases ev'
              have pk := Rp.stay st3 r2.sx _ _ p2
              have ek := kV_of (os := []) (.inl pk) q4
              subst ek
              refine ⟨valV kvs' kk, DGet.k ha', ?_⟩
              rcases lookK_rp kk ra' with ⟨y, w, l1, l2, pw⟩ | ⟨l1, l2⟩
              · rw [l1] at g
                rw [l2]
                exact g w H3 r3 (st1.trans (st2.trans st3)) pw
              · rw [l1] at g
                rw [l2]
                exact g v3 H3 r3 (st1.trans (st2.trans st3)) p3
          | exc c t s3 => rw [q3] at g; exact g
          | no => rw [q3] at g; exact g.elim
        | exc c t s2 => rw [q2] at g; exact g
        | no => rw [q2] at g; exact g.elim
      | _ => exact g.elim
    | exc c t s1 => rw [q] at g; exact g
    | no => rw [q] at g; exact g.elim
end
end Zo
/-! ZT: a, b, c = .. of which the third is the frame's own list. -/
namespace Zo
open PySem PySem.Spec PyProof.Rows L2
theorem few_units {k : Nat} {A : Around} (r : Room k A) : A.units + 1 < cLine := by have := r.un; omega
theorem apart_of {K : Fr} {cl : Nat → Addr} {ks : List Nat} {cs : List (Nat × Str)} (h : ∀ a ∈ ks, ∀ b ∈ ks, PySem.W.exmOne K (.ref (cl a)) (.ref (cl b)) = some (decide (a = b))) (sub : ∀ k ∈ cs.map (·.1), k ∈ ks) : Apart K cl cs := fun p hp q hq => h _ (sub _ (List.mem_map.mpr ⟨p, hp, rfl⟩)) _ (sub _ (List.mem_map.mpr ⟨q, hq, rfl⟩))
section
variable {cl : Nat → Addr} {X : Cx} {W : WX} {m : Bool} {pos : Pos}
/-- a, b, c = x, y, [..] -/
def par3S (i j l : Nat) (a b : Ev) (c : Evs) : Ex := fun s => (a s).bind fun d s1 => (b s1).bind fun d2 s2 => (c s2).bind fun d3 s3 => .ok .nx { s3 with env := ((s3.env.set i (.fz d)).set j (.fz d2)).set l (.own d3) }
theorem par3_rel {fm : Fm} {Xs : List Addr} {os : List (Nat × Addr)} {s : Ms} {σ : L2.St} {H : Hp} {i j l : Nat} {a b : Ev} {c : Evs} {Dn : Ends} (r : Rel X.K fm Xs os s σ H) (g : GoodS X.K cl W fm Dn (par3S i j l a b c s)) :
    tCons (tE X.K cl W m a) (tCons (tE X.K cl W m b) (tCons (tF X.K cl W m c) tNil)) σ H fun vs H1 => ∃ u v w, vs = [u, v, w] ∧ Dn.nx (((σ.set i (some u)).set j (some v)).set l (some w)) H1 := by
  unfold par3S at g
  refine ⟨fm, Xs, os, s, r, ?_⟩
  cases q : a s with
  | ok d s1 =>
    rw [q] at g
    simp only [Out.bind_ok] at g
    refine fun v H1 r1 st1 p1 => ⟨fm, Xs, os, s1, r1, ?_⟩
    cases q2 : b s1 with
    | ok d2 s2 =>
      rw [q2] at g
      simp only [Out.bind_ok] at g
      refine fun v2 H2 r2 st2 p2 => ⟨{ fm with tmp := [(d, v), (d2, v2)] ++ fm.tmp }, Xs, os, s2, r2.holds _ (fun x hx => ?_), ?_⟩
      · simp only [List.mem_cons, List.not_mem_nil, or_false] at hx
        rcases hx with rfl | rfl
        · exact Rp.stay st2 r1.sx d v p1
        · exact p2
      cases q3 : c s2 with
      | ok d3 s3 =>
        rw [q3] at g
        simp only [Out.bind_ok] at g
        refine fun p vs H3 r3' st3 fp' hp ra => ⟨v, v2, .ref p, rfl, g (p :: Xs) ((l, p) :: rid (rid (rid os i) j) l) _ H3 ?_⟩
        have k1 : Rp X.K H3 (p :: Xs) d v := r3'.tm (d, v) (by simp)
        have k2 : Rp X.K H3 (p :: Xs) d2 v2 := r3'.tm (d2, v2) (by simp)
        have r3 := r3'.drops
        refine ((r3.setfz (i := i) k1).setfz (i := j) k2).setown (i := l) List.mem_cons_self hp (fun z => ?_) fp'.nd fp'.n0 ra
        obtain ⟨x, hx, e⟩ := List.mem_map.mp z
        exact fp'.no (List.mem_map.mpr ⟨x, (rid_mem.mp (rid_mem.mp hx).1).1, e⟩)
      | exc c' t s3 =>
        rw [q3] at g
        exact fun v dd H' r' p' hd => g Xs os σ v dd H' r'.drops p' hd
      | no => rw [q3] at g; exact g.elim
    | exc c t s2 => rw [q2] at g; exact g Xs os σ
    | no => rw [q2] at g; exact g.elim
  | exc c t s1 => rw [q] at g; exact g Xs os σ
  | no => rw [q] at g; exact g.elim
theorem ss_par3 {i j l : Nat} {x y z : Str} {ea eb ec : Expr} {a b : Ev} {c : Evs} {px py pz pt : Pos} {kt k2 pt2} (ha : SE cl X W m ea a) (hb : SE cl X W m eb b) (hc : SF cl X W m ec c)
    (hP : ∀ ta, PA X [ea, eb, ec] ta → PS X (.Assign [.Tuple [.Name x px, .Name y py, .Name z pz] kt pt] (.Tuple [ea, eb, ec] k2 pt2) pos) (tPar3 i j l ta))
    (he : starEach [ea, eb, ec] X.env = (false, eval ea X.env) :: starEach [eb, ec] X.env := by rfl) (he2 : starEach [eb, ec] X.env = (false, eval eb X.env) :: starEach [ec] X.env := by rfl) (he3 : starEach [ec] X.env = (false, eval ec X.env) :: starEach [] X.env := by rfl) :
    SS cl X W (.Assign [.Tuple [.Name x px, .Name y py, .Name z pz] kt pt] (.Tuple [ea, eb, ec] k2 pt2) pos) (par3S i j l a b c) :=
  ps_imp (hP _ (pa_cons ha (pa_cons hb (pa_cons hc pa_nil he3) he2) he)) fun Dn σ H ⟨fm, Xs, os, s, r, g⟩ => par3_rel r g
end
end Zo
/-! ZP: constants of the module; the law's first row. -/
namespace Zo
open PySem PySem.Spec PyProof.Rows L2
/-- the module's constant x is d -/
def GCon (K : Fr) (mg : Str → Option Value) (x : Str) (d : D) : Prop := ∃ u v, mg x = some u ∧ L2.RelV v u ∧ ∀ H Xs, Rp K H Xs d v
theorem gcon_str {K : Fr} {mg : Str → Option Value} {x y : Str} {t : Tok} (h : mg x = some (.str y t)) : GCon K mg x (.str y) := ⟨_, .str y, h, ⟨t, rfl⟩, fun _ _ => rfl⟩
theorem gcon_int {K : Fr} {mg : Str → Option Value} {x : Str} {i : Int} {t : Tok} (h : mg x = some (.int i t)) : GCon K mg x (.int i) := ⟨_, .int i, h, ⟨t, rfl⟩, fun _ _ => rfl⟩
/-- the values of texts -/
inductive StrsAre : List Value → List Str → Prop
  | nil : StrsAre [] []
  | cons (x : Str) (t : Tok) {us : List Value} {xs : List Str} : StrsAre us xs → StrsAre (.str x t :: us) (x :: xs)
theorem StrsAre.vals : ∀ {us : List Value} {xs : List Str}, StrsAre us xs → L2.Vals (xs.map V.str) us
  | _, _, .nil => .nil
  | _, _, .cons x t r => .cons ⟨t, rfl⟩ r.vals
theorem gcon_strs {K : Fr} {mg : Str → Option Value} {x : Str} {a : Addr} {us : List Value} {xs : List Str} {n : Nat} {sl : Array (Option Value)} (h : mg x = some (.ref a)) (hk : K.lookup a = some ⟨.type "tuple", none, .seq us.toArray n, sl⟩) (r : StrsAre us xs) (hz : us.length ≤ 1000 := by decide) : GCon K mg x (.tuple (xs.map .str)) := by
  refine ⟨_, .ref a, h, rfl, fun H Xs => ⟨a, xs.map V.str, rfl, .inr ⟨_, us.toArray, n, hk, rfl, rfl, rfl, ?_, ?_⟩, strs_rp xs⟩⟩
  · rw [List.size_toArray]; exact size1000 hz
  · simpa using r.vals
section
variable {cl : Nat → Addr} {X : Cx} {W : WX} {m : Bool} {x : Str} {pos : Pos} {d : D}
theorem se_glob (h : GCon X.K X.mg x d) (hg : Gl X x) (hd : (x == ("__debug__" : Str)) = false := by decide) : SE cl X W m (.Name x pos) (evLit d) := by
  obtain ⟨u, v, hm, r, p⟩ := h
  exact se_const (pe_glob hg hm r hd) p
end
/-- the state behind the law's first row -/
def lawMs (n : Nat) (k : Dk) : Ms := ⟨.un :: .deck :: List.replicate n .un, k, false⟩
theorem law_body {P : Program} {w : World} {K : Fr} {mg : Str → Option Value} {base : Heap} {cl : Nat → Addr} {N : List Str} {qual : Str} {sc : Scope} {fa a : Addr} {cdv : Value} {A : Around} {s : Shared} {H : Hp} {E : XK} {s0 : Stmt} {rest : List Stmt} {run : Ex} {salt : Int} {ns : List Int} {n : Nat}
    (sq : SqL K H a (ns.map V.int)) (hN : N.length = n + 2)
    (h0 : PS (cxOf (L2.CX P w) P w K mg base N qual sc fa cdv A [] s H E) s0 (tAsg (tCallS (spBegun K) (WE W0) (tCons (tVar 0) (tCons (tC (.int salt)) tNil))) (gName 1)))
    (hs : SSs cl (cxOf (L2.CX P w) P w K mg base N qual sc fa cdv A [] s H E) W0 rest run) (hrun : ∃ s', run (lawMs n (begun ns salt)) = .ok (.rt (.bool true)) s') :
    ∃ t, PSs (cxOf (L2.CX P w) P w K mg base N qual sc fa cdv A [] s H E) (s0 :: rest) t ∧ t { nx := fun _ _ => False, rt := fun v _ => v = .bl true } (start N [.ref a]) H := by
  refine ⟨_, pss_cons h0 hs, ?_⟩
  have h1 : (start N [.ref a])[0]? = some (some (.ref a)) := rfl
  refine ⟨_, h1, a, salt, ns, rfl, sq, fun kd kc H' st n1 n2 dk => ?_⟩
  obtain ⟨s', q⟩ := hrun
  refine ⟨⟨H', [kd, kc], some (kd, kc), []⟩, [kd, kc], [], lawMs n (begun ns salt), ?_, ?_⟩
  · have hl : (start N [V.ref a]).length = n + 2 := by
      rw [start_len (by rw [hN]; simp), hN]
    obtain ⟨d1, d2, d3, d4⟩ := dk
    exact {
      len := by
        show (Sv.un :: Sv.deck :: List.replicate n Sv.un).length = _
        rw [List.length_set, hl]
        simp
      slot := fun i sv e => by
        match i with
        | 0 => cases e; trivial
        | 1 =>
          cases e
          exact ⟨kd, kc, rfl, getD_set_self (by rw [hl]; omega)⟩
        | i + 2 =>
          have e' : (List.replicate n Sv.un)[i]? = some sv := e
          rw [List.getElem?_replicate] at e'
          split at e'
          · cases e'; trivial
          · cases e'
      nd := by simp
      sub := fun p hp => absurd hp (by simp)
      lv := fun p hp => absurd hp (by simp)
      x0 := fun a h => h
      x1 := fun b hb => by
        simp only [List.mem_cons, List.not_mem_nil, or_false] at hb
        show H' b ≠ none
        rcases hb with rfl | rfl
        · rw [d2]; simp
        · rw [d3]; simp
      xt := fun b hb => by
        simp only [List.mem_cons, List.not_mem_nil, or_false] at hb
        rcases hb with rfl | rfl
        · rw [d2]; simp
        · rw [d3]; simp
      dks := fun b hb => hb
      dk := fun kd kc e => by cases e; exact ⟨d1, d2, d3, d4⟩
      ent := Stay.refl _ _
      one := fun e => by cases e
      tm := fun p hp => absurd hp (by simp) }
  · show GoodS K cl W0 _ _ (run (lawMs n (begun ns salt)))
    rw [q]
    exact fun X os σ' H' r v p => p
theorem kit_of {K : Fr} {C Z : Addr} (h : C ≠ Z) (k : PySem.W.kitCls K (.ref C) (.ref Z) = some true) : PySem.W.kitOne K (.ref C) (.ref Z) = some true := by
  unfold PySem.W.kitOne
  rw [if_neg (by simpa using h)]
  exact k
theorem ss_no {cl : Nat → Addr} {X : Cx} {W : WX} {st : List Stmt} : SSs cl X W st (fun _ => .no) := ⟨fun pins s σ H D I ⟨_, _, _, _, _, g⟩ => g.elim⟩
theorem pick_len {α : Type} {l : List α} : ∀ {ix : List Nat}, (∀ i ∈ ix, i < l.length) → (pick ix l).length = ix.length
  | [], _ => rfl
  | i :: ix, h => by
    have e : l[i]? = some (l[i]'(h i List.mem_cons_self)) := List.getElem?_eq_getElem _
    have ih := pick_len (l := l) (ix := ix) fun j hj => h j (List.mem_cons_of_mem _ hj)
    unfold pick at ih ⊢
    rw [List.filterMap_cons_some e, List.length_cons, ih, List.length_cons]
theorem kw_len {evs : Evs} {ix : List Nat} {j : Nat} (h : ∀ s ds s1, evs s = .ok ds s1 → ds.length = j) (hi : ∀ i ∈ ix, i < j) : ∀ s ds s1, evs s = .ok ds s1 → (pick ix ds).length = ix.length ∧ ds.length = j := fun s ds s1 e => by
  have hl := h s ds s1 e
  exact ⟨pick_len (by rw [hl]; exact hi), hl⟩
theorem bt_len : bootBuiltins "len" = some (.builtin "len") := by decide +kernel
theorem bt_all : bootBuiltins "all" = some (.builtin "all") := by decide +kernel
theorem bt_any : bootBuiltins "any" = some (.builtin "any") := by decide +kernel
theorem bt_sorted : bootBuiltins "sorted" = some (.builtin "sorted") := by decide +kernel
theorem bt_isinstance : bootBuiltins "isinstance" = some (.builtin "isinstance") := by decide +kernel
theorem bt_repr : bootBuiltins "repr" = some (.builtin "repr") := by decide +kernel
theorem bt_max : bootBuiltins "max" = some (.builtin "max") := by decide +kernel
theorem bt_min : bootBuiltins "min" = some (.builtin "min") := by decide +kernel
theorem bt_sum : bootBuiltins "sum" = some (.builtin "sum") := by decide +kernel
theorem bt_list : bootBuiltins "list" = some (.type "list") := by decide +kernel
theorem bt_tuple : bootBuiltins "tuple" = some (.type "tuple") := by decide +kernel
theorem bt_int : bootBuiltins "int" = some (.type "int") := by decide +kernel
theorem bt_bool : bootBuiltins "bool" = some (.type "bool") := by decide +kernel
theorem bt_str : bootBuiltins "str" = some (.type "str") := by decide +kernel
theorem bt_dict : bootBuiltins "dict" = some (.type "dict") := by decide +kernel
theorem bt_range : bootBuiltins "range" = some (.type "range") := by decide +kernel
theorem bt_zip : bootBuiltins "zip" = some (.type "zip") := by decide +kernel
theorem bt_enumerate : bootBuiltins "enumerate" = some (.type "enumerate") := by decide +kernel
theorem bt_reversed : bootBuiltins "reversed" = some (.type "reversed") := by decide +kernel
theorem bt_set : bootBuiltins "set" = some (.type "set") := by decide +kernel
/-! ### == and != of texts -/
def eqSt : D → D → Option D
  | .str a, .str b => some (.bool (a == b))
  | _, _ => none
def neSt : D → D → Option D
  | .str a, .str b => some (.bool (!(a == b)))
  | _, _ => none
theorem sem_eqSt {X : Cx} : OpSem X rEq eqSt := by
  intro fm Xs os s σ H d1 d2 d v1 v2 Q R p1 p2 e q
  cases d1 <;> cases d2 <;> simp only [eqSt] at e <;> cases e
  rename_i a b
  have e1 := p1.str
  have e2 := p2.str
  subst e1 e2
  refine ⟨rfl, ?_⟩
  rw [dec_str]
  exact q _ H R (Stay.refl _ _) rfl
theorem sem_neSt {X : Cx} : OpSem X rNe neSt := by
  intro fm Xs os s σ H d1 d2 d v1 v2 Q R p1 p2 e q
  cases d1 <;> cases d2 <;> simp only [neSt] at e <;> cases e
  rename_i a b
  have e1 := p1.str
  have e2 := p2.str
  subst e1 e2
  refine ⟨rfl, ?_⟩
  rw [dec_str]
  exact q _ H R (Stay.refl _ _) rfl
end Zo
/-! ZU: plain lemmas that any law may use. -/
namespace Zo
open PySem PySem.Spec PyProof.Rows L2
theorem sh_int (i : Int) : SeqAt.shaped (.int i) = true := by simp [SeqAt.shaped, PyData.canLay0, PyData.depth]
theorem sh_bool (i : Bool) : SeqAt.shaped (.bool i) = true := by simp [SeqAt.shaped, PyData.canLay0, PyData.depth]
theorem sh_str {i : Str} (h : PyData.strOk i = true) : SeqAt.shaped (.str i) = true := by simp [SeqAt.shaped, PyData.canLay0, PyData.depth, h]
theorem eqI (i j : Int) : eqD (.int i) (.int j) = some (.bool (i == j)) := by simp [eqD, sh_int, PyData.eqv]
theorem eqS {i j : Str} (h : PyData.strOk i = true) (k : PyData.strOk j = true) : eqD (.str i) (.str j) = some (.bool (i == j)) := by simp [eqD, sh_str h, sh_str k, PyData.eqv]
theorem ix0 (d : D) (ds : List D) : ixD (.tuple (d :: ds)) (.int 0) = some d := by simp [ixD, atI, ixN]
theorem ix1 (d e : D) (ds : List D) : ixD (.tuple (d :: e :: ds)) (.int 1) = some e := by
  have h : ixN (d :: e :: ds).length 1 = some 1 := by
    unfold ixN
    rw [if_pos (by decide), if_pos (by simp only [List.length_cons]; omega)]
    rfl
  simp only [ixD, atI, h]
  rfl
theorem ix2 (d e f : D) (ds : List D) : ixD (.tuple (d :: e :: f :: ds)) (.int 2) = some f := by
  have h : ixN (d :: e :: f :: ds).length 2 = some 2 := by
    unfold ixN
    rw [if_pos (by decide), if_pos (by simp only [List.length_cons]; omega)]
    rfl
  simp only [ixD, atI, h]
  rfl
theorem sl1 (d : D) (ds : List D) : slD (.tuple (d :: ds)) (some 1) none = some (.tuple ds) := by
  simp [slD, cutL, HT.sIx]
/-- flat enough to be compared -/
def Sm (d : D) : Prop := d.canLay0 = true ∧ d.depth ≤ 60
theorem canAll {ds : List D} (h : ∀ d ∈ ds, Sm d) : PyData.canLayAll0 ds = true ∧ PyData.depthAll ds ≤ 60 := by
  induction ds with
  | nil => simp [PyData.canLayAll0, PyData.depthAll]
  | cons d ds ih =>
    have h1 := h d List.mem_cons_self
    have h2 := ih fun e he => h e (List.mem_cons_of_mem _ he)
    simp only [PyData.canLayAll0, PyData.depthAll, h1.1, h2.1, Bool.and_self, true_and]
    exact Nat.max_le.mpr ⟨h1.2, h2.2⟩
theorem sh_list {ds : List D} (h : ∀ d ∈ ds, Sm d) : SeqAt.shaped (.list ds) = true := by
  obtain ⟨h1, h2⟩ := canAll h
  have h3 : (PyData.list ds).depth ≤ 64 := by simp only [PyData.depth]; omega
  have h4 : (PyData.list ds).canLay0 = true := by simpa [PyData.canLay0] using h1
  simp [SeqAt.shaped, h3, h4]
theorem neNil {ds : List D} (h : ∀ d ∈ ds, Sm d) : neD (.list ds) (.list []) = some (.bool (!ds.isEmpty)) := by
  have h0 : SeqAt.shaped (.list ([] : List D)) = true := sh_list (by simp)
  unfold neD
  rw [if_pos ⟨sh_list h, h0⟩]
  cases ds <;> rfl
theorem whileS_succ (n : Nat) (c : Ms → Out Bool) (b : Ex) (s : Ms) : whileS (n + 1) c b s = (c s).bind fun k s1 => if k = true then stepS (b s1) (whileS n c b) else .ok .nx s1 := rfl
theorem seqS_nx {a b : Ex} {s s1 : Ms} (h : a s = .ok .nx s1) : seqS a b s = b s1 := by simp [seqS, h]
theorem setS_ok {i : Nat} {a : Ev} {s s1 : Ms} {d : D} (h : a s = .ok d s1) : setS i a s = .ok .nx { s1 with env := s1.env.set i (.fz d) } := by simp [setS, h]
theorem comp_map {vs : List Nat} {tgt : D → Ms → Option Ms} {elt : Ev} (g : D → D) {s0 : Ms} : ∀ (ds acc : List D), (∀ d ∈ ds, ∃ s1, tgt d s0 = some s1 ∧ elt s1 = .ok (g d) s1 ∧ forgetS vs s1 = s0) → acc.length + ds.length ≤ 1000000 → compGo vs tgt evYes elt ds acc s0 = .ok (acc ++ ds.map g) s0
  | [], acc, _, _ => by simp [compGo]
  | d :: ds, acc, h, hl => by
    obtain ⟨s1, h1, h2, h3⟩ := h d List.mem_cons_self
    simp only [List.length_cons] at hl
    have ih := comp_map g ds (acc ++ [g d]) (fun e he => h e (List.mem_cons_of_mem _ he)) (by simp; omega)
    unfold compGo
    rw [h1]
    simp only [evYes, if_true, h2]
    rw [if_pos (by omega), h3, ih]
    simp
/-- .. with a test -/
theorem comp_filter {vs : List Nat} {tgt : D → Ms → Option Ms} {cond : Ms → Out Bool} {elt : Ev} (p : D → Bool) (g : D → D) {s0 : Ms} : ∀ (ds acc : List D), (∀ d ∈ ds, ∃ s1, tgt d s0 = some s1 ∧ cond s1 = .ok (p d) s1 ∧ (p d = true → elt s1 = .ok (g d) s1) ∧ forgetS vs s1 = s0) → acc.length + ds.length ≤ 1000000 →
    compGo vs tgt cond elt ds acc s0 = .ok (acc ++ (ds.filter p).map g) s0
  | [], acc, _, _ => by simp [compGo]
  | d :: ds, acc, h, hl => by
    obtain ⟨s1, h1, h2, h3, h4⟩ := h d List.mem_cons_self
    simp only [List.length_cons] at hl
    unfold compGo
    rw [h1]
    simp only [h2]
    cases hp : p d with
    | true =>
      have ih := comp_filter p g ds (acc ++ [g d]) (fun e he => h e (List.mem_cons_of_mem _ he)) (by simp; omega)
      simp only [if_true, h3 hp]
      rw [if_pos (by omega), h4, ih]
      simp [hp]
    | false =>
      have ih := comp_filter p g ds acc (fun e he => h e (List.mem_cons_of_mem _ he)) (by omega)
      simp only [Bool.false_eq_true, if_false]
      rw [h4, ih]
      simp [hp]
theorem boolsOf_map {α : Type} (p : α → Bool) (xs : List α) : boolsOf (xs.map fun x => .bool (p x)) = some (xs.map p) := by
  induction xs with
  | nil => rfl
  | cons x xs ih => simp [boolsOf, asBool, ih]
theorem all_map {α : Type} (p : α → Bool) (xs : List α) : allD (.list (xs.map fun x => .bool (p x))) = some (.bool (xs.all p)) := by
  simp [allD, boolsOf_map]
/-! ### values that are shown and compared -/
/-- a value of that bulk and depth, of whole numbers below 10 ** 12 and proper texts -/
def Ok (b n : Nat) (d : D) : Prop := (d.canLay0 && plainD d && d.showable && d.intsShort 13) = true ∧ d.bulk ≤ b ∧ d.depth ≤ n
instance (b n : Nat) (d : D) : Decidable (Ok b n d) := inferInstanceAs (Decidable (_ ∧ _ ∧ _))
theorem Ok.mono {b n b' n' : Nat} {d : D} (h : Ok b n d) (hb : b ≤ b') (hn : n ≤ n') : Ok b' n' d := ⟨h.1, Nat.le_trans h.2.1 hb, Nat.le_trans h.2.2 hn⟩
theorem Ok.sm {b n : Nat} {d : D} (h : Ok b n d) (hn : n ≤ 60) : Sm d := by
  obtain ⟨h1, _, h3⟩ := h
  simp only [Bool.and_eq_true] at h1
  exact ⟨h1.1.1.1, Nat.le_trans h3 hn⟩
theorem ok_all {b n : Nat} : ∀ {ds : List D}, (∀ d ∈ ds, Ok b n d) → (PyData.canLayAll0 ds && plainA ds && PyData.showableAll ds && PyData.intsShortAll 13 ds) = true ∧ PyData.bulkAll ds ≤ ds.length * (b + 1) ∧ PyData.depthAll ds ≤ n
  | [], _ => ⟨rfl, by simp [PyData.bulkAll], by simp [PyData.depthAll]⟩
  | d :: ds, h => by
    obtain ⟨h1, h2, h3⟩ := h d List.mem_cons_self
    obtain ⟨k1, k2, k3⟩ := ok_all (ds := ds) fun e he => h e (List.mem_cons_of_mem _ he)
    simp only [Bool.and_eq_true] at h1 k1
    refine ⟨by simp [PyData.canLayAll0, plainA, PyData.showableAll, PyData.intsShortAll, h1, k1], ?_, ?_⟩
    · simp only [PyData.bulkAll, List.length_cons, Nat.add_mul, Nat.one_mul]; omega
    · simp only [PyData.depthAll]; omega
theorem ok_tuple {b n : Nat} {ds : List D} (h : ∀ d ∈ ds, Ok b n d) : Ok (ds.length * (b + 1)) (n + 1) (.tuple ds) := by
  obtain ⟨k1, k2, k3⟩ := ok_all h
  simp only [Bool.and_eq_true] at k1
  exact ⟨by simp [PyData.canLay0, plainD, PyData.showable, PyData.intsShort, k1], by simpa [PyData.bulk] using k2, by simp only [PyData.depth]; omega⟩
theorem ok_list {b n : Nat} {ds : List D} (h : ∀ d ∈ ds, Ok b n d) : Ok (ds.length * (b + 1)) (n + 1) (.list ds) := by
  obtain ⟨k1, k2, k3⟩ := ok_all h
  simp only [Bool.and_eq_true] at k1
  exact ⟨by simp [PyData.canLay0, plainD, PyData.showable, PyData.intsShort, k1], by simpa [PyData.bulk] using k2, by simp only [PyData.depth]; omega⟩
theorem ok_int {i : Int} (h : i.natAbs < 10 ^ 12) : Ok 0 1 (.int i) := by
  have hs := PyData.shown_int_le h
  have hl : i.natAbs.log2 < 1920 := by
    by_cases z : i.natAbs = 0
    · rw [z]; decide
    · refine (Nat.log2_lt z).mpr (Nat.lt_trans h (Nat.lt_of_lt_of_le (show 10 ^ 12 < 2 ^ 40 by decide) (Nat.pow_le_pow_right (by decide) (by decide))))
  refine ⟨by simp [PyData.canLay0, plainD, PyData.showable, PyData.intsShort, hl, hs], by simp [PyData.bulk], by simp [PyData.depth]⟩
theorem ok_bool (b : Bool) : Ok 0 1 (.bool b) := by cases b <;> decide +kernel
theorem repr_ok {b n : Nat} {d : D} (q : seqD d = true) (h : Ok b n d) (hb : b ≤ 2 ^ 20) (hn : n ≤ 60) : reprD d = some (.str d.shown) := by
  obtain ⟨h1, h2, h3⟩ := h
  simp only [Bool.and_eq_true] at h1
  obtain ⟨⟨⟨c1, c2⟩, c3⟩, c4⟩ := h1
  unfold reprD
  rw [if_pos ⟨q, c2, c3, PyData.shown_fits_bulk (B := 13) (by decide) (by decide) (PyData.leavesShort_of_canLay0 13 d c1 c4) (Nat.le_trans h2 hb), Nat.le_trans h3 hn⟩]
theorem all1 {P : D → Prop} {a : D} (h : P a) : ∀ d ∈ [a], P d := fun d hd => by rw [List.mem_singleton.mp hd]; exact h
theorem all2 {P : D → Prop} {a b : D} (h : P a) (k : P b) : ∀ d ∈ [a, b], P d := fun d hd => by
  rcases List.mem_cons.mp hd with rfl | hd
  · exact h
  · exact all1 k d hd
theorem all3 {P : D → Prop} {a b c : D} (h : P a) (k : P b) (l : P c) : ∀ d ∈ [a, b, c], P d := fun d hd => by
  rcases List.mem_cons.mp hd with rfl | hd
  · exact h
  · exact all2 k l d hd
theorem all4 {P : D → Prop} {a b c e : D} (h : P a) (k : P b) (l : P c) (m : P e) : ∀ d ∈ [a, b, c, e], P d := fun d hd => by
  rcases List.mem_cons.mp hd with rfl | hd
  · exact h
  · exact all3 k l m d hd
theorem b62 (n : Nat) (h : n ≤ 5) : -(2 ^ 62) ≤ (n : Int) ∧ (n : Int) < 2 ^ 62 := by
  have h1 : (n : Int) ≤ 5 := by omega
  exact ⟨Int.le_trans (by decide) (Int.natCast_nonneg n), Int.lt_of_le_of_lt h1 (by decide)⟩
theorem rng_gen {a : Ev} {s : Ms} {j : Int} (hb : -(2 ^ 62) ≤ j ∧ j < 2 ^ 62) (e : a s = .ok (.int j) s) : evRng1 a s = .ok (intsD 0 j.toNat) s := by
  have h : evRng1 a s = (Out.ok (PyData.int j) s).bind fun d s1 => match d with
    | .int j => if -(2 ^ 62) ≤ j ∧ j < 2 ^ 62 then .ok (intsD 0 j.toNat) s1 else .no
    | _ => .no := by rw [← e]; rfl
  rw [h]
  exact if_pos hb
theorem rng_ok {a : Ev} {s : Ms} {n : Nat} (h : n ≤ 5) (e : a s = .ok (.int n) s) : evRng1 a s = .ok (intsD 0 n) s := by
  have q := rng_gen (b62 n h) e
  rwa [Int.toNat_natCast] at q
/-! ### draws -/
/-- the deck's turn is told -/
def Dn (n : Int) (k : Dk) : Prop := 0 ≤ k.turn ∧ k.turn ≤ n
theorem draw_ok {b n : Int} {k : Dk} (hb : 0 < b) (hb2 : b < 1000000000) (h : Dn n k) (hn : n < 1000000000) : ∃ i k', drawF [.int b] k = .ok (.int i) k' ∧ 0 ≤ i ∧ i < b ∧ Dn (n + 1) k' := by
  obtain ⟨h1, h2⟩ := h
  have c : 0 < b ∧ b < 1000000000 ∧ 0 ≤ k.turn ∧ k.turn < 1000000000000 := ⟨hb, hb2, h1, by omega⟩
  show ∃ i k', drawK b k = .ok (.int i) k' ∧ 0 ≤ i ∧ i < b ∧ Dn (n + 1) k'
  unfold drawK
  rw [if_pos c]
  cases k.cells.getLast? with
  | none => exact ⟨_, _, rfl, (mod_lt0 _ hb).1, (mod_lt0 _ hb).2, by constructor <;> (show _ ≤ _; simp only []; omega)⟩
  | some x =>
    dsimp only
    by_cases hx : 10 ^ 18 ≤ x
    · rw [if_pos hx]
      exact ⟨_, _, rfl, (mod_lt0 _ hb).1, (mod_lt0 _ hb).2, by constructor <;> (show _ ≤ _; simp only []; omega)⟩
    · rw [if_neg hx]
      exact ⟨_, _, rfl, (mod_lt0 _ hb).1, (mod_lt0 _ hb).2, by constructor <;> (show _ ≤ _; simp only []; omega)⟩
theorem ixList {xs : List D} {i : Int} (h0 : 0 ≤ i) (h1 : i < xs.length) : ∃ d, ixD (.list xs) (.int i) = some d ∧ d ∈ xs := by
  have hn : i.toNat < xs.length := by omega
  refine ⟨xs[i.toNat], ?_, List.getElem_mem _⟩
  have h : ixN xs.length i = some i.toNat := by
    unfold ixN
    rw [if_pos h0, if_pos h1]
  simp only [ixD, atI, h, Option.bind_some]
  exact List.getElem?_eq_getElem hn
end Zo
namespace Zo
open PySem PySem.Spec PyProof.Rows L2
section
abbrev s_is_whole : Stmt := top 9
abbrev s_is_tuple_of : Stmt := top 10
abbrev s_is_one_of : Stmt := top 11
abbrev s_is_name : Stmt := top 12
abbrev s_is_expr_value : Stmt := top 15
abbrev s_is_expr : Stmt := top 20
abbrev s_law_begun : Stmt := sBegun
abbrev s_law_draw : Stmt := sDraw
abbrev s_law_pick : Stmt := top 25
abbrev s_law_expr : Stmt := top 26
abbrev s_law_value : Stmt := top 27
abbrev s_law_no_expr : Stmt := top 28
abbrev s_parts_of : Stmt := top 16
abbrev s_names_of : Stmt := top 17
abbrev s_reckoned : Stmt := top 18
abbrev s_are_values : Stmt := top 19
abbrev s_value_of : Stmt := top 21
abbrev s_law_heard : Stmt := top 29
abbrev s_law : Stmt := top 30
/-- what the top has written -/
structure Txt (K : Fr) (mg : Str → Option Value) (cl ad : Nat → Addr) (fd : Nat → FuncData) (fi : Nat → Addr) (za : Addr) : Prop where
  g0 : mg "is_whole" = some (.ref (ad 0))
  F0 : Fun K "is_whole" "is_whole" s_is_whole (ad 0) (fd 0)
  B0 : Binds K (fd 0) ["thing"] []
  g1 : mg "is_tuple_of" = some (.ref (ad 1))
  F1 : Fun K "is_tuple_of" "is_tuple_of" s_is_tuple_of (ad 1) (fd 1)
  B1 : Binds K (fd 1) ["thing", "many"] []
  g2 : mg "is_one_of" = some (.ref (ad 2))
  F2 : Fun K "is_one_of" "is_one_of" s_is_one_of (ad 2) (fd 2)
  B2 : Binds K (fd 2) ["thing", "words"] []
  g3 : mg "is_name" = some (.ref (ad 3))
  F3 : Fun K "is_name" "is_name" s_is_name (ad 3) (fd 3)
  B3 : Binds K (fd 3) ["thing"] []
  g4 : mg "is_expr_value" = some (.ref (ad 4))
  F4 : Fun K "is_expr_value" "is_expr_value" s_is_expr_value (ad 4) (fd 4)
  B4 : Binds K (fd 4) ["thing"] []
  g9 : mg "is_expr" = some (.ref (ad 9))
  F9 : Fun K "is_expr" "is_expr" s_is_expr (ad 9) (fd 9)
  B9 : Binds K (fd 9) ["thing"] []
  k9_thing : KwB (fd 9) ["thing"] ["thing"] [0]
  g11 : mg "_law_begun" = some (.ref (ad 11))
  F11 : Fun K "_law_begun" "_law_begun" s_law_begun (ad 11) (fd 11)
  B11 : Binds K (fd 11) ["script", "salt"] []
  g12 : mg "_law_draw" = some (.ref (ad 12))
  F12 : Fun K "_law_draw" "_law_draw" s_law_draw (ad 12) (fd 12)
  B12 : Binds K (fd 12) ["deck", "below"] []
  g13 : mg "_law_pick" = some (.ref (ad 13))
  F13 : Fun K "_law_pick" "_law_pick" s_law_pick (ad 13) (fd 13)
  B13 : Binds K (fd 13) ["deck", "some"] []
  g14 : mg "_law_expr" = some (.ref (ad 14))
  F14 : Fun K "_law_expr" "_law_expr" s_law_expr (ad 14) (fd 14)
  B14 : Binds K (fd 14) ["deck", "names", "deep"] []
  g15 : mg "_law_value" = some (.ref (ad 15))
  F15 : Fun K "_law_value" "_law_value" s_law_value (ad 15) (fd 15)
  B15 : Binds K (fd 15) ["expr", "table"] []
  g16 : mg "_law_no_expr" = some (.ref (ad 16))
  F16 : Fun K "_law_no_expr" "_law_no_expr" s_law_no_expr (ad 16) (fd 16)
  B16 : Binds K (fd 16) ["deck", "expr"] []
  g5 : mg "parts_of" = some (.ref (ad 5))
  F5 : Fun K "parts_of" "parts_of" s_parts_of (ad 5) (fd 5)
  B5 : Binds K (fd 5) ["expr"] []
  g6 : mg "names_of" = some (.ref (ad 6))
  F6 : Fun K "names_of" "names_of" s_names_of (ad 6) (fd 6)
  B6 : Binds K (fd 6) ["expr"] []
  g7 : mg "reckoned" = some (.ref (ad 7))
  F7 : Fun K "reckoned" "reckoned" s_reckoned (ad 7) (fd 7)
  B7 : Binds K (fd 7) ["expr", "values"] []
  g8 : mg "are_values" = some (.ref (ad 8))
  F8 : Fun K "are_values" "are_values" s_are_values (ad 8) (fd 8)
  B8 : Binds K (fd 8) ["thing"] []
  g10 : mg "value_of" = some (.ref (ad 10))
  F10 : Fun K "value_of" "value_of" s_value_of (ad 10) (fd 10)
  B10 : Binds K (fd 10) ["expr", "values"] []
  k10_values_expr : KwB (fd 10) ["expr", "values"] ["values", "expr"] [1, 0]
  g17 : mg "_law_heard" = some (.ref (ad 17))
  F17 : Fun K "_law_heard" "_law_heard" s_law_heard (ad 17) (fd 17)
  B17 : Binds K (fd 17) ["expr", "values", "by_name"] []
  g18 : mg "law" = some (.ref (ad 18))
  F18 : Fun K "law" "law" s_law (ad 18) (fd 18)
  B18 : Binds K (fd 18) ["script"] []
  n_all : mg "all" = none
  n_bool : mg "bool" = none
  n_dict : mg "dict" = none
  n_int : mg "int" = none
  n_isinstance : mg "isinstance" = none
  n_len : mg "len" = none
  n_list : mg "list" = none
  n_max : mg "max" = none
  n_range : mg "range" = none
  n_repr : mg "repr" = none
  n_reversed : mg "reversed" = none
  n_str : mg "str" = none
  n_tuple : mg "tuple" = none
  c_FIGURES : GCon K mg "FIGURES" (.str "0123456789")
  c_GREATEST : GCon K mg "GREATEST" (.int 1000000000000000000000000000000000000000000000000000000000000)
  c_MOST_SIGNS : GCon K mg "MOST_SIGNS" (.int 12)
  c_SIGNS : GCon K mg "SIGNS" (.tuple [(.str "+"), (.str "-")])
  c_SMALL : GCon K mg "SMALL" (.str "abcdefghijklmnopqrstuvwxyz")
  e1 : PySem.Zx.ExTxt K mg "BadExpr" "BadExpr.__init__" (cl 1) za (fi 1)
  i1 : ExIs K (cl 1)
  z1 : PySem.W.kitOne K (.ref (cl 1)) (.ref za) = some true
  e0 : PySem.Zx.ExTxt K mg "BadNumber" "BadNumber.__init__" (cl 0) za (fi 0)
  i0 : ExIs K (cl 0)
  z0 : PySem.W.kitOne K (.ref (cl 0)) (.ref za) = some true
  ap : ∀ a ∈ [0, 1], ∀ b ∈ [0, 1], PySem.W.exmOne K (.ref (cl a)) (.ref (cl b)) = some (decide (a = b))
  gZ : mg "ZonesError" = some (.ref za)
/-! ### is_whole -/
def b_is_whole : Ex := (retS (evAnd (ev1 (isiD "int") (evVarB 0)) (evAnd (evNot (ev1 (isiD "bool") (evVarB 0))) (evChain (cmpI (fun i j => decide (i < j))) (cmpI (fun i j => decide (i < j))) (ev1 negD (evLit (.int 1000000000000000000000000000000000000000000000000000000000000))) (evVarB 0) (evLit (.int 1000000000000000000000000000000000000000000000000000000000000))))))
def f_is_whole : List D → Ro := runFn 1 b_is_whole
theorem sc_is_whole : FnScope ["thing"] ["thing"] (defScope s_is_whole) := ⟨rfl, rfl, rfl, by decide +kernel, rfl, by decide +kernel, by decide +kernel⟩
theorem ok_is_whole {P : Program} {w : World} {K : Fr} {mg : Str → Option Value} {base : Heap} {cl ad : Nat → Addr} {fd : Nat → FuncData} {fi : Nat → Addr} {za : Addr} (T : Txt K mg cl ad fd fi za) : FnOk P w K mg base (L2.CX P w) 3 (ad 0) (fd 0) ["thing"] (spP K cl 1 f_is_whole) :=
  fn_pure (cl := cl) (k := 2) T.F0 sc_is_whole rfl (by decide) fun cdv A outer s H E hr => by exact (ss_one (ss_ret (m := false) (se_and (se_isi tyok_int rfl T.n_isinstance (pe_bltn (v := V.ty "int") rfl T.n_int bt_int rfl) (sb_var 0 (pv 0))) (se_and (se_not (se_isi tyok_bool rfl T.n_isinstance (pe_bltn (v := V.ty "bool") rfl T.n_bool bt_bool rfl) (sb_var 0 (pv 0)))) (se_one (se_chain op_lt (sem_cmpI (fun i j => decide (i < j))) op_lt (sem_cmpI (fun i j => decide (i < j))) (sb_of (se_neg (sb_of (se_glob T.c_GREATEST rfl)))) (sb_var 0 (pv 0)) (sb_of (se_glob T.c_GREATEST rfl))))))))
/-! ### is_tuple_of -/
def b_is_tuple_of : Ex := (retS (evAnd (ev1 (isiD "tuple") (evVarB 0)) (evBin eqD (ev1 lenD (evVarB 0)) (evVarB 1))))
def f_is_tuple_of : List D → Ro := runFn 2 b_is_tuple_of
theorem sc_is_tuple_of : FnScope ["thing", "many"] ["thing", "many"] (defScope s_is_tuple_of) := ⟨rfl, rfl, rfl, by decide +kernel, rfl, by decide +kernel, by decide +kernel⟩
theorem ok_is_tuple_of {P : Program} {w : World} {K : Fr} {mg : Str → Option Value} {base : Heap} {cl ad : Nat → Addr} {fd : Nat → FuncData} {fi : Nat → Addr} {za : Addr} (T : Txt K mg cl ad fd fi za) : FnOk P w K mg base (L2.CX P w) 3 (ad 1) (fd 1) ["thing", "many"] (spP K cl 2 f_is_tuple_of) :=
  fn_pure (cl := cl) (k := 2) T.F1 sc_is_tuple_of rfl (by decide) fun cdv A outer s H E hr => by exact (ss_one (ss_ret (m := false) (se_and (se_isi tyok_tuple rfl T.n_isinstance (pe_bltn (v := V.ty "tuple") rfl T.n_tuple bt_tuple rfl) (sb_var 0 (pv 0))) (se_one (se_cmp (op_eqD hr.units) sem_eqD (sb_of (se_b L2.call_len sem_len rfl T.n_len bt_len (sb_var 0 (pv 0)))) (sb_var 1 (pv 1)) (nomark _))))))
/-! ### is_one_of -/
def b_is_one_of : Ex := (retS (evAnd (ev1 (isiD "str") (evVarB 0)) (evBin (inSeq false) (evVarB 0) (evVarB 1))))
def f_is_one_of : List D → Ro := runFn 2 b_is_one_of
theorem sc_is_one_of : FnScope ["thing", "words"] ["thing", "words"] (defScope s_is_one_of) := ⟨rfl, rfl, rfl, by decide +kernel, rfl, by decide +kernel, by decide +kernel⟩
theorem ok_is_one_of {P : Program} {w : World} {K : Fr} {mg : Str → Option Value} {base : Heap} {cl ad : Nat → Addr} {fd : Nat → FuncData} {fi : Nat → Addr} {za : Addr} (T : Txt K mg cl ad fd fi za) : FnOk P w K mg base (L2.CX P w) 3 (ad 2) (fd 2) ["thing", "words"] (spP K cl 2 f_is_one_of) :=
  fn_pure (cl := cl) (k := 2) T.F2 sc_is_one_of rfl (by decide) fun cdv A outer s H E hr => by exact (ss_one (ss_ret (m := false) (se_and (se_isi tyok_str rfl T.n_isinstance (pe_bltn (v := V.ty "str") rfl T.n_str bt_str rfl) (sb_var 0 (pv 0))) (se_one (se_cmp op_in_seq (sem_inSeq false) (sb_var 0 (pv 0)) (sb_var 1 (pv 1)) (by rfl))))))
/-! ### is_name -/
def b_is_name : Ex := (seqS (ifS (evTor (evTnot (evT (ev1 (isiD "str") (evVarB 0)))) (evTor (evTnot (evT (evChain (cmpI (fun i j => decide (i ≤ j))) (cmpI (fun i j => decide (i ≤ j))) (evLit (.int 1)) (ev1 lenD (evVarB 0)) (evLit (.int 12))))) (evT (evBin (inSign true) (evBin ixD (evVarB 0) (evLit (.int 0))) (evLit (.str "abcdefghijklmnopqrstuvwxyz")))))) (retS (evLit (.bool false))) skipS) (retS (ev1 allD (lstOf (evComp [1] (evItS (evVar 0)) (tgN 1) evYes (evBin (inSign false) (evVarB 1) (evBin addS (evLit (.str "abcdefghijklmnopqrstuvwxyz")) (evLit (.str "0123456789")))))))))
def f_is_name : List D → Ro := runFn 2 b_is_name
theorem sc_is_name : FnScope ["thing", "sign"] ["thing"] (defScope s_is_name) := ⟨rfl, rfl, rfl, by decide +kernel, rfl, by decide +kernel, by decide +kernel⟩
theorem ok_is_name {P : Program} {w : World} {K : Fr} {mg : Str → Option Value} {base : Heap} {cl ad : Nat → Addr} {fd : Nat → FuncData} {fi : Nat → Addr} {za : Addr} (T : Txt K mg cl ad fd fi za) : FnOk P w K mg base (L2.CX P w) 3 (ad 3) (fd 3) ["thing"] (spP K cl 1 f_is_name) :=
  fn_pure (cl := cl) (k := 2) T.F3 sc_is_name rfl (by decide) fun cdv A outer s H E hr => by exact (ss_cons (ss_if (m := false) (st_pw (sw_or (st_not (st_val (se_isi tyok_str rfl T.n_isinstance (pe_bltn (v := V.ty "str") rfl T.n_str bt_str rfl) (sb_var 0 (pv 0))))) (sw_or (st_not (st_chain op_le (sem_cmpI (fun i j => decide (i ≤ j))) op_le (sem_cmpI (fun i j => decide (i ≤ j))) (sb_of se_int) (sb_of (se_b L2.call_len sem_len rfl T.n_len bt_len (sb_var 0 (pv 0)))) (sb_of (se_glob T.c_MOST_SIGNS rfl)))) (sw_or1 (st_cmp op_notIn_sign sem_notInSign (sb_of (se_ix (sb_var 0 (pv 0)) (sb_of se_int))) (sb_of (se_glob T.c_SMALL rfl)) (by rfl)))))) (ss_one (ss_ret (m := false) se_bool)) ss_nil) (ss_one (ss_ret (m := false) (se_b (cr_all rfl) sem_all rfl T.n_all bt_all (sb_of (sf_of (sf_comp (tgN_sem (vs := [1]) (i := 1) (by decide)) (pe_lc (own := [("sign", 1)]) rfl sc_is_name.nd (si_str (se_var 0 (pv 0))) (blkOk_by (by show blkC ["thing", "sign"] (defScope s_is_name) _ _ = true; decide +kernel)) (fun _ _ _ _ _ => (pg_name (i := 1) sc_is_name.nd rfl (by first | exact Or.inl rfl | exact Or.inr rfl))) (fun _ _ _ _ _ => pts_yes) (fun _ _ _ _ _ => (se_cmp op_in_sign sem_inSign (sb_var 1 (pv 1)) (sb_of (se_bin op_add_str sem_addS (sb_of (se_glob T.c_SMALL rfl)) (sb_of (se_glob T.c_FIGURES rfl)))) (by rfl)))))))))))
/-! ### is_expr_value -/
def b_is_expr_value : Ex := (seqS (ownS 1 (evLst (evCons (evVar 0) evNil))) (seqS (whileS 100000 (evT (evBin neD (evVarB 1) (lstOf (evLst evNil)))) (seqS (setS 2 (evPop 1)) (ifS (evTand (evT (evCall f_is_tuple_of (evCons (evVar 2) (evCons (evLit (.int 3)) evNil)))) (evT (evCall f_is_one_of (evCons (evBin ixD (evVarB 2) (evLit (.int 0))) (evCons (evLit (.tuple [(.str "+"), (.str "-")])) evNil))))) (doS (evExt 1 (lstOf (ev1L listD (evSl (evVarB 2) (ptOf (evLit (.int 1))) ptNo))))) (ifS (evTand (evTnot (evT (evCall f_is_whole (evCons (evVar 2) evNil)))) (evTnot (evT (evCall f_is_name (evCons (evVar 2) evNil))))) (retS (evLit (.bool false))) skipS)))) (retS (evLit (.bool true)))))
def f_is_expr_value : List D → Ro := runFn 3 b_is_expr_value
theorem sc_is_expr_value : FnScope ["thing", "waiting", "part"] ["thing"] (defScope s_is_expr_value) := ⟨rfl, rfl, rfl, by decide +kernel, rfl, by decide +kernel, by decide +kernel⟩
theorem ok_is_expr_value {P : Program} {w : World} {K : Fr} {mg : Str → Option Value} {base : Heap} {cl ad : Nat → Addr} {fd : Nat → FuncData} {fi : Nat → Addr} {za : Addr} (T : Txt K mg cl ad fd fi za) : FnOk P w K mg base (L2.CX P w) 4 (ad 4) (fd 4) ["thing"] (spP K cl 1 f_is_expr_value) :=
  fn_pure (cl := cl) (k := 3) T.F4 sc_is_expr_value rfl (by decide) fun cdv A outer s H E hr => by exact (ss_cons (ss_own (m := false) (i := 1) sc_is_expr_value.nd rfl (by first | exact Or.inl rfl | exact Or.inr rfl) (sf_lst (sa_cons (se_var 0 (pv 0)) sa_nil))) (ss_cons (ss_while (m := false) 100000 (passes_of rfl) (st_cmp (op_neD hr.units) sem_neD (sb_var 1 (pv 1)) (sb_of (sf_of (sf_lst sa_nil))) (nomark _)) (ss_cons (ss_set (m := false) (i := 2) sc_is_expr_value.nd rfl (by first | exact Or.inl rfl | exact Or.inr rfl) (se_pop 1 (pv 1))) (ss_one (ss_if (m := false) (st_pw (sw_and (st_val (se_call (ok_is_tuple_of T) (hr.mono (by decide)) rfl T.g1 T.F1.kp T.B1 (takes_of rfl rfl rfl rfl) (sa_cons (se_var 2 (pv 2)) (sa_cons se_int sa_nil)) (evCons_len (evCons_len evNil_len)))) (sw_and1 (st_val (se_call (ok_is_one_of T) (hr.mono (by decide)) rfl T.g2 T.F2.kp T.B2 (takes_of rfl rfl rfl rfl) (sa_cons (se_ix (sb_var 2 (pv 2)) (sb_of se_int)) (sa_cons (se_glob T.c_SIGNS rfl) sa_nil)) (evCons_len (evCons_len evNil_len))))))) (ss_one (ss_do (m := false) (se_ext 1 (pv 1) (sf_of (sf_ty L2.call_list_of sem_list rfl T.n_list bt_list (sb_of (se_slice (sb_var 2 (pv 2)) (sp_some (sb_of se_int)) sp_none)))) (fun t h => pe_bm PySem.F.plainAttrs_list PySem.F.slot_list_extend PySem.F.type_list_extend mt_extend (pv 1) h)))) (ss_one (ss_if (m := false) (st_pw (sw_and (st_not (st_val (se_call (ok_is_whole T) (hr.mono (by decide)) rfl T.g0 T.F0.kp T.B0 (takes_of rfl rfl rfl rfl) (sa_cons (se_var 2 (pv 2)) sa_nil) (evCons_len evNil_len)))) (sw_and1 (st_not (st_val (se_call (ok_is_name T) (hr.mono (by decide)) rfl T.g3 T.F3.kp T.B3 (takes_of rfl rfl rfl rfl) (sa_cons (se_var 2 (pv 2)) sa_nil) (evCons_len evNil_len))))))) (ss_one (ss_ret (m := false) se_bool)) ss_nil)))))) (ss_one (ss_ret (m := false) se_bool))))
/-! ### is_expr -/
def b_is_expr : Ex := (retS (evCall f_is_expr_value (evCons (evVar 0) evNil)))
def f_is_expr : List D → Ro := runFn 1 b_is_expr
theorem sc_is_expr : FnScope ["thing"] ["thing"] (defScope s_is_expr) := ⟨rfl, rfl, rfl, by decide +kernel, rfl, by decide +kernel, by decide +kernel⟩
theorem ok_is_expr {P : Program} {w : World} {K : Fr} {mg : Str → Option Value} {base : Heap} {cl ad : Nat → Addr} {fd : Nat → FuncData} {fi : Nat → Addr} {za : Addr} (T : Txt K mg cl ad fd fi za) : FnOk P w K mg base (L2.CX P w) 5 (ad 9) (fd 9) ["thing"] (spP K cl 1 f_is_expr) :=
  fn_pure (cl := cl) (k := 4) T.F9 sc_is_expr rfl (by decide) fun cdv A outer s H E hr => by exact (ss_one (ss_ret (m := false) (se_call (ok_is_expr_value T) (hr.mono (by decide)) rfl T.g4 T.F4.kp T.B4 (takes_of rfl rfl rfl rfl) (sa_cons (se_var 0 (pv 0)) sa_nil) (evCons_len evNil_len))))
/-! ### _law_pick -/
def b_law_pick : Ex := (retS (evBin ixD (evVarB 1) (evCallD 0 drawF (evCons (ev1 lenD (evVarB 1)) evNil))))
def f_law_pick : List D → Dk → Rd := runFnD 2 b_law_pick
theorem sc_law_pick : FnScope ["deck", "some"] ["deck", "some"] (defScope s_law_pick) := ⟨rfl, rfl, rfl, by decide +kernel, rfl, by decide +kernel, by decide +kernel⟩
theorem ok_law_pick {P : Program} {w : World} {K : Fr} {mg : Str → Option Value} {base : Heap} {cl ad : Nat → Addr} {fd : Nat → FuncData} {fi : Nat → Addr} {za : Addr} (T : Txt K mg cl ad fd fi za) : FnOk P w K mg base (L2.CX P w) 4 (ad 13) (fd 13) ["deck", "some"] (spD K 1 f_law_pick) :=
  fn_deck (cl := cl) (k := 3) T.F13 sc_law_pick rfl (by decide) fun cdv A outer s H E hr => by exact (ss_one (ss_ret (m := false) (se_ix (sb_var 1 (pv 1)) (sb_of (se_callD 0 (ok_draw (k := 2) T.F12 T.n_max T.n_int) (hr.mono (by decide)) rfl T.g12 T.F12.kp T.B12 (takes0) (pv 0) (sa_cons (se_b L2.call_len sem_len rfl T.n_len bt_len (sb_var 1 (pv 1))) sa_nil) (evCons_len evNil_len))))))
/-! ### _law_expr -/
def b_law_expr (self : List D → Dk → Rd) : Ex := (seqS (ifS (evTor (evT (evBin eqD (evVarB 2) (evLit (.int 0)))) (evT (evBin eqD (evCallD 0 drawF (evCons (evLit (.int 4)) evNil)) (evLit (.int 0))))) (retS (evCallD 0 f_law_pick (evCons (lstOf (evBinL addL (lstOf (evBinL repL (lstOf (ev1L listD (evVarB 1))) (evLit (.int 2)))) (lstOf (evLst (evCons (evLit (.int 0)) (evCons (evLit (.int 1)) (evCons (ev1 negD (evLit (.int 7))) (evCons (evLit (.int 20)) (evCons (evBin addI (evBin powI (evLit (.int 10)) (evLit (.int 9))) (evLit (.int 1))) evNil))))))))) evNil))) skipS) (retS (evTup (evCons (evCallD 0 f_law_pick (evCons (lstOf (evLst (evCons (evLit (.str "+")) (evCons (evLit (.str "-")) evNil)))) evNil)) (evCons (evCallD 0 self (evCons (evVar 1) (evCons (evBin subI (evVarB 2) (evLit (.int 1))) evNil))) (evCons (evCallD 0 self (evCons (evVar 1) (evCons (evBin subI (evVarB 2) (evLit (.int 1))) evNil))) evNil))))))
def f_law_expr : Nat → List D → Dk → Rd
  | 0 => fun _ _ => .no
  | r + 1 => runFnD 3 (b_law_expr (f_law_expr r))
theorem sc_law_expr : FnScope ["deck", "names", "deep"] ["deck", "names", "deep"] (defScope s_law_expr) := ⟨rfl, rfl, rfl, by decide +kernel, rfl, by decide +kernel, by decide +kernel⟩
theorem ok_law_expr {P : Program} {w : World} {K : Fr} {mg : Str → Option Value} {base : Heap} {cl ad : Nat → Addr} {fd : Nat → FuncData} {fi : Nat → Addr} {za : Addr} (T : Txt K mg cl ad fd fi za) : ∀ r : Nat, FnOk P w K mg base (L2.CX P w) (5 + r) (ad 14) (fd 14) ["deck", "names", "deep"] (spD K 2 (f_law_expr r))
  | 0 => fn_deck (cl := cl) (k := 4) (run := fun _ => .no) T.F14 sc_law_expr rfl (by decide) fun cdv A outer s H E hr => ss_no
  | r + 1 => by
    have IH := ok_law_expr (P := P) (w := w) (base := base) T r
    exact fn_deck (cl := cl) (k := 5 + r) T.F14 sc_law_expr rfl (by decide) fun cdv A outer s H E hr => by exact (ss_cons (ss_if (m := false) (st_pw (sw_or (st_cmp (op_eqD hr.units) sem_eqD (sb_var 2 (pv 2)) (sb_of se_int) (nomark _)) (sw_or1 (st_cmp (op_eqD hr.units) sem_eqD (sb_of (se_callD 0 (ok_draw (k := 2) T.F12 T.n_max T.n_int) (hr.mono (by omega)) rfl T.g12 T.F12.kp T.B12 (takes0) (pv 0) (sa_cons se_int sa_nil) (evCons_len evNil_len))) (sb_of se_int) (nomark _))))) (ss_one (ss_ret (m := false) (se_callD 0 (ok_law_pick T) (hr.mono (by omega)) rfl T.g13 T.F13.kp T.B13 (takes0) (pv 0) (sa_cons (sf_of (sf_bin op_cat sem_addL (sb_of (sf_of (sf_bin op_rep sem_repL (sb_of (sf_of (sf_ty L2.call_list_of sem_list rfl T.n_list bt_list (sb_var 1 (pv 1))))) (sb_of se_int)))) (sb_of (sf_of (sf_lst (sa_cons se_int (sa_cons se_int (sa_cons (se_neg (sb_of se_int)) (sa_cons se_int (sa_cons (se_bin op_add sem_addI (sb_of (se_bin op_pow sem_powI (sb_of se_int) (sb_of se_int))) (sb_of se_int)) sa_nil)))))))))) sa_nil) (evCons_len evNil_len)))) ss_nil) (ss_one (ss_ret (m := false) (se_tup (sa_cons (se_callD 0 (ok_law_pick T) (hr.mono (by omega)) rfl T.g13 T.F13.kp T.B13 (takes0) (pv 0) (sa_cons (sf_of (sf_lst (sa_cons se_str (sa_cons se_str sa_nil)))) sa_nil) (evCons_len evNil_len)) (sa_cons (se_callD 0 IH hr rfl T.g14 T.F14.kp T.B14 (takes0) (pv 0) (sa_cons (se_var 1 (pv 1)) (sa_cons (se_bin op_sub sem_subI (sb_var 2 (pv 2)) (sb_of se_int)) sa_nil)) (evCons_len (evCons_len evNil_len))) (sa_cons (se_callD 0 IH hr rfl T.g14 T.F14.kp T.B14 (takes0) (pv 0) (sa_cons (se_var 1 (pv 1)) (sa_cons (se_bin op_sub sem_subI (sb_var 2 (pv 2)) (sb_of se_int)) sa_nil)) (evCons_len (evCons_len evNil_len))) sa_nil)))))))
/-! ### _law_value -/
def b_law_value : Ex := (seqS (par3S 2 3 4 (evLit (.int 0)) (evLit (.bool true)) (evLst (evCons (evTup (evCons (evVar 0) (evCons (evLit (.int 1)) evNil))) evNil))) (seqS (whileS 100000 (evT (evBin neD (evVarB 4) (lstOf (evLst evNil)))) (seqS (unpS [5, 6] (evPop 4)) (ifS (evT (ev1 (isiD "tuple") (evVarB 5))) (seqS (doS (evApp 4 (evTup (evCons (evBin ixD (evVarB 5) (evLit (.int 1))) (evCons (evVar 6) evNil))))) (doS (evApp 4 (evTup (evCons (evBin ixD (evVarB 5) (evLit (.int 2))) (evCons (evIf (evT (evBin eqD (evBin ixD (evVarB 5) (evLit (.int 0))) (evLit (.str "+")))) (evVar 6) (ev1 negD (evVarB 6))) evNil)))))) (ifS (evT (ev1 (isiD "str") (evVarB 5))) (par2S 2 3 (evBin addI (evVarB 2) (evBin mulI (evVarB 6) (evGet (evVar 1) (evVar 5) (evLit (.int 0))))) (evAnd (evVar 3) (evBin (inK false) (evVarB 5) (evVarB 1)))) (setS 2 (evBin addI (evVarB 2) (evBin mulI (evVarB 6) (evVarB 5)))))))) (retS (evTup (evCons (evVar 2) (evCons (evVar 3) evNil))))))
def f_law_value : List D → Ro := runFn 7 b_law_value
theorem sc_law_value : FnScope ["expr", "table", "total", "is_whole_v", "todo", "one", "sign"] ["expr", "table"] (defScope s_law_value) := ⟨rfl, rfl, rfl, by decide +kernel, rfl, by decide +kernel, by decide +kernel⟩
theorem ok_law_value {P : Program} {w : World} {K : Fr} {mg : Str → Option Value} {base : Heap} {cl ad : Nat → Addr} {fd : Nat → FuncData} {fi : Nat → Addr} {za : Addr} (T : Txt K mg cl ad fd fi za) : FnOk P w K mg base (L2.CX P w) 3 (ad 15) (fd 15) ["expr", "table"] (spP K cl 2 f_law_value) :=
  fn_pure (cl := cl) (k := 2) T.F15 sc_law_value rfl (by decide) fun cdv A outer s H E hr => by exact (ss_cons (ss_par3 (m := false) (i := 2) (j := 3) (l := 4) se_int se_bool (sf_lst (sa_cons (se_tup (sa_cons (se_var 0 (pv 0)) (sa_cons se_int sa_nil))) sa_nil)) (fun ta h => ps_par3 rfl sc_law_value.nd rfl rfl rfl (by decide) (by decide) (by decide) rfl rfl rfl h rfl)) (ss_cons (ss_while (m := false) 100000 (passes_of rfl) (st_cmp (op_neD hr.units) sem_neD (sb_var 4 (pv 4)) (sb_of (sf_of (sf_lst sa_nil))) (nomark _)) (ss_cons (ss_unp (m := false) (is := [5, 6]) (n := 2) rfl (ps_asg (se_pop 4 (pv 4)) (pg_tup rfl (pgs_cons (pg_name (i := 5) sc_law_value.nd rfl (by first | exact Or.inl rfl | exact Or.inr rfl)) (pgs_cons (pg_name (i := 6) sc_law_value.nd rfl (by first | exact Or.inl rfl | exact Or.inr rfl)) pgs_nil))))) (ss_one (ss_if (m := false) (st_val (se_isi tyok_tuple rfl T.n_isinstance (pe_bltn (v := V.ty "tuple") rfl T.n_tuple bt_tuple rfl) (sb_var 5 (pv 5)))) (ss_cons (ss_do (m := false) (se_app 4 (pv 4) (se_tup (sa_cons (se_ix (sb_var 5 (pv 5)) (sb_of se_int)) (sa_cons (se_var 6 (pv 6)) sa_nil))) rfl (fun t h => pe_bm PySem.F.plainAttrs_list PySem.F.slot_list_append PySem.F.type_list_append mt_append (pv 4) h))) (ss_one (ss_do (m := false) (se_app 4 (pv 4) (se_tup (sa_cons (se_ix (sb_var 5 (pv 5)) (sb_of se_int)) (sa_cons (se_if (st_cmp (op_eqD hr.units) sem_eqD (sb_of (se_ix (sb_var 5 (pv 5)) (sb_of se_int))) (sb_of se_str) (nomark _)) (se_var 6 (pv 6)) (se_neg (sb_var 6 (pv 6)))) sa_nil))) rfl (fun t h => pe_bm PySem.F.plainAttrs_list PySem.F.slot_list_append PySem.F.type_list_append mt_append (pv 4) h))))) (ss_one (ss_if (m := false) (st_val (se_isi tyok_str rfl T.n_isinstance (pe_bltn (v := V.ty "str") rfl T.n_str bt_str rfl) (sb_var 5 (pv 5)))) (ss_one (ss_par2 (m := false) (i := 2) (j := 3) rfl sc_law_value.nd rfl rfl (by decide) (se_bin op_add sem_addI (sb_var 2 (pv 2)) (sb_of (se_bin op_mul sem_mulI (sb_var 6 (pv 6)) (sb_of (se_get2 (few_units hr) (se_var 1 (pv 1)) (se_var 5 (pv 5)) se_int ⟨rfl, rfl, rfl, rfl⟩))))) (se_and (se_var 3 (pv 3)) (se_one (se_cmp (op_inK (few_units hr)) sem_inK (sb_var 5 (pv 5)) (sb_var 1 (pv 1)) (by rfl)))) (fun ta h => ps_par rfl sc_law_value.nd rfl rfl (by decide) rfl rfl h rfl))) (ss_one (ss_set (m := false) (i := 2) sc_law_value.nd rfl (by first | exact Or.inl rfl | exact Or.inr rfl) (se_bin op_add sem_addI (sb_var 2 (pv 2)) (sb_of (se_bin op_mul sem_mulI (sb_var 6 (pv 6)) (sb_var 5 (pv 5))))))))))))) (ss_one (ss_ret (m := false) (se_tup (sa_cons (se_var 2 (pv 2)) (sa_cons (se_var 3 (pv 3)) sa_nil)))))))
/-! ### _law_no_expr -/
def b_law_no_expr : Ex := (seqS (setS 2 (lstOf (evLst (evCons (evLit .none) (evCons (evLit (.bool true)) (evCons (evLit (.str "")) (evCons (evLit (.str "N")) (evCons (evLit (.str "two words")) (evCons (evTup evNil) (evCons (evTup (evCons (evLit (.str "+")) (evCons (evVar 1) evNil))) (evCons (evTup (evCons (evLit (.str "*")) (evCons (evVar 1) (evCons (evLit (.int 1)) evNil)))) (evCons (lstOf (evLst (evCons (evLit (.str "+")) (evCons (evVar 1) (evCons (evLit (.int 1)) evNil))))) (evCons (evTup (evCons (evLit (.str "+")) (evCons (evVar 1) (evCons (evLit (.int 1)) (evCons (evLit (.int 2)) evNil))))) (evCons (evTup (evCons (evLit (.str "-")) (evCons (evVar 1) (evCons (evLit .none) evNil)))) (evCons (evTup (evCons (evLit (.str "+")) (evCons (evLit (.bool false)) (evCons (evVar 1) evNil)))) (evCons (evTup (evCons (evLit (.str "+")) (evCons (evTup (evCons (evLit (.str "-")) (evCons (evLit (.int 1)) (evCons (evLit (.str "X")) evNil)))) (evCons (evVar 1) evNil)))) (evCons (evTup (evCons (evLit (.str "averyverylongname")) (evCons (evLit (.int 1)) (evCons (evLit (.int 2)) evNil)))) (evCons (evTup (evCons (evLit (.str "+")) (evCons (evVar 1) (evCons (lstOf (evLst (evCons (evLit (.str "n")) evNil))) evNil)))) (evCons (evLit (.str "9a")) evNil))))))))))))))))))) (retS (evCallD 0 f_law_pick (evCons (evVar 2) evNil))))
def f_law_no_expr : List D → Dk → Rd := runFnD 3 b_law_no_expr
theorem sc_law_no_expr : FnScope ["deck", "expr", "some"] ["deck", "expr"] (defScope s_law_no_expr) := ⟨rfl, rfl, rfl, by decide +kernel, rfl, by decide +kernel, by decide +kernel⟩
theorem ok_law_no_expr {P : Program} {w : World} {K : Fr} {mg : Str → Option Value} {base : Heap} {cl ad : Nat → Addr} {fd : Nat → FuncData} {fi : Nat → Addr} {za : Addr} (T : Txt K mg cl ad fd fi za) : FnOk P w K mg base (L2.CX P w) 5 (ad 16) (fd 16) ["deck", "expr"] (spD K 1 f_law_no_expr) :=
  fn_deck (cl := cl) (k := 4) T.F16 sc_law_no_expr rfl (by decide) fun cdv A outer s H E hr => by exact (ss_cons (ss_set (m := false) (i := 2) sc_law_no_expr.nd rfl (by first | exact Or.inl rfl | exact Or.inr rfl) (sf_of (sf_lst (sa_cons se_none (sa_cons se_bool (sa_cons se_str (sa_cons se_str (sa_cons se_str (sa_cons (se_tup sa_nil) (sa_cons (se_tup (sa_cons se_str (sa_cons (se_var 1 (pv 1)) sa_nil))) (sa_cons (se_tup (sa_cons se_str (sa_cons (se_var 1 (pv 1)) (sa_cons se_int sa_nil)))) (sa_cons (sf_of (sf_lst (sa_cons se_str (sa_cons (se_var 1 (pv 1)) (sa_cons se_int sa_nil))))) (sa_cons (se_tup (sa_cons se_str (sa_cons (se_var 1 (pv 1)) (sa_cons se_int (sa_cons se_int sa_nil))))) (sa_cons (se_tup (sa_cons se_str (sa_cons (se_var 1 (pv 1)) (sa_cons se_none sa_nil)))) (sa_cons (se_tup (sa_cons se_str (sa_cons se_bool (sa_cons (se_var 1 (pv 1)) sa_nil)))) (sa_cons (se_tup (sa_cons se_str (sa_cons (se_tup (sa_cons se_str (sa_cons se_int (sa_cons se_str sa_nil)))) (sa_cons (se_var 1 (pv 1)) sa_nil)))) (sa_cons (se_tup (sa_cons se_str (sa_cons se_int (sa_cons se_int sa_nil)))) (sa_cons (se_tup (sa_cons se_str (sa_cons (se_var 1 (pv 1)) (sa_cons (sf_of (sf_lst (sa_cons se_str sa_nil))) sa_nil)))) (sa_cons se_str sa_nil))))))))))))))))))) (ss_one (ss_ret (m := false) (se_callD 0 (ok_law_pick T) (hr.mono (by decide)) rfl T.g13 T.F13.kp T.B13 (takes0) (pv 0) (sa_cons (se_var 2 (pv 2)) sa_nil) (evCons_len evNil_len)))))
/-! ### parts_of -/
def b_parts_of : Ex := (seqS (parOS 1 2 (evLst evNil) (evLst (evCons (evVar 0) evNil))) (seqS (whileS 100000 (evT (evBin neD (evVarB 2) (lstOf (evLst evNil)))) (seqS (setS 3 (evPop 2)) (seqS (doS (evApp 1 (evVar 3))) (ifS (evT (ev1 (isiD "tuple") (evVarB 3))) (doS (evExt 2 (lstOf (ev1L listD (evSl (evVarB 3) (ptOf (evLit (.int 1))) ptNo))))) skipS)))) (fixS 1 (retS (evVar 1)))))
def f_parts_of : List D → Ro := runFn 4 b_parts_of
theorem sc_parts_of : FnScope ["expr", "found", "waiting", "part"] ["expr"] (defScope s_parts_of) := ⟨rfl, rfl, rfl, by decide +kernel, rfl, by decide +kernel, by decide +kernel⟩
theorem ok_parts_of {P : Program} {w : World} {K : Fr} {mg : Str → Option Value} {base : Heap} {cl ad : Nat → Addr} {fd : Nat → FuncData} {fi : Nat → Addr} {za : Addr} (T : Txt K mg cl ad fd fi za) : FnOk P w K mg base (L2.CX P w) 3 (ad 5) (fd 5) ["expr"] (spP K cl 1 f_parts_of) :=
  fn_pure (cl := cl) (k := 2) T.F5 sc_parts_of rfl (by decide) fun cdv A outer s H E hr => by exact (ss_cons (ss_parO (m := false) (i := 1) (j := 2) (by decide) (sf_lst sa_nil) (sf_lst (sa_cons (se_var 0 (pv 0)) sa_nil)) (fun ta h => ps_par rfl sc_parts_of.nd rfl rfl (by decide) rfl rfl h rfl)) (ss_cons (ss_while (m := false) 100000 (passes_of rfl) (st_cmp (op_neD hr.units) sem_neD (sb_var 2 (pv 2)) (sb_of (sf_of (sf_lst sa_nil))) (nomark _)) (ss_cons (ss_set (m := false) (i := 3) sc_parts_of.nd rfl (by first | exact Or.inl rfl | exact Or.inr rfl) (se_pop 2 (pv 2))) (ss_cons (ss_do (m := false) (se_app 1 (pv 1) (se_var 3 (pv 3)) rfl (fun t h => pe_bm PySem.F.plainAttrs_list PySem.F.slot_list_append PySem.F.type_list_append mt_append (pv 1) h))) (ss_one (ss_if (m := false) (st_val (se_isi tyok_tuple rfl T.n_isinstance (pe_bltn (v := V.ty "tuple") rfl T.n_tuple bt_tuple rfl) (sb_var 3 (pv 3)))) (ss_one (ss_do (m := false) (se_ext 2 (pv 2) (sf_of (sf_ty L2.call_list_of sem_list rfl T.n_list bt_list (sb_of (se_slice (sb_var 3 (pv 3)) (sp_some (sb_of se_int)) sp_none)))) (fun t h => pe_bm PySem.F.plainAttrs_list PySem.F.slot_list_extend PySem.F.type_list_extend mt_extend (pv 2) h)))) ss_nil))))) (ss_fix 1 (ss_one (ss_ret (m := false) (se_var 1 (pv 1)))))))
/-! ### names_of -/
def b_names_of : Ex := (retS (lstOf (evComp [1] (evItL (evCall f_parts_of (evCons (evVar 0) evNil))) (tgN 1) (evT (ev1 (isiD "str") (evVarB 1))) (evVar 1))))
def f_names_of : List D → Ro := runFn 2 b_names_of
theorem sc_names_of : FnScope ["expr", "part"] ["expr"] (defScope s_names_of) := ⟨rfl, rfl, rfl, by decide +kernel, rfl, by decide +kernel, by decide +kernel⟩
theorem ok_names_of {P : Program} {w : World} {K : Fr} {mg : Str → Option Value} {base : Heap} {cl ad : Nat → Addr} {fd : Nat → FuncData} {fi : Nat → Addr} {za : Addr} (T : Txt K mg cl ad fd fi za) : FnOk P w K mg base (L2.CX P w) 4 (ad 6) (fd 6) ["expr"] (spP K cl 1 f_names_of) :=
  fn_pure (cl := cl) (k := 3) T.F6 sc_names_of rfl (by decide) fun cdv A outer s H E hr => by exact (ss_one (ss_ret (m := false) (sf_of (sf_comp (tgN_sem (vs := [1]) (i := 1) (by decide)) (pe_lc (own := [("part", 1)]) rfl sc_names_of.nd (si_list (se_call (ok_parts_of T) (hr.mono (by decide)) rfl T.g5 T.F5.kp T.B5 (takes_of rfl rfl rfl rfl) (sa_cons (se_var 0 (pv 0)) sa_nil) (evCons_len evNil_len))) (blkOk_by (by show blkC ["expr", "part"] (defScope s_names_of) _ _ = true; decide +kernel)) (fun _ _ _ _ _ => (pg_name (i := 1) sc_names_of.nd rfl (by first | exact Or.inl rfl | exact Or.inr rfl))) (fun _ _ _ _ _ => (pts_one (st_val (se_isi tyok_str rfl T.n_isinstance (pe_bltn (v := V.ty "str") rfl T.n_str bt_str rfl) (sb_var 1 (pv 1)))))) (fun _ _ _ _ _ => (se_var 1 (pv 1))))))))
/-! ### reckoned -/
def b_reckoned : Ex := (seqS (ownS 2 (evLst evNil)) (seqS (forS (evRevL (evCall f_parts_of (evCons (evVar 0) evNil))) (tgN 3) (ifS (evT (ev1 (isiD "tuple") (evVarB 3))) (seqS (unpLS [4, 5] (lstOf (evSlL (evVarB 2) (ptOf (ev1 negD (evLit (.int 2)))) ptNo))) (ownS 2 (evBinL addL (lstOf (evSlL (evVarB 2) ptNo (ptOf (ev1 negD (evLit (.int 2)))))) (lstOf (evLst (evCons (evIf (evT (evBin eqD (evBin ixD (evVarB 3) (evLit (.int 0))) (evLit (.str "+")))) (evBin addI (evVarB 4) (evVarB 5)) (evBin subI (evVarB 4) (evVarB 5))) evNil)))))) (doS (evApp 2 (evIf (evT (ev1 (isiD "str") (evVarB 3))) (evBin getK (evVarB 1) (evVarB 3)) (evVar 3)))))) (retS (evBin ixD (evVarB 2) (evLit (.int 0))))))
def f_reckoned : List D → Ro := runFn 6 b_reckoned
theorem sc_reckoned : FnScope ["expr", "values", "found", "part", "one", "other"] ["expr", "values"] (defScope s_reckoned) := ⟨rfl, rfl, rfl, by decide +kernel, rfl, by decide +kernel, by decide +kernel⟩
theorem ok_reckoned {P : Program} {w : World} {K : Fr} {mg : Str → Option Value} {base : Heap} {cl ad : Nat → Addr} {fd : Nat → FuncData} {fi : Nat → Addr} {za : Addr} (T : Txt K mg cl ad fd fi za) : FnOk P w K mg base (L2.CX P w) 4 (ad 7) (fd 7) ["expr", "values"] (spP K cl 2 f_reckoned) :=
  fn_pure (cl := cl) (k := 3) T.F7 sc_reckoned rfl (by decide) fun cdv A outer s H E hr => by exact (ss_cons (ss_own (m := false) (i := 2) sc_reckoned.nd rfl (by first | exact Or.inl rfl | exact Or.inr rfl) (sf_lst sa_nil)) (ss_cons (ss_for (m := false) (passes_of rfl) rfl (si_rev rfl T.n_reversed (se_call (ok_parts_of T) (hr.mono (by decide)) rfl T.g5 T.F5.kp T.B5 (takes_of rfl rfl rfl rfl) (sa_cons (se_var 0 (pv 0)) sa_nil) (evCons_len evNil_len))) (pg_name (i := 3) sc_reckoned.nd rfl (by first | exact Or.inl rfl | exact Or.inr rfl)) (tgN_sem (vs := [3]) (i := 3) (by decide)) (ss_one (ss_if (m := false) (st_val (se_isi tyok_tuple rfl T.n_isinstance (pe_bltn (v := V.ty "tuple") rfl T.n_tuple bt_tuple rfl) (sb_var 3 (pv 3)))) (ss_cons (ss_unpL (m := false) (is := [4, 5]) (n := 2) rfl (ps_asg (sf_of (sf_slice (sb_var 2 (pv 2)) (sp_some (sb_of (se_neg (sb_of se_int)))) sp_none)) (pg_unl rfl (pgs_cons (pg_name (i := 4) sc_reckoned.nd rfl (by first | exact Or.inl rfl | exact Or.inr rfl)) (pgs_cons (pg_name (i := 5) sc_reckoned.nd rfl (by first | exact Or.inl rfl | exact Or.inr rfl)) pgs_nil))))) (ss_one (ss_own (m := false) (i := 2) sc_reckoned.nd rfl (by first | exact Or.inl rfl | exact Or.inr rfl) (sf_bin op_cat sem_addL (sb_of (sf_of (sf_slice (sb_var 2 (pv 2)) sp_none (sp_some (sb_of (se_neg (sb_of se_int))))))) (sb_of (sf_of (sf_lst (sa_cons (se_if (st_cmp (op_eqD hr.units) sem_eqD (sb_of (se_ix (sb_var 3 (pv 3)) (sb_of se_int))) (sb_of se_str) (nomark _)) (se_bin op_add sem_addI (sb_var 4 (pv 4)) (sb_var 5 (pv 5))) (se_bin op_sub sem_subI (sb_var 4 (pv 4)) (sb_var 5 (pv 5)))) sa_nil)))))))) (ss_one (ss_do (m := false) (se_app 2 (pv 2) (se_if (st_val (se_isi tyok_str rfl T.n_isinstance (pe_bltn (v := V.ty "str") rfl T.n_str bt_str rfl) (sb_var 3 (pv 3)))) (se_getK (few_units hr) (sb_var 1 (pv 1)) (sb_var 3 (pv 3))) (se_var 3 (pv 3))) rfl (fun t h => pe_bm PySem.F.plainAttrs_list PySem.F.slot_list_append PySem.F.type_list_append mt_append (pv 2) h))))))) (ss_one (ss_ret (m := false) (se_ix (sb_var 2 (pv 2)) (sb_of se_int))))))
/-! ### are_values -/
def b_are_values : Ex := (seqS (ifS (evTor (evTnot (evT (ev1 (isiD "tuple") (evVarB 0)))) (evTnot (evT (ev1 allD (lstOf (evComp [1] (evItT (evVar 0)) (tgN 1) evYes (evCall f_is_tuple_of (evCons (evVar 1) (evCons (evLit (.int 2)) evNil))))))))) (retS (evLit (.bool false))) skipS) (seqS (ifS (evTnot (evT (ev1 allD (lstOf (evComp [1] (evItT (evVar 0)) (tgN 1) evYes (evAnd (evCall f_is_name (evCons (evBin ixD (evVarB 1) (evLit (.int 0))) evNil)) (evCall f_is_whole (evCons (evBin ixD (evVarB 1) (evLit (.int 1))) evNil)))))))) (retS (evLit (.bool false))) skipS) (retS (evBin eqD (ev1 lenK (ev1 dictD (evVar 0))) (ev1 lenD (evVarB 0))))))
def f_are_values : List D → Ro := runFn 2 b_are_values
theorem sc_are_values : FnScope ["thing", "pair"] ["thing"] (defScope s_are_values) := ⟨rfl, rfl, rfl, by decide +kernel, rfl, by decide +kernel, by decide +kernel⟩
theorem ok_are_values {P : Program} {w : World} {K : Fr} {mg : Str → Option Value} {base : Heap} {cl ad : Nat → Addr} {fd : Nat → FuncData} {fi : Nat → Addr} {za : Addr} (T : Txt K mg cl ad fd fi za) : FnOk P w K mg base (L2.CX P w) 4 (ad 8) (fd 8) ["thing"] (spP K cl 1 f_are_values) :=
  fn_pure (cl := cl) (k := 3) T.F8 sc_are_values rfl (by decide) fun cdv A outer s H E hr => by exact (ss_cons (ss_if (m := false) (st_pw (sw_or (st_not (st_val (se_isi tyok_tuple rfl T.n_isinstance (pe_bltn (v := V.ty "tuple") rfl T.n_tuple bt_tuple rfl) (sb_var 0 (pv 0))))) (sw_or1 (st_not (st_val (se_b (cr_all rfl) sem_all rfl T.n_all bt_all (sb_of (sf_of (sf_comp (tgN_sem (vs := [1]) (i := 1) (by decide)) (pe_lc (own := [("pair", 1)]) rfl sc_are_values.nd (si_tup (se_var 0 (pv 0))) (blkOk_by (by show blkC ["thing", "pair"] (defScope s_are_values) _ _ = true; decide +kernel)) (fun _ _ _ _ _ => (pg_name (i := 1) sc_are_values.nd rfl (by first | exact Or.inl rfl | exact Or.inr rfl))) (fun _ _ _ _ _ => pts_yes) (fun _ _ _ _ _ => (se_call (ok_is_tuple_of T) (hr.mono (by decide)) rfl T.g1 T.F1.kp T.B1 (takes0) (sa_cons (se_var 1 (pv 1)) (sa_cons se_int sa_nil)) (evCons_len (evCons_len evNil_len)))))))))))))) (ss_one (ss_ret (m := false) se_bool)) ss_nil) (ss_cons (ss_if (m := false) (st_not (st_val (se_b (cr_all rfl) sem_all rfl T.n_all bt_all (sb_of (sf_of (sf_comp (tgN_sem (vs := [1]) (i := 1) (by decide)) (pe_lc (own := [("pair", 1)]) rfl sc_are_values.nd (si_tup (se_var 0 (pv 0))) (blkOk_by (by show blkC ["thing", "pair"] (defScope s_are_values) _ _ = true; decide +kernel)) (fun _ _ _ _ _ => (pg_name (i := 1) sc_are_values.nd rfl (by first | exact Or.inl rfl | exact Or.inr rfl))) (fun _ _ _ _ _ => pts_yes) (fun _ _ _ _ _ => (se_and (se_call (ok_is_name T) (hr.mono (by decide)) rfl T.g3 T.F3.kp T.B3 (takes0) (sa_cons (se_ix (sb_var 1 (pv 1)) (sb_of se_int)) sa_nil) (evCons_len evNil_len)) (se_one (se_call (ok_is_whole T) (hr.mono (by decide)) rfl T.g0 T.F0.kp T.B0 (takes0) (sa_cons (se_ix (sb_var 1 (pv 1)) (sb_of se_int)) sa_nil) (evCons_len evNil_len)))))))))))) (ss_one (ss_ret (m := false) se_bool)) ss_nil) (ss_one (ss_ret (m := false) (se_cmp (op_eqD hr.units) sem_eqD (sb_of (se_b call_lenK sem_lenK rfl T.n_len bt_len (sb_of (se_dict rfl rfl T.n_dict (se_var 0 (pv 0)))))) (sb_of (se_b L2.call_len sem_len rfl T.n_len bt_len (sb_var 0 (pv 0)))) (nomark _))))))
/-! ### value_of -/
def b_value_of : Ex := (seqS (ifS (evTnot (evT (evCall f_is_expr_value (evCons (evVar 0) evNil)))) (raiseS 1 (evVar 0)) skipS) (seqS (ifS (evTnot (evT (evCall f_are_values (evCons (evVar 1) evNil)))) (raiseS 0 (evVar 1)) skipS) (seqS (setS 2 (ev1 dictD (evVar 1))) (seqS (ifS (evTnot (evT (ev1 allD (lstOf (evComp [3] (evItL (evCall f_names_of (evCons (evVar 0) evNil))) (tgN 3) evYes (evBin (inK false) (evVarB 3) (evVarB 2))))))) (raiseS 1 (evVar 0)) skipS) (retS (evCall f_reckoned (evCons (evVar 0) (evCons (evVar 2) evNil))))))))
def f_value_of : List D → Ro := runFn 4 b_value_of
theorem sc_value_of : FnScope ["expr", "values", "told", "name"] ["expr", "values"] (defScope s_value_of) := ⟨rfl, rfl, rfl, by decide +kernel, rfl, by decide +kernel, by decide +kernel⟩
theorem ok_value_of {P : Program} {w : World} {K : Fr} {mg : Str → Option Value} {base : Heap} {cl ad : Nat → Addr} {fd : Nat → FuncData} {fi : Nat → Addr} {za : Addr} (T : Txt K mg cl ad fd fi za) : FnOk P w K mg base (L2.CX P w) 5 (ad 10) (fd 10) ["expr", "values"] (spP K cl 2 f_value_of) :=
  fn_pure (cl := cl) (k := 4) T.F10 sc_value_of rfl (by decide) fun cdv A outer s H E hr => by exact (ss_cons (ss_if (m := false) (st_not (st_val (se_call (ok_is_expr_value T) (hr.mono (by decide)) rfl T.g4 T.F4.kp T.B4 (takes_of rfl rfl rfl rfl) (sa_cons (se_var 0 (pv 0)) sa_nil) (evCons_len evNil_len)))) (ss_one (ss_raise (m := false) 1 rfl T.e1 hr (takes_of rfl rfl rfl rfl) (se_var 0 (pv 0)) rfl)) ss_nil) (ss_cons (ss_if (m := false) (st_not (st_val (se_call (ok_are_values T) (hr.mono (by decide)) rfl T.g8 T.F8.kp T.B8 (takes_of rfl rfl rfl rfl) (sa_cons (se_var 1 (pv 1)) sa_nil) (evCons_len evNil_len)))) (ss_one (ss_raise (m := false) 0 rfl T.e0 hr (takes_of rfl rfl rfl rfl) (se_var 1 (pv 1)) rfl)) ss_nil) (ss_cons (ss_set (m := false) (i := 2) sc_value_of.nd rfl (by first | exact Or.inl rfl | exact Or.inr rfl) (se_dict rfl rfl T.n_dict (se_var 1 (pv 1)))) (ss_cons (ss_if (m := false) (st_not (st_val (se_b (cr_all rfl) sem_all rfl T.n_all bt_all (sb_of (sf_of (sf_comp (tgN_sem (vs := [3]) (i := 3) (by decide)) (pe_lc (own := [("name", 3)]) rfl sc_value_of.nd (si_list (se_call (ok_names_of T) (hr.mono (by decide)) rfl T.g6 T.F6.kp T.B6 (takes_of rfl rfl rfl rfl) (sa_cons (se_var 0 (pv 0)) sa_nil) (evCons_len evNil_len))) (blkOk_by (by show blkC ["expr", "values", "told", "name"] (defScope s_value_of) _ _ = true; decide +kernel)) (fun _ _ _ _ _ => (pg_name (i := 3) sc_value_of.nd rfl (by first | exact Or.inl rfl | exact Or.inr rfl))) (fun _ _ _ _ _ => pts_yes) (fun _ _ _ _ _ => (se_cmp (op_inK (few_units hr)) sem_inK (sb_var 3 (pv 3)) (sb_var 2 (pv 2)) (by rfl)))))))))) (ss_one (ss_raise (m := false) 1 rfl T.e1 hr (takes_of rfl rfl rfl rfl) (se_var 0 (pv 0)) rfl)) ss_nil) (ss_one (ss_ret (m := false) (se_call (ok_reckoned T) (hr.mono (by decide)) rfl T.g7 T.F7.kp T.B7 (takes_of rfl rfl rfl rfl) (sa_cons (se_var 0 (pv 0)) (sa_cons (se_var 2 (pv 2)) sa_nil)) (evCons_len (evCons_len evNil_len)))))))))
/-! ### _law_heard -/
def b_law_heard : Ex := (heardM [(1, "expr"), (0, "number")] 3 (retS (evTup (evCons (evLit (.str "told")) (evCons (evIf (evT (evVar 2)) (evCallK f_value_of [1, 0] (evCons (evVar 1) (evCons (evVar 0) evNil))) (evCall f_value_of (evCons (evVar 0) (evCons (evVar 1) evNil)))) evNil)))))
def f_law_heard : List D → Ro := runFn 4 b_law_heard
theorem sc_law_heard : FnScope ["expr", "values", "by_name", "e"] ["expr", "values", "by_name"] (defScope s_law_heard) := ⟨rfl, rfl, rfl, by decide +kernel, rfl, by decide +kernel, by decide +kernel⟩
theorem ok_law_heard {P : Program} {w : World} {K : Fr} {mg : Str → Option Value} {base : Heap} {cl ad : Nat → Addr} {fd : Nat → FuncData} {fi : Nat → Addr} {za : Addr} (T : Txt K mg cl ad fd fi za) : FnOk P w K mg base (L2.CX P w) 6 (ad 17) (fd 17) ["expr", "values", "by_name"] (spP K cl 3 f_law_heard) :=
  fn_pure (cl := cl) (k := 5) T.F17 sc_law_heard rfl (by decide) fun cdv A outer s H E hr => by exact (ss_one (ss_heardM (cs := [(1, "expr"), (0, "number")]) (i := 3) (n := "e") rfl rfl sc_law_heard.nd rfl rfl (takes_of rfl rfl rfl rfl) (apart_of T.ap (by decide)) (fun W pn xe tk _ => (ss_one (ss_ret (m := false) (se_tup (sa_cons se_str (sa_cons (se_if (st_val (se_var 2 (pv 2))) (se_callK (ix := [1, 0]) (ok_value_of T) (hr.mono (by decide)) rfl T.g10 T.F10.kp T.k10_values_expr (tk) (sk_cons (se_var 1 (pv 1)) (sk_cons (se_var 0 (pv 0)) sk_nil)) rfl (kw_len (ix := [1, 0]) (evCons_len (evCons_len evNil_len)) (by decide))) (se_call (ok_value_of T) (hr.mono (by decide)) rfl T.g10 T.F10.kp T.B10 (tk) (sa_cons (se_var 0 (pv 0)) (sa_cons (se_var 1 (pv 1)) sa_nil)) (evCons_len (evCons_len evNil_len)))) sa_nil)))))) (.cons ⟨rfl, by decide, Or.inl T.e1.gC⟩ (fun a oe cls d pn hz hvs => heard_suite T.e1 T.i1 T.z1 T.gZ (by exact rfl) (by exact rfl) T.n_isinstance (fun _ _ _ _ => pv 3) a oe cls d pn hz hvs) (.cons ⟨rfl, by decide, Or.inl T.e0.gC⟩ (fun a oe cls d pn hz hvs => heard_suite T.e0 T.i0 T.z0 T.gZ (by exact rfl) (by exact rfl) T.n_isinstance (fun _ _ _ _ => pv 3) a oe cls d pn hz hvs) .nil))))
/-! ### law -/
def b_law : Ex := (seqS (forS (evRng1 (evLit (.int 6))) (tgN 2) (seqS (setS 3 (lstOf (evSlL (lstOf (evLst (evCons (evLit (.str "n")) (evCons (evLit (.str "a1")) (evCons (evLit (.str "late")) (evCons (evLit (.str "twelvesigns0")) evNil)))))) ptNo (ptOf (evBin addI (evLit (.int 1)) (evCallD 1 drawF (evCons (evLit (.int 4)) evNil))))))) (seqS (setS 4 (evCallD 1 (f_law_expr 4) (evCons (evVar 3) (evCons (evLit (.int 3)) evNil)))) (seqS (ownS 5 (evComp [6] (evItL (lstOf (evBinL addL (evVarB 3) (lstOf (evSlL (lstOf (evLst (evCons (evLit (.str "more")) evNil))) (ptOf (evCallD 1 drawF (evCons (evLit (.int 2)) evNil))) ptNo))))) (tgN 6) evYes (evTup (evCons (evVar 6) (evCons (evCallD 1 f_law_pick (evCons (lstOf (evLst (evCons (evLit (.int 0)) (evCons (evLit (.int 1)) (evCons (ev1 negD (evLit (.int 5))) (evCons (evLit (.int 20)) (evCons (evBin addI (evBin powI (evLit (.int 10)) (evLit (.int 8))) (evCallD 1 drawF (evCons (evLit (.int 99)) evNil))) evNil))))))) evNil)) evNil))))) (seqS (ifS (evT (evBin eqD (evCallD 1 drawF (evCons (evLit (.int 4)) evNil)) (evLit (.int 0)))) (doS (evPopAt 5 (evCallD 1 drawF (evCons (ev1 lenD (evVarB 5)) evNil)))) skipS) (seqS (setS 7 (ev1 tupD (lstOf (evComp [8] (evRng1 (ev1 lenD (evVarB 5))) (tgN 8) evYes (evPopAt 5 (evCallD 1 drawF (evCons (ev1 lenD (evVarB 5)) evNil))))))) (seqS (unpS [9, 10] (evCall f_law_value (evCons (evVar 4) (evCons (ev1 dictD (lstOf (ev1L listD (evVarB 7)))) evNil)))) (seqS (par2S 11 12 (evIf (evT (evVar 10)) (evTup (evCons (evLit (.str "told")) (evCons (evVar 9) evNil))) (evTup (evCons (evLit (.str "expr")) (evCons (evVar 4) (evCons (evLit (.bool true)) evNil))))) (ev1 reprD (evTup (evCons (evVar 4) (evCons (evVar 7) evNil))))) (seqS (setS 13 (evCallD 1 f_law_no_expr (evCons (evVar 4) evNil))) (seqS (setS 14 (evCallD 1 f_law_pick (evCons (lstOf (evLst (evCons (evLit .none) (evCons (lstOf (ev1L listD (evVarB 7))) (evCons (evBin addT (evVarB 7) (evTup (evCons (evTup (evCons (evLit (.str "q")) (evCons (evLit (.int 1)) evNil))) (evCons (evTup (evCons (evLit (.str "q")) (evCons (evLit (.int 2)) evNil))) evNil)))) (evCons (evBin addT (evVarB 7) (evTup (evCons (evTup (evCons (evLit (.str "q")) (evCons (evLit (.bool true)) evNil))) evNil))) (evCons (evBin addT (evVarB 7) (evTup (evCons (evTup (evCons (evLit (.str "Q")) (evCons (evLit (.int 1)) evNil))) evNil))) (evCons (evBin addT (evVarB 7) (evTup (evCons (evTup (evCons (evLit (.str "q")) evNil)) evNil))) (evCons (evBin addT (evVarB 7) (evTup (evCons (lstOf (evLst (evCons (evLit (.str "q")) (evCons (evLit (.int 1)) evNil)))) evNil))) (evCons (evBin addT (evVarB 7) (evTup (evCons (evTup (evCons (evLit (.str "q")) (evCons (evLit (.int 1)) (evCons (evLit (.int 2)) evNil)))) evNil))) (evCons (evLit (.str "values")) (evCons (evBin addT (evVarB 7) (evTup (evCons (evTup (evCons (evLit (.str "q")) (evCons (evLit (.str "1")) evNil))) evNil))) (evCons (evBin addT (evVarB 7) (evTup (evCons (evTup (evCons (evLit (.int 7)) (evCons (evLit (.int 1)) evNil))) evNil))) evNil))))))))))))) evNil))) (seqS (setS 15 (lstOf (evLst (evCons (evCall f_law_heard (evCons (evVar 4) (evCons (evVar 7) (evCons (evLit (.bool false)) evNil)))) (evCons (evCall f_law_heard (evCons (evVar 4) (evCons (evVar 7) (evCons (evLit (.bool true)) evNil)))) (evCons (evCall f_law_heard (evCons (evVar 13) (evCons (evVar 14) (evCons (evLit (.bool false)) evNil)))) evNil)))))) (seqS (ifS (evTor (evT (evBin neSt (ev1 reprD (evVar 15)) (ev1 reprD (lstOf (evLst (evCons (evVar 11) (evCons (evVar 11) (evCons (evTup (evCons (evLit (.str "expr")) (evCons (evVar 13) (evCons (evLit (.bool true)) evNil)))) evNil)))))))) (evT (evBin neSt (ev1 reprD (evTup (evCons (evVar 4) (evCons (evVar 7) evNil)))) (evVarB 12)))) (retS (evLit (.bool false))) skipS) (seqS (ifS (evT (evBin neSt (ev1 reprD (evCall f_law_heard (evCons (evVar 4) (evCons (evVar 14) (evCons (evLit (.bool true)) evNil))))) (ev1 reprD (evTup (evCons (evLit (.str "number")) (evCons (evVar 14) (evCons (evLit (.bool true)) evNil))))))) (retS (evLit (.bool false))) skipS) (ifS (evT (evBin neSt (ev1 reprD (lstOf (evLst (evCons (evCall f_is_expr (evCons (evVar 4) evNil)) (evCons (evCallK f_is_expr [0] (evCons (evVar 4) evNil)) (evCons (evCall f_is_expr (evCons (evVar 13) evNil)) evNil)))))) (ev1 reprD (lstOf (evLst (evCons (evLit (.bool true)) (evCons (evLit (.bool true)) (evCons (evLit (.bool false)) evNil)))))))) (retS (evLit (.bool false))) skipS)))))))))))))) (retS (evLit (.bool true))))
theorem sc_law : FnScope ["script", "deck", "turn", "names", "expr", "left", "it", "values", "k", "found", "is_whole_v", "due", "text", "none", "bad", "heard"] ["script"] (defScope s_law) := ⟨rfl, rfl, rfl, by decide +kernel, rfl, by decide +kernel, by decide +kernel⟩
theorem ok_law {P : Program} {w : World} {K : Fr} {mg : Str → Option Value} {base : Heap} {cl ad : Nat → Addr} {fd : Nat → FuncData} {fi : Nat → Addr} {za : Addr} (T : Txt K mg cl ad fd fi za) {s : Shared} {H : Hp} {cdv : Value} {a : Addr} {ns : List Int} (hrun : ∃ s', b_law (lawMs 14 (begun ns 95015)) = .ok (.rt (.bool true)) s') (sq : SqL K H a (ns.map V.int)) :
    ∃ t, PSs (cxOf (L2.CX P w) P w K mg base ["script", "deck", "turn", "names", "expr", "left", "it", "values", "k", "found", "is_whole_v", "due", "text", "none", "bad", "heard"] "law" (defScope s_law) (ad 18) cdv callerA [] s H (fun _ _ _ => False)) (defBody s_law) t ∧ t { nx := fun _ _ => False, rt := fun v _ => v = .bl true } (start ["script", "deck", "turn", "names", "expr", "left", "it", "values", "k", "found", "is_whole_v", "due", "text", "none", "bad", "heard"] [.ref a]) H := by
  have hr : Room 9 (callerA.deeper (envOfC "law" (defScope s_law) s.heap.objs.size (ad 18) cdv)) := Room.deeper (k := 9) ⟨rfl, by decide +kernel, by decide +kernel⟩ _
  have hgu : (callerA.deeper (envOfC "law" (defScope s_law) s.heap.objs.size (ad 18) cdv)).guards = some [] := rfl
  exact law_body (cl := cl) (n := 14) sq rfl (ps_set (i := 1) sc_law.nd rfl (by first | exact Or.inl rfl | exact Or.inr rfl) (pe_callS (ok_begun (k := 2) T.F11 T.n_list) (hr.mono (by decide)) rfl T.g11 T.F11.kp T.B11 (fun σ => passAt takes0 σ) (pa_cons (pv 0) (pa_cons pe_int pa_nil)))) (by exact (ss_cons (ss_for (m := false) (passes_of rfl) rfl (si_rng1 rfl T.n_range (sb_of se_int)) (pg_name (i := 2) sc_law.nd rfl (by first | exact Or.inl rfl | exact Or.inr rfl)) (tgN_sem (vs := [2]) (i := 2) (by decide)) (ss_cons (ss_set (m := false) (i := 3) sc_law.nd rfl (by first | exact Or.inl rfl | exact Or.inr rfl) (sf_of (sf_slice (sb_of (sf_of (sf_lst (sa_cons se_str (sa_cons se_str (sa_cons se_str (sa_cons se_str sa_nil))))))) sp_none (sp_some (sb_of (se_bin op_add sem_addI (sb_of se_int) (sb_of (se_callD 1 (ok_draw (k := 2) T.F12 T.n_max T.n_int) (hr.mono (by decide)) rfl T.g12 T.F12.kp T.B12 (takes0) (pv 1) (sa_cons se_int sa_nil) (evCons_len evNil_len))))))))) (ss_cons (ss_set (m := false) (i := 4) sc_law.nd rfl (by first | exact Or.inl rfl | exact Or.inr rfl) (se_callD 1 (ok_law_expr T 4) (hr.mono (by decide)) rfl T.g14 T.F14.kp T.B14 (takes0) (pv 1) (sa_cons (se_var 3 (pv 3)) (sa_cons se_int sa_nil)) (evCons_len (evCons_len evNil_len)))) (ss_cons (ss_own (m := false) (i := 5) sc_law.nd rfl (by first | exact Or.inl rfl | exact Or.inr rfl) (sf_comp (tgN_sem (vs := [6]) (i := 6) (by decide)) (pe_lc (own := [("it", 6)]) rfl sc_law.nd (si_list (sf_of (sf_bin op_cat sem_addL (sb_var 3 (pv 3)) (sb_of (sf_of (sf_slice (sb_of (sf_of (sf_lst (sa_cons se_str sa_nil)))) (sp_some (sb_of (se_callD 1 (ok_draw (k := 2) T.F12 T.n_max T.n_int) (hr.mono (by decide)) rfl T.g12 T.F12.kp T.B12 (takes0) (pv 1) (sa_cons se_int sa_nil) (evCons_len evNil_len)))) sp_none)))))) (blkOk_by (by show blkC ["script", "deck", "turn", "names", "expr", "left", "it", "values", "k", "found", "is_whole_v", "due", "text", "none", "bad", "heard"] (defScope s_law) _ _ = true; decide +kernel)) (fun _ _ _ _ _ => (pg_name (i := 6) sc_law.nd rfl (by first | exact Or.inl rfl | exact Or.inr rfl))) (fun _ _ _ _ _ => pts_yes) (fun _ _ _ _ _ => (se_tup (sa_cons (se_var 6 (pv 6)) (sa_cons (se_callD 1 (ok_law_pick T) (hr.mono (by decide)) rfl T.g13 T.F13.kp T.B13 (takes0) (pv 1) (sa_cons (sf_of (sf_lst (sa_cons se_int (sa_cons se_int (sa_cons (se_neg (sb_of se_int)) (sa_cons se_int (sa_cons (se_bin op_add sem_addI (sb_of (se_bin op_pow sem_powI (sb_of se_int) (sb_of se_int))) (sb_of (se_callD 1 (ok_draw (k := 2) T.F12 T.n_max T.n_int) (hr.mono (by decide)) rfl T.g12 T.F12.kp T.B12 (takes0) (pv 1) (sa_cons se_int sa_nil) (evCons_len evNil_len)))) sa_nil))))))) sa_nil) (evCons_len evNil_len)) sa_nil))))))) (ss_cons (ss_if (m := false) (st_cmp (op_eqD hr.units) sem_eqD (sb_of (se_callD 1 (ok_draw (k := 2) T.F12 T.n_max T.n_int) (hr.mono (by decide)) rfl T.g12 T.F12.kp T.B12 (takes0) (pv 1) (sa_cons se_int sa_nil) (evCons_len evNil_len))) (sb_of se_int) (nomark _)) (ss_one (ss_do (m := false) (se_popAt 5 (pv 5) (sb_of (se_callD 1 (ok_draw (k := 2) T.F12 T.n_max T.n_int) (hr.mono (by decide)) rfl T.g12 T.F12.kp T.B12 (takes0) (pv 1) (sa_cons (se_b L2.call_len sem_len rfl T.n_len bt_len (sb_var 5 (pv 5))) sa_nil) (evCons_len evNil_len))) rfl (fun t h => pe_bm PySem.F.plainAttrs_list PySem.F.slot_list_pop PySem.F.type_list_pop mt_popAt (pv 5) h)))) ss_nil) (ss_cons (ss_set (m := false) (i := 7) sc_law.nd rfl (by first | exact Or.inl rfl | exact Or.inr rfl) (se_ty call_tupF sem_tuple rfl T.n_tuple bt_tuple (sb_of (sf_of (sf_comp (tgN_sem (vs := [8]) (i := 8) (by decide)) (pe_lc (own := [("k", 8)]) rfl sc_law.nd (si_rng1 rfl T.n_range (sb_of (se_b L2.call_len sem_len rfl T.n_len bt_len (sb_var 5 (pv 5))))) (blkOk_by (by show blkC ["script", "deck", "turn", "names", "expr", "left", "it", "values", "k", "found", "is_whole_v", "due", "text", "none", "bad", "heard"] (defScope s_law) _ _ = true; decide +kernel)) (fun _ _ _ _ _ => (pg_name (i := 8) sc_law.nd rfl (by first | exact Or.inl rfl | exact Or.inr rfl))) (fun _ _ _ _ _ => pts_yes) (fun _ _ _ _ _ => (se_popAt 5 (pv 5) (sb_of (se_callD 1 (ok_draw (k := 2) T.F12 T.n_max T.n_int) (hr.mono (by decide)) rfl T.g12 T.F12.kp T.B12 (takes0) (pv 1) (sa_cons (se_b L2.call_len sem_len rfl T.n_len bt_len (sb_var 5 (pv 5))) sa_nil) (evCons_len evNil_len))) rfl (fun t h => pe_bm PySem.F.plainAttrs_list PySem.F.slot_list_pop PySem.F.type_list_pop mt_popAt (pv 5) h))))))))) (ss_cons (ss_unp (m := false) (is := [9, 10]) (n := 2) rfl (ps_asg (se_call (ok_law_value T) (hr.mono (by decide)) rfl T.g15 T.F15.kp T.B15 (takes0) (sa_cons (se_var 4 (pv 4)) (sa_cons (se_dict rfl rfl T.n_dict (sf_of (sf_ty L2.call_list_of sem_list rfl T.n_list bt_list (sb_var 7 (pv 7))))) sa_nil)) (evCons_len (evCons_len evNil_len))) (pg_tup rfl (pgs_cons (pg_name (i := 9) sc_law.nd rfl (by first | exact Or.inl rfl | exact Or.inr rfl)) (pgs_cons (pg_name (i := 10) sc_law.nd rfl (by first | exact Or.inl rfl | exact Or.inr rfl)) pgs_nil))))) (ss_cons (ss_par2 (m := false) (i := 11) (j := 12) rfl sc_law.nd rfl rfl (by decide) (se_if (st_val (se_var 10 (pv 10))) (se_tup (sa_cons se_str (sa_cons (se_var 9 (pv 9)) sa_nil))) (se_tup (sa_cons se_str (sa_cons (se_var 4 (pv 4)) (sa_cons se_bool sa_nil))))) (se_repr hgu hr.units rfl T.n_repr (se_tup (sa_cons (se_var 4 (pv 4)) (sa_cons (se_var 7 (pv 7)) sa_nil)))) (fun ta h => ps_par rfl sc_law.nd rfl rfl (by decide) rfl rfl h rfl)) (ss_cons (ss_set (m := false) (i := 13) sc_law.nd rfl (by first | exact Or.inl rfl | exact Or.inr rfl) (se_callD 1 (ok_law_no_expr T) (hr.mono (by decide)) rfl T.g16 T.F16.kp T.B16 (takes0) (pv 1) (sa_cons (se_var 4 (pv 4)) sa_nil) (evCons_len evNil_len))) (ss_cons (ss_set (m := false) (i := 14) sc_law.nd rfl (by first | exact Or.inl rfl | exact Or.inr rfl) (se_callD 1 (ok_law_pick T) (hr.mono (by decide)) rfl T.g13 T.F13.kp T.B13 (takes0) (pv 1) (sa_cons (sf_of (sf_lst (sa_cons se_none (sa_cons (sf_of (sf_ty L2.call_list_of sem_list rfl T.n_list bt_list (sb_var 7 (pv 7)))) (sa_cons (se_bin op_catF sem_addT (sb_var 7 (pv 7)) (sb_of (se_tup (sa_cons (se_tup (sa_cons se_str (sa_cons se_int sa_nil))) (sa_cons (se_tup (sa_cons se_str (sa_cons se_int sa_nil))) sa_nil))))) (sa_cons (se_bin op_catF sem_addT (sb_var 7 (pv 7)) (sb_of (se_tup (sa_cons (se_tup (sa_cons se_str (sa_cons se_bool sa_nil))) sa_nil)))) (sa_cons (se_bin op_catF sem_addT (sb_var 7 (pv 7)) (sb_of (se_tup (sa_cons (se_tup (sa_cons se_str (sa_cons se_int sa_nil))) sa_nil)))) (sa_cons (se_bin op_catF sem_addT (sb_var 7 (pv 7)) (sb_of (se_tup (sa_cons (se_tup (sa_cons se_str sa_nil)) sa_nil)))) (sa_cons (se_bin op_catF sem_addT (sb_var 7 (pv 7)) (sb_of (se_tup (sa_cons (sf_of (sf_lst (sa_cons se_str (sa_cons se_int sa_nil)))) sa_nil)))) (sa_cons (se_bin op_catF sem_addT (sb_var 7 (pv 7)) (sb_of (se_tup (sa_cons (se_tup (sa_cons se_str (sa_cons se_int (sa_cons se_int sa_nil)))) sa_nil)))) (sa_cons se_str (sa_cons (se_bin op_catF sem_addT (sb_var 7 (pv 7)) (sb_of (se_tup (sa_cons (se_tup (sa_cons se_str (sa_cons se_str sa_nil))) sa_nil)))) (sa_cons (se_bin op_catF sem_addT (sb_var 7 (pv 7)) (sb_of (se_tup (sa_cons (se_tup (sa_cons se_int (sa_cons se_int sa_nil))) sa_nil)))) sa_nil))))))))))))) sa_nil) (evCons_len evNil_len))) (ss_cons (ss_set (m := false) (i := 15) sc_law.nd rfl (by first | exact Or.inl rfl | exact Or.inr rfl) (sf_of (sf_lst (sa_cons (se_call (ok_law_heard T) (hr.mono (by decide)) rfl T.g17 T.F17.kp T.B17 (takes0) (sa_cons (se_var 4 (pv 4)) (sa_cons (se_var 7 (pv 7)) (sa_cons se_bool sa_nil))) (evCons_len (evCons_len (evCons_len evNil_len)))) (sa_cons (se_call (ok_law_heard T) (hr.mono (by decide)) rfl T.g17 T.F17.kp T.B17 (takes0) (sa_cons (se_var 4 (pv 4)) (sa_cons (se_var 7 (pv 7)) (sa_cons se_bool sa_nil))) (evCons_len (evCons_len (evCons_len evNil_len)))) (sa_cons (se_call (ok_law_heard T) (hr.mono (by decide)) rfl T.g17 T.F17.kp T.B17 (takes0) (sa_cons (se_var 13 (pv 13)) (sa_cons (se_var 14 (pv 14)) (sa_cons se_bool sa_nil))) (evCons_len (evCons_len (evCons_len evNil_len)))) sa_nil)))))) (ss_cons (ss_if (m := false) (st_pw (sw_or (st_cmp op_ne sem_neSt (sb_of (se_repr hgu hr.units rfl T.n_repr (se_var 15 (pv 15)))) (sb_of (se_repr hgu hr.units rfl T.n_repr (sf_of (sf_lst (sa_cons (se_var 11 (pv 11)) (sa_cons (se_var 11 (pv 11)) (sa_cons (se_tup (sa_cons se_str (sa_cons (se_var 13 (pv 13)) (sa_cons se_bool sa_nil)))) sa_nil))))))) (nomark _)) (sw_or1 (st_cmp op_ne sem_neSt (sb_of (se_repr hgu hr.units rfl T.n_repr (se_tup (sa_cons (se_var 4 (pv 4)) (sa_cons (se_var 7 (pv 7)) sa_nil))))) (sb_var 12 (pv 12)) (nomark _))))) (ss_one (ss_ret (m := false) se_bool)) ss_nil) (ss_cons (ss_if (m := false) (st_cmp op_ne sem_neSt (sb_of (se_repr hgu hr.units rfl T.n_repr (se_call (ok_law_heard T) (hr.mono (by decide)) rfl T.g17 T.F17.kp T.B17 (takes0) (sa_cons (se_var 4 (pv 4)) (sa_cons (se_var 14 (pv 14)) (sa_cons se_bool sa_nil))) (evCons_len (evCons_len (evCons_len evNil_len)))))) (sb_of (se_repr hgu hr.units rfl T.n_repr (se_tup (sa_cons se_str (sa_cons (se_var 14 (pv 14)) (sa_cons se_bool sa_nil)))))) (nomark _)) (ss_one (ss_ret (m := false) se_bool)) ss_nil) (ss_one (ss_if (m := false) (st_cmp op_ne sem_neSt (sb_of (se_repr hgu hr.units rfl T.n_repr (sf_of (sf_lst (sa_cons (se_call (ok_is_expr T) (hr.mono (by decide)) rfl T.g9 T.F9.kp T.B9 (takes0) (sa_cons (se_var 4 (pv 4)) sa_nil) (evCons_len evNil_len)) (sa_cons (se_callK (ix := [0]) (ok_is_expr T) (hr.mono (by decide)) rfl T.g9 T.F9.kp T.k9_thing (takes0) (sk_cons (se_var 4 (pv 4)) sk_nil) rfl (kw_len (ix := [0]) (evCons_len evNil_len) (by decide))) (sa_cons (se_call (ok_is_expr T) (hr.mono (by decide)) rfl T.g9 T.F9.kp T.B9 (takes0) (sa_cons (se_var 13 (pv 13)) sa_nil) (evCons_len evNil_len)) sa_nil))))))) (sb_of (se_repr hgu hr.units rfl T.n_repr (sf_of (sf_lst (sa_cons se_bool (sa_cons se_bool (sa_cons se_bool sa_nil))))))) (nomark _)) (ss_one (ss_ret (m := false) se_bool)) ss_nil))))))))))))))) (ss_one (ss_ret (m := false) se_bool)))) hrun
end
end Zo
namespace Zo
open PySem PySem.Spec PyProof.Rows L2
def big60 : Int := 1000000000000000000000000000000000000000000000000000000000000
/-- whether a value is a whole number that counts -/
def isWh : D → Bool
  | .int i => decide (-big60 < i) && decide (i < big60)
  | _ => false
theorem v_whole (x : D) : f_is_whole [x] = .ok (.bool (isWh x)) := by
  cases x with
  | int i =>
    have e1 : (ev1 negD (evLit (.int big60))) = fun s => .ok (.int (-big60)) s := rfl
    by_cases h : -big60 < i
    · simp only [big60] at h
      simp [f_is_whole, b_is_whole, runFn, runFnD, roOf, rdOf, envOf0, seqS, skipS, setS, ownS, retS, ifS, doS, fixS, par2S, parOS, unpS, raiseS, evVar, evVarB, evLit, evNil, evCons, evTup, evLst, evBin, evBinL, ev1, ev1L, evAnd, evOr, evNot, evIf, evT, evTnot, evTand, evTor, evChain, evCall, evCallD, evCallK, ofRo, ofRd, lstOf, evSl, evSlL, ptOf, ptNo, asInt, asBool, toOut, Out.bind, evPop, evApp, evExt, evItL, evItT, evItS, evRng1, evZip, setMany, isiD, isT, negD, cmpI, isWh, big60, h]
      exact decide_eq_decide.mpr Iff.rfl
    · simp only [big60] at h
      simp [f_is_whole, b_is_whole, runFn, runFnD, roOf, rdOf, envOf0, seqS, skipS, setS, ownS, retS, ifS, doS, fixS, par2S, parOS, unpS, raiseS, evVar, evVarB, evLit, evNil, evCons, evTup, evLst, evBin, evBinL, ev1, ev1L, evAnd, evOr, evNot, evIf, evT, evTnot, evTand, evTor, evChain, evCall, evCallD, evCallK, ofRo, ofRd, lstOf, evSl, evSlL, ptOf, ptNo, asInt, asBool, toOut, Out.bind, evPop, evApp, evExt, evItL, evItT, evItS, evRng1, evZip, setMany, isiD, isT, negD, cmpI, isWh, big60, h]
  | _ => simp [f_is_whole, b_is_whole, runFn, runFnD, roOf, rdOf, envOf0, seqS, skipS, setS, ownS, retS, ifS, doS, fixS, par2S, parOS, unpS, raiseS, evVar, evVarB, evLit, evNil, evCons, evTup, evLst, evBin, evBinL, ev1, ev1L, evAnd, evOr, evNot, evIf, evT, evTnot, evTand, evTor, evChain, evCall, evCallD, evCallK, ofRo, ofRd, lstOf, evSl, evSlL, ptOf, ptNo, asInt, asBool, toOut, Out.bind, evPop, evApp, evExt, evItL, evItT, evItS, evRng1, evZip, setMany, isiD, isT, isWh]
def isTup (m : Nat) : D → Bool
  | .tuple ds => decide (ds.length = m)
  | _ => false
theorem v_is_tuple_of (x : D) (m : Nat) : f_is_tuple_of [x, .int m] = .ok (.bool (isTup m x)) := by
  cases x with
  | tuple ds =>
    have e : ((ds.length : Int) == (m : Int)) = decide (ds.length = m) := by
      by_cases h : ds.length = m
      · simp [h]
      · simp [h]; omega
    simp [f_is_tuple_of, b_is_tuple_of, runFn, runFnD, roOf, rdOf, envOf0, seqS, skipS, setS, ownS, retS, ifS, doS, fixS, par2S, parOS, unpS, raiseS, evVar, evVarB, evLit, evNil, evCons, evTup, evLst, evBin, evBinL, ev1, ev1L, evAnd, evOr, evNot, evIf, evT, evTnot, evTand, evTor, evChain, evCall, evCallD, evCallK, ofRo, ofRd, lstOf, evSl, evSlL, ptOf, ptNo, asInt, asBool, toOut, Out.bind, evPop, evApp, evExt, evItL, evItT, evItS, evRng1, evZip, setMany, isiD, isT, lenD, eqI, isTup, e]
  | _ => simp [f_is_tuple_of, b_is_tuple_of, runFn, runFnD, roOf, rdOf, envOf0, seqS, skipS, setS, ownS, retS, ifS, doS, fixS, par2S, parOS, unpS, raiseS, evVar, evVarB, evLit, evNil, evCons, evTup, evLst, evBin, evBinL, ev1, ev1L, evAnd, evOr, evNot, evIf, evT, evTnot, evTand, evTor, evChain, evCall, evCallD, evCallK, ofRo, ofRd, lstOf, evSl, evSlL, ptOf, ptNo, asInt, asBool, toOut, Out.bind, evPop, evApp, evExt, evItL, evItT, evItS, evRng1, evZip, setMany, isiD, isT, isTup]
def sgns : D := .tuple [.str "+", .str "-"]
def isSg : D → Bool
  | .str x => ("+" == x) || ("-" == x)
  | _ => false
theorem v_one_of (x : D) : f_is_one_of [x, sgns] = .ok (.bool (isSg x)) := by
  cases x with
  | str x =>
    have e : inSeq false (.str x) sgns = some (.bool (("+" == x) || ("-" == x))) := by
      simp [inSeq, sgns, inItems, flatD, eqFlat]
    simp [f_is_one_of, b_is_one_of, runFn, runFnD, roOf, rdOf, envOf0, seqS, skipS, setS, ownS, retS, ifS, doS, fixS, par2S, parOS, unpS, raiseS, evVar, evVarB, evLit, evNil, evCons, evTup, evLst, evBin, evBinL, ev1, ev1L, evAnd, evOr, evNot, evIf, evT, evTnot, evTand, evTor, evChain, evCall, evCallD, evCallK, ofRo, ofRd, lstOf, evSl, evSlL, ptOf, ptNo, asInt, asBool, toOut, Out.bind, evPop, evApp, evExt, evItL, evItT, evItS, evRng1, evZip, setMany, isiD, isT, isSg, e]
  | _ => simp [f_is_one_of, b_is_one_of, runFn, runFnD, roOf, rdOf, envOf0, seqS, skipS, setS, ownS, retS, ifS, doS, fixS, par2S, parOS, unpS, raiseS, evVar, evVarB, evLit, evNil, evCons, evTup, evLst, evBin, evBinL, ev1, ev1L, evAnd, evOr, evNot, evIf, evT, evTnot, evTand, evTor, evChain, evCall, evCallD, evCallK, ofRo, ofRd, lstOf, evSl, evSlL, ptOf, ptNo, asInt, asBool, toOut, Out.bind, evPop, evApp, evExt, evItL, evItT, evItS, evRng1, evZip, setMany, isiD, isT, isSg]
/-! ### the expressions -/
inductive E where
  | num (i : Int)
  | nm (w : Str)
  | op (p : Bool) (a b : E)
def sg (p : Bool) : Str := if p then "+" else "-"
def E.d : E → D
  | .num i => .int i
  | .nm w => .str w
  | .op p a b => .tuple [.str (sg p), a.d, b.d]
def W4 : List Str := ["n", "a1", "late", "twelvesigns0"]
def E.ok : E → Prop
  | .num i => i.natAbs < 10 ^ 12
  | .nm w => w ∈ W4
  | .op _ a b => a.ok ∧ b.ok
def E.size : E → Nat
  | .num _ => 1
  | .nm _ => 1
  | .op _ a b => 1 + a.size + b.size
def E.dep : E → Nat
  | .num _ => 1
  | .nm _ => 1
  | .op _ a b => 1 + max a.dep b.dep
def subs : E → List D
  | .num _ => []
  | .nm _ => []
  | .op _ a b => [a.d, b.d]
theorem nm_w4 {w : Str} (h : w ∈ W4) : f_is_name [.str w] = .ok (.bool true) := by
  simp only [W4, List.mem_cons, List.not_mem_nil, or_false] at h
  rcases h with rfl | rfl | rfl | rfl <;> rfl
theorem okd_w4 {w : Str} (h : w ∈ W4) : Ok 12 1 (.str w) := by
  simp only [W4, List.mem_cons, List.not_mem_nil, or_false] at h
  rcases h with rfl | rfl | rfl | rfl <;> decide +kernel
theorem ok_sg (p : Bool) : PyData.strOk (sg p) = true := by cases p <;> decide +kernel
theorem ok_pl : PyData.strOk "+" = true := by decide +kernel
theorem isSg_sg (p : Bool) : isSg (.str (sg p)) = true := by cases p <;> rfl
theorem okd_sg (p : Bool) : Ok 1 1 (.str (sg p)) := by cases p <;> decide +kernel
/-- a bound of an expression's bulk -/
def eB : Nat → Nat
  | 0 => 12
  | n + 1 => 3 * eB n + 3
theorem eB_mono : ∀ {i j : Nat}, i ≤ j → eB i ≤ eB j
  | i, 0, h => by rw [Nat.le_zero.mp h]; exact Nat.le_refl _
  | i, j + 1, h => by
    by_cases e : i = j + 1
    · rw [e]; exact Nat.le_refl _
    · have := eB_mono (i := i) (j := j) (by omega)
      simp only [eB]
      omega
theorem okE : ∀ a : E, a.ok → Ok (eB a.dep) a.dep a.d
  | .num i, h => (ok_int h).mono (Nat.zero_le _) (Nat.le_refl 1)
  | .nm w, h => (okd_w4 h).mono (by simp [E.dep, eB]) (Nat.le_refl 1)
  | .op p a b, h => by
    have ha := (okE a h.1).mono (eB_mono (show a.dep ≤ max a.dep b.dep by omega)) (show a.dep ≤ max a.dep b.dep by omega)
    have hb := (okE b h.2).mono (eB_mono (show b.dep ≤ max a.dep b.dep by omega)) (show b.dep ≤ max a.dep b.dep by omega)
    have hc : 12 ≤ eB (max a.dep b.dep) := eB_mono (i := 0) (Nat.zero_le _)
    have h1 : 1 ≤ a.dep := by cases a <;> simp only [E.dep] <;> omega
    refine (ok_tuple (all3 ((okd_sg p).mono (by omega) (by omega)) ha hb)).mono ?_ ?_
    · simp only [E.dep, Nat.add_comm 1, eB, List.length_cons, List.length_nil]; omega
    · simp only [E.dep]; omega
theorem smE {a : E} (h : a.ok) (hd : a.dep ≤ 50) : Sm a.d := (okE a h).sm (by omega)
/-! ### is_expr_value -/
def cV : Ms → Out Bool := evT (evBin neD (evVarB 1) (lstOf (evLst evNil)))
def bV : Ex := (seqS (setS 2 (evPop 1)) (ifS (evTand (evT (evCall f_is_tuple_of (evCons (evVar 2) (evCons (evLit (.int 3)) evNil)))) (evT (evCall f_is_one_of (evCons (evBin ixD (evVarB 2) (evLit (.int 0))) (evCons (evLit (.tuple [(.str "+"), (.str "-")])) evNil))))) (doS (evExt 1 (lstOf (ev1L listD (evSl (evVarB 2) (ptOf (evLit (.int 1))) ptNo))))) (ifS (evTand (evTnot (evT (evCall f_is_whole (evCons (evVar 2) evNil)))) (evTnot (evT (evCall f_is_name (evCons (evVar 2) evNil))))) (retS (evLit (.bool false))) skipS)))
theorem cV_ev {x p : Sv} {st : List D} {k : Dk} {sm : Bool} (h : ∀ d ∈ st, Sm d) : cV ⟨[x, .own st, p], k, sm⟩ = .ok (!st.isEmpty) ⟨[x, .own st, p], k, sm⟩ := by
  simp [cV, runFn, runFnD, roOf, rdOf, envOf0, seqS, skipS, setS, ownS, retS, ifS, doS, fixS, par2S, parOS, unpS, raiseS, evVar, evVarB, evLit, evNil, evCons, evTup, evLst, evBin, evBinL, ev1, ev1L, evAnd, evOr, evNot, evIf, evT, evTnot, evTand, evTor, evChain, evCall, evCallD, evCallK, ofRo, ofRd, lstOf, evSl, evSlL, ptOf, ptNo, asInt, asBool, toOut, Out.bind, evPop, evApp, evExt, evItL, evItT, evItS, evRng1, evZip, setMany, neNil h]
theorem v_tup3 (x : D) : f_is_tuple_of [x, .int 3] = .ok (.bool (isTup 3 x)) := v_is_tuple_of x 3
theorem v_sg (x : D) : f_is_one_of [x, .tuple [(.str "+"), (.str "-")]] = .ok (.bool (isSg x)) := v_one_of x
theorem bV_E {x p : Sv} {l : List D} {k : Dk} {sm : Bool} {a : E} (h : a.ok) (hl : l.length + 2 < 1000000) : bV ⟨[x, .own (l ++ [a.d]), p], k, sm⟩ = .ok .nx ⟨[x, .own (l ++ subs a), .fz a.d], k, sm⟩ := by
  cases a with
  | num i =>
    have h2 : isWh (.int i) = true := by
      have h' : i.natAbs < 10 ^ 12 := h
      have e1 : -big60 < i := by simp only [big60]; omega
      have e2 : i < big60 := by simp only [big60]; omega
      simp [isWh, e1, e2]
    simp [bV, runFn, runFnD, roOf, rdOf, envOf0, seqS, skipS, setS, ownS, retS, ifS, doS, fixS, par2S, parOS, unpS, raiseS, evVar, evVarB, evLit, evNil, evCons, evTup, evLst, evBin, evBinL, ev1, ev1L, evAnd, evOr, evNot, evIf, evT, evTnot, evTand, evTor, evChain, evCall, evCallD, evCallK, ofRo, ofRd, lstOf, evSl, evSlL, ptOf, ptNo, asInt, asBool, toOut, Out.bind, evPop, evApp, evExt, evItL, evItT, evItS, evRng1, evZip, setMany, E.d, v_tup3, isTup, v_whole, h2, subs]
  | nm w => simp [bV, runFn, runFnD, roOf, rdOf, envOf0, seqS, skipS, setS, ownS, retS, ifS, doS, fixS, par2S, parOS, unpS, raiseS, evVar, evVarB, evLit, evNil, evCons, evTup, evLst, evBin, evBinL, ev1, ev1L, evAnd, evOr, evNot, evIf, evT, evTnot, evTand, evTor, evChain, evCall, evCallD, evCallK, ofRo, ofRd, lstOf, evSl, evSlL, ptOf, ptNo, asInt, asBool, toOut, Out.bind, evPop, evApp, evExt, evItL, evItT, evItS, evRng1, evZip, setMany, E.d, v_tup3, isTup, v_whole, isWh, nm_w4 h, subs]
  | op q a b =>
    have e1 := sl1 (.str (sg q)) [a.d, b.d]
    simp [bV, runFn, runFnD, roOf, rdOf, envOf0, seqS, skipS, setS, ownS, retS, ifS, doS, fixS, par2S, parOS, unpS, raiseS, evVar, evVarB, evLit, evNil, evCons, evTup, evLst, evBin, evBinL, ev1, ev1L, evAnd, evOr, evNot, evIf, evT, evTnot, evTand, evTor, evChain, evCall, evCallD, evCallK, ofRo, ofRd, lstOf, evSl, evSlL, ptOf, ptNo, asInt, asBool, toOut, Out.bind, evPop, evApp, evExt, evItL, evItT, evItS, evRng1, evZip, setMany, E.d, v_tup3, isTup, ix0, v_sg, isSg_sg, e1, ev1L, listD, subs, hl]
/-- nothing that a walk goes through -/
def isNo (y : D) : Prop := (isTup 3 y = true → ∃ z r, y = .tuple (z :: r) ∧ isSg z = false) ∧ isWh y = false ∧ f_is_name [y] = .ok (.bool false)
theorem bV_no {x p : Sv} {l : List D} {k : Dk} {sm : Bool} {y : D} (h : isNo y) : ∃ s, bV ⟨[x, .own (l ++ [y]), p], k, sm⟩ = .ok (.rt (.bool false)) s := by
  obtain ⟨h1, h2, h3⟩ := h
  refine ⟨⟨[x, .own l, .fz y], k, sm⟩, ?_⟩
  by_cases c : isTup 3 y = true
  · obtain ⟨z, r, e, hz⟩ := h1 c
    subst e
    simp [bV, runFn, runFnD, roOf, rdOf, envOf0, seqS, skipS, setS, ownS, retS, ifS, doS, fixS, par2S, parOS, unpS, raiseS, evVar, evVarB, evLit, evNil, evCons, evTup, evLst, evBin, evBinL, ev1, ev1L, evAnd, evOr, evNot, evIf, evT, evTnot, evTand, evTor, evChain, evCall, evCallD, evCallK, ofRo, ofRd, lstOf, evSl, evSlL, ptOf, ptNo, asInt, asBool, toOut, Out.bind, evPop, evApp, evExt, evItL, evItT, evItS, evRng1, evZip, setMany, v_tup3, c, ix0, v_sg, hz, v_whole, h2, h3]
  · have c' : isTup 3 y = false := by simpa using c
    simp [bV, runFn, runFnD, roOf, rdOf, envOf0, seqS, skipS, setS, ownS, retS, ifS, doS, fixS, par2S, parOS, unpS, raiseS, evVar, evVarB, evLit, evNil, evCons, evTup, evLst, evBin, evBinL, ev1, ev1L, evAnd, evOr, evNot, evIf, evT, evTnot, evTand, evTor, evChain, evCall, evCallD, evCallK, ofRo, ofRd, lstOf, evSl, evSlL, ptOf, ptNo, asInt, asBool, toOut, Out.bind, evPop, evApp, evExt, evItL, evItT, evItS, evRng1, evZip, setMany, v_tup3, c', v_whole, h2, h3]
theorem loop_E {x : Sv} {k : Dk} {sm : Bool} : ∀ (a : E), a.ok → a.dep ≤ 50 → ∀ (l : List D), (∀ d ∈ l, Sm d) → l.length + a.size ≤ 100000 → ∀ (n : Nat) (p : Sv), ∃ p', whileS (n + a.size) cV bV ⟨[x, .own (l ++ [a.d]), p], k, sm⟩ = whileS n cV bV ⟨[x, .own l, p'], k, sm⟩ := by
  have step : ∀ (a : E), a.ok → a.dep ≤ 50 → ∀ (l : List D), (∀ d ∈ l, Sm d) → l.length ≤ 100000 → ∀ (n : Nat) (p : Sv), whileS (n + 1) cV bV ⟨[x, .own (l ++ [a.d]), p], k, sm⟩ = whileS n cV bV ⟨[x, .own (l ++ subs a), .fz a.d], k, sm⟩ := by
    intro a h hd l hl hn n p
    have hs : ∀ d ∈ l ++ [a.d], Sm d := fun d hm => (List.mem_append.mp hm).elim (hl d) fun e => by rw [List.mem_singleton.mp e]; exact smE h hd
    rw [whileS_succ, cV_ev hs]
    simp only [Out.bind_ok]
    rw [if_pos (by simp), bV_E h (by omega)]
    rfl
  intro a
  induction a with
  | num i => intro h hd l hl hn n p; exact ⟨_, by rw [show (E.num i).size = 1 from rfl, step _ h hd l hl (by omega)]; simp only [subs, List.append_nil]; rfl⟩
  | nm w => intro h hd l hl hn n p; exact ⟨_, by rw [show (E.nm w).size = 1 from rfl, step _ h hd l hl (by omega)]; simp only [subs, List.append_nil]; rfl⟩
  | op q a b iha ihb =>
    intro h hd l hl hn n p
    simp only [E.size, E.dep] at hn hd
    have hla : ∀ d ∈ l ++ [a.d], Sm d := fun d hm => (List.mem_append.mp hm).elim (hl d) fun e => by rw [List.mem_singleton.mp e]; exact smE h.1 (by omega)
    obtain ⟨p1, e1⟩ := ihb h.2 (by omega) (l ++ [a.d]) hla (by simp; omega) (n + a.size) (.fz (E.op q a b).d)
    obtain ⟨p2, e2⟩ := iha h.1 (by omega) l hl (by omega) n p1
    refine ⟨p2, ?_⟩
    rw [show (n + (E.op q a b).size) = (n + a.size + b.size) + 1 by simp only [E.size]; omega, step _ h (by simp only [E.dep]; omega) l hl (by omega), ← e2, ← e1]
    simp [subs]
theorem loop_no {x p : Sv} {k : Dk} {sm : Bool} {l : List D} {y : D} {n : Nat} (hl : ∀ d ∈ l, Sm d) (hy : Sm y) (h : isNo y) : ∃ s, whileS (n + 1) cV bV ⟨[x, .own (l ++ [y]), p], k, sm⟩ = .ok (.rt (.bool false)) s := by
  have hs : ∀ d ∈ l ++ [y], Sm d := fun d hm => (List.mem_append.mp hm).elim (hl d) fun e => by rw [List.mem_singleton.mp e]; exact hy
  obtain ⟨s, e⟩ := bV_no (x := x) (p := p) (k := k) (sm := sm) (l := l) h
  refine ⟨s, ?_⟩
  rw [whileS_succ, cV_ev hs]
  simp only [Out.bind_ok]
  rw [if_pos (by simp), e]
  rfl
theorem loop_end {x p : Sv} {k : Dk} {sm : Bool} {n : Nat} : whileS (n + 1) cV bV ⟨[x, .own [], p], k, sm⟩ = .ok .nx ⟨[x, .own [], p], k, sm⟩ := by
  rw [whileS_succ, cV_ev (by simp)]
  rfl
theorem v_ifv (x : D) : f_is_expr_value [x] = roOf ((whileS 100000 cV bV ⟨[.fz x, .own ([] ++ [x]), .un], dk0, false⟩).bind fun fl s1 => match fl with
  | .nx => .ok (.rt (.bool true)) s1
  | f => .ok f s1) := rfl
theorem v_E {a : E} (h : a.ok) (hd : a.dep ≤ 50) (hs : a.size ≤ 10000) : f_is_expr_value [a.d] = .ok (.bool true) := by
  rw [v_ifv]
  obtain ⟨p, e⟩ := loop_E (x := .fz a.d) (k := dk0) (sm := false) a h hd [] (by simp) (by simp; omega) (100000 - a.size) .un
  rw [show 100000 - a.size + a.size = 100000 by omega] at e
  rw [e, show 100000 - a.size = (100000 - a.size - 1) + 1 by omega, loop_end]
  rfl
theorem v_no {x : D} (hx : Sm x) (h : isNo x) : f_is_expr_value [x] = .ok (.bool false) := by
  rw [v_ifv]
  obtain ⟨s, e⟩ := loop_no (x := .fz x) (p := .un) (k := dk0) (sm := false) (l := []) (n := 99999) (by simp) hx h
  rw [e]
  rfl
/-- a tuple of three whose last is none -/
theorem v_no3 {p : Bool} {y z : D} (hx : Sm (.tuple [.str (sg p), y, z])) (hy : Sm y) (hz : Sm z) (h : isNo z) : f_is_expr_value [.tuple [.str (sg p), y, z]] = .ok (.bool false) := by
  rw [v_ifv]
  have e1 := sl1 (.str (sg p)) [y, z]
  have hb : bV ⟨[.fz (.tuple [.str (sg p), y, z]), .own ([] ++ [.tuple [.str (sg p), y, z]]), .un], dk0, false⟩ = .ok .nx ⟨[.fz (.tuple [.str (sg p), y, z]), .own ([y] ++ [z]), .fz (.tuple [.str (sg p), y, z])], dk0, false⟩ := by
    simp [bV, runFn, runFnD, roOf, rdOf, envOf0, seqS, skipS, setS, ownS, retS, ifS, doS, fixS, par2S, parOS, unpS, raiseS, evVar, evVarB, evLit, evNil, evCons, evTup, evLst, evBin, evBinL, ev1, ev1L, evAnd, evOr, evNot, evIf, evT, evTnot, evTand, evTor, evChain, evCall, evCallD, evCallK, ofRo, ofRd, lstOf, evSl, evSlL, ptOf, ptNo, asInt, asBool, toOut, Out.bind, evPop, evApp, evExt, evItL, evItT, evItS, evRng1, evZip, setMany, v_tup3, isTup, ix0, v_sg, isSg_sg, e1, ev1L, listD]
  rw [show (100000 : Nat) = 99999 + 1 from rfl, whileS_succ, cV_ev (by simpa using hx)]
  simp only [Out.bind_ok]
  rw [if_pos (by simp), hb]
  obtain ⟨s, e⟩ := loop_no (x := .fz (.tuple [.str (sg p), y, z])) (p := .fz (.tuple [.str (sg p), y, z])) (k := dk0) (sm := false) (l := [y]) (y := z) (n := 99998) (by simpa using hy) hz h
  simp only [stepS]
  rw [e]
  rfl
/-- a tuple of three: an expression last, none before it -/
theorem v_noE {p : Bool} {y : D} {a : E} (ha : a.ok) (hd : a.dep ≤ 40) (hs : a.size ≤ 10000) (hx : Sm (.tuple [.str (sg p), y, a.d])) (hy : Sm y) (h : ∀ (x p : Sv) (n : Nat), ∃ s, whileS (n + 10) cV bV ⟨[x, .own ([] ++ [y]), p], dk0, false⟩ = .ok (.rt (.bool false)) s) : f_is_expr_value [.tuple [.str (sg p), y, a.d]] = .ok (.bool false) := by
  rw [v_ifv]
  have e1 := sl1 (.str (sg p)) [y, a.d]
  have hb : bV ⟨[.fz (.tuple [.str (sg p), y, a.d]), .own ([] ++ [.tuple [.str (sg p), y, a.d]]), .un], dk0, false⟩ = .ok .nx ⟨[.fz (.tuple [.str (sg p), y, a.d]), .own ([y] ++ [a.d]), .fz (.tuple [.str (sg p), y, a.d])], dk0, false⟩ := by
    simp [bV, runFn, runFnD, roOf, rdOf, envOf0, seqS, skipS, setS, ownS, retS, ifS, doS, fixS, par2S, parOS, unpS, raiseS, evVar, evVarB, evLit, evNil, evCons, evTup, evLst, evBin, evBinL, ev1, ev1L, evAnd, evOr, evNot, evIf, evT, evTnot, evTand, evTor, evChain, evCall, evCallD, evCallK, ofRo, ofRd, lstOf, evSl, evSlL, ptOf, ptNo, asInt, asBool, toOut, Out.bind, evPop, evApp, evExt, evItL, evItT, evItS, evRng1, evZip, setMany, v_tup3, isTup, ix0, v_sg, isSg_sg, e1, ev1L, listD]
  rw [show (100000 : Nat) = 99999 + 1 from rfl, whileS_succ, cV_ev (by simpa using hx)]
  simp only [Out.bind_ok]
  rw [if_pos (by simp), hb]
  obtain ⟨q, e⟩ := loop_E (x := .fz (.tuple [.str (sg p), y, a.d])) (k := dk0) (sm := false) a ha (by omega) [y] (by simpa using hy) (by simp; omega) (99999 - a.size) (.fz (.tuple [.str (sg p), y, a.d]))
  rw [show 99999 - a.size + a.size = 99999 by omega] at e
  obtain ⟨s, e3⟩ := h (.fz (.tuple [.str (sg p), y, a.d])) q (99999 - a.size - 10)
  rw [show 99999 - a.size - 10 + 10 = 99999 - a.size by omega] at e3
  simp only [stepS]
  rw [e]
  simp only [List.nil_append] at e3
  rw [e3]
  rfl
end Zo
namespace Zo
open PySem PySem.Spec PyProof.Rows L2
/-! ### no expressions -/
theorem nameNo {x : D} (h : isT "str" x = false) : f_is_name [x] = .ok (.bool false) := by
  simp [f_is_name, b_is_name, runFn, runFnD, roOf, rdOf, envOf0, seqS, skipS, setS, ownS, retS, ifS, doS, fixS, par2S, parOS, unpS, raiseS, evVar, evVarB, evLit, evNil, evCons, evTup, evLst, evBin, evBinL, ev1, ev1L, evAnd, evOr, evNot, evIf, evT, evTnot, evTand, evTor, evChain, evCall, evCallD, evCallK, ofRo, ofRd, lstOf, evSl, evSlL, ptOf, ptNo, asInt, asBool, toOut, Out.bind, evPop, evApp, evExt, evItL, evItT, evItS, evRng1, evZip, setMany, isiD, h]
def neL (e : D) : List D := [.none, .bool true, .str "", .str "N", .str "two words", .tuple [], .tuple [.str "+", e], .tuple [.str "*", e, .int 1], .list [.str "+", e, .int 1], .tuple [.str "+", e, .int 1, .int 2], .tuple [.str "-", e, .none], .tuple [.str "+", .bool false, e],
  .tuple [.str "+", .tuple [.str "-", .int 1, .str "X"], e], .tuple [.str "averyverylongname", .int 1, .int 2], .tuple [.str "+", e, .list [.str "n"]], .str "9a"]
theorem okL {w : Str} (h : Ok 20 1 (.str w)) {a : E} : Ok (eB a.dep + 20) (a.dep + 1) (.str w) := h.mono (by omega) (by omega)
theorem ok_ne {a : E} (h : a.ok) : ∀ y ∈ neL a.d, Ok (6 * eB a.dep + 200) (a.dep + 3) y := by
  have f : Ok (eB a.dep + 20) (a.dep + 1) a.d := (okE a h).mono (by omega) (by omega)
  have i1 : Ok (eB a.dep + 20) (a.dep + 1) (.int 1) := (ok_int (i := 1) (by decide)).mono (by omega) (by omega)
  have i2 : Ok (eB a.dep + 20) (a.dep + 1) (.int 2) := (ok_int (i := 2) (by decide)).mono (by omega) (by omega)
  have n0 : Ok (eB a.dep + 20) (a.dep + 1) .none := (show Ok 0 1 .none by decide +kernel).mono (by omega) (by omega)
  have b0 : Ok (eB a.dep + 20) (a.dep + 1) (.bool false) := (ok_bool false).mono (by omega) (by omega)
  have sp : Ok (eB a.dep + 20) (a.dep + 1) (.str "+") := okL (by decide +kernel)
  have sm : Ok (eB a.dep + 20) (a.dep + 1) (.str "-") := okL (by decide +kernel)
  have st : Ok (eB a.dep + 20) (a.dep + 1) (.str "*") := okL (by decide +kernel)
  have sa : Ok (eB a.dep + 20) (a.dep + 1) (.str "averyverylongname") := okL (by decide +kernel)
  intro y hy
  simp only [neL, List.mem_cons, List.not_mem_nil, or_false] at hy
  rcases hy with rfl | rfl | rfl | rfl | rfl | rfl | rfl | rfl | rfl | rfl | rfl | rfl | rfl | rfl | rfl | rfl
  · exact n0.mono (by omega) (by omega)
  · exact (ok_bool true).mono (by omega) (by omega)
  · exact (show Ok 20 1 (.str "") by decide +kernel).mono (by omega) (by omega)
  · exact (show Ok 20 1 (.str "N") by decide +kernel).mono (by omega) (by omega)
  · exact (show Ok 20 1 (.str "two words") by decide +kernel).mono (by omega) (by omega)
  · exact (show Ok 20 1 (.tuple []) by decide +kernel).mono (by omega) (by omega)
  · exact (ok_tuple (all2 sp f)).mono (by simp; omega) (by omega)
  · exact (ok_tuple (all3 st f i1)).mono (by simp; omega) (by omega)
  · exact (ok_list (all3 sp f i1)).mono (by simp; omega) (by omega)
  · exact (ok_tuple (all4 sp f i1 i2)).mono (by simp; omega) (by omega)
  · exact (ok_tuple (all3 sm f n0)).mono (by simp; omega) (by omega)
  · exact (ok_tuple (all3 sp b0 f)).mono (by simp; omega) (by omega)
  · exact (ok_tuple (all3 (sp.mono (Nat.le_refl _) (Nat.le_succ _)) ((show Ok 20 2 (.tuple [.str "-", .int 1, .str "X"]) by decide +kernel).mono (show 20 ≤ eB a.dep + 20 by omega) (show 2 ≤ a.dep + 1 + 1 by omega)) (f.mono (Nat.le_refl _) (Nat.le_succ _)))).mono (by simp; omega) (by omega)
  · exact (ok_tuple (all3 sa i1 i2)).mono (by simp; omega) (by omega)
  · exact (ok_tuple (all3 (sp.mono (Nat.le_refl _) (Nat.le_succ _)) (f.mono (Nat.le_refl _) (Nat.le_succ _)) ((show Ok 20 2 (.list [.str "n"]) by decide +kernel).mono (show 20 ≤ eB a.dep + 20 by omega) (show 2 ≤ a.dep + 1 + 1 by omega)))).mono (by simp; omega) (by omega)
  · exact (show Ok 20 1 (.str "9a") by decide +kernel).mono (by omega) (by omega)
theorem no_flat {y : D} (h1 : isTup 3 y = false) (h2 : isWh y = false) (h3 : f_is_name [y] = .ok (.bool false)) : isNo y := ⟨fun c => (by rw [h1] at c; cases c), h2, h3⟩
theorem no_X : isNo (.str "X") := no_flat rfl rfl rfl
theorem v_ne {a : E} (h : a.ok) (hd : a.dep ≤ 20) (hs : a.size ≤ 5000) : ∀ y ∈ neL a.d, f_is_expr_value [y] = .ok (.bool false) := by
  intro y hy
  have sy : Sm y := (ok_ne h y hy).sm (by omega)
  have sE : Sm a.d := smE h (by omega)
  simp only [neL, List.mem_cons, List.not_mem_nil, or_false] at hy
  rcases hy with rfl | rfl | rfl | rfl | rfl | rfl | rfl | rfl | rfl | rfl | rfl | rfl | rfl | rfl | rfl | rfl
  · exact v_no sy (no_flat rfl rfl (nameNo rfl))
  · exact v_no sy (no_flat rfl rfl (nameNo rfl))
  · exact v_no sy (no_flat rfl rfl rfl)
  · exact v_no sy (no_flat rfl rfl rfl)
  · exact v_no sy (no_flat rfl rfl rfl)
  · exact v_no sy (no_flat rfl rfl (nameNo rfl))
  · exact v_no sy (no_flat rfl rfl (nameNo rfl))
  · exact v_no sy ⟨fun _ => ⟨_, _, rfl, rfl⟩, rfl, nameNo rfl⟩
  · exact v_no sy (no_flat rfl rfl (nameNo rfl))
  · exact v_no sy (no_flat rfl rfl (nameNo rfl))
  · exact v_no3 (p := false) sy sE ⟨rfl, by decide⟩ (no_flat rfl rfl (nameNo rfl))
  · exact v_noE (p := true) h (by omega) (by omega) sy ⟨rfl, by decide⟩ fun x q n => loop_no (n := n + 9) (by simp) ⟨rfl, by decide⟩ (no_flat rfl rfl (nameNo rfl))
  · refine v_noE (p := true) h (by omega) (by omega) sy ((show Ok 20 2 (.tuple [.str "-", .int 1, .str "X"]) by decide +kernel).sm (by decide)) fun x q n => ?_
    have sT : Sm (.tuple [.str "-", .int 1, .str "X"]) := (show Ok 20 2 (.tuple [.str "-", .int 1, .str "X"]) by decide +kernel).sm (by decide)
    have e1 := sl1 (.str "-") [.int 1, .str "X"]
    have hb : bV ⟨[x, .own ([] ++ [.tuple [.str "-", .int 1, .str "X"]]), q], dk0, false⟩ = .ok .nx ⟨[x, .own ([.int 1] ++ [.str "X"]), .fz (.tuple [.str "-", .int 1, .str "X"])], dk0, false⟩ := by
      have hg : isSg (.str "-") = true := rfl
      simp [bV, runFn, runFnD, roOf, rdOf, envOf0, seqS, skipS, setS, ownS, retS, ifS, doS, fixS, par2S, parOS, unpS, raiseS, evVar, evVarB, evLit, evNil, evCons, evTup, evLst, evBin, evBinL, ev1, ev1L, evAnd, evOr, evNot, evIf, evT, evTnot, evTand, evTor, evChain, evCall, evCallD, evCallK, ofRo, ofRd, lstOf, evSl, evSlL, ptOf, ptNo, asInt, asBool, toOut, Out.bind, evPop, evApp, evExt, evItL, evItT, evItS, evRng1, evZip, setMany, v_tup3, isTup, ix0, v_sg, hg, e1, ev1L, listD]
    rw [show n + 10 = (n + 9) + 1 from rfl, whileS_succ, cV_ev (by simpa using sT)]
    simp only [Out.bind_ok]
    rw [if_pos (by simp), hb]
    exact loop_no (n := n + 8) (l := [.int 1]) (y := .str "X") (by intro d hd; rw [List.mem_singleton.mp hd]; exact ⟨rfl, by decide⟩) ((show Ok 20 1 (.str "X") by decide +kernel).sm (by decide)) no_X
  · exact v_no sy ⟨fun _ => ⟨_, _, rfl, rfl⟩, rfl, nameNo rfl⟩
  · exact v_no3 (p := true) sy sE ((show Ok 20 2 (.list [.str "n"]) by decide +kernel).sm (by decide)) (no_flat rfl rfl (nameNo rfl))
  · exact v_no sy (no_flat rfl rfl rfl)
/-! ### parts_of -/
def E.pts : E → List D
  | .num i => [.int i]
  | .nm w => [.str w]
  | .op p a b => (E.op p a b).d :: (b.pts ++ a.pts)
theorem pts_len : ∀ a : E, a.pts.length = a.size
  | .num _ => rfl
  | .nm _ => rfl
  | .op _ a b => by simp [E.pts, E.size, pts_len a, pts_len b]; omega
def cP : Ms → Out Bool := evT (evBin neD (evVarB 2) (lstOf (evLst evNil)))
def bP : Ex := (seqS (setS 3 (evPop 2)) (seqS (doS (evApp 1 (evVar 3))) (ifS (evT (ev1 (isiD "tuple") (evVarB 3))) (doS (evExt 2 (lstOf (ev1L listD (evSl (evVarB 3) (ptOf (evLit (.int 1))) ptNo))))) skipS)))
theorem cP_ev {x f p : Sv} {st : List D} {k : Dk} {sm : Bool} (h : ∀ d ∈ st, Sm d) : cP ⟨[x, f, .own st, p], k, sm⟩ = .ok (!st.isEmpty) ⟨[x, f, .own st, p], k, sm⟩ := by
  simp [cP, runFn, runFnD, roOf, rdOf, envOf0, seqS, skipS, setS, ownS, retS, ifS, doS, fixS, par2S, parOS, unpS, raiseS, evVar, evVarB, evLit, evNil, evCons, evTup, evLst, evBin, evBinL, ev1, ev1L, evAnd, evOr, evNot, evIf, evT, evTnot, evTand, evTor, evChain, evCall, evCallD, evCallK, ofRo, ofRd, lstOf, evSl, evSlL, ptOf, ptNo, asInt, asBool, toOut, Out.bind, evPop, evApp, evExt, evItL, evItT, evItS, evRng1, evZip, setMany, neNil h]
theorem bP_E {x p : Sv} {f l : List D} {k : Dk} {sm : Bool} {a : E} (hf : f.length < 1000000) (hl : l.length + 2 < 1000000) : bP ⟨[x, .own f, .own (l ++ [a.d]), p], k, sm⟩ = .ok .nx ⟨[x, .own (f ++ [a.d]), .own (l ++ subs a), .fz a.d], k, sm⟩ := by
  cases a with
  | num i => simp [bP, runFn, runFnD, roOf, rdOf, envOf0, seqS, skipS, setS, ownS, retS, ifS, doS, fixS, par2S, parOS, unpS, raiseS, evVar, evVarB, evLit, evNil, evCons, evTup, evLst, evBin, evBinL, ev1, ev1L, evAnd, evOr, evNot, evIf, evT, evTnot, evTand, evTor, evChain, evCall, evCallD, evCallK, ofRo, ofRd, lstOf, evSl, evSlL, ptOf, ptNo, asInt, asBool, toOut, Out.bind, evPop, evApp, evExt, evItL, evItT, evItS, evRng1, evZip, setMany, E.d, isiD, isT, subs, hf]
  | nm w => simp [bP, runFn, runFnD, roOf, rdOf, envOf0, seqS, skipS, setS, ownS, retS, ifS, doS, fixS, par2S, parOS, unpS, raiseS, evVar, evVarB, evLit, evNil, evCons, evTup, evLst, evBin, evBinL, ev1, ev1L, evAnd, evOr, evNot, evIf, evT, evTnot, evTand, evTor, evChain, evCall, evCallD, evCallK, ofRo, ofRd, lstOf, evSl, evSlL, ptOf, ptNo, asInt, asBool, toOut, Out.bind, evPop, evApp, evExt, evItL, evItT, evItS, evRng1, evZip, setMany, E.d, isiD, isT, subs, hf]
  | op q a b =>
    have e1 := sl1 (.str (sg q)) [a.d, b.d]
    simp [bP, runFn, runFnD, roOf, rdOf, envOf0, seqS, skipS, setS, ownS, retS, ifS, doS, fixS, par2S, parOS, unpS, raiseS, evVar, evVarB, evLit, evNil, evCons, evTup, evLst, evBin, evBinL, ev1, ev1L, evAnd, evOr, evNot, evIf, evT, evTnot, evTand, evTor, evChain, evCall, evCallD, evCallK, ofRo, ofRd, lstOf, evSl, evSlL, ptOf, ptNo, asInt, asBool, toOut, Out.bind, evPop, evApp, evExt, evItL, evItT, evItS, evRng1, evZip, setMany, E.d, isiD, isT, e1, ev1L, listD, subs, hl, hf]
theorem loop_P {x : Sv} {k : Dk} {sm : Bool} : ∀ (a : E), a.ok → a.dep ≤ 50 → ∀ (f l : List D), (∀ d ∈ l, Sm d) → l.length + a.size ≤ 100000 → f.length + a.size ≤ 100000 → ∀ (n : Nat) (p : Sv), ∃ p', whileS (n + a.size) cP bP ⟨[x, .own f, .own (l ++ [a.d]), p], k, sm⟩ = whileS n cP bP ⟨[x, .own (f ++ a.pts), .own l, p'], k, sm⟩ := by
  have step : ∀ (a : E), a.ok → a.dep ≤ 50 → ∀ (f l : List D), (∀ d ∈ l, Sm d) → l.length ≤ 100000 → f.length ≤ 100000 → ∀ (n : Nat) (p : Sv), whileS (n + 1) cP bP ⟨[x, .own f, .own (l ++ [a.d]), p], k, sm⟩ = whileS n cP bP ⟨[x, .own (f ++ [a.d]), .own (l ++ subs a), .fz a.d], k, sm⟩ := by
    intro a h hd f l hl hn hf n p
    have hs : ∀ d ∈ l ++ [a.d], Sm d := fun d hm => (List.mem_append.mp hm).elim (hl d) fun e => by rw [List.mem_singleton.mp e]; exact smE h hd
    rw [whileS_succ, cP_ev hs]
    simp only [Out.bind_ok]
    rw [if_pos (by simp), bP_E (by omega) (by omega)]
    rfl
  intro a
  induction a with
  | num i => intro h hd f l hl hn hf n p; simp only [E.size] at hn hf; exact ⟨_, by rw [show (E.num i).size = 1 from rfl, step _ h hd f l hl (by omega) (by omega)]; simp only [subs, List.append_nil]; rfl⟩
  | nm w => intro h hd f l hl hn hf n p; simp only [E.size] at hn hf; exact ⟨_, by rw [show (E.nm w).size = 1 from rfl, step _ h hd f l hl (by omega) (by omega)]; simp only [subs, List.append_nil]; rfl⟩
  | op q a b iha ihb =>
    intro h hd f l hl hn hf n p
    simp only [E.size, E.dep] at hn hd hf
    have hla : ∀ d ∈ l ++ [a.d], Sm d := fun d hm => (List.mem_append.mp hm).elim (hl d) fun e => by rw [List.mem_singleton.mp e]; exact smE h.1 (by omega)
    have hb := pts_len b
    obtain ⟨p1, e1⟩ := ihb h.2 (by omega) (f ++ [(E.op q a b).d]) (l ++ [a.d]) hla (by simp; omega) (by simp; omega) (n + a.size) (.fz (E.op q a b).d)
    obtain ⟨p2, e2⟩ := iha h.1 (by omega) (f ++ [(E.op q a b).d] ++ b.pts) l hl (by omega) (by simp; omega) n p1
    refine ⟨p2, ?_⟩
    rw [show (n + (E.op q a b).size) = (n + a.size + b.size) + 1 by simp only [E.size]; omega, step _ h (by simp only [E.dep]; omega) f l hl (by omega) (by omega), show f ++ (E.op q a b).pts = f ++ [(E.op q a b).d] ++ b.pts ++ a.pts by simp [E.pts], ← e2, ← e1]
    simp [subs]
theorem v_pt (x : D) : f_parts_of [x] = roOf ((whileS 100000 cP bP ⟨[.fz x, .own [], .own ([] ++ [x]), .un], dk0, false⟩).bind fun fl s1 => match fl with
  | .nx => fixS 1 (retS (evVar 1)) s1
  | f => .ok f s1) := rfl
theorem v_parts {a : E} (h : a.ok) (hd : a.dep ≤ 50) (hs : a.size ≤ 10000) : f_parts_of [a.d] = .ok (.list a.pts) := by
  rw [v_pt]
  obtain ⟨p, e⟩ := loop_P (x := .fz a.d) (k := dk0) (sm := false) a h hd [] [] (by simp) (by simp; omega) (by simp; omega) (100000 - a.size) .un
  rw [show 100000 - a.size + a.size = 100000 by omega] at e
  rw [e, show 100000 - a.size = (100000 - a.size - 1) + 1 by omega, whileS_succ, cP_ev (by simp)]
  rfl
/-! ### names_of -/
def E.nms : E → List Str
  | .num _ => []
  | .nm w => [w]
  | .op _ a b => b.nms ++ a.nms
theorem pts_str : ∀ a : E, a.pts.filter (isT "str") = a.nms.map .str
  | .num _ => rfl
  | .nm _ => rfl
  | .op p a b => by
    have e : isT "str" (E.op p a b).d = false := rfl
    simp [E.pts, E.nms, List.filter_cons, e, pts_str a, pts_str b]
theorem v_names {a : E} (h : a.ok) (hd : a.dep ≤ 50) (hs : a.size ≤ 10000) : f_names_of [a.d] = .ok (.list (a.nms.map .str)) := by
  have c := comp_filter (vs := [1]) (tgt := tgN 1) (cond := evT (ev1 (isiD "str") (evVarB 1))) (elt := evVar 1) (isT "str") id (s0 := ⟨[.fz a.d, .un], dk0, false⟩) a.pts [] (fun d _ => ⟨⟨[.fz a.d, .fz d], dk0, false⟩, rfl, by simp [runFn, runFnD, roOf, rdOf, envOf0, seqS, skipS, setS, ownS, retS, ifS, doS, fixS, par2S, parOS, unpS, raiseS, evVar, evVarB, evLit, evNil, evCons, evTup, evLst, evBin, evBinL, ev1, ev1L, evAnd, evOr, evNot, evIf, evT, evTnot, evTand, evTor, evChain, evCall, evCallD, evCallK, ofRo, ofRd, lstOf, evSl, evSlL, ptOf, ptNo, asInt, asBool, toOut, Out.bind, evPop, evApp, evExt, evItL, evItT, evItS, evRng1, evZip, setMany, isiD], fun _ => by simp [runFn, runFnD, roOf, rdOf, envOf0, seqS, skipS, setS, ownS, retS, ifS, doS, fixS, par2S, parOS, unpS, raiseS, evVar, evVarB, evLit, evNil, evCons, evTup, evLst, evBin, evBinL, ev1, ev1L, evAnd, evOr, evNot, evIf, evT, evTnot, evTand, evTor, evChain, evCall, evCallD, evCallK, ofRo, ofRd, lstOf, evSl, evSlL, ptOf, ptNo, asInt, asBool, toOut, Out.bind, evPop, evApp, evExt, evItL, evItT, evItS, evRng1, evZip, setMany], rfl⟩) (by rw [pts_len]; simp; omega)
  rw [List.nil_append, List.map_id, pts_str] at c
  simp [f_names_of, b_names_of, runFn, runFnD, roOf, rdOf, envOf0, seqS, skipS, setS, ownS, retS, ifS, doS, fixS, par2S, parOS, unpS, raiseS, evVar, evVarB, evLit, evNil, evCons, evTup, evLst, evBin, evBinL, ev1, ev1L, evAnd, evOr, evNot, evIf, evT, evTnot, evTand, evTor, evChain, evCall, evCallD, evCallK, ofRo, ofRd, lstOf, evSl, evSlL, ptOf, ptNo, asInt, asBool, toOut, Out.bind, evPop, evApp, evExt, evItL, evItT, evItS, evRng1, evZip, setMany, v_parts h hd hs, evComp, forgetS, forgetE, c]
end Zo
namespace Zo
open PySem PySem.Spec PyProof.Rows L2
/-! ### tables -/
abbrev Tb := List (Str × Int)
def tD (t : Tb) : D := .dict (t.map fun p => (.str p.1, .int p.2))
def vD (t : Tb) : D := .tuple (t.map fun p => .tuple [.str p.1, .int p.2])
theorem look_tb (t : Tb) (w : Str) : lookK (t.map fun p => (PyData.str p.1, PyData.int p.2)) (.inr w) = (t.lookup w).map .int := by
  induction t with
  | nil => rfl
  | cons p t ih =>
    obtain ⟨x, i⟩ := p
    by_cases c : x = w
    · subst c
      simp [lookK, keyOf, List.lookup]
    · have c1 : (w == x) = false := by simpa using fun e => c e.symm
      have c2 : ¬ (keyOf (.str x) = some (.inr w)) := by simpa [keyOf] using c
      simp only [lookK] at ih
      simp only [List.map_cons, lookK, List.find?_cons, decide_eq_false c2, List.lookup, c1]
      exact ih
theorem pairs_tb (t : Tb) : pairsOf (t.map fun p => PyData.tuple [.str p.1, .int p.2]) = some (t.map fun p => (.inr p.1, .int p.2)) := by
  induction t with
  | nil => rfl
  | cons p t ih => simp [pairsOf, pairOf, keyOf, ih]
theorem merge_app : ∀ (more : List (Key × D)) (kvs : List (Key × D)), ((kvs ++ more).map (·.1)).Nodup → mergeG kvs more = kvs ++ more
  | [], kvs, _ => by simp [mergeG]
  | p :: r, kvs, h => by
    have hp : putG kvs p.1 p.2 = kvs ++ [p] := by
      unfold putG
      rw [if_neg]
      intro c
      rw [List.any_eq_true] at c
      obtain ⟨q, hq, e⟩ := c
      have e' : q.1 = p.1 := of_decide_eq_true e
      rw [List.map_append, List.map_cons, List.nodup_append] at h
      exact h.2.2 q.1 (List.mem_map.mpr ⟨q, hq, rfl⟩) p.1 List.mem_cons_self e'
    have ih := merge_app r (kvs ++ [p]) (by simpa using h)
    show mergeG (putG kvs p.1 p.2) r = _
    rw [hp, ih]
    simp
theorem key_nd {t : Tb} (h : (t.map (·.1)).Nodup) : ((t.map fun p => ((Sum.inr p.1 : Key), PyData.int p.2)).map (·.1)).Nodup := by
  rw [List.map_map]
  have : ((fun x => x.1) ∘ fun (p : Str × Int) => ((Sum.inr p.1 : Key), PyData.int p.2)) = (Sum.inr : Str → Key) ∘ (·.1) := rfl
  rw [this, ← List.map_map]
  exact List.Pairwise.map _ (fun a b hab e => hab (Sum.inr.inj e)) h
theorem dict_tb {t : Tb} (h : (t.map (·.1)).Nodup) : dictD (vD t) = some (tD t) := by
  have e := merge_app (t.map fun p => ((Sum.inr p.1 : Key), PyData.int p.2)) [] (by simpa using key_nd h)
  simp only [dictD, vD, pairs_tb, Option.map_some, e, List.nil_append, dictOf, tD, List.map_map]
  rfl
theorem dict_tbL {t : Tb} (h : (t.map (·.1)).Nodup) : dictD (.list (t.map fun p => PyData.tuple [.str p.1, .int p.2])) = some (tD t) := dict_tb h
/-! ### what it is worth -/
def E.val (t : Tb) : E → Int
  | .num i => i
  | .nm w => (t.lookup w).getD 0
  | .op p a b => if p then a.val t + b.val t else a.val t - b.val t
def E.has (t : Tb) : E → Bool
  | .num _ => true
  | .nm w => (t.lookup w).isSome
  | .op _ a b => b.has t && a.has t
def cW : Ms → Out Bool := evT (evBin neD (evVarB 4) (lstOf (evLst evNil)))
def bW : Ex := (seqS (unpS [5, 6] (evPop 4)) (ifS (evT (ev1 (isiD "tuple") (evVarB 5))) (seqS (doS (evApp 4 (evTup (evCons (evBin ixD (evVarB 5) (evLit (.int 1))) (evCons (evVar 6) evNil))))) (doS (evApp 4 (evTup (evCons (evBin ixD (evVarB 5) (evLit (.int 2))) (evCons (evIf (evT (evBin eqD (evBin ixD (evVarB 5) (evLit (.int 0))) (evLit (.str "+")))) (evVar 6) (ev1 negD (evVarB 6))) evNil)))))) (ifS (evT (ev1 (isiD "str") (evVarB 5))) (par2S 2 3 (evBin addI (evVarB 2) (evBin mulI (evVarB 6) (evGet (evVar 1) (evVar 5) (evLit (.int 0))))) (evAnd (evVar 3) (evBin (inK false) (evVarB 5) (evVarB 1)))) (setS 2 (evBin addI (evVarB 2) (evBin mulI (evVarB 6) (evVarB 5)))))))
abbrev stW (x : Sv) (t : Tb) (n : Int) (f : Bool) (l : List D) (p q : Sv) (k : Dk) (sm : Bool) : Ms := ⟨[x, .fz (tD t), .fz (.int n), .fz (.bool f), .own l, p, q], k, sm⟩
def ent (a : E) (g : Int) : D := .tuple [a.d, .int g]
theorem cW_ev {x p q : Sv} {t : Tb} {n : Int} {f : Bool} {st : List D} {k : Dk} {sm : Bool} (h : ∀ d ∈ st, Sm d) : cW (stW x t n f st p q k sm) = .ok (!st.isEmpty) (stW x t n f st p q k sm) := by
  simp [cW, runFn, runFnD, roOf, rdOf, envOf0, seqS, skipS, setS, ownS, retS, ifS, doS, fixS, par2S, parOS, unpS, raiseS, evVar, evVarB, evLit, evNil, evCons, evTup, evLst, evBin, evBinL, ev1, ev1L, evAnd, evOr, evNot, evIf, evT, evTnot, evTand, evTor, evChain, evCall, evCallD, evCallK, ofRo, ofRd, lstOf, evSl, evSlL, ptOf, ptNo, asInt, asBool, toOut, Out.bind, evPop, evApp, evExt, evItL, evItT, evItS, evRng1, evZip, setMany, stW, neNil h]
theorem smW {a : E} (h : a.ok) (hd : a.dep ≤ 40) {g : Int} (hg : g = 1 ∨ g = -1) : Sm (ent a g) := by
  refine (ok_tuple (all2 (okE a h) ((ok_int (i := g) (by rcases hg with rfl | rfl <;> decide)).mono (Nat.zero_le _) ?_))).sm (by omega)
  cases a <;> simp only [E.dep] <;> omega
def pend : E → Int → List D
  | .op p a b, g => [ent a g, ent b (if p then g else -g)]
  | _, _ => []
def mul1 {g x : Int} (hg : g = 1 ∨ g = -1) : mulI (.int g) (.int x) = some (.int (g * x)) := by
  simp only [mulI]
  rw [if_pos (.inl (by rcases hg with rfl | rfl <;> decide))]
theorem eq_sg (p : Bool) : eqD (.str (sg p)) (.str "+") = some (.bool p) := by
  rw [eqS (ok_sg p) ok_pl]
  cases p <;> rfl
theorem bW_leaf {x p q : Sv} {t : Tb} {n : Int} {f : Bool} {l : List D} {k : Dk} {sm : Bool} {g : Int} (hg : g = 1 ∨ g = -1) : (∀ i, bW (stW x t n f (l ++ [ent (.num i) g]) p q k sm) = .ok .nx (stW x t (n + g * i) f l (.fz (.int i)) (.fz (.int g)) k sm)) ∧
    ∀ w, bW (stW x t n f (l ++ [ent (.nm w) g]) p q k sm) = .ok .nx (stW x t (n + g * (t.lookup w).getD 0) (f && (t.lookup w).isSome) l (.fz (.str w)) (.fz (.int g)) k sm) := by
  refine ⟨fun i => ?_, fun w => ?_⟩
  · simp [bW, runFn, runFnD, roOf, rdOf, envOf0, seqS, skipS, setS, ownS, retS, ifS, doS, fixS, par2S, parOS, unpS, raiseS, evVar, evVarB, evLit, evNil, evCons, evTup, evLst, evBin, evBinL, ev1, ev1L, evAnd, evOr, evNot, evIf, evT, evTnot, evTand, evTor, evChain, evCall, evCallD, evCallK, ofRo, ofRd, lstOf, evSl, evSlL, ptOf, ptNo, asInt, asBool, toOut, Out.bind, evPop, evApp, evExt, evItL, evItT, evItS, evRng1, evZip, setMany, stW, ent, E.d, isiD, isT, mul1 hg, addI]
  · have e1 := look_tb t w
    have e2 : inK false (.str w) (tD t) = some (.bool (t.lookup w).isSome) := by
      simp only [inK, tD, keyOf, e1, Option.map_some, Option.isSome_map]
      rfl
    have e3 : (((t.lookup w).map PyData.int).getD (.int 0)) = .int ((t.lookup w).getD 0) := by cases t.lookup w <;> rfl
    cases f with
    | false => simp [bW, runFn, runFnD, roOf, rdOf, envOf0, seqS, skipS, setS, ownS, retS, ifS, doS, fixS, par2S, parOS, unpS, raiseS, evVar, evVarB, evLit, evNil, evCons, evTup, evLst, evBin, evBinL, ev1, ev1L, evAnd, evOr, evNot, evIf, evT, evTnot, evTand, evTor, evChain, evCall, evCallD, evCallK, ofRo, ofRd, lstOf, evSl, evSlL, ptOf, ptNo, asInt, asBool, toOut, Out.bind, evPop, evApp, evExt, evItL, evItT, evItS, evRng1, evZip, setMany, stW, ent, E.d, isiD, isT, mul1 hg, addI, evGet, tD, keyOf, e1, e3]
    | true =>
      simp only [tD] at e2
      simp [bW, runFn, runFnD, roOf, rdOf, envOf0, seqS, skipS, setS, ownS, retS, ifS, doS, fixS, par2S, parOS, unpS, raiseS, evVar, evVarB, evLit, evNil, evCons, evTup, evLst, evBin, evBinL, ev1, ev1L, evAnd, evOr, evNot, evIf, evT, evTnot, evTand, evTor, evChain, evCall, evCallD, evCallK, ofRo, ofRd, lstOf, evSl, evSlL, ptOf, ptNo, asInt, asBool, toOut, Out.bind, evPop, evApp, evExt, evItL, evItT, evItS, evRng1, evZip, setMany, stW, ent, E.d, isiD, isT, mul1 hg, addI, evGet, tD, keyOf, e1, e2, e3]
theorem bW_op {x p q : Sv} {t : Tb} {n : Int} {f : Bool} {l : List D} {k : Dk} {sm : Bool} {g : Int} {s : Bool} {a b : E} (hl : l.length + 2 < 1000000) : bW (stW x t n f (l ++ [ent (.op s a b) g]) p q k sm) = .ok .nx (stW x t n f (l ++ [ent a g, ent b (if s then g else -g)]) (.fz (E.op s a b).d) (.fz (.int g)) k sm) := by
  have l1 : l.length < 1000000 := by omega
  have l2 : l.length + 1 < 1000000 := by omega
  cases s with
  | true =>
    have h := eq_sg true
    simp [bW, runFn, runFnD, roOf, rdOf, envOf0, seqS, skipS, setS, ownS, retS, ifS, doS, fixS, par2S, parOS, unpS, raiseS, evVar, evVarB, evLit, evNil, evCons, evTup, evLst, evBin, evBinL, ev1, ev1L, evAnd, evOr, evNot, evIf, evT, evTnot, evTand, evTor, evChain, evCall, evCallD, evCallK, ofRo, ofRd, lstOf, evSl, evSlL, ptOf, ptNo, asInt, asBool, toOut, Out.bind, evPop, evApp, evExt, evItL, evItT, evItS, evRng1, evZip, setMany, stW, ent, E.d, isiD, isT, ix0, ix1, ix2, h, l1, l2]
  | false =>
    have h := eq_sg false
    simp [bW, runFn, runFnD, roOf, rdOf, envOf0, seqS, skipS, setS, ownS, retS, ifS, doS, fixS, par2S, parOS, unpS, raiseS, evVar, evVarB, evLit, evNil, evCons, evTup, evLst, evBin, evBinL, ev1, ev1L, evAnd, evOr, evNot, evIf, evT, evTnot, evTand, evTor, evChain, evCall, evCallD, evCallK, ofRo, ofRd, lstOf, evSl, evSlL, ptOf, ptNo, asInt, asBool, toOut, Out.bind, evPop, evApp, evExt, evItL, evItT, evItS, evRng1, evZip, setMany, stW, ent, E.d, isiD, isT, ix0, ix1, ix2, h, l1, l2, negD]
theorem loop_W {x : Sv} {t : Tb} {k : Dk} {sm : Bool} : ∀ (a : E), a.ok → a.dep ≤ 40 → ∀ (g n : Int) (f : Bool) (l : List D), (g = 1 ∨ g = -1) → (∀ d ∈ l, Sm d) → l.length + a.size ≤ 100000 → ∀ (j : Nat) (p q : Sv), ∃ p' q', whileS (j + a.size) cW bW (stW x t n f (l ++ [ent a g]) p q k sm) = whileS j cW bW (stW x t (n + g * a.val t) (f && a.has t) l p' q' k sm) := by
  have step : ∀ (a : E), a.ok → a.dep ≤ 40 → ∀ (g n : Int) (f : Bool) (l : List D), (g = 1 ∨ g = -1) → (∀ d ∈ l, Sm d) → ∀ (j : Nat) (p q : Sv) (r : Ms), bW (stW x t n f (l ++ [ent a g]) p q k sm) = .ok .nx r → whileS (j + 1) cW bW (stW x t n f (l ++ [ent a g]) p q k sm) = whileS j cW bW r := by
    intro a h hd g n f l hg hl j p q r e
    have hs : ∀ d ∈ l ++ [ent a g], Sm d := fun d hm => (List.mem_append.mp hm).elim (hl d) fun e => by rw [List.mem_singleton.mp e]; exact smW h hd hg
    rw [whileS_succ, cW_ev hs]
    simp only [Out.bind_ok]
    rw [if_pos (by simp), e]
    rfl
  intro a
  induction a with
  | num i => intro h hd g n f l hg hl hn j p q; exact ⟨_, _, by rw [show (E.num i).size = 1 from rfl, step _ h hd g n f l hg hl j p q _ ((bW_leaf hg).1 i)]; simp only [E.val, E.has, Bool.and_true]; rfl⟩
  | nm w => intro h hd g n f l hg hl hn j p q; exact ⟨_, _, by rw [show (E.nm w).size = 1 from rfl, step _ h hd g n f l hg hl j p q _ ((bW_leaf hg).2 w)]; simp only [E.val, E.has]; rfl⟩
  | op s a b iha ihb =>
    intro h hd g n f l hg hl hn j p q
    simp only [E.size, E.dep] at hn hd
    have hla : ∀ d ∈ l ++ [ent a g], Sm d := fun d hm => (List.mem_append.mp hm).elim (hl d) fun e => by rw [List.mem_singleton.mp e]; exact smW h.1 (by omega) hg
    have hg2 : (if s then g else -g) = 1 ∨ (if s then g else -g) = -1 := by
      cases s <;> rcases hg with rfl | rfl <;> decide
    obtain ⟨p1, q1, e1⟩ := ihb h.2 (by omega) (if s then g else -g) n f (l ++ [ent a g]) hg2 hla (by simp; omega) (j + a.size) (.fz (E.op s a b).d) (.fz (.int g))
    obtain ⟨p2, q2, e2⟩ := iha h.1 (by omega) g (n + (if s then g else -g) * b.val t) (f && b.has t) l hg hl (by omega) j p1 q1
    refine ⟨p2, q2, ?_⟩
    rw [show (j + (E.op s a b).size) = (j + a.size + b.size) + 1 by simp only [E.size]; omega, step _ h (by simp only [E.dep]; omega) g n f l hg hl _ p q _ (bW_op (by omega)), show l ++ [ent a g, ent b (if s then g else -g)] = l ++ [ent a g] ++ [ent b (if s then g else -g)] by simp, e1, e2]
    have ev : n + (if s then g else -g) * b.val t + g * a.val t = n + g * (E.op s a b).val t := by
      cases s with
      | true => simp only [E.val, if_true, Int.mul_add]; omega
      | false => simp only [E.val, Bool.false_eq_true, if_false, Int.mul_sub, Int.neg_mul]; omega
    have eh : (f && b.has t && a.has t) = (f && (E.op s a b).has t) := by simp only [E.has, Bool.and_assoc]
    rw [ev, eh]
theorem v_vl (x : D) (t : Tb) : f_law_value [x, tD t] = roOf ((whileS 100000 cW bW (stW (.fz x) t 0 true ([] ++ [.tuple [x, .int 1]]) .un .un dk0 false)).bind fun fl s1 => match fl with
  | .nx => retS (evTup (evCons (evVar 2) (evCons (evVar 3) evNil))) s1
  | f => .ok f s1) := rfl
theorem v_value {a : E} {t : Tb} (h : a.ok) (hd : a.dep ≤ 40) (hs : a.size ≤ 10000) : f_law_value [a.d, tD t] = .ok (.tuple [.int (a.val t), .bool (a.has t)]) := by
  rw [v_vl]
  obtain ⟨p, q, e⟩ := loop_W (x := .fz a.d) (t := t) (k := dk0) (sm := false) a h hd 1 0 true [] (.inl rfl) (by simp) (by simp; omega) (100000 - a.size) .un .un
  rw [show 100000 - a.size + a.size = 100000 by omega] at e
  simp only [ent] at e
  rw [e, show 100000 - a.size = (100000 - a.size - 1) + 1 by omega, whileS_succ, cW_ev (by simp)]
  simp [runFn, runFnD, roOf, rdOf, envOf0, seqS, skipS, setS, ownS, retS, ifS, doS, fixS, par2S, parOS, unpS, raiseS, evVar, evVarB, evLit, evNil, evCons, evTup, evLst, evBin, evBinL, ev1, ev1L, evAnd, evOr, evNot, evIf, evT, evTnot, evTand, evTor, evChain, evCall, evCallD, evCallK, ofRo, ofRd, lstOf, evSl, evSlL, ptOf, ptNo, asInt, asBool, toOut, Out.bind, evPop, evApp, evExt, evItL, evItT, evItS, evRng1, evZip, setMany, stW]
end Zo
namespace Zo
open PySem PySem.Spec PyProof.Rows L2
/-! ### reckoned -/
theorem cut_lo (f : List D) (x y : D) : cutL (f ++ [x, y]) (some (-2)) none = [x, y] := by
  have h : HT.sIx (f ++ [x, y]).length 0 (some (-2)) = f.length := by
    simp only [HT.sIx, List.length_append, List.length_cons, List.length_nil]
    rw [if_pos (by decide)]
    omega
  unfold cutL
  rw [h]
  simp [HT.sIx]
theorem cut_hi (f : List D) (x y : D) : cutL (f ++ [x, y]) none (some (-2)) = f := by
  have h : HT.sIx (f ++ [x, y]).length (f ++ [x, y]).length (some (-2)) = f.length := by
    simp only [HT.sIx, List.length_append, List.length_cons, List.length_nil]
    rw [if_pos (by decide)]
    omega
  unfold cutL
  rw [h]
  simp [HT.sIx]
def bR : Ex := (ifS (evT (ev1 (isiD "tuple") (evVarB 3))) (seqS (unpLS [4, 5] (lstOf (evSlL (evVarB 2) (ptOf (ev1 negD (evLit (.int 2)))) ptNo))) (ownS 2 (evBinL addL (lstOf (evSlL (evVarB 2) ptNo (ptOf (ev1 negD (evLit (.int 2)))))) (lstOf (evLst (evCons (evIf (evT (evBin eqD (evBin ixD (evVarB 3) (evLit (.int 0))) (evLit (.str "+")))) (evBin addI (evVarB 4) (evVarB 5)) (evBin subI (evVarB 4) (evVarB 5))) evNil)))))) (doS (evApp 2 (evIf (evT (ev1 (isiD "str") (evVarB 3))) (evBin getK (evVarB 1) (evVarB 3)) (evVar 3)))))
abbrev stR (x : Sv) (t : Tb) (f : List D) (p q r : Sv) : Ms := ⟨[x, .fz (tD t), .own f, p, q, r], dk0, false⟩
theorem get_tb {t : Tb} {w : Str} (h : (t.lookup w).isSome = true) : getK (tD t) (.str w) = some (.int ((t.lookup w).getD 0)) := by
  have e1 := look_tb t w
  cases q : t.lookup w with
  | none => rw [q] at h; cases h
  | some i =>
    rw [q] at e1
    simp only [getK, tD, keyOf, Option.bind_some, e1]
    rfl
theorem bR_op {x q r : Sv} {t : Tb} {f : List D} {u v : Int} {s : Bool} {y z : D} (hf : f.length < 1000000) : bR (stR x t (f ++ [.int u, .int v]) (.fz (.tuple [.str (sg s), y, z])) q r) = .ok .nx (stR x t (f ++ [.int (if s then u + v else u - v)]) (.fz (.tuple [.str (sg s), y, z])) (.fz (.int u)) (.fz (.int v))) := by
  have h1 := cut_lo f (.int u) (.int v)
  have h2 := cut_hi f (.int u) (.int v)
  have h3 : f.length + 1 ≤ sizeLine := by rw [sizeLine_eq]; omega
  have h4 := eq_sg s
  cases s with
  | true => simp [bR, runFn, runFnD, roOf, rdOf, envOf0, seqS, skipS, setS, ownS, retS, ifS, doS, fixS, par2S, parOS, unpS, raiseS, evVar, evVarB, evLit, evNil, evCons, evTup, evLst, evBin, evBinL, ev1, ev1L, evAnd, evOr, evNot, evIf, evT, evTnot, evTand, evTor, evChain, evCall, evCallD, evCallK, ofRo, ofRd, lstOf, evSl, evSlL, ptOf, ptNo, asInt, asBool, toOut, Out.bind, evPop, evApp, evExt, evItL, evItT, evItS, evRng1, evZip, setMany, stR, isiD, isT, negD, slL, h1, h2, unpLS, ix0, h4, addI, addL, h3]
  | false => simp [bR, runFn, runFnD, roOf, rdOf, envOf0, seqS, skipS, setS, ownS, retS, ifS, doS, fixS, par2S, parOS, unpS, raiseS, evVar, evVarB, evLit, evNil, evCons, evTup, evLst, evBin, evBinL, ev1, ev1L, evAnd, evOr, evNot, evIf, evT, evTnot, evTand, evTor, evChain, evCall, evCallD, evCallK, ofRo, ofRd, lstOf, evSl, evSlL, ptOf, ptNo, asInt, asBool, toOut, Out.bind, evPop, evApp, evExt, evItL, evItT, evItS, evRng1, evZip, setMany, stR, isiD, isT, negD, slL, h1, h2, unpLS, ix0, h4, subI, addL, h3]
theorem loop_R {x : Sv} {t : Tb} : ∀ (a : E), a.has t = true → ∀ (rest f : List D), f.length + a.size ≤ 100000 → ∀ (p q r : Sv), ∃ p' q' r', forGo (tgN 3) bR (a.pts.reverse ++ rest) (stR x t f p q r) = forGo (tgN 3) bR rest (stR x t (f ++ [.int (a.val t)]) p' q' r')
  | .num i, h, rest, f, hl, p, q, r => by
    simp only [E.size] at hl
    have hf : f.length < 1000000 := by omega
    have e : bR (stR x t f (.fz (.int i)) q r) = .ok .nx (stR x t (f ++ [.int i]) (.fz (.int i)) q r) := by simp [bR, runFn, runFnD, roOf, rdOf, envOf0, seqS, skipS, setS, ownS, retS, ifS, doS, fixS, par2S, parOS, unpS, raiseS, evVar, evVarB, evLit, evNil, evCons, evTup, evLst, evBin, evBinL, ev1, ev1L, evAnd, evOr, evNot, evIf, evT, evTnot, evTand, evTor, evChain, evCall, evCallD, evCallK, ofRo, ofRd, lstOf, evSl, evSlL, ptOf, ptNo, asInt, asBool, toOut, Out.bind, evPop, evApp, evExt, evItL, evItT, evItS, evRng1, evZip, setMany, stR, isiD, isT, hf]
    exact ⟨.fz (.int i), q, r, by
      show stepS (bR (stR x t f (.fz (.int i)) q r)) (forGo (tgN 3) bR rest) = _
      rw [e]
      rfl⟩
  | .nm w, h, rest, f, hl, p, q, r => by
    simp only [E.size] at hl
    have hf : f.length < 1000000 := by omega
    have g := get_tb (t := t) (w := w) h
    have e : bR (stR x t f (.fz (.str w)) q r) = .ok .nx (stR x t (f ++ [.int ((t.lookup w).getD 0)]) (.fz (.str w)) q r) := by simp [bR, runFn, runFnD, roOf, rdOf, envOf0, seqS, skipS, setS, ownS, retS, ifS, doS, fixS, par2S, parOS, unpS, raiseS, evVar, evVarB, evLit, evNil, evCons, evTup, evLst, evBin, evBinL, ev1, ev1L, evAnd, evOr, evNot, evIf, evT, evTnot, evTand, evTor, evChain, evCall, evCallD, evCallK, ofRo, ofRd, lstOf, evSl, evSlL, ptOf, ptNo, asInt, asBool, toOut, Out.bind, evPop, evApp, evExt, evItL, evItT, evItS, evRng1, evZip, setMany, stR, isiD, isT, hf, g]
    exact ⟨.fz (.str w), q, r, by
      show stepS (bR (stR x t f (.fz (.str w)) q r)) (forGo (tgN 3) bR rest) = _
      rw [e]
      rfl⟩
  | .op s a b, h, rest, f, hl, p, q, r => by
    simp only [E.size] at hl
    simp only [E.has, Bool.and_eq_true] at h
    have er : (E.op s a b).pts.reverse ++ rest = a.pts.reverse ++ (b.pts.reverse ++ ((E.op s a b).d :: rest)) := by simp [E.pts]
    obtain ⟨p1, q1, r1, e1⟩ := loop_R a h.2 (b.pts.reverse ++ ((E.op s a b).d :: rest)) f (by omega) p q r
    obtain ⟨p2, q2, r2, e2⟩ := loop_R b h.1 ((E.op s a b).d :: rest) (f ++ [.int (a.val t)]) (by simp; omega) p1 q1 r1
    have e3 := bR_op (x := x) (q := q2) (r := r2) (t := t) (f := f) (u := a.val t) (v := b.val t) (s := s) (y := a.d) (z := b.d) (by omega)
    refine ⟨.fz (E.op s a b).d, .fz (.int (a.val t)), .fz (.int (b.val t)), ?_⟩
    rw [er, e1, e2]
    show stepS (bR (stR x t (f ++ [.int (a.val t)] ++ [.int (b.val t)]) (.fz (.tuple [.str (sg s), a.d, b.d])) q2 r2)) (forGo (tgN 3) bR rest) = _
    rw [show f ++ [PyData.int (a.val t)] ++ [PyData.int (b.val t)] = f ++ [.int (a.val t), .int (b.val t)] by simp, e3]
    rfl
theorem v_reckoned {a : E} {t : Tb} (h : a.ok) (hd : a.dep ≤ 50) (hs : a.size ≤ 10000) (hh : a.has t = true) : f_reckoned [a.d, tD t] = .ok (.int (a.val t)) := by
  obtain ⟨p, q, r, e⟩ := loop_R (x := .fz a.d) (t := t) a hh [] [] (by simp; omega) .un .un .un
  rw [List.append_nil] at e
  have run : f_reckoned [a.d, tD t] = roOf (seqS (forS (evRevL (evCall f_parts_of (evCons (evVar 0) evNil))) (tgN 3) bR) (retS (evBin ixD (evVarB 2) (evLit (.int 0)))) (stR (.fz a.d) t [] .un .un .un)) := rfl
  have hfor : forS (evRevL (evCall f_parts_of (evCons (evVar 0) evNil))) (tgN 3) bR (stR (.fz a.d) t [] .un .un .un) = .ok .nx (stR (.fz a.d) t ([] ++ [.int (a.val t)]) p q r) := by
    have : forS (evRevL (evCall f_parts_of (evCons (evVar 0) evNil))) (tgN 3) bR (stR (.fz a.d) t [] .un .un .un) = forGo (tgN 3) bR a.pts.reverse (stR (.fz a.d) t [] .un .un .un) := by
      simp [forS, evRevL, runFn, runFnD, roOf, rdOf, envOf0, seqS, skipS, setS, ownS, retS, ifS, doS, fixS, par2S, parOS, unpS, raiseS, evVar, evVarB, evLit, evNil, evCons, evTup, evLst, evBin, evBinL, ev1, ev1L, evAnd, evOr, evNot, evIf, evT, evTnot, evTand, evTor, evChain, evCall, evCallD, evCallK, ofRo, ofRd, lstOf, evSl, evSlL, ptOf, ptNo, asInt, asBool, toOut, Out.bind, evPop, evApp, evExt, evItL, evItT, evItS, evRng1, evZip, setMany, stR, v_parts h hd hs]
    rw [this, e]
    rfl
  rw [run, seqS_nx hfor]
  have i0 : ixD (.list [.int (a.val t)]) (.int 0) = some (.int (a.val t)) := by simp [ixD, atI, ixN]
  simp [runFn, runFnD, roOf, rdOf, envOf0, seqS, skipS, setS, ownS, retS, ifS, doS, fixS, par2S, parOS, unpS, raiseS, evVar, evVarB, evLit, evNil, evCons, evTup, evLst, evBin, evBinL, ev1, ev1L, evAnd, evOr, evNot, evIf, evT, evTnot, evTand, evTor, evChain, evCall, evCallD, evCallK, ofRo, ofRd, lstOf, evSl, evSlL, ptOf, ptNo, asInt, asBool, toOut, Out.bind, evPop, evApp, evExt, evItL, evItT, evItS, evRng1, evZip, setMany, stR, i0]
/-! ### are_values -/
def nameB (y : D) : Bool := match f_is_name [y] with
  | .ok (.bool b) => b
  | _ => false
def gB : D → Bool
  | .tuple [y, z] => nameB y && isWh z
  | _ => false
def Pr (d : D) : Prop := ∃ y z, d = .tuple [y, z] ∧ f_is_name [y] = .ok (.bool (nameB y))
theorem v_av0 {x : D} (h : isT "tuple" x = false) : f_are_values [x] = .ok (.bool false) := by
  simp [f_are_values, b_are_values, runFn, runFnD, roOf, rdOf, envOf0, seqS, skipS, setS, ownS, retS, ifS, doS, fixS, par2S, parOS, unpS, raiseS, evVar, evVarB, evLit, evNil, evCons, evTup, evLst, evBin, evBinL, ev1, ev1L, evAnd, evOr, evNot, evIf, evT, evTnot, evTand, evTor, evChain, evCall, evCallD, evCallK, ofRo, ofRd, lstOf, evSl, evSlL, ptOf, ptNo, asInt, asBool, toOut, Out.bind, evPop, evApp, evExt, evItL, evItT, evItS, evRng1, evZip, setMany, isiD, h]
theorem comp_tup (ds : List D) (hl : ds.length ≤ 1000) : compGo [1] (tgN 1) evYes (evCall f_is_tuple_of (evCons (evVar 1) (evCons (evLit (.int 2)) evNil))) ds [] ⟨[.fz (.tuple ds), .un], dk0, false⟩ = .ok (ds.map fun d => .bool (isTup 2 d)) ⟨[.fz (.tuple ds), .un], dk0, false⟩ := by
  have c := comp_map (vs := [1]) (tgt := tgN 1) (elt := evCall f_is_tuple_of (evCons (evVar 1) (evCons (evLit (.int 2)) evNil))) (fun d => .bool (isTup 2 d)) (s0 := ⟨[.fz (.tuple ds), .un], dk0, false⟩) ds [] (fun d _ => ⟨⟨[.fz (.tuple ds), .fz d], dk0, false⟩, rfl, by
    have h := v_is_tuple_of d 2
    have h' : f_is_tuple_of [d, .int 2] = .ok (.bool (isTup 2 d)) := h
    simp [runFn, runFnD, roOf, rdOf, envOf0, seqS, skipS, setS, ownS, retS, ifS, doS, fixS, par2S, parOS, unpS, raiseS, evVar, evVarB, evLit, evNil, evCons, evTup, evLst, evBin, evBinL, ev1, ev1L, evAnd, evOr, evNot, evIf, evT, evTnot, evTand, evTor, evChain, evCall, evCallD, evCallK, ofRo, ofRd, lstOf, evSl, evSlL, ptOf, ptNo, asInt, asBool, toOut, Out.bind, evPop, evApp, evExt, evItL, evItT, evItS, evRng1, evZip, setMany, h'], rfl⟩) (by simp; omega)
  rwa [List.nil_append] at c
theorem comp_pair (ds : List D) (hl : ds.length ≤ 1000) (hp : ∀ d ∈ ds, Pr d) : compGo [1] (tgN 1) evYes (evAnd (evCall f_is_name (evCons (evBin ixD (evVarB 1) (evLit (.int 0))) evNil)) (evCall f_is_whole (evCons (evBin ixD (evVarB 1) (evLit (.int 1))) evNil))) ds [] ⟨[.fz (.tuple ds), .un], dk0, false⟩ = .ok (ds.map fun d => .bool (gB d)) ⟨[.fz (.tuple ds), .un], dk0, false⟩ := by
  have c := comp_map (vs := [1]) (tgt := tgN 1) (elt := evAnd (evCall f_is_name (evCons (evBin ixD (evVarB 1) (evLit (.int 0))) evNil)) (evCall f_is_whole (evCons (evBin ixD (evVarB 1) (evLit (.int 1))) evNil))) (fun d => .bool (gB d)) (s0 := ⟨[.fz (.tuple ds), .un], dk0, false⟩) ds [] (fun d hd => ⟨⟨[.fz (.tuple ds), .fz d], dk0, false⟩, rfl, by
    obtain ⟨y, z, e, hn⟩ := hp d hd
    subst e
    cases hb : nameB y with
    | true =>
      rw [hb] at hn
      simp [runFn, runFnD, roOf, rdOf, envOf0, seqS, skipS, setS, ownS, retS, ifS, doS, fixS, par2S, parOS, unpS, raiseS, evVar, evVarB, evLit, evNil, evCons, evTup, evLst, evBin, evBinL, ev1, ev1L, evAnd, evOr, evNot, evIf, evT, evTnot, evTand, evTor, evChain, evCall, evCallD, evCallK, ofRo, ofRd, lstOf, evSl, evSlL, ptOf, ptNo, asInt, asBool, toOut, Out.bind, evPop, evApp, evExt, evItL, evItT, evItS, evRng1, evZip, setMany, ix0, ix1, hn, v_whole, gB, hb]
    | false =>
      rw [hb] at hn
      simp [runFn, runFnD, roOf, rdOf, envOf0, seqS, skipS, setS, ownS, retS, ifS, doS, fixS, par2S, parOS, unpS, raiseS, evVar, evVarB, evLit, evNil, evCons, evTup, evLst, evBin, evBinL, ev1, ev1L, evAnd, evOr, evNot, evIf, evT, evTnot, evTand, evTor, evChain, evCall, evCallD, evCallK, ofRo, ofRd, lstOf, evSl, evSlL, ptOf, ptNo, asInt, asBool, toOut, Out.bind, evPop, evApp, evExt, evItL, evItT, evItS, evRng1, evZip, setMany, ix0, ix1, hn, v_whole, gB, hb], rfl⟩) (by simp; omega)
  rwa [List.nil_append] at c
theorem v_av1 {ds : List D} (hl : ds.length ≤ 1000) (h : ds.all (isTup 2) = false) : f_are_values [.tuple ds] = .ok (.bool false) := by
  have c := comp_tup ds hl
  have a := all_map (isTup 2) ds
  rw [h] at a
  simp [f_are_values, b_are_values, runFn, runFnD, roOf, rdOf, envOf0, seqS, skipS, setS, ownS, retS, ifS, doS, fixS, par2S, parOS, unpS, raiseS, evVar, evVarB, evLit, evNil, evCons, evTup, evLst, evBin, evBinL, ev1, ev1L, evAnd, evOr, evNot, evIf, evT, evTnot, evTand, evTor, evChain, evCall, evCallD, evCallK, ofRo, ofRd, lstOf, evSl, evSlL, ptOf, ptNo, asInt, asBool, toOut, Out.bind, evPop, evApp, evExt, evItL, evItT, evItS, evRng1, evZip, setMany, isiD, isT, evComp, forgetS, forgetE, c, a]
theorem tup_of {ds : List D} (hp : ∀ d ∈ ds, Pr d) : ds.all (isTup 2) = true := by
  rw [List.all_eq_true]
  intro d hd
  obtain ⟨y, z, e, _⟩ := hp d hd
  subst e
  rfl
theorem v_av2 {ds : List D} (hl : ds.length ≤ 1000) (hp : ∀ d ∈ ds, Pr d) (h : ds.all gB = false) : f_are_values [.tuple ds] = .ok (.bool false) := by
  have c := comp_tup ds hl
  have a := all_map (isTup 2) ds
  have c2 := comp_pair ds hl hp
  have a2 := all_map gB ds
  rw [tup_of hp] at a
  rw [h] at a2
  simp [f_are_values, b_are_values, runFn, runFnD, roOf, rdOf, envOf0, seqS, skipS, setS, ownS, retS, ifS, doS, fixS, par2S, parOS, unpS, raiseS, evVar, evVarB, evLit, evNil, evCons, evTup, evLst, evBin, evBinL, ev1, ev1L, evAnd, evOr, evNot, evIf, evT, evTnot, evTand, evTor, evChain, evCall, evCallD, evCallK, ofRo, ofRd, lstOf, evSl, evSlL, ptOf, ptNo, asInt, asBool, toOut, Out.bind, evPop, evApp, evExt, evItL, evItT, evItS, evRng1, evZip, setMany, isiD, isT, evComp, forgetS, forgetE, c, a, c2, a2]
theorem v_av3 {ds : List D} {es : List (D × D)} (hl : ds.length ≤ 1000) (hp : ∀ d ∈ ds, Pr d) (h : ds.all gB = true) (hd : dictD (.tuple ds) = some (.dict es)) : f_are_values [.tuple ds] = .ok (.bool (es.length == ds.length)) := by
  have c := comp_tup ds hl
  have a := all_map (isTup 2) ds
  have c2 := comp_pair ds hl hp
  have a2 := all_map gB ds
  rw [tup_of hp] at a
  rw [h] at a2
  have e3 : ((es.length : Int) == (ds.length : Int)) = (es.length == ds.length) := by
    by_cases q : es.length = ds.length
    · simp [q]
    · have q1 : (es.length == ds.length) = false := by simpa using q
      have q2 : ((es.length : Int) == (ds.length : Int)) = false := by simp; omega
      rw [q1, q2]
  simp [f_are_values, b_are_values, runFn, runFnD, roOf, rdOf, envOf0, seqS, skipS, setS, ownS, retS, ifS, doS, fixS, par2S, parOS, unpS, raiseS, evVar, evVarB, evLit, evNil, evCons, evTup, evLst, evBin, evBinL, ev1, ev1L, evAnd, evOr, evNot, evIf, evT, evTnot, evTand, evTor, evChain, evCall, evCallD, evCallK, ofRo, ofRd, lstOf, evSl, evSlL, ptOf, ptNo, asInt, asBool, toOut, Out.bind, evPop, evApp, evExt, evItL, evItT, evItS, evRng1, evZip, setMany, isiD, isT, evComp, forgetS, forgetE, c, a, c2, a2, hd, lenK, lenD, eqI, e3]
end Zo
namespace Zo
open PySem PySem.Spec PyProof.Rows L2
def W5 : List Str := ["n", "a1", "late", "twelvesigns0", "more"]
theorem nm_w5 {w : Str} (h : w ∈ W5) : f_is_name [.str w] = .ok (.bool true) := by
  simp only [W5, List.mem_cons, List.not_mem_nil, or_false] at h
  rcases h with rfl | rfl | rfl | rfl | rfl <;> rfl
theorem okd_w5 {w : Str} (h : w ∈ W5) : Ok 12 1 (.str w) := by
  simp only [W5, List.mem_cons, List.not_mem_nil, or_false] at h
  rcases h with rfl | rfl | rfl | rfl | rfl <;> decide +kernel
structure Gd (t : Tb) : Prop where
  nd : (t.map (·.1)).Nodup
  w5 : ∀ p ∈ t, p.1 ∈ W5
  sm : ∀ p ∈ t, p.2.natAbs < 10 ^ 12
  len : t.length ≤ 5
abbrev pr (p : Str × Int) : D := .tuple [.str p.1, .int p.2]
theorem wh {i : Int} (h : i.natAbs < 10 ^ 12) : isWh (.int i) = true := by
  have e1 : -big60 < i := by simp only [big60]; omega
  have e2 : i < big60 := by simp only [big60]; omega
  simp [isWh, e1, e2]
theorem nameB_of {y : D} {b : Bool} (h : f_is_name [y] = .ok (.bool b)) : nameB y = b := by simp [nameB, h]
theorem Pr.of {y z : D} {b : Bool} (h : f_is_name [y] = .ok (.bool b)) : Pr (.tuple [y, z]) := ⟨y, z, rfl, by rw [nameB_of h]; exact h⟩
theorem Gd.prs {t : Tb} (g : Gd t) : ∀ d ∈ t.map pr, Pr d := by
  intro d hd
  obtain ⟨p, hp, e⟩ := List.mem_map.mp hd
  subst e
  exact Pr.of (nm_w5 (g.w5 p hp))
theorem Gd.gs {t : Tb} (g : Gd t) : (t.map pr).all gB = true := by
  rw [List.all_eq_true]
  intro d hd
  obtain ⟨p, hp, e⟩ := List.mem_map.mp hd
  subst e
  simp [gB, nameB_of (nm_w5 (g.w5 p hp)), wh (g.sm p hp)]
theorem v_good {t : Tb} (g : Gd t) : f_are_values [vD t] = .ok (.bool true) := by
  have hl := g.len
  have h := v_av3 (ds := t.map pr) (es := t.map fun (p : Str × Int) => (PyData.str p.1, PyData.int p.2)) (by simp; omega) g.prs g.gs (dict_tb g.nd)
  rw [show ((t.map fun p => (PyData.str p.1, PyData.int p.2)).length == (t.map pr).length) = true by simp] at h
  exact h
def badL (t : Tb) : List D := [.none, .list (t.map pr), .tuple (t.map pr ++ [.tuple [.str "q", .int 1], .tuple [.str "q", .int 2]]), .tuple (t.map pr ++ [.tuple [.str "q", .bool true]]), .tuple (t.map pr ++ [.tuple [.str "Q", .int 1]]), .tuple (t.map pr ++ [.tuple [.str "q"]]), .tuple (t.map pr ++ [.list [.str "q", .int 1]]),
  .tuple (t.map pr ++ [.tuple [.str "q", .int 1, .int 2]]), .str "values", .tuple (t.map pr ++ [.tuple [.str "q", .str "1"]]), .tuple (t.map pr ++ [.tuple [.int 7, .int 1]])]
theorem q_not {t : Tb} (g : Gd t) : ("q" : Str) ∉ t.map (·.1) := fun h => by
  obtain ⟨p, hp, e⟩ := List.mem_map.mp h
  have := g.w5 p hp
  rw [e] at this
  exact absurd this (by decide +kernel)
theorem dict_q {t : Tb} (g : Gd t) : ∃ es, dictD (.tuple (t.map pr ++ [.tuple [.str "q", .int 1], .tuple [.str "q", .int 2]])) = some (.dict es) ∧ es.length = t.length + 1 := by
  have e0 : t.map pr ++ [PyData.tuple [.str "q", .int 1], PyData.tuple [.str "q", .int 2]] = (t ++ [(("q" : Str), (1 : Int)), (("q" : Str), (2 : Int))]).map (fun p => PyData.tuple [.str p.1, .int p.2]) := by simp
  have nd1 : ((t ++ [(("q" : Str), (1 : Int))]).map (·.1)).Nodup := by
    rw [List.map_append, List.nodup_append]
    refine ⟨g.nd, by simp, fun a ha b hb e => ?_⟩
    have : b = ("q" : Str) := by simpa using hb
    subst this
    subst e
    exact q_not g ha
  have e1 := merge_app ((t ++ [(("q" : Str), (1 : Int))]).map fun p => ((Sum.inr p.1 : Key), PyData.int p.2)) [] (by simpa using key_nd nd1)
  have e2 : ((t ++ [(("q" : Str), (1 : Int)), (("q" : Str), (2 : Int))]).map fun p => ((Sum.inr p.1 : Key), PyData.int p.2)) = ((t ++ [(("q" : Str), (1 : Int))]).map fun p => ((Sum.inr p.1 : Key), PyData.int p.2)) ++ [((Sum.inr ("q" : Str) : Key), PyData.int 2)] := by simp
  refine ⟨_, by rw [e0]; simp only [dictD, pairs_tb, Option.map_some]; rfl, ?_⟩
  rw [e2]
  unfold mergeG at e1 ⊢
  rw [List.foldl_append, e1]
  simp only [List.foldl_cons, List.foldl_nil, List.nil_append, List.length_map]
  unfold putG
  rw [if_pos]
  · simp
  · rw [List.any_eq_true]
    exact ⟨((Sum.inr ("q" : Str) : Key), PyData.int 1), List.mem_map.mpr ⟨(("q" : Str), (1 : Int)), by simp, rfl⟩, by simp⟩
theorem all_app {f : D → Bool} {ds : List D} {e : D} (h : f e = false) : (ds ++ [e]).all f = false := by simp [h]
theorem prs_app {ds : List D} {e : D} (h : ∀ d ∈ ds, Pr d) (k : Pr e) : ∀ d ∈ ds ++ [e], Pr d := fun d hd => (List.mem_append.mp hd).elim (h d) fun q => by rw [List.mem_singleton.mp q]; exact k
theorem n_q : f_is_name [.str "q"] = .ok (.bool true) := rfl
theorem n_Q : f_is_name [.str "Q"] = .ok (.bool false) := rfl
theorem v_bads {t : Tb} (g : Gd t) : ∀ y ∈ badL t, f_are_values [y] = .ok (.bool false) := by
  intro y hy
  have hl := g.len
  have len1 : ∀ e : D, (t.map pr ++ [e]).length ≤ 1000 := fun e => by simp; omega
  simp only [badL, List.mem_cons, List.not_mem_nil, or_false] at hy
  rcases hy with rfl | rfl | rfl | rfl | rfl | rfl | rfl | rfl | rfl | rfl | rfl
  · exact v_av0 rfl
  · exact v_av0 rfl
  · obtain ⟨es, h1, h2⟩ := dict_q g
    have hp : ∀ d ∈ t.map pr ++ [PyData.tuple [.str "q", .int 1], PyData.tuple [.str "q", .int 2]], Pr d := fun d hd => (List.mem_append.mp hd).elim (g.prs d) fun q => all2 (P := Pr) (Pr.of n_q) (Pr.of n_q) d q
    have hg : (t.map pr ++ [PyData.tuple [.str "q", .int 1], PyData.tuple [.str "q", .int 2]]).all gB = true := by
      rw [List.all_append, g.gs]
      simp [gB, nameB_of n_q, wh (i := 1) (by decide), wh (i := 2) (by decide)]
    have h := v_av3 (by simp; omega) hp hg h1
    rw [show (es.length == (t.map pr ++ [PyData.tuple [.str "q", .int 1], .tuple [.str "q", .int 2]]).length) = false by simp [h2]] at h
    exact h
  · exact v_av2 (len1 _) (prs_app g.prs (Pr.of n_q)) (all_app (by simp [gB, isWh]))
  · exact v_av2 (len1 _) (prs_app g.prs (Pr.of n_Q)) (all_app (by simp [gB, nameB_of n_Q]))
  · exact v_av1 (len1 _) (all_app rfl)
  · exact v_av1 (len1 _) (all_app rfl)
  · exact v_av1 (len1 _) (all_app rfl)
  · exact v_av0 rfl
  · exact v_av2 (len1 _) (prs_app g.prs (Pr.of n_q)) (all_app (by simp [gB, isWh]))
  · exact v_av2 (len1 _) (prs_app g.prs (Pr.of (nameNo (x := .int 7) rfl))) (all_app (by simp [gB, nameB_of (nameNo (x := .int 7) rfl)]))
/-! ### value_of -/
theorem has_nms (t : Tb) : ∀ a : E, (a.nms.all fun w => (t.lookup w).isSome) = a.has t
  | .num _ => rfl
  | .nm w => by simp [E.nms, E.has]
  | .op _ a b => by simp [E.nms, E.has, has_nms t a, has_nms t b]
theorem in_tb (t : Tb) (w : Str) : inK false (.str w) (tD t) = some (.bool (t.lookup w).isSome) := by
  have e1 := look_tb t w
  simp only [inK, tD, keyOf, e1, Option.map_some, Option.isSome_map]
  rfl
theorem comp_in (x y : Sv) (t : Tb) (ws : List Str) (hl : ws.length ≤ 10000) : compGo [3] (tgN 3) evYes (evBin (inK false) (evVarB 3) (evVarB 2)) (ws.map .str) [] ⟨[x, y, .fz (tD t), .un], dk0, false⟩ = .ok (ws.map fun w => .bool (t.lookup w).isSome) ⟨[x, y, .fz (tD t), .un], dk0, false⟩ := by
  have c := comp_map (vs := [3]) (tgt := tgN 3) (elt := evBin (inK false) (evVarB 3) (evVarB 2)) (fun d => match d with | .str w => .bool (t.lookup w).isSome | _ => .none) (s0 := ⟨[x, y, .fz (tD t), .un], dk0, false⟩) (ws.map .str) [] (fun d hd => by
    obtain ⟨w, _, e⟩ := List.mem_map.mp hd
    subst e
    exact ⟨⟨[x, y, .fz (tD t), .fz (.str w)], dk0, false⟩, rfl, by simp [runFn, runFnD, roOf, rdOf, envOf0, seqS, skipS, setS, ownS, retS, ifS, doS, fixS, par2S, parOS, unpS, raiseS, evVar, evVarB, evLit, evNil, evCons, evTup, evLst, evBin, evBinL, ev1, ev1L, evAnd, evOr, evNot, evIf, evT, evTnot, evTand, evTor, evChain, evCall, evCallD, evCallK, ofRo, ofRd, lstOf, evSl, evSlL, ptOf, ptNo, asInt, asBool, toOut, Out.bind, evPop, evApp, evExt, evItL, evItT, evItS, evRng1, evZip, setMany, in_tb], rfl⟩) (by simp; omega)
  rw [List.nil_append, List.map_map] at c
  exact c
theorem nms_len : ∀ a : E, a.nms.length ≤ a.size
  | .num _ => Nat.zero_le _
  | .nm _ => Nat.le_refl 1
  | .op _ a b => by have := nms_len a; have := nms_len b; simp [E.nms, E.size]; omega
theorem value_ok {a : E} {t : Tb} (h : a.ok) (hd : a.dep ≤ 40) (hs : a.size ≤ 10000) (g : Gd t) : f_value_of [a.d, vD t] = if a.has t then .ok (.int (a.val t)) else .exc 1 a.d := by
  have f1 := v_E h (by omega) hs
  have f2 := v_good g
  have f3 := dict_tb g.nd
  have f4 := v_names h (by omega) hs
  have c := comp_in (.fz a.d) (.fz (vD t)) t a.nms (Nat.le_trans (nms_len a) hs)
  have al := all_map (fun w => (t.lookup w).isSome) a.nms
  rw [has_nms] at al
  cases hh : a.has t with
  | true =>
    have f5 := v_reckoned h (by omega) hs hh
    rw [hh] at al
    simp [f_value_of, b_value_of, runFn, runFnD, roOf, rdOf, envOf0, seqS, skipS, setS, ownS, retS, ifS, doS, fixS, par2S, parOS, unpS, raiseS, evVar, evVarB, evLit, evNil, evCons, evTup, evLst, evBin, evBinL, ev1, ev1L, evAnd, evOr, evNot, evIf, evT, evTnot, evTand, evTor, evChain, evCall, evCallD, evCallK, ofRo, ofRd, lstOf, evSl, evSlL, ptOf, ptNo, asInt, asBool, toOut, Out.bind, evPop, evApp, evExt, evItL, evItT, evItS, evRng1, evZip, setMany, f1, f2, f3, f4, evComp, forgetS, forgetE, c, al, f5]
  | false =>
    rw [hh] at al
    simp [f_value_of, b_value_of, runFn, runFnD, roOf, rdOf, envOf0, seqS, skipS, setS, ownS, retS, ifS, doS, fixS, par2S, parOS, unpS, raiseS, evVar, evVarB, evLit, evNil, evCons, evTup, evLst, evBin, evBinL, ev1, ev1L, evAnd, evOr, evNot, evIf, evT, evTnot, evTand, evTor, evChain, evCall, evCallD, evCallK, ofRo, ofRd, lstOf, evSl, evSlL, ptOf, ptNo, asInt, asBool, toOut, Out.bind, evPop, evApp, evExt, evItL, evItT, evItS, evRng1, evZip, setMany, f1, f2, f3, f4, evComp, forgetS, forgetE, c, al]
theorem value_no {x y : D} (h : f_is_expr_value [x] = .ok (.bool false)) : f_value_of [x, y] = .exc 1 x := by
  simp [f_value_of, b_value_of, runFn, runFnD, roOf, rdOf, envOf0, seqS, skipS, setS, ownS, retS, ifS, doS, fixS, par2S, parOS, unpS, raiseS, evVar, evVarB, evLit, evNil, evCons, evTup, evLst, evBin, evBinL, ev1, ev1L, evAnd, evOr, evNot, evIf, evT, evTnot, evTand, evTor, evChain, evCall, evCallD, evCallK, ofRo, ofRd, lstOf, evSl, evSlL, ptOf, ptNo, asInt, asBool, toOut, Out.bind, evPop, evApp, evExt, evItL, evItT, evItS, evRng1, evZip, setMany, h]
theorem value_bad {x y : D} (h : f_is_expr_value [x] = .ok (.bool true)) (k : f_are_values [y] = .ok (.bool false)) : f_value_of [x, y] = .exc 0 y := by
  simp [f_value_of, b_value_of, runFn, runFnD, roOf, rdOf, envOf0, seqS, skipS, setS, ownS, retS, ifS, doS, fixS, par2S, parOS, unpS, raiseS, evVar, evVarB, evLit, evNil, evCons, evTup, evLst, evBin, evBinL, ev1, ev1L, evAnd, evOr, evNot, evIf, evT, evTnot, evTand, evTor, evChain, evCall, evCallD, evCallK, ofRo, ofRd, lstOf, evSl, evSlL, ptOf, ptNo, asInt, asBool, toOut, Out.bind, evPop, evApp, evExt, evItL, evItT, evItS, evRng1, evZip, setMany, h, k]
theorem heard_ok {x y r : D} {c : Bool} (h : f_value_of [x, y] = .ok r) : f_law_heard [x, y, .bool c] = .ok (.tuple [.str "told", r]) := by
  have p : pick [1, 0] [y, x] = [x, y] := rfl
  cases c <;> simp [f_law_heard, b_law_heard, runFn, runFnD, roOf, rdOf, envOf0, seqS, skipS, setS, ownS, retS, ifS, doS, fixS, par2S, parOS, unpS, raiseS, evVar, evVarB, evLit, evNil, evCons, evTup, evLst, evBin, evBinL, ev1, ev1L, evAnd, evOr, evNot, evIf, evT, evTnot, evTand, evTor, evChain, evCall, evCallD, evCallK, ofRo, ofRd, lstOf, evSl, evSlL, ptOf, ptNo, asInt, asBool, toOut, Out.bind, evPop, evApp, evExt, evItL, evItT, evItS, evRng1, evZip, setMany, heardM, p, h]
theorem heard_ex {x y r : D} {c : Bool} (h : f_value_of [x, y] = .exc 1 r) : f_law_heard [x, y, .bool c] = .ok (.tuple [.str "expr", r, .bool true]) := by
  have p : pick [1, 0] [y, x] = [x, y] := rfl
  cases c <;> simp [f_law_heard, b_law_heard, runFn, runFnD, roOf, rdOf, envOf0, seqS, skipS, setS, ownS, retS, ifS, doS, fixS, par2S, parOS, unpS, raiseS, evVar, evVarB, evLit, evNil, evCons, evTup, evLst, evBin, evBinL, ev1, ev1L, evAnd, evOr, evNot, evIf, evT, evTnot, evTand, evTor, evChain, evCall, evCallD, evCallK, ofRo, ofRd, lstOf, evSl, evSlL, ptOf, ptNo, asInt, asBool, toOut, Out.bind, evPop, evApp, evExt, evItL, evItT, evItS, evRng1, evZip, setMany, heardM, p, h, List.lookup]
theorem heard_nu {x y r : D} {c : Bool} (h : f_value_of [x, y] = .exc 0 r) : f_law_heard [x, y, .bool c] = .ok (.tuple [.str "number", r, .bool true]) := by
  have p : pick [1, 0] [y, x] = [x, y] := rfl
  cases c <;> simp [f_law_heard, b_law_heard, runFn, runFnD, roOf, rdOf, envOf0, seqS, skipS, setS, ownS, retS, ifS, doS, fixS, par2S, parOS, unpS, raiseS, evVar, evVarB, evLit, evNil, evCons, evTup, evLst, evBin, evBinL, ev1, ev1L, evAnd, evOr, evNot, evIf, evT, evTnot, evTand, evTor, evChain, evCall, evCallD, evCallK, ofRo, ofRd, lstOf, evSl, evSlL, ptOf, ptNo, asInt, asBool, toOut, Out.bind, evPop, evApp, evExt, evItL, evItT, evItS, evRng1, evZip, setMany, heardM, p, h, List.lookup]
end Zo
namespace Zo
open PySem PySem.Spec PyProof.Rows L2
/-! ### draws -/
theorem pick_ok {xs : List D} {n : Int} {k : Dk} (h0 : xs ≠ []) (hl : xs.length < 1000) (h : Dn n k) (hn : n < 1000000000) : ∃ d k', f_law_pick [.list xs] k = .ok d k' ∧ d ∈ xs ∧ Dn (n + 1) k' := by
  have hp : 0 < xs.length := List.length_pos_iff.mpr h0
  obtain ⟨i, k', e, i0, i1, hk⟩ := draw_ok (b := xs.length) (by omega) (by omega) h hn
  obtain ⟨d, e2, hm⟩ := ixList i0 i1
  refine ⟨d, k', ?_, hm, hk⟩
  simp [f_law_pick, b_law_pick, runFn, runFnD, roOf, rdOf, envOf0, seqS, skipS, setS, ownS, retS, ifS, doS, fixS, par2S, parOS, unpS, raiseS, evVar, evVarB, evLit, evNil, evCons, evTup, evLst, evBin, evBinL, ev1, ev1L, evAnd, evOr, evNot, evIf, evT, evTnot, evTand, evTor, evChain, evCall, evCallD, evCallK, ofRo, ofRd, lstOf, evSl, evSlL, ptOf, ptNo, asInt, asBool, toOut, Out.bind, evPop, evApp, evExt, evItL, evItT, evItS, evRng1, evZip, setMany, lenD, e, e2]
def E.low : E → Prop
  | .num i => i.natAbs ≤ 2000000000
  | .nm _ => True
  | .op _ a b => a.low ∧ b.low
def leafC : List D := [.int 0, .int 1, .int (-7), .int 20, .int 1000000001]
theorem leaf_of {ns : List Str} (hns : ∀ w ∈ ns, w ∈ W4) {d : D} (h : d ∈ ns.map PyData.str ++ (ns.map PyData.str ++ leafC)) : ∃ a : E, d = a.d ∧ a.ok ∧ a.low ∧ a.dep = 1 ∧ a.size = 1 := by
  have nm : d ∈ ns.map PyData.str → ∃ a : E, d = a.d ∧ a.ok ∧ a.low ∧ a.dep = 1 ∧ a.size = 1 := fun h => by
    obtain ⟨w, hw, e⟩ := List.mem_map.mp h
    exact ⟨.nm w, e.symm, hns w hw, trivial, rfl, rfl⟩
  rcases List.mem_append.mp h with h | h
  · exact nm h
  rcases List.mem_append.mp h with h | h
  · exact nm h
  · simp only [leafC, List.mem_cons, List.not_mem_nil, or_false] at h
    rcases h with rfl | rfl | rfl | rfl | rfl
    · exact ⟨.num 0, rfl, by simp [E.ok], by simp [E.low], rfl, rfl⟩
    · exact ⟨.num 1, rfl, by simp [E.ok], by simp [E.low], rfl, rfl⟩
    · exact ⟨.num (-7), rfl, by simp [E.ok], by simp [E.low], rfl, rfl⟩
    · exact ⟨.num 20, rfl, by simp [E.ok], by simp [E.low], rfl, rfl⟩
    · exact ⟨.num 1000000001, rfl, by simp [E.ok], by simp [E.low], rfl, rfl⟩
def cE : Nat → Int
  | 0 => 2
  | n + 1 => 3 + 2 * cE n
theorem cE_pos : ∀ n, 2 ≤ cE n
  | 0 => by decide
  | n + 1 => by have := cE_pos n; simp only [cE]; omega
theorem expr_ok {ns : List Str} (hns : ∀ w ∈ ns, w ∈ W4) (hl : ns.length ≤ 4) : ∀ (n r : Nat), n < r → ∀ (m : Int) (k : Dk), Dn m k → m + cE n < 1000000000 →
    ∃ (a : E) (k' : Dk), f_law_expr r [.list (ns.map .str), .int n] k = .ok a.d k' ∧ a.ok ∧ a.low ∧ a.dep ≤ n + 1 ∧ a.size + 1 ≤ 2 ^ (n + 1) ∧ Dn (m + cE n) k'
  | n, 0, h, _, _, _, _ => by omega
  | n, r + 1, h, m, k, hk, hm => by
    have hc := cE_pos n
    have run : f_law_expr (r + 1) [.list (ns.map .str), .int n] k = rdOf (b_law_expr (f_law_expr r) ⟨[.deck, .fz (.list (ns.map .str)), .fz (.int n)], k, false⟩) := rfl
    have r1 : repL (.list (ns.map PyData.str)) (.int 2) = some (ns.map PyData.str ++ ns.map PyData.str) := by
      have : (ns.map PyData.str).length * (2 : Int).toNat ≤ sizeLine := by rw [sizeLine_eq]; simp; omega
      simp only [repL]
      rw [if_pos ⟨by decide, by decide, this⟩]
      simp [List.replicate]
    have r2 : addL (.list (ns.map PyData.str ++ ns.map PyData.str)) (.list [.int 0, .int 1, .int (-7), .int 20, .int 1000000001]) = some (ns.map PyData.str ++ (ns.map PyData.str ++ leafC)) := by
      simp only [addL]
      rw [if_pos (by rw [sizeLine_eq]; simp; omega), List.append_assoc]
      rfl
    have r3 : powI (.int 10) (.int 9) = some (.int 1000000000) := by
      simp only [powI]
      rw [if_pos (by decide)]
      rfl
    have pow1 : 2 ≤ 2 ^ (n + 1) := by
      have : 0 < 2 ^ n := Nat.pos_of_ne_zero (by simp)
      rw [Nat.pow_succ]; omega
    -- a leaf
    have leaf : ∀ (m : Int) (k : Dk), Dn m k → m < 1000000000 → ∃ (a : E) (k' : Dk), f_law_pick [.list (ns.map PyData.str ++ (ns.map PyData.str ++ leafC))] k = .ok a.d k' ∧ a.ok ∧ a.low ∧ a.dep = 1 ∧ a.size = 1 ∧ Dn (m + 1) k' := by
      intro m k hk hm
      obtain ⟨d, k', e, hd, hk'⟩ := pick_ok (xs := ns.map PyData.str ++ (ns.map PyData.str ++ leafC)) (by simp [leafC]) (by simp [leafC]; omega) hk hm
      obtain ⟨a, ea, h1, h2, h3, h4⟩ := leaf_of hns hd
      subst ea
      exact ⟨a, k', e, h1, h2, h3, h4, hk'⟩
    rw [run]
    by_cases h0 : n = 0
    · subst h0
      obtain ⟨a, k', e, h1, h2, h3, h4, hk'⟩ := leaf m k hk (by omega)
      have hk2 := hk'.2
      refine ⟨a, k', ?_, h1, h2, by omega, by omega, hk'.1, by omega⟩
      simp [b_law_expr, runFn, runFnD, roOf, rdOf, envOf0, seqS, skipS, setS, ownS, retS, ifS, doS, fixS, par2S, parOS, unpS, raiseS, evVar, evVarB, evLit, evNil, evCons, evTup, evLst, evBin, evBinL, ev1, ev1L, evAnd, evOr, evNot, evIf, evT, evTnot, evTand, evTor, evChain, evCall, evCallD, evCallK, ofRo, ofRd, lstOf, evSl, evSlL, ptOf, ptNo, asInt, asBool, toOut, Out.bind, evPop, evApp, evExt, evItL, evItT, evItS, evRng1, evZip, setMany, eqI, ev1L, listD, r1, negD, r3, addI, r2, e]
    · obtain ⟨i, k1, e1, i0, i4, hk1⟩ := draw_ok (b := 4) (by decide) (by decide) hk (by omega)
      have z0 : ((n : Int) == 0) = false := by simpa using h0
      by_cases ci : i = 0
      · subst ci
        obtain ⟨a, k', e, h1, h2, h3, h4, hk'⟩ := leaf (m + 1) k1 hk1 (by omega)
        have hk2 := hk'.2
        refine ⟨a, k', ?_, h1, h2, by omega, by omega, hk'.1, by omega⟩
        simp [b_law_expr, runFn, runFnD, roOf, rdOf, envOf0, seqS, skipS, setS, ownS, retS, ifS, doS, fixS, par2S, parOS, unpS, raiseS, evVar, evVarB, evLit, evNil, evCons, evTup, evLst, evBin, evBinL, ev1, ev1L, evAnd, evOr, evNot, evIf, evT, evTnot, evTand, evTor, evChain, evCall, evCallD, evCallK, ofRo, ofRd, lstOf, evSl, evSlL, ptOf, ptNo, asInt, asBool, toOut, Out.bind, evPop, evApp, evExt, evItL, evItT, evItS, evRng1, evZip, setMany, eqI, h0, e1, ev1L, listD, r1, negD, r3, addI, r2, e]
      · obtain ⟨n', en⟩ : ∃ n', n = n' + 1 := ⟨n - 1, by omega⟩
        subst en
        have hcn : cE (n' + 1) = 3 + 2 * cE n' := rfl
        have hp := cE_pos n'
        have hsub : ((n' + 1 : Nat) : Int) - 1 = (n' : Int) := by omega
        generalize hN : ((n' + 1 : Nat) : Int) = N at hsub z0 ⊢
        have z1 : ¬ N = 0 := by simpa using z0
        obtain ⟨d, k2, e2, hd, hk2⟩ := pick_ok (xs := [.str "+", .str "-"]) (by simp) (by simp) hk1 (by omega)
        obtain ⟨a, k3, e3, ha, la, da, sa, hk3⟩ := expr_ok hns hl n' r (by omega) (m + 1 + 1) k2 hk2 (by omega)
        obtain ⟨b, k4, e4, hb, lb, db, sb, hk4⟩ := expr_ok hns hl n' r (by omega) (m + 1 + 1 + cE n') k3 hk3 (by omega)
        have hk5 := hk4.2
        have sz : ∀ p, (E.op p a b).size + 1 ≤ 2 ^ (n' + 1 + 1) := fun p => by
          rw [Nat.pow_succ]
          simp only [E.size]
          omega
        simp only [List.mem_cons, List.not_mem_nil, or_false] at hd
        rcases hd with rfl | rfl
        · refine ⟨.op true a b, k4, ?_, ⟨ha, hb⟩, ⟨la, lb⟩, by simp only [E.dep]; omega, sz _, hk4.1, by omega⟩
          simp [b_law_expr, runFn, runFnD, roOf, rdOf, envOf0, seqS, skipS, setS, ownS, retS, ifS, doS, fixS, par2S, parOS, unpS, raiseS, evVar, evVarB, evLit, evNil, evCons, evTup, evLst, evBin, evBinL, ev1, ev1L, evAnd, evOr, evNot, evIf, evT, evTnot, evTand, evTor, evChain, evCall, evCallD, evCallK, ofRo, ofRd, lstOf, evSl, evSlL, ptOf, ptNo, asInt, asBool, toOut, Out.bind, evPop, evApp, evExt, evItL, evItT, evItS, evRng1, evZip, setMany, eqI, E.d, sg, subI, hsub, z1, ci, e1, e2, e3, e4]
        · refine ⟨.op false a b, k4, ?_, ⟨ha, hb⟩, ⟨la, lb⟩, by simp only [E.dep]; omega, sz _, hk4.1, by omega⟩
          simp [b_law_expr, runFn, runFnD, roOf, rdOf, envOf0, seqS, skipS, setS, ownS, retS, ifS, doS, fixS, par2S, parOS, unpS, raiseS, evVar, evVarB, evLit, evNil, evCons, evTup, evLst, evBin, evBinL, ev1, ev1L, evAnd, evOr, evNot, evIf, evT, evTnot, evTand, evTor, evChain, evCall, evCallD, evCallK, ofRo, ofRd, lstOf, evSl, evSlL, ptOf, ptNo, asInt, asBool, toOut, Out.bind, evPop, evApp, evExt, evItL, evItT, evItS, evRng1, evZip, setMany, eqI, E.d, sg, subI, hsub, z1, ci, e1, e2, e3, e4]
def Lw (t : Tb) : Prop := ∀ p ∈ t, p.2.natAbs ≤ 2000000000
theorem look_low {t : Tb} (h : Lw t) (w : Str) : ((t.lookup w).getD 0).natAbs ≤ 2000000000 := by
  induction t with
  | nil => simp [List.lookup]
  | cons p t ih =>
    obtain ⟨x, i⟩ := p
    by_cases c : w = x
    · subst c
      simpa [List.lookup] using h (w, i) List.mem_cons_self
    · have c1 : (w == x) = false := by simpa using c
      simp only [List.lookup, c1]
      exact ih fun q hq => h q (List.mem_cons_of_mem _ hq)
theorem val_low {t : Tb} (h : Lw t) : ∀ a : E, a.low → (a.val t).natAbs ≤ a.size * 2000000000
  | .num i, k => by
    have k' : i.natAbs ≤ 2000000000 := k
    simpa [E.val, E.size] using k'
  | .nm w, _ => by simpa [E.val, E.size] using look_low h w
  | .op p a b, k => by
    have h1 := val_low h a k.1
    have h2 := val_low h b k.2
    cases p <;> simp only [E.val, E.size, if_true, Bool.false_eq_true, if_false] <;> omega
theorem ne_ok {a : D} {n : Int} {k : Dk} (h : Dn n k) (hn : n < 1000000000) : ∃ d k', f_law_no_expr [a] k = .ok d k' ∧ d ∈ neL a ∧ Dn (n + 1) k' := by
  obtain ⟨d, k', e, hd, hk⟩ := pick_ok (xs := neL a) (by simp [neL]) (by simp [neL]) h hn
  refine ⟨d, k', ?_, hd, hk⟩
  simp only [neL] at e
  simp [f_law_no_expr, b_law_no_expr, runFn, runFnD, roOf, rdOf, envOf0, seqS, skipS, setS, ownS, retS, ifS, doS, fixS, par2S, parOS, unpS, raiseS, evVar, evVarB, evLit, evNil, evCons, evTup, evLst, evBin, evBinL, ev1, ev1L, evAnd, evOr, evNot, evIf, evT, evTnot, evTand, evTor, evChain, evCall, evCallD, evCallK, ofRo, ofRd, lstOf, evSl, evSlL, ptOf, ptNo, asInt, asBool, toOut, Out.bind, evPop, evApp, evExt, evItL, evItT, evItS, evRng1, evZip, setMany, e]
end Zo
namespace Zo
open PySem PySem.Spec PyProof.Rows L2
/-! ### the rows' draws -/
def S1 : Ex := (setS 3 (lstOf (evSlL (lstOf (evLst (evCons (evLit (.str "n")) (evCons (evLit (.str "a1")) (evCons (evLit (.str "late")) (evCons (evLit (.str "twelvesigns0")) evNil)))))) ptNo (ptOf (evBin addI (evLit (.int 1)) (evCallD 1 drawF (evCons (evLit (.int 4)) evNil)))))))
def S2 : Ex := (setS 4 (evCallD 1 (f_law_expr 4) (evCons (evVar 3) (evCons (evLit (.int 3)) evNil))))
def eltL : Ev := (evTup (evCons (evVar 6) (evCons (evCallD 1 f_law_pick (evCons (lstOf (evLst (evCons (evLit (.int 0)) (evCons (evLit (.int 1)) (evCons (ev1 negD (evLit (.int 5))) (evCons (evLit (.int 20)) (evCons (evBin addI (evBin powI (evLit (.int 10)) (evLit (.int 8))) (evCallD 1 drawF (evCons (evLit (.int 99)) evNil))) evNil))))))) evNil)) evNil)))
def S3 : Ex := (ownS 5 (evComp [6] (evItL (lstOf (evBinL addL (evVarB 3) (lstOf (evSlL (lstOf (evLst (evCons (evLit (.str "more")) evNil))) (ptOf (evCallD 1 drawF (evCons (evLit (.int 2)) evNil))) ptNo))))) (tgN 6) evYes eltL))
def popL : Ev := (evPopAt 5 (evCallD 1 drawF (evCons (ev1 lenD (evVarB 5)) evNil)))
def S4 : Ex := (ifS (evT (evBin eqD (evCallD 1 drawF (evCons (evLit (.int 4)) evNil)) (evLit (.int 0)))) (doS popL) skipS)
def S5 : Ex := (setS 7 (ev1 tupD (lstOf (evComp [8] (evRng1 (ev1 lenD (evVarB 5))) (tgN 8) evYes popL))))
abbrev stL (e0 e2 e3 e4 e5 e7 e9 e10 e11 e12 e13 e14 e15 : Sv) (k : Dk) (sm : Bool) : Ms := ⟨[e0, .deck, e2, e3, e4, e5, .un, e7, .un, e9, e10, e11, e12, e13, e14, e15], k, sm⟩
def prefs : List (List Str) := [["n"], ["n", "a1"], ["n", "a1", "late"], ["n", "a1", "late", "twelvesigns0"]]
theorem prefs_ok : ∀ ns ∈ prefs, (∀ w ∈ ns, w ∈ W4) ∧ ns.length ≤ 4 ∧ ns ≠ [] ∧ (ns ++ [("more" : Str)]).Nodup ∧ (∀ w ∈ ns ++ [("more" : Str)], w ∈ W5) := by decide +kernel
theorem S1_ok {n : Int} {k : Dk} (h : Dn n k) (hn : n < 1000000000) : ∃ ns ∈ prefs, ∃ k', Dn (n + 1) k' ∧ ∀ e0 e2 e3 e4 e5 e7 e9 e10 e11 e12 e13 e14 e15 sm, S1 (stL e0 e2 e3 e4 e5 e7 e9 e10 e11 e12 e13 e14 e15 k sm) = .ok .nx (stL e0 e2 (.fz (.list (ns.map .str))) e4 e5 e7 e9 e10 e11 e12 e13 e14 e15 k' sm) := by
  obtain ⟨i, k1, h1, i0, i4, hk1⟩ := draw_ok (b := 4) (by decide) (by decide) h hn
  have s0 : slL (.list [.str "n", .str "a1", .str "late", .str "twelvesigns0"]) none (some 1) = some [.str "n"] := rfl
  have s1 : slL (.list [.str "n", .str "a1", .str "late", .str "twelvesigns0"]) none (some 2) = some [.str "n", .str "a1"] := rfl
  have s2 : slL (.list [.str "n", .str "a1", .str "late", .str "twelvesigns0"]) none (some 3) = some [.str "n", .str "a1", .str "late"] := rfl
  have s3 : slL (.list [.str "n", .str "a1", .str "late", .str "twelvesigns0"]) none (some 4) = some [.str "n", .str "a1", .str "late", .str "twelvesigns0"] := rfl
  have c : i = 0 ∨ i = 1 ∨ i = 2 ∨ i = 3 := by omega
  rcases c with rfl | rfl | rfl | rfl
  · exact ⟨["n"], by simp [prefs], k1, hk1, fun _ _ _ _ _ _ _ _ _ _ _ _ _ _ => by simp [S1, runFn, runFnD, roOf, rdOf, envOf0, seqS, skipS, setS, ownS, retS, ifS, doS, fixS, par2S, parOS, unpS, raiseS, evVar, evVarB, evLit, evNil, evCons, evTup, evLst, evBin, evBinL, ev1, ev1L, evAnd, evOr, evNot, evIf, evT, evTnot, evTand, evTor, evChain, evCall, evCallD, evCallK, ofRo, ofRd, lstOf, evSl, evSlL, ptOf, ptNo, asInt, asBool, toOut, Out.bind, evPop, evApp, evExt, evItL, evItT, evItS, evRng1, evZip, setMany, stL, h1, addI, s0]⟩
  · exact ⟨["n", "a1"], by simp [prefs], k1, hk1, fun _ _ _ _ _ _ _ _ _ _ _ _ _ _ => by simp [S1, runFn, runFnD, roOf, rdOf, envOf0, seqS, skipS, setS, ownS, retS, ifS, doS, fixS, par2S, parOS, unpS, raiseS, evVar, evVarB, evLit, evNil, evCons, evTup, evLst, evBin, evBinL, ev1, ev1L, evAnd, evOr, evNot, evIf, evT, evTnot, evTand, evTor, evChain, evCall, evCallD, evCallK, ofRo, ofRd, lstOf, evSl, evSlL, ptOf, ptNo, asInt, asBool, toOut, Out.bind, evPop, evApp, evExt, evItL, evItT, evItS, evRng1, evZip, setMany, stL, h1, addI, s1]⟩
  · exact ⟨["n", "a1", "late"], by simp [prefs], k1, hk1, fun _ _ _ _ _ _ _ _ _ _ _ _ _ _ => by simp [S1, runFn, runFnD, roOf, rdOf, envOf0, seqS, skipS, setS, ownS, retS, ifS, doS, fixS, par2S, parOS, unpS, raiseS, evVar, evVarB, evLit, evNil, evCons, evTup, evLst, evBin, evBinL, ev1, ev1L, evAnd, evOr, evNot, evIf, evT, evTnot, evTand, evTor, evChain, evCall, evCallD, evCallK, ofRo, ofRd, lstOf, evSl, evSlL, ptOf, ptNo, asInt, asBool, toOut, Out.bind, evPop, evApp, evExt, evItL, evItT, evItS, evRng1, evZip, setMany, stL, h1, addI, s2]⟩
  · exact ⟨["n", "a1", "late", "twelvesigns0"], by simp [prefs], k1, hk1, fun _ _ _ _ _ _ _ _ _ _ _ _ _ _ => by simp [S1, runFn, runFnD, roOf, rdOf, envOf0, seqS, skipS, setS, ownS, retS, ifS, doS, fixS, par2S, parOS, unpS, raiseS, evVar, evVarB, evLit, evNil, evCons, evTup, evLst, evBin, evBinL, ev1, ev1L, evAnd, evOr, evNot, evIf, evT, evTnot, evTand, evTor, evChain, evCall, evCallD, evCallK, ofRo, ofRd, lstOf, evSl, evSlL, ptOf, ptNo, asInt, asBool, toOut, Out.bind, evPop, evApp, evExt, evItL, evItT, evItS, evRng1, evZip, setMany, stL, h1, addI, s3]⟩
theorem S2_ok {n : Int} {k : Dk} {ns : List Str} (hns : ∀ w ∈ ns, w ∈ W4) (hl : ns.length ≤ 4) (h : Dn n k) (hn : n + 100 < 1000000000) : ∃ (a : E) (k' : Dk), a.ok ∧ a.low ∧ a.dep ≤ 4 ∧ a.size ≤ 15 ∧ Dn (n + 37) k' ∧ ∀ e0 e2 e4 e5 e7 e9 e10 e11 e12 e13 e14 e15 sm, S2 (stL e0 e2 (.fz (.list (ns.map .str))) e4 e5 e7 e9 e10 e11 e12 e13 e14 e15 k sm) = .ok .nx (stL e0 e2 (.fz (.list (ns.map .str))) (.fz a.d) e5 e7 e9 e10 e11 e12 e13 e14 e15 k' sm) := by
  have hc : cE 3 = 37 := rfl
  obtain ⟨a, k', e, h1, h2, h3, h4, h5⟩ := expr_ok hns hl 3 4 (by decide) n k h (by rw [hc]; omega)
  have e' : f_law_expr 4 [.list (ns.map .str), .int 3] k = .ok a.d k' := e
  rw [hc] at h5
  exact ⟨a, k', h1, h2, h3, by have : (2 : Nat) ^ (3 + 1) = 16 := rfl; omega, h5, fun _ _ _ _ _ _ _ _ _ _ _ _ _ => by simp [S2, runFn, runFnD, roOf, rdOf, envOf0, seqS, skipS, setS, ownS, retS, ifS, doS, fixS, par2S, parOS, unpS, raiseS, evVar, evVarB, evLit, evNil, evCons, evTup, evLst, evBin, evBinL, ev1, ev1L, evAnd, evOr, evNot, evIf, evT, evTnot, evTand, evTor, evChain, evCall, evCallD, evCallK, ofRo, ofRd, lstOf, evSl, evSlL, ptOf, ptNo, asInt, asBool, toOut, Out.bind, evPop, evApp, evExt, evItL, evItT, evItS, evRng1, evZip, setMany, stL, e']⟩
theorem left_comp : ∀ (ws : List Str) (acc : List D) (n : Int) (k : Dk), Dn n k → n + 2 * ws.length < 1000000000 → acc.length + ws.length < 1000 →
    ∃ (t : Tb) (k' : Dk), t.map (·.1) = ws ∧ Lw t ∧ Dn (n + 2 * ws.length) k' ∧ ∀ e0 e2 e3 e4 e5 e7 e9 e10 e11 e12 e13 e14 e15 sm, compGo [6] (tgN 6) evYes eltL (ws.map .str) acc (stL e0 e2 e3 e4 e5 e7 e9 e10 e11 e12 e13 e14 e15 k sm) = .ok (acc ++ t.map pr) (stL e0 e2 e3 e4 e5 e7 e9 e10 e11 e12 e13 e14 e15 k' sm)
  | [], acc, n, k, h, _, _ => ⟨[], k, rfl, fun p hp => (by cases hp), by simpa using h, fun _ _ _ _ _ _ _ _ _ _ _ _ _ _ => by simp [compGo]⟩
  | w :: ws, acc, n, k, h, hn, hl => by
    simp only [List.length_cons] at hn hl
    obtain ⟨j, k1, h1, j0, j9, hk1⟩ := draw_ok (b := 99) (by decide) (by decide) h (by omega)
    obtain ⟨d, k2, h2, hd, hk2⟩ := pick_ok (xs := [.int 0, .int 1, .int (-5), .int 20, .int (100000000 + j)]) (by simp) (by simp) hk1 (by omega)
    have hv : ∃ v : Int, d = .int v ∧ v.natAbs ≤ 2000000000 := by
      simp only [List.mem_cons, List.not_mem_nil, or_false] at hd
      rcases hd with rfl | rfl | rfl | rfl | rfl
      · exact ⟨_, rfl, by decide⟩
      · exact ⟨_, rfl, by decide⟩
      · exact ⟨_, rfl, by decide⟩
      · exact ⟨_, rfl, by decide⟩
      · exact ⟨_, rfl, by omega⟩
    obtain ⟨v, ev, hv2⟩ := hv
    subst ev
    obtain ⟨t, k', t1, t2, t3, t4⟩ := left_comp ws (acc ++ [pr (w, v)]) (n + 1 + 1) k2 hk2 (by omega) (by simp; omega)
    refine ⟨(w, v) :: t, k', by simp [t1], fun p hp => ?_, ⟨t3.1, by have := t3.2; simp only [List.length_cons]; omega⟩, fun e0 e2 e3 e4 e5 e7 e9 e10 e11 e12 e13 e14 e15 sm => ?_⟩
    · rcases List.mem_cons.mp hp with rfl | hp
      · exact hv2
      · exact t2 p hp
    · have r3 : powI (.int 10) (.int 8) = some (.int 100000000) := by
        simp only [powI]
        rw [if_pos (by decide)]
        rfl
      have hl' : acc.length < 1000000 := by omega
      have el : eltL ⟨[e0, .deck, e2, e3, e4, e5, .fz (.str w), e7, .un, e9, e10, e11, e12, e13, e14, e15], k, sm⟩ = .ok (pr (w, v)) ⟨[e0, .deck, e2, e3, e4, e5, .fz (.str w), e7, .un, e9, e10, e11, e12, e13, e14, e15], k2, sm⟩ := by
        simp [eltL, runFn, runFnD, roOf, rdOf, envOf0, seqS, skipS, setS, ownS, retS, ifS, doS, fixS, par2S, parOS, unpS, raiseS, evVar, evVarB, evLit, evNil, evCons, evTup, evLst, evBin, evBinL, ev1, ev1L, evAnd, evOr, evNot, evIf, evT, evTnot, evTand, evTor, evChain, evCall, evCallD, evCallK, ofRo, ofRd, lstOf, evSl, evSlL, ptOf, ptNo, asInt, asBool, toOut, Out.bind, evPop, evApp, evExt, evItL, evItT, evItS, evRng1, evZip, setMany, h1, negD, r3, addI, h2]
      have st : compGo [6] (tgN 6) evYes eltL (.str w :: ws.map .str) acc (stL e0 e2 e3 e4 e5 e7 e9 e10 e11 e12 e13 e14 e15 k sm) = compGo [6] (tgN 6) evYes eltL (ws.map .str) (acc ++ [pr (w, v)]) (stL e0 e2 e3 e4 e5 e7 e9 e10 e11 e12 e13 e14 e15 k2 sm) := by
        rw [compGo]
        simp only [tgN, stL, List.set, evYes, if_true, el, hl', forgetS, forgetE]
      rw [List.map_cons, st, t4]
      simp
theorem S3_ok {n : Int} {k : Dk} {ns : List Str} (hp : ns ∈ prefs) (h : Dn n k) (hn : n + 100 < 1000000000) : ∃ (t : Tb) (k' : Dk), ((t.map (·.1)).Nodup ∧ (∀ w ∈ t.map (·.1), w ∈ W5) ∧ t.length ≤ 5 ∧ 0 < t.length) ∧ Lw t ∧ Dn (n + 11) k' ∧
    ∀ e0 e2 e4 e5 e7 e9 e10 e11 e12 e13 e14 e15 sm, S3 (stL e0 e2 (.fz (.list (ns.map .str))) e4 e5 e7 e9 e10 e11 e12 e13 e14 e15 k sm) = .ok .nx (stL e0 e2 (.fz (.list (ns.map .str))) e4 (.own (t.map pr)) e7 e9 e10 e11 e12 e13 e14 e15 k' sm) := by
  obtain ⟨p1, p2, p3, p4, p5⟩ := prefs_ok ns hp
  obtain ⟨i, k1, h1, i0, i2, hk1⟩ := draw_ok (b := 2) (by decide) (by decide) h (by omega)
  have hne : 0 < ns.length := List.length_pos_iff.mpr p3
  have key : ∀ (more : List Str), (more = [("more" : Str)] ∨ more = []) → slL (.list [.str "more"]) (some i) none = some (more.map .str) → ∃ (t : Tb) (k' : Dk), ((t.map (·.1)).Nodup ∧ (∀ w ∈ t.map (·.1), w ∈ W5) ∧ t.length ≤ 5 ∧ 0 < t.length) ∧ Lw t ∧ Dn (n + 11) k' ∧
    ∀ e0 e2 e4 e5 e7 e9 e10 e11 e12 e13 e14 e15 sm, S3 (stL e0 e2 (.fz (.list (ns.map .str))) e4 e5 e7 e9 e10 e11 e12 e13 e14 e15 k sm) = .ok .nx (stL e0 e2 (.fz (.list (ns.map .str))) e4 (.own (t.map pr)) e7 e9 e10 e11 e12 e13 e14 e15 k' sm) := by
    intro more hm hs
    have hml : more.length ≤ 1 := by rcases hm with rfl | rfl <;> decide
    have sub : (ns ++ more).Sublist (ns ++ [("more" : Str)]) := by rcases hm with rfl | rfl <;> simp
    have ha : addL (.list (ns.map PyData.str)) (.list (more.map PyData.str)) = some (ns.map PyData.str ++ more.map PyData.str) := by
      simp only [addL]
      rw [if_pos (by rw [sizeLine_eq]; simp; omega)]
    have hlen : (ns ++ more).length ≤ 5 := by simp; omega
    have some_ : ∃ (t : Tb) (k' : Dk), t.map (·.1) = ns ++ more ∧ Lw t ∧ Dn (n + 1 + 2 * (ns ++ more).length) k' ∧ ∀ e0 e2 e3 e4 e5 e7 e9 e10 e11 e12 e13 e14 e15 sm, compGo [6] (tgN 6) evYes eltL (ns.map PyData.str ++ more.map PyData.str) [] (stL e0 e2 e3 e4 e5 e7 e9 e10 e11 e12 e13 e14 e15 k1 sm) = .ok (t.map pr) (stL e0 e2 e3 e4 e5 e7 e9 e10 e11 e12 e13 e14 e15 k' sm) := by
      obtain ⟨t, k', t1, t2, t3, t4⟩ := left_comp (ns ++ more) [] (n + 1) k1 hk1 (by omega) (by simp only [List.length_nil]; omega)
      exact ⟨t, k', t1, t2, t3, fun e0 e2 e3 e4 e5 e7 e9 e10 e11 e12 e13 e14 e15 sm => by
        have q := t4 e0 e2 e3 e4 e5 e7 e9 e10 e11 e12 e13 e14 e15 sm
        rwa [List.map_append, List.nil_append] at q⟩
    obtain ⟨t, k', t1, t2, t3, t4⟩ := some_
    have tl : t.length = (ns ++ more).length := by rw [← t1, List.length_map]
    refine ⟨t, k', ⟨by rw [t1]; exact sub.nodup p4, by rw [t1]; exact fun w hw => p5 w (sub.mem hw), by omega, by rw [tl]; simp; omega⟩, t2, ⟨t3.1, by have := t3.2; omega⟩, fun e0 e2 e4 e5 e7 e9 e10 e11 e12 e13 e14 e15 sm => ?_⟩
    have q := t4 e0 e2 (.fz (.list (ns.map .str))) e4 e5 e7 e9 e10 e11 e12 e13 e14 e15 sm
    simp only [stL] at q
    simp [S3, runFn, runFnD, roOf, rdOf, envOf0, seqS, skipS, setS, ownS, retS, ifS, doS, fixS, par2S, parOS, unpS, raiseS, evVar, evVarB, evLit, evNil, evCons, evTup, evLst, evBin, evBinL, ev1, ev1L, evAnd, evOr, evNot, evIf, evT, evTnot, evTand, evTor, evChain, evCall, evCallD, evCallK, ofRo, ofRd, lstOf, evSl, evSlL, ptOf, ptNo, asInt, asBool, toOut, Out.bind, evPop, evApp, evExt, evItL, evItT, evItS, evRng1, evZip, setMany, stL, h1, hs, ha, evComp, forgetS, forgetE, q]
  have c : i = 0 ∨ i = 1 := by omega
  rcases c with rfl | rfl
  · exact key [("more" : Str)] (.inl rfl) rfl
  · exact key [] (.inr rfl) rfl
theorem erase_map {α β : Type} (f : α → β) : ∀ (l : List α) (i : Nat), (l.map f).eraseIdx i = (l.eraseIdx i).map f
  | [], _ => rfl
  | _ :: _, 0 => rfl
  | x :: l, i + 1 => by simp [List.eraseIdx, erase_map f l i]
theorem pop_ok {n : Int} {k : Dk} {t : Tb} (ht : 0 < t.length) (hl : t.length ≤ 5) (h : Dn n k) (hn : n < 1000000000) : ∃ (p : Str × Int) (i : Nat) (k' : Dk), i < t.length ∧ t[i]? = some p ∧ Dn (n + 1) k' ∧
    ∀ e0 e2 e3 e4 e6 e7 e8 e9 e10 e11 e12 e13 e14 e15 sm, popL ⟨[e0, .deck, e2, e3, e4, .own (t.map pr), e6, e7, e8, e9, e10, e11, e12, e13, e14, e15], k, sm⟩ = .ok (pr p) ⟨[e0, .deck, e2, e3, e4, .own ((t.eraseIdx i).map pr), e6, e7, e8, e9, e10, e11, e12, e13, e14, e15], k', sm⟩ := by
  obtain ⟨i, k1, h1, i0, i1, hk1⟩ := draw_ok (b := t.length) (by omega) (by omega) h hn
  have hi : i.toNat < t.length := by omega
  have hg : t[i.toNat]? = some t[i.toNat] := List.getElem?_eq_getElem hi
  have hb : 0 ≤ i ∧ i < 1000000 := ⟨i0, by omega⟩
  refine ⟨t[i.toNat], i.toNat, k1, hi, hg, hk1, fun _ _ _ _ _ _ _ _ _ _ _ _ _ _ _ => ?_⟩
  have h1' : drawF [.int (t.length : Int)] k = .ok (.int i) k1 := h1
  have he := erase_map pr t i.toNat
  simp [popL, runFn, runFnD, roOf, rdOf, envOf0, seqS, skipS, setS, ownS, retS, ifS, doS, fixS, par2S, parOS, unpS, raiseS, evVar, evVarB, evLit, evNil, evCons, evTup, evLst, evBin, evBinL, ev1, ev1L, evAnd, evOr, evNot, evIf, evT, evTnot, evTand, evTor, evChain, evCall, evCallD, evCallK, ofRo, ofRd, lstOf, evSl, evSlL, ptOf, ptNo, asInt, asBool, toOut, Out.bind, evPop, evApp, evExt, evItL, evItT, evItS, evRng1, evZip, setMany, evPopAt, lenD, h1', hb, he, hg]
theorem S4_ok {n : Int} {k : Dk} {t : Tb} (ht : 0 < t.length) (hl : t.length ≤ 5) (h : Dn n k) (hn : n + 10 < 1000000000) : ∃ (u : Tb) (k' : Dk), u.Sublist t ∧ Dn (n + 2) k' ∧
    ∀ e0 e2 e3 e4 e7 e9 e10 e11 e12 e13 e14 e15 sm, S4 (stL e0 e2 e3 e4 (.own (t.map pr)) e7 e9 e10 e11 e12 e13 e14 e15 k sm) = .ok .nx (stL e0 e2 e3 e4 (.own (u.map pr)) e7 e9 e10 e11 e12 e13 e14 e15 k' sm) := by
  obtain ⟨i, k1, h1, i0, i4, hk1⟩ := draw_ok (b := 4) (by decide) (by decide) h (by omega)
  by_cases c : i = 0
  · subst c
    obtain ⟨p, j, k2, hj, hp, hk2, e⟩ := pop_ok ht hl hk1 (by omega)
    exact ⟨t.eraseIdx j, k2, List.eraseIdx_sublist t j, ⟨hk2.1, by have := hk2.2; omega⟩, fun e0 e2 e3 e4 e7 e9 e10 e11 e12 e13 e14 e15 sm => by
      have q := e e0 e2 e3 e4 .un e7 .un e9 e10 e11 e12 e13 e14 e15 sm
      simp [S4, runFn, runFnD, roOf, rdOf, envOf0, seqS, skipS, setS, ownS, retS, ifS, doS, fixS, par2S, parOS, unpS, raiseS, evVar, evVarB, evLit, evNil, evCons, evTup, evLst, evBin, evBinL, ev1, ev1L, evAnd, evOr, evNot, evIf, evT, evTnot, evTand, evTor, evChain, evCall, evCallD, evCallK, ofRo, ofRd, lstOf, evSl, evSlL, ptOf, ptNo, asInt, asBool, toOut, Out.bind, evPop, evApp, evExt, evItL, evItT, evItS, evRng1, evZip, setMany, stL, h1, eqI, q]⟩
  · exact ⟨t, k1, List.Sublist.refl t, ⟨hk1.1, by have := hk1.2; omega⟩, fun _ _ _ _ _ _ _ _ _ _ _ _ _ => by simp [S4, runFn, runFnD, roOf, rdOf, envOf0, seqS, skipS, setS, ownS, retS, ifS, doS, fixS, par2S, parOS, unpS, raiseS, evVar, evVarB, evLit, evNil, evCons, evTup, evLst, evBin, evBinL, ev1, ev1L, evAnd, evOr, evNot, evIf, evT, evTnot, evTand, evTor, evChain, evCall, evCallD, evCallK, ofRo, ofRd, lstOf, evSl, evSlL, ptOf, ptNo, asInt, asBool, toOut, Out.bind, evPop, evApp, evExt, evItL, evItT, evItS, evRng1, evZip, setMany, stL, h1, eqI, c]⟩
theorem erase_perm {α : Type} : ∀ (l : List α) (i : Nat) (x : α), l[i]? = some x → (x :: l.eraseIdx i).Perm l
  | [], _, _, h => by simp at h
  | y :: l, 0, x, h => by
    have : y = x := by simpa using h
    subst this
    exact List.Perm.refl _
  | y :: l, i + 1, x, h => by
    have ih := erase_perm l i x (by simpa using h)
    exact (List.Perm.swap y x _).trans (ih.cons y)
theorem mix_comp : ∀ (m : Nat) (ds acc : List D) (t : Tb) (n : Int) (k : Dk), ds.length = m → t.length = m → m ≤ 5 → Dn n k → n + m < 1000000000 → acc.length + m < 1000 →
    ∃ (u : Tb) (k' : Dk), u.Perm t ∧ Dn (n + m) k' ∧ ∀ e0 e2 e3 e4 e7 e9 e10 e11 e12 e13 e14 e15 sm, compGo [8] (tgN 8) evYes popL ds acc (stL e0 e2 e3 e4 (.own (t.map pr)) e7 e9 e10 e11 e12 e13 e14 e15 k sm) = .ok (acc ++ u.map pr) (stL e0 e2 e3 e4 (.own []) e7 e9 e10 e11 e12 e13 e14 e15 k' sm)
  | 0, ds, acc, t, n, k, hd, ht, _, h, _, _ => by
    have e1 := List.length_eq_zero_iff.mp hd
    have e2 := List.length_eq_zero_iff.mp ht
    subst e1 e2
    exact ⟨[], k, List.Perm.refl _, by simpa using h, fun _ _ _ _ _ _ _ _ _ _ _ _ _ => by simp [compGo]⟩
  | m + 1, ds, acc, t, n, k, hd, ht, hm, h, hn, hl => by
    match ds, hd with
    | d :: ds, hd =>
      obtain ⟨p, i, k1, hi, hp, hk1, e⟩ := pop_ok (t := t) (by omega) (by omega) h (by omega)
      have hlen : (t.eraseIdx i).length = m := by rw [List.length_eraseIdx_of_lt hi]; omega
      obtain ⟨u, k', u1, u2, u3⟩ := mix_comp m ds (acc ++ [pr p]) (t.eraseIdx i) (n + 1) k1 (by simpa using hd) hlen (by omega) hk1 (by omega) (by simp; omega)
      refine ⟨p :: u, k', (u1.cons p).trans (erase_perm t i p hp), ⟨u2.1, by have := u2.2; omega⟩, fun e0 e2 e3 e4 e7 e9 e10 e11 e12 e13 e14 e15 sm => ?_⟩
      have q := e e0 e2 e3 e4 .un e7 (.fz d) e9 e10 e11 e12 e13 e14 e15 sm
      have hl' : acc.length < 1000000 := by omega
      have st : compGo [8] (tgN 8) evYes popL (d :: ds) acc (stL e0 e2 e3 e4 (.own (t.map pr)) e7 e9 e10 e11 e12 e13 e14 e15 k sm) = compGo [8] (tgN 8) evYes popL ds (acc ++ [pr p]) (stL e0 e2 e3 e4 (.own ((t.eraseIdx i).map pr)) e7 e9 e10 e11 e12 e13 e14 e15 k1 sm) := by
        rw [compGo]
        simp only [tgN, stL, List.set, evYes, if_true, q, hl', forgetS, forgetE]
      rw [st, u3]
      simp
theorem intsD_len : ∀ (n : Nat) (i : Int), (intsD i n).length = n := by
  intro n i
  simp [intsD]
theorem S5_ok {n : Int} {k : Dk} {t : Tb} (hl : t.length ≤ 5) (h : Dn n k) (hn : n + 10 < 1000000000) : ∃ (u : Tb) (k' : Dk), u.Perm t ∧ Dn (n + 5) k' ∧
    ∀ e0 e2 e3 e4 e7 e9 e10 e11 e12 e13 e14 e15 sm, S5 (stL e0 e2 e3 e4 (.own (t.map pr)) e7 e9 e10 e11 e12 e13 e14 e15 k sm) = .ok .nx (stL e0 e2 e3 e4 (.own []) (.fz (vD u)) e9 e10 e11 e12 e13 e14 e15 k' sm) := by
  obtain ⟨u, k', u1, u2, u3⟩ := mix_comp t.length (intsD 0 t.length) [] t n k (intsD_len _ _) rfl hl h (by omega) (by simp; omega)
  refine ⟨u, k', u1, ⟨u2.1, by have := u2.2; omega⟩, fun e0 e2 e3 e4 e7 e9 e10 e11 e12 e13 e14 e15 sm => ?_⟩
  have q := u3 e0 e2 e3 e4 e7 e9 e10 e11 e12 e13 e14 e15 sm
  rw [List.nil_append] at q
  have e : ev1 lenD (evVarB 5) (stL e0 e2 e3 e4 (.own (t.map pr)) e7 e9 e10 e11 e12 e13 e14 e15 k sm) = .ok (.int t.length) (stL e0 e2 e3 e4 (.own (t.map pr)) e7 e9 e10 e11 e12 e13 e14 e15 k sm) := by
    simp [ev1, evVarB, stL, lenD, toOut, Out.bind]
  have hr : evRng1 (ev1 lenD (evVarB 5)) (stL e0 e2 e3 e4 (.own (t.map pr)) e7 e9 e10 e11 e12 e13 e14 e15 k sm) = .ok (intsD 0 t.length) (stL e0 e2 e3 e4 (.own (t.map pr)) e7 e9 e10 e11 e12 e13 e14 e15 k sm) := rng_ok hl e
  have c : evComp [8] (evRng1 (ev1 lenD (evVarB 5))) (tgN 8) evYes popL (stL e0 e2 e3 e4 (.own (t.map pr)) e7 e9 e10 e11 e12 e13 e14 e15 k sm) = .ok (u.map pr) (stL e0 e2 e3 e4 (.own []) e7 e9 e10 e11 e12 e13 e14 e15 k' sm) := by
    simp only [evComp, hr, Out.bind_ok]
    exact q
  have f : ev1 tupD (lstOf (evComp [8] (evRng1 (ev1 lenD (evVarB 5))) (tgN 8) evYes popL)) (stL e0 e2 e3 e4 (.own (t.map pr)) e7 e9 e10 e11 e12 e13 e14 e15 k sm) = .ok (vD u) (stL e0 e2 e3 e4 (.own []) e7 e9 e10 e11 e12 e13 e14 e15 k' sm) := by
    simp only [ev1, lstOf, c, Out.bind_ok, tupD, toOut]
    rfl
  unfold S5
  rw [setS_ok f]
  rfl
end Zo
namespace Zo
open PySem PySem.Spec PyProof.Rows L2
/-! ### the law's rows -/
def S6 : Ex := (unpS [9, 10] (evCall f_law_value (evCons (evVar 4) (evCons (ev1 dictD (lstOf (ev1L listD (evVarB 7)))) evNil))))
def S7 : Ex := (par2S 11 12 (evIf (evT (evVar 10)) (evTup (evCons (evLit (.str "told")) (evCons (evVar 9) evNil))) (evTup (evCons (evLit (.str "expr")) (evCons (evVar 4) (evCons (evLit (.bool true)) evNil))))) (ev1 reprD (evTup (evCons (evVar 4) (evCons (evVar 7) evNil)))))
def S8 : Ex := (setS 13 (evCallD 1 f_law_no_expr (evCons (evVar 4) evNil)))
def S9 : Ex := (setS 14 (evCallD 1 f_law_pick (evCons (lstOf (evLst (evCons (evLit .none) (evCons (lstOf (ev1L listD (evVarB 7))) (evCons (evBin addT (evVarB 7) (evTup (evCons (evTup (evCons (evLit (.str "q")) (evCons (evLit (.int 1)) evNil))) (evCons (evTup (evCons (evLit (.str "q")) (evCons (evLit (.int 2)) evNil))) evNil)))) (evCons (evBin addT (evVarB 7) (evTup (evCons (evTup (evCons (evLit (.str "q")) (evCons (evLit (.bool true)) evNil))) evNil))) (evCons (evBin addT (evVarB 7) (evTup (evCons (evTup (evCons (evLit (.str "Q")) (evCons (evLit (.int 1)) evNil))) evNil))) (evCons (evBin addT (evVarB 7) (evTup (evCons (evTup (evCons (evLit (.str "q")) evNil)) evNil))) (evCons (evBin addT (evVarB 7) (evTup (evCons (lstOf (evLst (evCons (evLit (.str "q")) (evCons (evLit (.int 1)) evNil)))) evNil))) (evCons (evBin addT (evVarB 7) (evTup (evCons (evTup (evCons (evLit (.str "q")) (evCons (evLit (.int 1)) (evCons (evLit (.int 2)) evNil)))) evNil))) (evCons (evLit (.str "values")) (evCons (evBin addT (evVarB 7) (evTup (evCons (evTup (evCons (evLit (.str "q")) (evCons (evLit (.str "1")) evNil))) evNil))) (evCons (evBin addT (evVarB 7) (evTup (evCons (evTup (evCons (evLit (.int 7)) (evCons (evLit (.int 1)) evNil))) evNil))) evNil))))))))))))) evNil)))
def S10 : Ex := (setS 15 (lstOf (evLst (evCons (evCall f_law_heard (evCons (evVar 4) (evCons (evVar 7) (evCons (evLit (.bool false)) evNil)))) (evCons (evCall f_law_heard (evCons (evVar 4) (evCons (evVar 7) (evCons (evLit (.bool true)) evNil)))) (evCons (evCall f_law_heard (evCons (evVar 13) (evCons (evVar 14) (evCons (evLit (.bool false)) evNil)))) evNil))))))
def S11 : Ex := (ifS (evTor (evT (evBin neSt (ev1 reprD (evVar 15)) (ev1 reprD (lstOf (evLst (evCons (evVar 11) (evCons (evVar 11) (evCons (evTup (evCons (evLit (.str "expr")) (evCons (evVar 13) (evCons (evLit (.bool true)) evNil)))) evNil)))))))) (evT (evBin neSt (ev1 reprD (evTup (evCons (evVar 4) (evCons (evVar 7) evNil)))) (evVarB 12)))) (retS (evLit (.bool false))) skipS)
def S12 : Ex := (ifS (evT (evBin neSt (ev1 reprD (evCall f_law_heard (evCons (evVar 4) (evCons (evVar 14) (evCons (evLit (.bool true)) evNil))))) (ev1 reprD (evTup (evCons (evLit (.str "number")) (evCons (evVar 14) (evCons (evLit (.bool true)) evNil))))))) (retS (evLit (.bool false))) skipS)
def S13 : Ex := (ifS (evT (evBin neSt (ev1 reprD (lstOf (evLst (evCons (evCall f_is_expr (evCons (evVar 4) evNil)) (evCons (evCallK f_is_expr [0] (evCons (evVar 4) evNil)) (evCons (evCall f_is_expr (evCons (evVar 13) evNil)) evNil)))))) (ev1 reprD (lstOf (evLst (evCons (evLit (.bool true)) (evCons (evLit (.bool true)) (evCons (evLit (.bool false)) evNil)))))))) (retS (evLit (.bool false))) skipS)
def bodyL : Ex := (seqS S1 (seqS S2 (seqS S3 (seqS S4 (seqS S5 (seqS S6 (seqS S7 (seqS S8 (seqS S9 (seqS S10 (seqS S11 (seqS S12 S13))))))))))))
theorem Gd.of {t t' u : Tb} (nd : (t.map (·.1)).Nodup) (w5 : ∀ w ∈ t.map (·.1), w ∈ W5) (hl : t.length ≤ 5) (lw : Lw t) (hs : t'.Sublist t) (hp : u.Perm t') : Gd u ∧ Lw u := by
  have mem : ∀ p ∈ u, p ∈ t := fun p h => hs.mem (hp.mem_iff.mp h)
  refine ⟨⟨?_, fun p h => w5 _ (List.mem_map.mpr ⟨p, mem p h, rfl⟩), fun p h => Nat.lt_of_le_of_lt (lw p (mem p h)) (by decide), by rw [hp.length_eq]; exact Nat.le_trans hs.length_le hl⟩, fun p h => lw p (mem p h)⟩
  exact (hp.map _).nodup_iff.mpr ((hs.map _).nodup nd)
def due (a : E) (u : Tb) : D := if a.has u then .tuple [.str "told", .int (a.val u)] else .tuple [.str "expr", a.d, .bool true]
section
variable {a : E} {u : Tb} {e0 e2 e3 e5 e7 e9 e10 e11 e12 e13 e14 e15 : Sv} {k : Dk} {sm : Bool} {v y : D}
theorem S6_ok (h : a.ok) (hd : a.dep ≤ 4) (hs : a.size ≤ 15) (g : Gd u) : S6 (stL e0 e2 e3 (.fz a.d) e5 (.fz (vD u)) e9 e10 e11 e12 e13 e14 e15 k sm) = .ok .nx (stL e0 e2 e3 (.fz a.d) e5 (.fz (vD u)) (.fz (.int (a.val u))) (.fz (.bool (a.has u))) e11 e12 e13 e14 e15 k sm) := by
  have h1 := v_value (t := u) h (by omega) (by omega)
  have h2 := dict_tbL g.nd
  simp [S6, runFn, runFnD, roOf, rdOf, envOf0, seqS, skipS, setS, ownS, retS, ifS, doS, fixS, par2S, parOS, unpS, raiseS, evVar, evVarB, evLit, evNil, evCons, evTup, evLst, evBin, evBinL, ev1, ev1L, evAnd, evOr, evNot, evIf, evT, evTnot, evTand, evTor, evChain, evCall, evCallD, evCallK, ofRo, ofRd, lstOf, evSl, evSlL, ptOf, ptNo, asInt, asBool, toOut, Out.bind, evPop, evApp, evExt, evItL, evItT, evItS, evRng1, evZip, setMany, stL, vD, ev1L, listD, h2, h1]
theorem okA (h : a.ok) (hd : a.dep ≤ 4) : Ok 1092 4 a.d := (okE a h).mono (eB_mono hd) hd
theorem ok_prs (g : Gd u) : ∀ d ∈ u.map pr, Ok 26 2 d := fun d hd => by
  obtain ⟨p, hp, e⟩ := List.mem_map.mp hd
  subst e
  exact ok_tuple (all2 (okd_w5 (g.w5 p hp)) ((ok_int (g.sm p hp)).mono (Nat.zero_le _) (Nat.le_refl _)))
theorem ok_ext (g : Gd u) {es : List D} (hl : es.length ≤ 2) (h : ∀ d ∈ es, Ok 26 2 d) : Ok 300 4 (.tuple (u.map pr ++ es)) := by
  have := g.len
  refine (ok_tuple (b := 26) (n := 2) fun d hd => (List.mem_append.mp hd).elim (ok_prs g d) (h d)).mono ?_ (by decide)
  simp only [List.length_append, List.length_map]
  omega
theorem ok_vD (g : Gd u) : Ok 300 4 (vD u) := by
  have q := ok_ext g (es := []) (by decide) (by simp)
  rwa [List.append_nil] at q
theorem ok_bads (g : Gd u) : ∀ y ∈ badL u, Ok 300 4 y := by
  have hl := g.len
  intro y hy
  simp only [badL, List.mem_cons, List.not_mem_nil, or_false] at hy
  rcases hy with rfl | rfl | rfl | rfl | rfl | rfl | rfl | rfl | rfl | rfl | rfl
  · decide +kernel
  · refine (ok_list (ok_prs g)).mono ?_ (by decide)
    simp only [List.length_map]; omega
  · exact ok_ext g (by decide) (by decide +kernel)
  · exact ok_ext g (by decide) (by decide +kernel)
  · exact ok_ext g (by decide) (by decide +kernel)
  · exact ok_ext g (by decide) (by decide +kernel)
  · exact ok_ext g (by decide) (by decide +kernel)
  · exact ok_ext g (by decide) (by decide +kernel)
  · decide +kernel
  · exact ok_ext g (by decide) (by decide +kernel)
  · exact ok_ext g (by decide) (by decide +kernel)
theorem r_pair (h : a.ok) (hd : a.dep ≤ 4) (g : Gd u) : reprD (.tuple [a.d, vD u]) = some (.str (PyData.tuple [a.d, vD u]).shown) :=
  repr_ok rfl (ok_tuple (all2 (okA h hd) ((ok_vD g).mono (show 300 ≤ 1092 by decide) (Nat.le_refl _)))) (by simp) (by decide)
theorem S7_ok (h : a.ok) (hd : a.dep ≤ 4) (g : Gd u) : S7 (stL e0 e2 e3 (.fz a.d) e5 (.fz (vD u)) (.fz (.int (a.val u))) (.fz (.bool (a.has u))) e11 e12 e13 e14 e15 k sm) = .ok .nx (stL e0 e2 e3 (.fz a.d) e5 (.fz (vD u)) (.fz (.int (a.val u))) (.fz (.bool (a.has u))) (.fz (due a u)) (.fz (.str (PyData.tuple [a.d, vD u]).shown)) e13 e14 e15 k sm) := by
  have h1 := r_pair h hd g
  cases c : a.has u <;> simp [S7, runFn, runFnD, roOf, rdOf, envOf0, seqS, skipS, setS, ownS, retS, ifS, doS, fixS, par2S, parOS, unpS, raiseS, evVar, evVarB, evLit, evNil, evCons, evTup, evLst, evBin, evBinL, ev1, ev1L, evAnd, evOr, evNot, evIf, evT, evTnot, evTand, evTor, evChain, evCall, evCallD, evCallK, ofRo, ofRd, lstOf, evSl, evSlL, ptOf, ptNo, asInt, asBool, toOut, Out.bind, evPop, evApp, evExt, evItL, evItT, evItS, evRng1, evZip, setMany, stL, c, due, h1]
theorem S8_ok {n : Int} (a : E) (h : Dn n k) (hn : n < 1000000000) : ∃ v ∈ neL a.d, ∃ k', Dn (n + 1) k' ∧ ∀ e0 e2 e3 e5 e7 e9 e10 e11 e12 e13 e14 e15 sm, S8 (stL e0 e2 e3 (.fz a.d) e5 e7 e9 e10 e11 e12 e13 e14 e15 k sm) = .ok .nx (stL e0 e2 e3 (.fz a.d) e5 e7 e9 e10 e11 e12 (.fz v) e14 e15 k' sm) := by
  obtain ⟨v, k', e, hv, hk⟩ := ne_ok (a := a.d) h hn
  exact ⟨v, hv, k', hk, fun _ _ _ _ _ _ _ _ _ _ _ _ _ => by simp [S8, runFn, runFnD, roOf, rdOf, envOf0, seqS, skipS, setS, ownS, retS, ifS, doS, fixS, par2S, parOS, unpS, raiseS, evVar, evVarB, evLit, evNil, evCons, evTup, evLst, evBin, evBinL, ev1, ev1L, evAnd, evOr, evNot, evIf, evT, evTnot, evTand, evTor, evChain, evCall, evCallD, evCallK, ofRo, ofRd, lstOf, evSl, evSlL, ptOf, ptNo, asInt, asBool, toOut, Out.bind, evPop, evApp, evExt, evItL, evItT, evItS, evRng1, evZip, setMany, stL, e]⟩
theorem S9_ok {n : Int} (u : Tb) (hl : u.length ≤ 5) (h : Dn n k) (hn : n < 1000000000) : ∃ y ∈ badL u, ∃ k', Dn (n + 1) k' ∧ ∀ e0 e2 e3 e4 e5 e9 e10 e11 e12 e13 e14 e15 sm, S9 (stL e0 e2 e3 e4 e5 (.fz (vD u)) e9 e10 e11 e12 e13 e14 e15 k sm) = .ok .nx (stL e0 e2 e3 e4 e5 (.fz (vD u)) e9 e10 e11 e12 e13 (.fz y) e15 k' sm) := by
  obtain ⟨y, k', e, hy, hk⟩ := pick_ok (xs := badL u) (by simp [badL]) (by simp [badL]) h hn
  refine ⟨y, hy, k', hk, fun _ _ _ _ _ _ _ _ _ _ _ _ _ => ?_⟩
  have ad : ∀ es : List D, es.length ≤ 2 → addT (.tuple (u.map pr)) (.tuple es) = some (.tuple (u.map pr ++ es)) := fun es he => by
    simp only [addT]
    rw [if_pos (by rw [sizeLine_eq, List.length_map]; omega)]
  have a1 := ad [.tuple [.str "q", .int 1], .tuple [.str "q", .int 2]] (by decide)
  have a2 := ad [.tuple [.str "q", .bool true]] (by decide)
  have a3 := ad [.tuple [.str "Q", .int 1]] (by decide)
  have a4 := ad [.tuple [.str "q"]] (by decide)
  have a5 := ad [.list [.str "q", .int 1]] (by decide)
  have a6 := ad [.tuple [.str "q", .int 1, .int 2]] (by decide)
  have a7 := ad [.tuple [.str "q", .str "1"]] (by decide)
  have a8 := ad [.tuple [.int 7, .int 1]] (by decide)
  simp only [badL] at e
  simp [S9, runFn, runFnD, roOf, rdOf, envOf0, seqS, skipS, setS, ownS, retS, ifS, doS, fixS, par2S, parOS, unpS, raiseS, evVar, evVarB, evLit, evNil, evCons, evTup, evLst, evBin, evBinL, ev1, ev1L, evAnd, evOr, evNot, evIf, evT, evTnot, evTand, evTor, evChain, evCall, evCallD, evCallK, ofRo, ofRd, lstOf, evSl, evSlL, ptOf, ptNo, asInt, asBool, toOut, Out.bind, evPop, evApp, evExt, evItL, evItT, evItS, evRng1, evZip, setMany, stL, vD, ev1L, listD, a1, a2, a3, a4, a5, a6, a7, a8, e]
def exD (v : D) : D := .tuple [.str "expr", v, .bool true]
def nuD (v : D) : D := .tuple [.str "number", v, .bool true]
theorem due_ok (h : a.ok) (hd : a.dep ≤ 4) (hs : a.size ≤ 15) (g : Gd u) (c : Bool) : f_law_heard [a.d, vD u, .bool c] = .ok (due a u) := by
  have q := value_ok h (by omega) (by omega) g
  unfold due
  cases hh : a.has u with
  | true => rw [hh, if_pos rfl] at q; rw [if_pos rfl]; exact heard_ok q
  | false => rw [hh, if_neg (by decide)] at q; rw [if_neg (by decide)]; exact heard_ex q
theorem S10_ok (h : a.ok) (hd : a.dep ≤ 4) (hs : a.size ≤ 15) (g : Gd u) (hv : v ∈ neL a.d) : S10 (stL e0 e2 e3 (.fz a.d) e5 (.fz (vD u)) e9 e10 e11 e12 (.fz v) (.fz y) e15 k sm) = .ok .nx (stL e0 e2 e3 (.fz a.d) e5 (.fz (vD u)) e9 e10 e11 e12 (.fz v) (.fz y) (.fz (.list [due a u, due a u, exD v])) k sm) := by
  have h1 := due_ok h hd hs g true
  have h2 := due_ok h hd hs g false
  have h3 := heard_ex (c := false) (value_no (y := y) (v_ne h (by omega) (by omega) v hv))
  simp [S10, runFn, runFnD, roOf, rdOf, envOf0, seqS, skipS, setS, ownS, retS, ifS, doS, fixS, par2S, parOS, unpS, raiseS, evVar, evVarB, evLit, evNil, evCons, evTup, evLst, evBin, evBinL, ev1, ev1L, evAnd, evOr, evNot, evIf, evT, evTnot, evTand, evTor, evChain, evCall, evCallD, evCallK, ofRo, ofRd, lstOf, evSl, evSlL, ptOf, ptNo, asInt, asBool, toOut, Out.bind, evPop, evApp, evExt, evItL, evItT, evItS, evRng1, evZip, setMany, stL, h1, h2, h3, exD]
theorem ok_due (h : a.ok) (la : a.low) (hd : a.dep ≤ 4) (hs : a.size ≤ 15) (lw : Lw u) : Ok 3300 5 (due a u) := by
  have hv : (a.val u).natAbs < 10 ^ 12 := by
    have := val_low lw a la
    omega
  unfold due
  cases a.has u with
  | true => exact (ok_tuple (all2 ((show Ok 10 1 (.str "told") by decide +kernel)) ((ok_int hv).mono (Nat.zero_le _) (Nat.le_refl _)))).mono (by simp) (by decide)
  | false => exact (ok_tuple (all3 ((show Ok 10 1 (.str "expr") by decide +kernel).mono (show 10 ≤ 1092 by decide) (show 1 ≤ 4 by decide)) (okA h hd) ((ok_bool true).mono (Nat.zero_le _) (by decide)))).mono (by simp) (by decide)
theorem ok_nel (h : a.ok) (hd : a.dep ≤ 4) (hv : v ∈ neL a.d) : Ok 7000 7 v := (ok_ne h v hv).mono (by have := eB_mono hd; have e : eB 4 = 1092 := rfl; omega) (by omega)
theorem S11_ok (h : a.ok) (la : a.low) (hd : a.dep ≤ 4) (hs : a.size ≤ 15) (g : Gd u) (lw : Lw u) (hv : v ∈ neL a.d) : S11 (stL e0 e2 e3 (.fz a.d) e5 (.fz (vD u)) e9 e10 (.fz (due a u)) (.fz (.str (PyData.tuple [a.d, vD u]).shown)) (.fz v) (.fz y) (.fz (.list [due a u, due a u, exD v])) k sm) = .ok .nx (stL e0 e2 e3 (.fz a.d) e5 (.fz (vD u)) e9 e10 (.fz (due a u)) (.fz (.str (PyData.tuple [a.d, vD u]).shown)) (.fz v) (.fz y) (.fz (.list [due a u, due a u, exD v])) k sm) := by
  have od := (ok_due h la hd hs lw).mono (show 3300 ≤ 30000 by decide) (show 5 ≤ 8 by decide)
  have ov : Ok 30000 8 (exD v) := (ok_tuple (all3 ((show Ok 10 1 (.str "expr") by decide +kernel).mono (show 10 ≤ 7000 by decide) (show 1 ≤ 7 by decide)) (ok_nel h hd hv) ((ok_bool true).mono (Nat.zero_le _) (by decide)))).mono (by simp) (by decide)
  have h1 : reprD (.list [due a u, due a u, exD v]) = _ := repr_ok rfl (ok_list (all3 od od ov)) (by simp) (by decide)
  have h2 := r_pair h hd g
  simp only [exD] at h1
  simp [S11, runFn, runFnD, roOf, rdOf, envOf0, seqS, skipS, setS, ownS, retS, ifS, doS, fixS, par2S, parOS, unpS, raiseS, evVar, evVarB, evLit, evNil, evCons, evTup, evLst, evBin, evBinL, ev1, ev1L, evAnd, evOr, evNot, evIf, evT, evTnot, evTand, evTor, evChain, evCall, evCallD, evCallK, ofRo, ofRd, lstOf, evSl, evSlL, ptOf, ptNo, asInt, asBool, toOut, Out.bind, evPop, evApp, evExt, evItL, evItT, evItS, evRng1, evZip, setMany, stL, exD, h1, h2, neSt]
theorem S12_ok (h : a.ok) (hd : a.dep ≤ 4) (hs : a.size ≤ 15) (g : Gd u) (hy : y ∈ badL u) : S12 (stL e0 e2 e3 (.fz a.d) e5 e7 e9 e10 e11 e12 e13 (.fz y) e15 k sm) = .ok .nx (stL e0 e2 e3 (.fz a.d) e5 e7 e9 e10 e11 e12 e13 (.fz y) e15 k sm) := by
  have h1 := heard_nu (c := true) (value_bad (v_E h (by omega) (by omega)) (v_bads g y hy))
  have h2 : reprD (.tuple [.str "number", y, .bool true]) = _ := repr_ok rfl (ok_tuple (all3 ((show Ok 10 1 (.str "number") by decide +kernel).mono (show 10 ≤ 300 by decide) (show 1 ≤ 4 by decide)) (ok_bads g y hy) ((ok_bool true).mono (Nat.zero_le _) (by decide)))) (by simp) (by decide)
  simp [S12, runFn, runFnD, roOf, rdOf, envOf0, seqS, skipS, setS, ownS, retS, ifS, doS, fixS, par2S, parOS, unpS, raiseS, evVar, evVarB, evLit, evNil, evCons, evTup, evLst, evBin, evBinL, ev1, ev1L, evAnd, evOr, evNot, evIf, evT, evTnot, evTand, evTor, evChain, evCall, evCallD, evCallK, ofRo, ofRd, lstOf, evSl, evSlL, ptOf, ptNo, asInt, asBool, toOut, Out.bind, evPop, evApp, evExt, evItL, evItT, evItS, evRng1, evZip, setMany, stL, h1, h2, neSt]
theorem S13_ok (h : a.ok) (hd : a.dep ≤ 4) (hs : a.size ≤ 15) (hv : v ∈ neL a.d) : S13 (stL e0 e2 e3 (.fz a.d) e5 e7 e9 e10 e11 e12 (.fz v) e14 e15 k sm) = .ok .nx (stL e0 e2 e3 (.fz a.d) e5 e7 e9 e10 e11 e12 (.fz v) e14 e15 k sm) := by
  have f1 := v_E h (by omega) (by omega)
  have f2 := v_ne h (by omega) (by omega) v hv
  have g1 : f_is_expr [a.d] = .ok (.bool true) := by simp [f_is_expr, b_is_expr, runFn, runFnD, roOf, rdOf, envOf0, seqS, skipS, setS, ownS, retS, ifS, doS, fixS, par2S, parOS, unpS, raiseS, evVar, evVarB, evLit, evNil, evCons, evTup, evLst, evBin, evBinL, ev1, ev1L, evAnd, evOr, evNot, evIf, evT, evTnot, evTand, evTor, evChain, evCall, evCallD, evCallK, ofRo, ofRd, lstOf, evSl, evSlL, ptOf, ptNo, asInt, asBool, toOut, Out.bind, evPop, evApp, evExt, evItL, evItT, evItS, evRng1, evZip, setMany, f1]
  have g2 : f_is_expr [v] = .ok (.bool false) := by simp [f_is_expr, b_is_expr, runFn, runFnD, roOf, rdOf, envOf0, seqS, skipS, setS, ownS, retS, ifS, doS, fixS, par2S, parOS, unpS, raiseS, evVar, evVarB, evLit, evNil, evCons, evTup, evLst, evBin, evBinL, ev1, ev1L, evAnd, evOr, evNot, evIf, evT, evTnot, evTand, evTor, evChain, evCall, evCallD, evCallK, ofRo, ofRd, lstOf, evSl, evSlL, ptOf, ptNo, asInt, asBool, toOut, Out.bind, evPop, evApp, evExt, evItL, evItT, evItS, evRng1, evZip, setMany, f2]
  have p : pick [0] [a.d] = [a.d] := rfl
  have h3 : reprD (.list [.bool true, .bool true, .bool false]) = _ := repr_ok rfl (ok_list (all3 (ok_bool true) (ok_bool true) (ok_bool false))) (by simp) (by decide)
  simp [S13, runFn, runFnD, roOf, rdOf, envOf0, seqS, skipS, setS, ownS, retS, ifS, doS, fixS, par2S, parOS, unpS, raiseS, evVar, evVarB, evLit, evNil, evCons, evTup, evLst, evBin, evBinL, ev1, ev1L, evAnd, evOr, evNot, evIf, evT, evTnot, evTand, evTor, evChain, evCall, evCallD, evCallK, ofRo, ofRd, lstOf, evSl, evSlL, ptOf, ptNo, asInt, asBool, toOut, Out.bind, evPop, evApp, evExt, evItL, evItT, evItS, evRng1, evZip, setMany, stL, g1, g2, p, h3, neSt]
end
theorem body_ok {n : Int} {k : Dk} (h : Dn n k) (hn : n + 400 < 1000000000) : ∃ q3 q4 q5 q7 q9 q10 q11 q12 q13 q14 q15 k', Dn (n + 60) k' ∧ ∀ e0 e2 e3 e4 e5 e7 e9 e10 e11 e12 e13 e14 e15 sm, bodyL (stL e0 e2 e3 e4 e5 e7 e9 e10 e11 e12 e13 e14 e15 k sm) = .ok .nx (stL e0 e2 q3 q4 q5 q7 q9 q10 q11 q12 q13 q14 q15 k' sm) := by
  obtain ⟨ns, hns, k1, hk1, h1⟩ := S1_ok h (by omega)
  obtain ⟨p1, p2, p3, p4, p5⟩ := prefs_ok ns hns
  obtain ⟨a, k2, ha, la, da, sa, hk2, h2⟩ := S2_ok p1 p2 hk1 (by omega)
  obtain ⟨t, k3, ⟨t1, t2, t3, t4⟩, lt, hk3, h3⟩ := S3_ok hns hk2 (by omega)
  obtain ⟨t', k4, ts, hk4, h4⟩ := S4_ok t4 t3 hk3 (by omega)
  obtain ⟨u, k5, tp, hk5, h5⟩ := S5_ok (Nat.le_trans ts.length_le t3) hk4 (by omega)
  obtain ⟨g, lw⟩ := Gd.of t1 t2 t3 lt ts tp
  obtain ⟨v, hv, k6, hk6, h8⟩ := S8_ok a hk5 (by omega)
  obtain ⟨y, hy, k7, hk7, h9⟩ := S9_ok u g.len hk6 (by omega)
  refine ⟨.fz (.list (ns.map .str)), .fz a.d, .own [], .fz (vD u), .fz (.int (a.val u)), .fz (.bool (a.has u)), .fz (due a u), .fz (.str (PyData.tuple [a.d, vD u]).shown), .fz v, .fz y, .fz (.list [due a u, due a u, exD v]), k7, ⟨hk7.1, by have := hk7.2; omega⟩, fun e0 e2 e3 e4 e5 e7 e9 e10 e11 e12 e13 e14 e15 sm => ?_⟩
  unfold bodyL
  rw [seqS_nx (h1 ..), seqS_nx (h2 ..), seqS_nx (h3 ..), seqS_nx (h4 ..), seqS_nx (h5 ..), seqS_nx (S6_ok ha da sa g), seqS_nx (S7_ok ha da g), seqS_nx (h8 ..), seqS_nx (h9 ..), seqS_nx (S10_ok ha da sa g hv), seqS_nx (S11_ok ha la da sa g lw hv), seqS_nx (S12_ok ha da sa g hy)]
  exact S13_ok ha da sa hv
theorem loop_L {e0 : Sv} {sm : Bool} : ∀ (ds : List D) (e2 e3 e4 e5 e7 e9 e10 e11 e12 e13 e14 e15 : Sv) (k : Dk) (n : Int), Dn n k → n + 400 * (ds.length + 1) < 1000000000 → ∃ s, forGo (tgN 2) bodyL ds (stL e0 e2 e3 e4 e5 e7 e9 e10 e11 e12 e13 e14 e15 k sm) = .ok .nx s
  | [], _, _, _, _, _, _, _, _, _, _, _, _, _, _, _, _ => ⟨_, rfl⟩
  | d :: ds, e2, e3, e4, e5, e7, e9, e10, e11, e12, e13, e14, e15, k, n, h, hn => by
    simp only [List.length_cons] at hn
    obtain ⟨q3, q4, q5, q7, q9, q10, q11, q12, q13, q14, q15, k', hk, e⟩ := body_ok h (by omega)
    obtain ⟨s, e'⟩ := loop_L (e0 := e0) (sm := sm) ds (.fz d) q3 q4 q5 q7 q9 q10 q11 q12 q13 q14 q15 k' (n + 60) hk (by omega)
    refine ⟨s, ?_⟩
    have hb : forGo (tgN 2) bodyL (d :: ds) (stL e0 e2 e3 e4 e5 e7 e9 e10 e11 e12 e13 e14 e15 k sm) = stepS (bodyL (stL e0 (.fz d) e3 e4 e5 e7 e9 e10 e11 e12 e13 e14 e15 k sm)) (forGo (tgN 2) bodyL ds) := rfl
    rw [hb, e]
    exact e'
theorem law_pure (ns : List Int) (h : ns.length ≤ 63) : ∃ s', b_law (lawMs 14 (begun ns 95015)) = .ok (.rt (.bool true)) s' := by
  obtain ⟨s, e⟩ := loop_L (e0 := .un) (sm := false) (intsD 0 6) .un .un .un .un .un .un .un .un .un .un .un .un (begun ns 95015) 0 ⟨Int.le_refl 0, Int.le_refl 0⟩ (by decide)
  have eb : b_law = seqS (forS (evRng1 (evLit (.int 6))) (tgN 2) bodyL) (retS (evLit (.bool true))) := rfl
  have ef : forS (evRng1 (evLit (.int 6))) (tgN 2) bodyL (lawMs 14 (begun ns 95015)) = .ok .nx s := e
  rw [eb, seqS_nx ef]
  exact ⟨_, rfl⟩
end Zo
namespace Zo
open PySem PySem.Spec PyProof.Rows L2
theorem all_mk {l : PySem.W.OpenLaw} {w : World} {K : Fr} {h : Heap} {mg : Str → Option Value} {fa : Addr} (X : K.In h) (G : h.Ns mainGlobals mg) (hfa : mg "law" = some (.ref fa))
    {f0 f1 f2 f3 f4 f9 f11 f12 f13 f14 f15 f16 f5 f6 f7 f8 f10 f17 f18 : Addr} {od0 an0 od1 an1 od2 an2 od3 an3 od4 an4 od9 an9 od11 an11 od12 an12 od13 an13 od14 an14 od15 an15 od16 an16 od5 an5 od6 an6 od7 an7 od8 an8 od10 an10 od17 an17 od18 an18 : Option Addr} {sl0 sl1 sl2 sl3 sl4 sl9 sl11 sl12 sl13 sl14 sl15 sl16 sl5 sl6 sl7 sl8 sl10 sl17 sl18 : Array (Option Value)} {oc0 kV0 dc0 pm0 cd0 ct0 oc1 kV1 dc1 pm1 cd1 ct1 oc2 kV2 dc2 pm2 cd2 ct2 oc3 kV3 dc3 pm3 cd3 ct3 oc4 kV4 dc4 pm4 cd4 ct4 oc9 kV9 dc9 pm9 cd9 ct9 oc11 kV11 dc11 pm11 cd11 ct11 oc12 kV12 dc12 pm12 cd12 ct12 oc13 kV13 dc13 pm13 cd13 ct13 oc14 kV14 dc14 pm14 cd14 ct14 oc15 kV15 dc15 pm15 cd15 ct15 oc16 kV16 dc16 pm16 cd16 ct16 oc5 kV5 dc5 pm5 cd5 ct5 oc6 kV6 dc6 pm6 cd6 ct6 oc7 kV7 dc7 pm7 cd7 ct7 oc8 kV8 dc8 pm8 cd8 ct8 oc10 kV10 dc10 pm10 cd10 ct10 oc17 kV17 dc17 pm17 cd17 ct17 oc18 kV18 dc18 pm18 cd18 ct18 : Value}
    {tk_FIGURES : Tok} {tk_GREATEST : Tok} {tk_MOST_SIGNS : Tok} {tk_SIGNS_0 tk_SIGNS_1 : Tok} {q_SIGNSa : Addr} {q_SIGNSn : Nat} {q_SIGNSs : Array (Option Value)} {tk_SMALL : Tok} {za : Addr} {e1C e1N e1f : Addr} {e1nm e1q : Str} {e1bs : List Value} {e1sn : List Str} {e1sub : List Value} {e1ab : Bool} {e1col : Option Bool} {e1dd e1od e1an : Option Addr} {e1m0 e1m1 e1m2 e1m3 e1m5 : Option Value} {e1sl : Array (Option Value)} {e1oc e1dc e1pm e1cd e1ct : Value} {e0C e0N e0f : Addr} {e0nm e0q : Str} {e0bs : List Value} {e0sn : List Str} {e0sub : List Value} {e0ab : Bool} {e0col : Option Bool} {e0dd e0od e0an : Option Addr} {e0m0 e0m1 e0m2 e0m3 e0m5 : Option Value} {e0sl : Array (Option Value)} {e0oc e0dc e0pm e0cd e0ct : Value}
    (a0 : PySem.W.nsIn K mainGlobals "is_whole" = some (some (.ref f0)))
    (l0 : K.lookup f0 = some ⟨oc0, od0, .func (PySem.W.fnOf "is_whole" "is_whole" (defArgs s_is_whole) (defBody s_is_whole) (defScope s_is_whole) .none kV0 dc0 pm0 an0 cd0 ct0), sl0⟩)
    (c0 : PySem.W.codeIn K cd0 "is_whole" = true)
    (k0 : PySem.W.keepIn K (.ref f0) = true)
    (a1 : PySem.W.nsIn K mainGlobals "is_tuple_of" = some (some (.ref f1)))
    (l1 : K.lookup f1 = some ⟨oc1, od1, .func (PySem.W.fnOf "is_tuple_of" "is_tuple_of" (defArgs s_is_tuple_of) (defBody s_is_tuple_of) (defScope s_is_tuple_of) .none kV1 dc1 pm1 an1 cd1 ct1), sl1⟩)
    (c1 : PySem.W.codeIn K cd1 "is_tuple_of" = true)
    (k1 : PySem.W.keepIn K (.ref f1) = true)
    (a2 : PySem.W.nsIn K mainGlobals "is_one_of" = some (some (.ref f2)))
    (l2 : K.lookup f2 = some ⟨oc2, od2, .func (PySem.W.fnOf "is_one_of" "is_one_of" (defArgs s_is_one_of) (defBody s_is_one_of) (defScope s_is_one_of) .none kV2 dc2 pm2 an2 cd2 ct2), sl2⟩)
    (c2 : PySem.W.codeIn K cd2 "is_one_of" = true)
    (k2 : PySem.W.keepIn K (.ref f2) = true)
    (a3 : PySem.W.nsIn K mainGlobals "is_name" = some (some (.ref f3)))
    (l3 : K.lookup f3 = some ⟨oc3, od3, .func (PySem.W.fnOf "is_name" "is_name" (defArgs s_is_name) (defBody s_is_name) (defScope s_is_name) .none kV3 dc3 pm3 an3 cd3 ct3), sl3⟩)
    (c3 : PySem.W.codeIn K cd3 "is_name" = true)
    (k3 : PySem.W.keepIn K (.ref f3) = true)
    (a4 : PySem.W.nsIn K mainGlobals "is_expr_value" = some (some (.ref f4)))
    (l4 : K.lookup f4 = some ⟨oc4, od4, .func (PySem.W.fnOf "is_expr_value" "is_expr_value" (defArgs s_is_expr_value) (defBody s_is_expr_value) (defScope s_is_expr_value) .none kV4 dc4 pm4 an4 cd4 ct4), sl4⟩)
    (c4 : PySem.W.codeIn K cd4 "is_expr_value" = true)
    (k4 : PySem.W.keepIn K (.ref f4) = true)
    (a9 : PySem.W.nsIn K mainGlobals "is_expr" = some (some (.ref f9)))
    (l9 : K.lookup f9 = some ⟨oc9, od9, .func (PySem.W.fnOf "is_expr" "is_expr" (defArgs s_is_expr) (defBody s_is_expr) (defScope s_is_expr) .none kV9 dc9 pm9 an9 cd9 ct9), sl9⟩)
    (c9 : PySem.W.codeIn K cd9 "is_expr" = true)
    (k9 : PySem.W.keepIn K (.ref f9) = true)
    (a11 : PySem.W.nsIn K mainGlobals "_law_begun" = some (some (.ref f11)))
    (l11 : K.lookup f11 = some ⟨oc11, od11, .func (PySem.W.fnOf "_law_begun" "_law_begun" (defArgs s_law_begun) (defBody s_law_begun) (defScope s_law_begun) .none kV11 dc11 pm11 an11 cd11 ct11), sl11⟩)
    (c11 : PySem.W.codeIn K cd11 "_law_begun" = true)
    (k11 : PySem.W.keepIn K (.ref f11) = true)
    (a12 : PySem.W.nsIn K mainGlobals "_law_draw" = some (some (.ref f12)))
    (l12 : K.lookup f12 = some ⟨oc12, od12, .func (PySem.W.fnOf "_law_draw" "_law_draw" (defArgs s_law_draw) (defBody s_law_draw) (defScope s_law_draw) .none kV12 dc12 pm12 an12 cd12 ct12), sl12⟩)
    (c12 : PySem.W.codeIn K cd12 "_law_draw" = true)
    (k12 : PySem.W.keepIn K (.ref f12) = true)
    (a13 : PySem.W.nsIn K mainGlobals "_law_pick" = some (some (.ref f13)))
    (l13 : K.lookup f13 = some ⟨oc13, od13, .func (PySem.W.fnOf "_law_pick" "_law_pick" (defArgs s_law_pick) (defBody s_law_pick) (defScope s_law_pick) .none kV13 dc13 pm13 an13 cd13 ct13), sl13⟩)
    (c13 : PySem.W.codeIn K cd13 "_law_pick" = true)
    (k13 : PySem.W.keepIn K (.ref f13) = true)
    (a14 : PySem.W.nsIn K mainGlobals "_law_expr" = some (some (.ref f14)))
    (l14 : K.lookup f14 = some ⟨oc14, od14, .func (PySem.W.fnOf "_law_expr" "_law_expr" (defArgs s_law_expr) (defBody s_law_expr) (defScope s_law_expr) .none kV14 dc14 pm14 an14 cd14 ct14), sl14⟩)
    (c14 : PySem.W.codeIn K cd14 "_law_expr" = true)
    (k14 : PySem.W.keepIn K (.ref f14) = true)
    (a15 : PySem.W.nsIn K mainGlobals "_law_value" = some (some (.ref f15)))
    (l15 : K.lookup f15 = some ⟨oc15, od15, .func (PySem.W.fnOf "_law_value" "_law_value" (defArgs s_law_value) (defBody s_law_value) (defScope s_law_value) .none kV15 dc15 pm15 an15 cd15 ct15), sl15⟩)
    (c15 : PySem.W.codeIn K cd15 "_law_value" = true)
    (k15 : PySem.W.keepIn K (.ref f15) = true)
    (a16 : PySem.W.nsIn K mainGlobals "_law_no_expr" = some (some (.ref f16)))
    (l16 : K.lookup f16 = some ⟨oc16, od16, .func (PySem.W.fnOf "_law_no_expr" "_law_no_expr" (defArgs s_law_no_expr) (defBody s_law_no_expr) (defScope s_law_no_expr) .none kV16 dc16 pm16 an16 cd16 ct16), sl16⟩)
    (c16 : PySem.W.codeIn K cd16 "_law_no_expr" = true)
    (k16 : PySem.W.keepIn K (.ref f16) = true)
    (a5 : PySem.W.nsIn K mainGlobals "parts_of" = some (some (.ref f5)))
    (l5 : K.lookup f5 = some ⟨oc5, od5, .func (PySem.W.fnOf "parts_of" "parts_of" (defArgs s_parts_of) (defBody s_parts_of) (defScope s_parts_of) .none kV5 dc5 pm5 an5 cd5 ct5), sl5⟩)
    (c5 : PySem.W.codeIn K cd5 "parts_of" = true)
    (k5 : PySem.W.keepIn K (.ref f5) = true)
    (a6 : PySem.W.nsIn K mainGlobals "names_of" = some (some (.ref f6)))
    (l6 : K.lookup f6 = some ⟨oc6, od6, .func (PySem.W.fnOf "names_of" "names_of" (defArgs s_names_of) (defBody s_names_of) (defScope s_names_of) .none kV6 dc6 pm6 an6 cd6 ct6), sl6⟩)
    (c6 : PySem.W.codeIn K cd6 "names_of" = true)
    (k6 : PySem.W.keepIn K (.ref f6) = true)
    (a7 : PySem.W.nsIn K mainGlobals "reckoned" = some (some (.ref f7)))
    (l7 : K.lookup f7 = some ⟨oc7, od7, .func (PySem.W.fnOf "reckoned" "reckoned" (defArgs s_reckoned) (defBody s_reckoned) (defScope s_reckoned) .none kV7 dc7 pm7 an7 cd7 ct7), sl7⟩)
    (c7 : PySem.W.codeIn K cd7 "reckoned" = true)
    (k7 : PySem.W.keepIn K (.ref f7) = true)
    (a8 : PySem.W.nsIn K mainGlobals "are_values" = some (some (.ref f8)))
    (l8 : K.lookup f8 = some ⟨oc8, od8, .func (PySem.W.fnOf "are_values" "are_values" (defArgs s_are_values) (defBody s_are_values) (defScope s_are_values) .none kV8 dc8 pm8 an8 cd8 ct8), sl8⟩)
    (c8 : PySem.W.codeIn K cd8 "are_values" = true)
    (k8 : PySem.W.keepIn K (.ref f8) = true)
    (a10 : PySem.W.nsIn K mainGlobals "value_of" = some (some (.ref f10)))
    (l10 : K.lookup f10 = some ⟨oc10, od10, .func (PySem.W.fnOf "value_of" "value_of" (defArgs s_value_of) (defBody s_value_of) (defScope s_value_of) .none kV10 dc10 pm10 an10 cd10 ct10), sl10⟩)
    (c10 : PySem.W.codeIn K cd10 "value_of" = true)
    (k10 : PySem.W.keepIn K (.ref f10) = true)
    (a17 : PySem.W.nsIn K mainGlobals "_law_heard" = some (some (.ref f17)))
    (l17 : K.lookup f17 = some ⟨oc17, od17, .func (PySem.W.fnOf "_law_heard" "_law_heard" (defArgs s_law_heard) (defBody s_law_heard) (defScope s_law_heard) .none kV17 dc17 pm17 an17 cd17 ct17), sl17⟩)
    (c17 : PySem.W.codeIn K cd17 "_law_heard" = true)
    (k17 : PySem.W.keepIn K (.ref f17) = true)
    (a18 : PySem.W.nsIn K mainGlobals "law" = some (some (.ref f18)))
    (l18 : K.lookup f18 = some ⟨oc18, od18, .func (PySem.W.fnOf "law" "law" (defArgs s_law) (defBody s_law) (defScope s_law) .none kV18 dc18 pm18 an18 cd18 ct18), sl18⟩)
    (c18 : PySem.W.codeIn K cd18 "law" = true)
    (k18 : PySem.W.keepIn K (.ref f18) = true)
    (z_all : PySem.W.nsIn K mainGlobals "all" = some none)
    (z_bool : PySem.W.nsIn K mainGlobals "bool" = some none)
    (z_dict : PySem.W.nsIn K mainGlobals "dict" = some none)
    (z_int : PySem.W.nsIn K mainGlobals "int" = some none)
    (z_isinstance : PySem.W.nsIn K mainGlobals "isinstance" = some none)
    (z_len : PySem.W.nsIn K mainGlobals "len" = some none)
    (z_list : PySem.W.nsIn K mainGlobals "list" = some none)
    (z_max : PySem.W.nsIn K mainGlobals "max" = some none)
    (z_range : PySem.W.nsIn K mainGlobals "range" = some none)
    (z_repr : PySem.W.nsIn K mainGlobals "repr" = some none)
    (z_reversed : PySem.W.nsIn K mainGlobals "reversed" = some none)
    (z_str : PySem.W.nsIn K mainGlobals "str" = some none)
    (z_tuple : PySem.W.nsIn K mainGlobals "tuple" = some none)
    (q_FIGURES : PySem.W.nsIn K mainGlobals "FIGURES" = some (some (.str "0123456789" tk_FIGURES)))
    (q_GREATEST : PySem.W.nsIn K mainGlobals "GREATEST" = some (some (.int 1000000000000000000000000000000000000000000000000000000000000 tk_GREATEST)))
    (q_MOST_SIGNS : PySem.W.nsIn K mainGlobals "MOST_SIGNS" = some (some (.int 12 tk_MOST_SIGNS)))
    (q_SIGNS : PySem.W.nsIn K mainGlobals "SIGNS" = some (some (.ref q_SIGNSa)))
    (r_SIGNS : K.lookup q_SIGNSa = some ⟨.type "tuple", none, .seq ([Value.str "+" tk_SIGNS_0, Value.str "-" tk_SIGNS_1] : List Value).toArray q_SIGNSn, q_SIGNSs⟩)
    (q_SMALL : PySem.W.nsIn K mainGlobals "SMALL" = some (some (.str "abcdefghijklmnopqrstuvwxyz" tk_SMALL)))
    (gZ : PySem.W.nsIn K mainGlobals "ZonesError" = some (some (.ref za)))
    (eg1 : PySem.W.nsIn K mainGlobals "BadExpr" = some (some (.ref e1C)))
    (ex1 : K.lookup e1C = some (excClassObj e1nm e1q e1C e1N e1bs (PySem.Zx.behind za) true e1sn e1sub e1ab e1col e1dd e1m0 e1m1 e1m2 e1m3 e1m5 "Exception.__new__"))
    (esa1 : PySem.W.findIn K (.ref e1C) "__setattr__" = some (some (.builtin "object.__setattr__")))
    (ega1 : PySem.W.findIn K (.ref e1C) "__getattribute__" = some (some (.builtin "BaseException.__getattribute__")))
    (egg1 : PySem.W.findIn K (.ref e1C) "__getattr__" = some none)
    (enb1 : PySem.W.findIn K (.ref e1C) "thing" = some none)
    (ein1 : PySem.W.findIn K (.ref e1C) "__init__" = some (some (.ref e1f)))
    (ecl1 : PySem.W.findIn K (.ref e1C) "__class__" = some (some (.builtin "object.__class__")))
    (et1 : PySem.W.typeIn K (.ref e1f) = some (.type "function"))
    (el1 : K.lookup e1f = some ⟨e1oc, e1od, .func (PySem.W.fnOf "__init__" "BadExpr.__init__" (PySem.Zx.iA ⟨10, 17, 10, 21⟩ ⟨10, 23, 10, 28⟩) (PySem.Zx.iB ⟨11, 8, 11, 12⟩ ⟨11, 8, 11, 18⟩ ⟨11, 21, 11, 26⟩ ⟨11, 8, 11, 26⟩) PySem.Zx.iS .none .none e1dc e1pm e1an e1cd e1ct), e1sl⟩)
    (ec1 : PySem.W.codeIn K e1cd "BadExpr.__init__" = true)
    (ek1 : PySem.W.keepIn K (.ref e1C) = true)
    (eb1 : PySem.W.subIn K (.ref e1C) (.type "BaseException") = some true)
    (ey1 : PySem.W.typeIn K (.ref e1C) = some (.type "type"))
    (eh1 : PySem.W.hasDictIn K e1C = true)
    (es1 : PySem.W.subIn K (.ref e1C) (.ref e1C) = some true)
    (ep1 : PySem.W.specialIn K (.builtin "object.__class__") "__get__" = some (some (.builtin "getset_descriptor.__get__")))
    (ew1 : PySem.W.takesIn K (.builtin "object.__class__") = some true)
    (em1 : PySem.W.mroIn K e1C (.type "object") = some true)
    (ez1 : PySem.W.kitOne K (.ref e1C) (.ref za) = some true)
    (eg0 : PySem.W.nsIn K mainGlobals "BadNumber" = some (some (.ref e0C)))
    (ex0 : K.lookup e0C = some (excClassObj e0nm e0q e0C e0N e0bs (PySem.Zx.behind za) true e0sn e0sub e0ab e0col e0dd e0m0 e0m1 e0m2 e0m3 e0m5 "Exception.__new__"))
    (esa0 : PySem.W.findIn K (.ref e0C) "__setattr__" = some (some (.builtin "object.__setattr__")))
    (ega0 : PySem.W.findIn K (.ref e0C) "__getattribute__" = some (some (.builtin "BaseException.__getattribute__")))
    (egg0 : PySem.W.findIn K (.ref e0C) "__getattr__" = some none)
    (enb0 : PySem.W.findIn K (.ref e0C) "thing" = some none)
    (ein0 : PySem.W.findIn K (.ref e0C) "__init__" = some (some (.ref e0f)))
    (ecl0 : PySem.W.findIn K (.ref e0C) "__class__" = some (some (.builtin "object.__class__")))
    (et0 : PySem.W.typeIn K (.ref e0f) = some (.type "function"))
    (el0 : K.lookup e0f = some ⟨e0oc, e0od, .func (PySem.W.fnOf "__init__" "BadNumber.__init__" (PySem.Zx.iA ⟨6, 17, 6, 21⟩ ⟨6, 23, 6, 28⟩) (PySem.Zx.iB ⟨7, 8, 7, 12⟩ ⟨7, 8, 7, 18⟩ ⟨7, 21, 7, 26⟩ ⟨7, 8, 7, 26⟩) PySem.Zx.iS .none .none e0dc e0pm e0an e0cd e0ct), e0sl⟩)
    (ec0 : PySem.W.codeIn K e0cd "BadNumber.__init__" = true)
    (ek0 : PySem.W.keepIn K (.ref e0C) = true)
    (eb0 : PySem.W.subIn K (.ref e0C) (.type "BaseException") = some true)
    (ey0 : PySem.W.typeIn K (.ref e0C) = some (.type "type"))
    (eh0 : PySem.W.hasDictIn K e0C = true)
    (es0 : PySem.W.subIn K (.ref e0C) (.ref e0C) = some true)
    (ep0 : PySem.W.specialIn K (.builtin "object.__class__") "__get__" = some (some (.builtin "getset_descriptor.__get__")))
    (ew0 : PySem.W.takesIn K (.builtin "object.__class__") = some true)
    (em0 : PySem.W.mroIn K e0C (.type "object") = some true)
    (ez0 : PySem.W.kitOne K (.ref e0C) (.ref za) = some true)
    (x0_1 : PySem.W.subIn K (.ref e0C) (.ref e1C) = some false)
    (x1_0 : PySem.W.subIn K (.ref e1C) (.ref e0C) = some false) :
    ∃ fd : FuncData, Fun K "law" "law" s_law fa fd ∧ (∀ (s : Shared) (u : Value), BindsTo s fd ⟨[u], []⟩ [("script", u)]) ∧
      ∀ (base : Heap) (s : Shared) (H : Hp) (cdv : Value) (a : Addr) (ns : List Int), ns.length ≤ 63 → K.In base → base.Ns mainGlobals mg → SqL K H a (ns.map V.int) →
        ∃ t, PSs (cxOf (L2.CX l.prog w) l.prog w K mg base ["script", "deck", "turn", "names", "expr", "left", "it", "values", "k", "found", "is_whole_v", "due", "text", "none", "bad", "heard"] "law" (defScope s_law) fa cdv callerA [] s H (fun _ _ _ => False)) (defBody s_law) t ∧ t { nx := fun _ _ => False, rt := fun v _ => v = .bl true } (start ["script", "deck", "turn", "names", "expr", "left", "it", "values", "k", "found", "is_whole_v", "due", "text", "none", "bad", "heard"] [.ref a]) H := by
  have e := hfa.symm.trans (PySem.W.mg_of X G a18)
  cases e
  have F0 := fun_mk (st := s_is_whole) l0 c0 k0
  have F1 := fun_mk (st := s_is_tuple_of) l1 c1 k1
  have F2 := fun_mk (st := s_is_one_of) l2 c2 k2
  have F3 := fun_mk (st := s_is_name) l3 c3 k3
  have F4 := fun_mk (st := s_is_expr_value) l4 c4 k4
  have F9 := fun_mk (st := s_is_expr) l9 c9 k9
  have F11 := fun_mk (st := s_law_begun) l11 c11 k11
  have F12 := fun_mk (st := s_law_draw) l12 c12 k12
  have F13 := fun_mk (st := s_law_pick) l13 c13 k13
  have F14 := fun_mk (st := s_law_expr) l14 c14 k14
  have F15 := fun_mk (st := s_law_value) l15 c15 k15
  have F16 := fun_mk (st := s_law_no_expr) l16 c16 k16
  have F5 := fun_mk (st := s_parts_of) l5 c5 k5
  have F6 := fun_mk (st := s_names_of) l6 c6 k6
  have F7 := fun_mk (st := s_reckoned) l7 c7 k7
  have F8 := fun_mk (st := s_are_values) l8 c8 k8
  have F10 := fun_mk (st := s_value_of) l10 c10 k10
  have F17 := fun_mk (st := s_law_heard) l17 c17 k17
  have F18 := fun_mk (st := s_law) l18 c18 k18
  let ad : Nat → Addr := fun i => match i with
      | 0 => f0
      | 1 => f1
      | 2 => f2
      | 3 => f3
      | 4 => f4
      | 5 => f5
      | 6 => f6
      | 7 => f7
      | 8 => f8
      | 9 => f9
      | 10 => f10
      | 11 => f11
      | 12 => f12
      | 13 => f13
      | 14 => f14
      | 15 => f15
      | 16 => f16
      | 17 => f17
      | _ => fa
  let fd : Nat → FuncData := fun i => match i with
      | 0 => (PySem.W.fnOf "is_whole" "is_whole" (defArgs s_is_whole) (defBody s_is_whole) (defScope s_is_whole) .none kV0 dc0 pm0 an0 cd0 ct0)
      | 1 => (PySem.W.fnOf "is_tuple_of" "is_tuple_of" (defArgs s_is_tuple_of) (defBody s_is_tuple_of) (defScope s_is_tuple_of) .none kV1 dc1 pm1 an1 cd1 ct1)
      | 2 => (PySem.W.fnOf "is_one_of" "is_one_of" (defArgs s_is_one_of) (defBody s_is_one_of) (defScope s_is_one_of) .none kV2 dc2 pm2 an2 cd2 ct2)
      | 3 => (PySem.W.fnOf "is_name" "is_name" (defArgs s_is_name) (defBody s_is_name) (defScope s_is_name) .none kV3 dc3 pm3 an3 cd3 ct3)
      | 4 => (PySem.W.fnOf "is_expr_value" "is_expr_value" (defArgs s_is_expr_value) (defBody s_is_expr_value) (defScope s_is_expr_value) .none kV4 dc4 pm4 an4 cd4 ct4)
      | 5 => (PySem.W.fnOf "parts_of" "parts_of" (defArgs s_parts_of) (defBody s_parts_of) (defScope s_parts_of) .none kV5 dc5 pm5 an5 cd5 ct5)
      | 6 => (PySem.W.fnOf "names_of" "names_of" (defArgs s_names_of) (defBody s_names_of) (defScope s_names_of) .none kV6 dc6 pm6 an6 cd6 ct6)
      | 7 => (PySem.W.fnOf "reckoned" "reckoned" (defArgs s_reckoned) (defBody s_reckoned) (defScope s_reckoned) .none kV7 dc7 pm7 an7 cd7 ct7)
      | 8 => (PySem.W.fnOf "are_values" "are_values" (defArgs s_are_values) (defBody s_are_values) (defScope s_are_values) .none kV8 dc8 pm8 an8 cd8 ct8)
      | 9 => (PySem.W.fnOf "is_expr" "is_expr" (defArgs s_is_expr) (defBody s_is_expr) (defScope s_is_expr) .none kV9 dc9 pm9 an9 cd9 ct9)
      | 10 => (PySem.W.fnOf "value_of" "value_of" (defArgs s_value_of) (defBody s_value_of) (defScope s_value_of) .none kV10 dc10 pm10 an10 cd10 ct10)
      | 11 => (PySem.W.fnOf "_law_begun" "_law_begun" (defArgs s_law_begun) (defBody s_law_begun) (defScope s_law_begun) .none kV11 dc11 pm11 an11 cd11 ct11)
      | 12 => (PySem.W.fnOf "_law_draw" "_law_draw" (defArgs s_law_draw) (defBody s_law_draw) (defScope s_law_draw) .none kV12 dc12 pm12 an12 cd12 ct12)
      | 13 => (PySem.W.fnOf "_law_pick" "_law_pick" (defArgs s_law_pick) (defBody s_law_pick) (defScope s_law_pick) .none kV13 dc13 pm13 an13 cd13 ct13)
      | 14 => (PySem.W.fnOf "_law_expr" "_law_expr" (defArgs s_law_expr) (defBody s_law_expr) (defScope s_law_expr) .none kV14 dc14 pm14 an14 cd14 ct14)
      | 15 => (PySem.W.fnOf "_law_value" "_law_value" (defArgs s_law_value) (defBody s_law_value) (defScope s_law_value) .none kV15 dc15 pm15 an15 cd15 ct15)
      | 16 => (PySem.W.fnOf "_law_no_expr" "_law_no_expr" (defArgs s_law_no_expr) (defBody s_law_no_expr) (defScope s_law_no_expr) .none kV16 dc16 pm16 an16 cd16 ct16)
      | 17 => (PySem.W.fnOf "_law_heard" "_law_heard" (defArgs s_law_heard) (defBody s_law_heard) (defScope s_law_heard) .none kV17 dc17 pm17 an17 cd17 ct17)
      | _ => (PySem.W.fnOf "law" "law" (defArgs s_law) (defBody s_law) (defScope s_law) .none kV18 dc18 pm18 an18 cd18 ct18)
  have T : Txt K mg (fun i => ([e0C, e1C] : List Addr).getD i 0) ad fd (fun i => ([e0f, e1f] : List Addr).getD i 0) za := {
      g0 := PySem.W.mg_of X G a0
      F0 := F0
      B0 := F0.binds (ps := ["thing"]) fun _ _ _ _ _ _ us hl => match us, hl with | [_], _ => rfl
      g1 := PySem.W.mg_of X G a1
      F1 := F1
      B1 := F1.binds (ps := ["thing", "many"]) fun _ _ _ _ _ _ us hl => match us, hl with | [_, _], _ => rfl
      g2 := PySem.W.mg_of X G a2
      F2 := F2
      B2 := F2.binds (ps := ["thing", "words"]) fun _ _ _ _ _ _ us hl => match us, hl with | [_, _], _ => rfl
      g3 := PySem.W.mg_of X G a3
      F3 := F3
      B3 := F3.binds (ps := ["thing"]) fun _ _ _ _ _ _ us hl => match us, hl with | [_], _ => rfl
      g4 := PySem.W.mg_of X G a4
      F4 := F4
      B4 := F4.binds (ps := ["thing"]) fun _ _ _ _ _ _ us hl => match us, hl with | [_], _ => rfl
      g9 := PySem.W.mg_of X G a9
      F9 := F9
      B9 := F9.binds (ps := ["thing"]) fun _ _ _ _ _ _ us hl => match us, hl with | [_], _ => rfl
      k9_thing := kwB_of F9 fun _ _ _ _ _ _ ws hl => match ws, hl with | [_], _ => rfl
      g11 := PySem.W.mg_of X G a11
      F11 := F11
      B11 := F11.binds (ps := ["script", "salt"]) fun _ _ _ _ _ _ us hl => match us, hl with | [_, _], _ => rfl
      g12 := PySem.W.mg_of X G a12
      F12 := F12
      B12 := F12.binds (ps := ["deck", "below"]) fun _ _ _ _ _ _ us hl => match us, hl with | [_, _], _ => rfl
      g13 := PySem.W.mg_of X G a13
      F13 := F13
      B13 := F13.binds (ps := ["deck", "some"]) fun _ _ _ _ _ _ us hl => match us, hl with | [_, _], _ => rfl
      g14 := PySem.W.mg_of X G a14
      F14 := F14
      B14 := F14.binds (ps := ["deck", "names", "deep"]) fun _ _ _ _ _ _ us hl => match us, hl with | [_, _, _], _ => rfl
      g15 := PySem.W.mg_of X G a15
      F15 := F15
      B15 := F15.binds (ps := ["expr", "table"]) fun _ _ _ _ _ _ us hl => match us, hl with | [_, _], _ => rfl
      g16 := PySem.W.mg_of X G a16
      F16 := F16
      B16 := F16.binds (ps := ["deck", "expr"]) fun _ _ _ _ _ _ us hl => match us, hl with | [_, _], _ => rfl
      g5 := PySem.W.mg_of X G a5
      F5 := F5
      B5 := F5.binds (ps := ["expr"]) fun _ _ _ _ _ _ us hl => match us, hl with | [_], _ => rfl
      g6 := PySem.W.mg_of X G a6
      F6 := F6
      B6 := F6.binds (ps := ["expr"]) fun _ _ _ _ _ _ us hl => match us, hl with | [_], _ => rfl
      g7 := PySem.W.mg_of X G a7
      F7 := F7
      B7 := F7.binds (ps := ["expr", "values"]) fun _ _ _ _ _ _ us hl => match us, hl with | [_, _], _ => rfl
      g8 := PySem.W.mg_of X G a8
      F8 := F8
      B8 := F8.binds (ps := ["thing"]) fun _ _ _ _ _ _ us hl => match us, hl with | [_], _ => rfl
      g10 := PySem.W.mg_of X G a10
      F10 := F10
      B10 := F10.binds (ps := ["expr", "values"]) fun _ _ _ _ _ _ us hl => match us, hl with | [_, _], _ => rfl
      k10_values_expr := kwB_of F10 fun _ _ _ _ _ _ ws hl => match ws, hl with | [_, _], _ => rfl
      g17 := PySem.W.mg_of X G a17
      F17 := F17
      B17 := F17.binds (ps := ["expr", "values", "by_name"]) fun _ _ _ _ _ _ us hl => match us, hl with | [_, _, _], _ => rfl
      g18 := PySem.W.mg_of X G a18
      F18 := F18
      B18 := F18.binds (ps := ["script"]) fun _ _ _ _ _ _ us hl => match us, hl with | [_], _ => rfl
      n_all := PySem.W.mg_none_of X G z_all
      n_bool := PySem.W.mg_none_of X G z_bool
      n_dict := PySem.W.mg_none_of X G z_dict
      n_int := PySem.W.mg_none_of X G z_int
      n_isinstance := PySem.W.mg_none_of X G z_isinstance
      n_len := PySem.W.mg_none_of X G z_len
      n_list := PySem.W.mg_none_of X G z_list
      n_max := PySem.W.mg_none_of X G z_max
      n_range := PySem.W.mg_none_of X G z_range
      n_repr := PySem.W.mg_none_of X G z_repr
      n_reversed := PySem.W.mg_none_of X G z_reversed
      n_str := PySem.W.mg_none_of X G z_str
      n_tuple := PySem.W.mg_none_of X G z_tuple
      c_FIGURES := gcon_str (PySem.W.mg_of X G q_FIGURES)
      c_GREATEST := gcon_int (PySem.W.mg_of X G q_GREATEST)
      c_MOST_SIGNS := gcon_int (PySem.W.mg_of X G q_MOST_SIGNS)
      c_SIGNS := gcon_strs (PySem.W.mg_of X G q_SIGNS) r_SIGNS (.cons "+" tk_SIGNS_0 (.cons "-" tk_SIGNS_1 .nil)) (show 2 ≤ 1000 by decide)
      c_SMALL := gcon_str (PySem.W.mg_of X G q_SMALL)
      e1 := { gC := PySem.W.mg_of X G eg1, cls := ⟨_, _, _, _, _, _, _, _, _, _, _, _, _, _, ex1⟩, sa := esa1, ga := ega1, gg := egg1, noN := enb1, iC := ein1, tC := et1, kC := ek1, exC := eb1, tyC := ey1, hdC := eh1, te := PySem.W.exm_ref eb1 eh1 ey1 es1, fn := ⟨_, _, _, _, _, _, _, _, _, _, _, _, _, _, el1, ec1⟩ }
      i1 := ⟨ecl1, ep1, ew1, em1⟩
      z1 := ez1
      e0 := { gC := PySem.W.mg_of X G eg0, cls := ⟨_, _, _, _, _, _, _, _, _, _, _, _, _, _, ex0⟩, sa := esa0, ga := ega0, gg := egg0, noN := enb0, iC := ein0, tC := et0, kC := ek0, exC := eb0, tyC := ey0, hdC := eh0, te := PySem.W.exm_ref eb0 eh0 ey0 es0, fn := ⟨_, _, _, _, _, _, _, _, _, _, _, _, _, _, el0, ec0⟩ }
      i0 := ⟨ecl0, ep0, ew0, em0⟩
      z0 := ez0
      ap := fun a ha b hb => by (simp only [List.mem_cons, List.not_mem_nil, or_false] at ha hb; rcases ha with rfl | rfl <;> rcases hb with rfl | rfl <;> first | exact PySem.W.exm_ref eb0 eh0 ey0 es0 | exact PySem.W.exm_ref eb1 eh1 ey1 x0_1 | exact PySem.W.exm_ref eb0 eh0 ey0 x1_0 | exact PySem.W.exm_ref eb1 eh1 ey1 es1)
      gZ := PySem.W.mg_of X G gZ }
  refine ⟨_, F18, fun s v => .of_eq rfl, fun base s H cdv a ns hl _ _ sq => ?_⟩
  exact ok_law T (law_pure ns hl) sq

end Zo
open PySem PySem.W PyProof.Rows
set_option maxRecDepth 100000 in
set_option maxHeartbeats 0 in
theorem PySem.Challenge.cw_zonestold_k15_values_of_expressions_holds : PySem.Challenge.rw_zonestold_k15_values_of_expressions.Holds := by
  w_on; o_law; k_head; (case hw => w_witness2)
  k_fill
  refine Zo.law_walk (l := PySem.Challenge.rw_zonestold_k15_values_of_expressions) (n := 63) (k := 9) (x := "law") (qual := "law") (st := Zo.s_law) rfl (by decide) rfl ⟨rfl, by decide +kernel, by decide +kernel⟩ Zo.sc_law (fun w h Y => PySem.W.kIn_of Y) ?F
  case F =>
    intro w mg fa h KX G hmg
    refine' Zo.all_mk KX G hmg ?a0 ?l0 ?c0 ?k0 ?a1 ?l1 ?c1 ?k1 ?a2 ?l2 ?c2 ?k2 ?a3 ?l3 ?c3 ?k3 ?a4 ?l4 ?c4 ?k4 ?a9 ?l9 ?c9 ?k9 ?a11 ?l11 ?c11 ?k11 ?a12 ?l12 ?c12 ?k12 ?a13 ?l13 ?c13 ?k13 ?a14 ?l14 ?c14 ?k14 ?a15 ?l15 ?c15 ?k15 ?a16 ?l16 ?c16 ?k16 ?a5 ?l5 ?c5 ?k5 ?a6 ?l6 ?c6 ?k6 ?a7 ?l7 ?c7 ?k7 ?a8 ?l8 ?c8 ?k8 ?a10 ?l10 ?c10 ?k10 ?a17 ?l17 ?c17 ?k17 ?a18 ?l18 ?c18 ?k18 ?z_all ?z_bool ?z_dict ?z_int ?z_isinstance ?z_len ?z_list ?z_max ?z_range ?z_repr ?z_reversed ?z_str ?z_tuple ?q_FIGURES ?q_GREATEST ?q_MOST_SIGNS ?q_SIGNS ?r_SIGNS ?q_SMALL ?gZ ?eg1 ?ex1 ?esa1 ?ega1 ?egg1 ?enb1 ?ein1 ?ecl1 ?et1 ?el1 ?ec1 ?ek1 ?eb1 ?ey1 ?eh1 ?es1 ?ep1 ?ew1 ?em1 ?ez1 ?eg0 ?ex0 ?esa0 ?ega0 ?egg0 ?enb0 ?ein0 ?ecl0 ?et0 ?el0 ?ec0 ?ek0 ?eb0 ?ey0 ?eh0 ?es0 ?ep0 ?ew0 ?em0 ?ez0 ?x0_1 ?x1_0
    (case a0 => k_is)
    (case l0 => k_is)
    (case c0 => k_is)
    (case k0 => k_is)
    (case a1 => k_is)
    (case l1 => k_is)
    (case c1 => k_is)
    (case k1 => k_is)
    (case a2 => k_is)
    (case l2 => k_is)
    (case c2 => k_is)
    (case k2 => k_is)
    (case a3 => k_is)
    (case l3 => k_is)
    (case c3 => k_is)
    (case k3 => k_is)
    (case a4 => k_is)
    (case l4 => k_is)
    (case c4 => k_is)
    (case k4 => k_is)
    (case a9 => k_is)
    (case l9 => k_is)
    (case c9 => k_is)
    (case k9 => k_is)
    (case a11 => k_is)
    (case l11 => k_is)
    (case c11 => k_is)
    (case k11 => k_is)
    (case a12 => k_is)
    (case l12 => k_is)
    (case c12 => k_is)
    (case k12 => k_is)
    (case a13 => k_is)
    (case l13 => k_is)
    (case c13 => k_is)
    (case k13 => k_is)
    (case a14 => k_is)
    (case l14 => k_is)
    (case c14 => k_is)
    (case k14 => k_is)
    (case a15 => k_is)
    (case l15 => k_is)
    (case c15 => k_is)
    (case k15 => k_is)
    (case a16 => k_is)
    (case l16 => k_is)
    (case c16 => k_is)
    (case k16 => k_is)
    (case a5 => k_is)
    (case l5 => k_is)
    (case c5 => k_is)
    (case k5 => k_is)
    (case a6 => k_is)
    (case l6 => k_is)
    (case c6 => k_is)
    (case k6 => k_is)
    (case a7 => k_is)
    (case l7 => k_is)
    (case c7 => k_is)
    (case k7 => k_is)
    (case a8 => k_is)
    (case l8 => k_is)
    (case c8 => k_is)
    (case k8 => k_is)
    (case a10 => k_is)
    (case l10 => k_is)
    (case c10 => k_is)
    (case k10 => k_is)
    (case a17 => k_is)
    (case l17 => k_is)
    (case c17 => k_is)
    (case k17 => k_is)
    (case a18 => k_is)
    (case l18 => k_is)
    (case c18 => k_is)
    (case k18 => k_is)
    (case z_all => k_is)
    (case z_bool => k_is)
    (case z_dict => k_is)
    (case z_int => k_is)
    (case z_isinstance => k_is)
    (case z_len => k_is)
    (case z_list => k_is)
    (case z_max => k_is)
    (case z_range => k_is)
    (case z_repr => k_is)
    (case z_reversed => k_is)
    (case z_str => k_is)
    (case z_tuple => k_is)
    (case q_FIGURES => k_is)
    (case q_GREATEST => k_is)
    (case q_MOST_SIGNS => k_is)
    (case q_SIGNS => k_is)
    (case r_SIGNS => k_is)
    (case q_SMALL => k_is)
    (case gZ => k_is)
    (case eg1 => k_is)
    (case ex1 => k_is)
    (case esa1 => k_is)
    (case ega1 => k_is)
    (case egg1 => k_is)
    (case enb1 => k_is)
    (case ein1 => k_is)
    (case ecl1 => k_is)
    (case et1 => k_is)
    (case el1 => k_is)
    (case ec1 => k_is)
    (case ek1 => k_is)
    (case eb1 => k_is)
    (case ey1 => k_is)
    (case eh1 => k_is)
    (case es1 => first | rfl | k_is)
    (case ep1 => k_is)
    (case ew1 => k_is)
    (case em1 => k_is)
    (case ez1 => first | k_is | rfl | decide +kernel)
    (case eg0 => k_is)
    (case ex0 => k_is)
    (case esa0 => k_is)
    (case ega0 => k_is)
    (case egg0 => k_is)
    (case enb0 => k_is)
    (case ein0 => k_is)
    (case ecl0 => k_is)
    (case et0 => k_is)
    (case el0 => k_is)
    (case ec0 => k_is)
    (case ek0 => k_is)
    (case eb0 => k_is)
    (case ey0 => k_is)
    (case eh0 => k_is)
    (case es0 => first | rfl | k_is)
    (case ep0 => k_is)
    (case ew0 => k_is)
    (case em0 => k_is)
    (case ez0 => first | k_is | rfl | decide +kernel)
    (case x0_1 => k_is)
    (case x1_0 => k_is)
#print axioms PySem.Challenge.cw_zonestold_k15_values_of_expressions_holds
