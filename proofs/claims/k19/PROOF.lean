import PyProof.Rows.All
import Wide.All
import OpenK.AllK
import Wide.FinOn
import HandS.ForMost
import HandS.Exc
import HandS.ExcOwn
import HandS.WordsExc
import HandS.Flow
import HandS.TupAny
import HandS.TupMul
import HandS.IsInst
import HandS.NoneIn
import HandS.Style
import HandS.Zip
import HandS.Rev
import KE.KExcIs
import HandS.Wide
import HandS.Dict
import PySem.Challenge.RW_zonestold_k19_formulas_at_words
import HandS.Ends
import HandS.ExcIs
set_option Elab.async false
set_option linter.all false
set_option maxRecDepth 100000
set_option maxHeartbeats 4000000
/-! ZA: values by value (PyData), the machine's state of a small semantics, and how it stands in the abstract heap. -/
namespace Zo
open PySem PySem.Spec PyProof.Rows L2
abbrev D := PyData
abbrev Fr := PySem.W.Frag
/-- the deck of a law: its cells, what they mix to, the turn -/
structure Dk where
  cells : List Int
  mixed : Int
  turn : Int
/-- what a slot holds: nothing told; a value that nobody changes any more; a list of this frame's own; the deck -/
inductive Sv where
  | un
  | fz (d : D)
  | own (ds : List D)
  | deck
structure Ms where
  env : List Sv
  dk : Dk
  sm : Bool
inductive Out (α : Type) where
  | ok (a : α) (s : Ms)
  | exc (c : Nat) (t : D) (s : Ms)
  | no
def Out.bind {α β : Type} : Out α → (α → Ms → Out β) → Out β
  | .ok a s, f => f a s
  | .exc c t s, _ => .exc c t s
  | .no, _ => .no
@[simp] theorem Out.bind_ok {α β : Type} (a : α) (s : Ms) (f : α → Ms → Out β) : (Out.ok a s).bind f = f a s := rfl
@[simp] theorem Out.bind_exc {α β : Type} (c : Nat) (t : D) (s : Ms) (f : α → Ms → Out β) : (Out.exc c t s).bind f = .exc c t s := rfl
@[simp] theorem Out.bind_no {α β : Type} (f : α → Ms → Out β) : (Out.no).bind f = .no := rfl
inductive Fl where
  | nx
  | rt (d : D)
  | bk
  | ct
abbrev Ev := Ms → Out D
abbrev Evs := Ms → Out (List D)
abbrev Ex := Ms → Out Fl
/-- what a def without the deck answers -/
inductive Ro where
  | ok (d : D)
  | exc (c : Nat) (t : D)
  | no
/-- what a def with the deck answers -/
inductive Rd where
  | ok (d : D) (k : Dk)
  | no
def keyD : Key → D
  | .inl i => .int i
  | .inr x => .str x

/-! ### a value in the abstract heap; Xs: addresses that it does not use -/
def FL (H : Hp) (Xs : List Addr) (a : Addr) (vs : List V) : Prop := H a = some (.lst vs) ∧ a ∉ Xs
def FT (K : Fr) (H : Hp) (Xs : List Addr) (a : Addr) (vs : List V) : Prop := (L2.Rd H a (.tup vs) ∧ a ∉ Xs) ∨ (SqT K (fun _ => none) a vs)
mutual
def Rp (K : Fr) (H : Hp) (Xs : List Addr) : D → V → Prop
  | .none, v => v = .non
  | .bool b, v => v = .bl b
  | .int i, v => v = .int i
  | .str x, v => v = .str x
  | .list ds, v => ∃ a vs, v = .ref a ∧ FL H Xs a vs ∧ RpA K H Xs ds vs
  | .tuple ds, v => ∃ a vs, v = .ref a ∧ FT K H Xs a vs ∧ RpA K H Xs ds vs
  | .dict es, v => ∃ a kvs, v = .ref a ∧ H a = some (.dK kvs) ∧ a ∉ Xs ∧ RpK K H Xs es kvs
def RpA (K : Fr) (H : Hp) (Xs : List Addr) : List D → List V → Prop
  | [], vs => vs = []
  | d :: ds, vs => ∃ v r, vs = v :: r ∧ Rp K H Xs d v ∧ RpA K H Xs ds r
def RpK (K : Fr) (H : Hp) (Xs : List Addr) : List (D × D) → List (Key × V) → Prop
  | [], kvs => kvs = []
  | (k, d) :: es, kvs => ∃ kk v r, kvs = (kk, v) :: r ∧ k = keyD kk ∧ Rp K H Xs d v ∧ RpK K H Xs es r
end
/-- all that stood, but at M, stands -/
def Stay (M : List Addr) (H H' : Hp) : Prop := ∀ a o, H a = some o → a ∉ M → H' a = some o
theorem Stay.refl (M : List Addr) (H : Hp) : Stay M H H := fun _ _ h _ => h
theorem Stay.trans {M : List Addr} {H H1 H2 : Hp} (a : Stay M H H1) (b : Stay M H1 H2) : Stay M H H2 := fun x o h n => b x o (a x o h n) n
theorem Stay.more {M N : List Addr} {H H' : Hp} (a : Stay M H H') (s : ∀ x ∈ M, x ∈ N) : Stay N H H' := fun x o h n => a x o h fun z => n (s x z)
theorem Stay.laid {M : List Addr} {H : Hp} {p : Addr} {o : HO} (h : H p = none) : Stay M H (upd H p o) := fun x u q _ => by rw [upd_ne (ne_of_none q h)]; exact q
theorem Stay.put {M : List Addr} {H : Hp} {p : Addr} {o : HO} (h : p ∈ M) : Stay M H (upd H p o) := fun x u q n => by
  have z : x ≠ p := fun e => n (e ▸ h)
  rw [upd_ne z]; exact q
theorem rd_stay {M Xs : List Addr} {H H' : Hp} {a : Addr} {u : HO} (r : L2.Rd H a u) (n : a ∉ Xs) (s : Stay M H H') (hm : ∀ x ∈ M, x ∈ Xs) : L2.Rd H' a u := by
  have nm : a ∉ M := fun z => n (hm a z)
  rcases r with r | ⟨o, r⟩
  · exact .inl (s _ _ r nm)
  · exact .inr ⟨o, s _ _ r nm⟩
theorem FL.stay {M Xs : List Addr} {H H' : Hp} {a : Addr} {vs : List V} (r : FL H Xs a vs) (s : Stay M H H') (hm : ∀ x ∈ M, x ∈ Xs) : FL H' Xs a vs :=
  ⟨s _ _ r.1 fun z => r.2 (hm a z), r.2⟩
theorem FT.stay {K : Fr} {M Xs : List Addr} {H H' : Hp} {a : Addr} {vs : List V} (r : FT K H Xs a vs) (s : Stay M H H') (hm : ∀ x ∈ M, x ∈ Xs) : FT K H' Xs a vs :=
  r.elim (fun ⟨h, n⟩ => .inl ⟨rd_stay h n s hm, n⟩) .inr
section
variable {K : Fr} {M Xs Ys : List Addr} {H H' : Hp}
mutual
theorem Rp.stay (s : Stay M H H') (hm : ∀ x ∈ M, x ∈ Xs) : ∀ (d : D) (v : V), Rp K H Xs d v → Rp K H' Xs d v
  | .none, _, h => h
  | .bool _, _, h => h
  | .int _, _, h => h
  | .str _, _, h => h
  | .list ds, v, h => by
    obtain ⟨a, vs, e, f, r⟩ := h
    exact ⟨a, vs, e, f.stay s hm, RpA.stay s hm ds vs r⟩
  | .tuple ds, v, h => by
    obtain ⟨a, vs, e, f, r⟩ := h
    exact ⟨a, vs, e, f.stay s hm, RpA.stay s hm ds vs r⟩
  | .dict es, v, h => by
    obtain ⟨a, kvs, e, f, n, r⟩ := h
    exact ⟨a, kvs, e, s _ _ f fun z => n (hm a z), n, RpK.stay s hm es kvs r⟩
theorem RpA.stay (s : Stay M H H') (hm : ∀ x ∈ M, x ∈ Xs) : ∀ (ds : List D) (vs : List V), RpA K H Xs ds vs → RpA K H' Xs ds vs
  | [], _, h => h
  | d :: ds, _, h => by
    obtain ⟨v, r, e, p, q⟩ := h
    exact ⟨v, r, e, Rp.stay s hm d v p, RpA.stay s hm ds r q⟩
theorem RpK.stay (s : Stay M H H') (hm : ∀ x ∈ M, x ∈ Xs) : ∀ (es : List (D × D)) (kvs : List (Key × V)), RpK K H Xs es kvs → RpK K H' Xs es kvs
  | [], _, h => h
  | (k, d) :: es, _, h => by
    obtain ⟨kk, v, r, e, ek, p, q⟩ := h
    exact ⟨kk, v, r, e, ek, Rp.stay s hm d v p, RpK.stay s hm es r q⟩
end
theorem FL.less {a : Addr} {vs : List V} (r : FL H Xs a vs) (hs : ∀ x ∈ Ys, x ∈ Xs) : FL H Ys a vs := ⟨r.1, fun z => r.2 (hs a z)⟩
theorem FT.less {a : Addr} {vs : List V} (r : FT K H Xs a vs) (hs : ∀ x ∈ Ys, x ∈ Xs) : FT K H Ys a vs := r.elim (fun ⟨h, n⟩ => .inl ⟨h, fun z => n (hs a z)⟩) .inr
mutual
/-- fewer addresses to be left alone -/
theorem Rp.less (hs : ∀ x ∈ Ys, x ∈ Xs) : ∀ (d : D) (v : V), Rp K H Xs d v → Rp K H Ys d v
  | .none, _, h => h
  | .bool _, _, h => h
  | .int _, _, h => h
  | .str _, _, h => h
  | .list ds, v, h => by
    obtain ⟨a, vs, e, f, r⟩ := h
    exact ⟨a, vs, e, f.less hs, RpA.less hs ds vs r⟩
  | .tuple ds, v, h => by
    obtain ⟨a, vs, e, f, r⟩ := h
    exact ⟨a, vs, e, f.less hs, RpA.less hs ds vs r⟩
  | .dict es, v, h => by
    obtain ⟨a, kvs, e, f, n, r⟩ := h
    exact ⟨a, kvs, e, f, fun z => n (hs a z), RpK.less hs es kvs r⟩
theorem RpA.less (hs : ∀ x ∈ Ys, x ∈ Xs) : ∀ (ds : List D) (vs : List V), RpA K H Xs ds vs → RpA K H Ys ds vs
  | [], _, h => h
  | d :: ds, _, h => by
    obtain ⟨v, r, e, p, q⟩ := h
    exact ⟨v, r, e, Rp.less hs d v p, RpA.less hs ds r q⟩
theorem RpK.less (hs : ∀ x ∈ Ys, x ∈ Xs) : ∀ (es : List (D × D)) (kvs : List (Key × V)), RpK K H Xs es kvs → RpK K H Ys es kvs
  | [], _, h => h
  | (k, d) :: es, _, h => by
    obtain ⟨kk, v, r, e, ek, p, q⟩ := h
    exact ⟨kk, v, r, e, ek, Rp.less hs d v p, RpK.less hs es r q⟩
end
theorem rd_ne {p a : Addr} {u : HO} (r : L2.Rd H a u) (h : H p = none) : a ≠ p := by
  rcases r with r | ⟨o, r⟩
  · exact ne_of_none r h
  · exact ne_of_none r h
theorem notMem_cons {p a : Addr} (h : a ≠ p) (n : a ∉ Xs) : a ∉ p :: Xs := fun z => (List.mem_cons.mp z).elim h n
theorem FL.fresh {p a : Addr} {vs : List V} (h : H p = none) (r : FL H Xs a vs) : FL H (p :: Xs) a vs := ⟨r.1, notMem_cons (ne_of_none r.1 h) r.2⟩
theorem FT.fresh {p a : Addr} {vs : List V} (h : H p = none) (r : FT K H Xs a vs) : FT K H (p :: Xs) a vs := r.elim (fun ⟨q, n⟩ => .inl ⟨q, notMem_cons (rd_ne q h) n⟩) .inr
mutual
/-- what stands uses no free address -/
theorem Rp.fresh {p : Addr} (hp : H p = none) : ∀ (d : D) (v : V), Rp K H Xs d v → Rp K H (p :: Xs) d v
  | .none, _, h => h
  | .bool _, _, h => h
  | .int _, _, h => h
  | .str _, _, h => h
  | .list ds, v, h => by
    obtain ⟨a, vs, e, f, r⟩ := h
    exact ⟨a, vs, e, f.fresh hp, RpA.fresh hp ds vs r⟩
  | .tuple ds, v, h => by
    obtain ⟨a, vs, e, f, r⟩ := h
    exact ⟨a, vs, e, f.fresh hp, RpA.fresh hp ds vs r⟩
  | .dict es, v, h => by
    obtain ⟨a, kvs, e, f, n, r⟩ := h
    exact ⟨a, kvs, e, f, notMem_cons (ne_of_none f hp) n, RpK.fresh hp es kvs r⟩
theorem RpA.fresh {p : Addr} (hp : H p = none) : ∀ (ds : List D) (vs : List V), RpA K H Xs ds vs → RpA K H (p :: Xs) ds vs
  | [], _, h => h
  | d :: ds, _, h => by
    obtain ⟨v, r, e, q, t⟩ := h
    exact ⟨v, r, e, Rp.fresh hp d v q, RpA.fresh hp ds r t⟩
theorem RpK.fresh {p : Addr} (hp : H p = none) : ∀ (es : List (D × D)) (kvs : List (Key × V)), RpK K H Xs es kvs → RpK K H (p :: Xs) es kvs
  | [], _, h => h
  | (k, d) :: es, _, h => by
    obtain ⟨kk, v, r, e, ek, q, t⟩ := h
    exact ⟨kk, v, r, e, ek, Rp.fresh hp d v q, RpK.fresh hp es r t⟩
end
theorem RpA.len : ∀ {ds : List D} {vs : List V}, RpA K H Xs ds vs → vs.length = ds.length
  | [], _, h => by cases h; rfl
  | d :: ds, _, h => by
    obtain ⟨v, r, e, q, t⟩ := h
    subst e
    simp [RpA.len t]
theorem RpA.app : ∀ {ds es : List D} {vs ws : List V}, RpA K H Xs ds vs → RpA K H Xs es ws → RpA K H Xs (ds ++ es) (vs ++ ws)
  | [], _, _, _, h, k => by cases h; exact k
  | d :: ds, _, _, _, h, k => by
    obtain ⟨v, r, e, q, t⟩ := h
    subst e
    exact ⟨v, _, rfl, q, RpA.app t k⟩
theorem RpA.one {d : D} {v : V} (h : Rp K H Xs d v) : RpA K H Xs [d] [v] := ⟨v, [], rfl, h, rfl⟩
theorem RpA.take : ∀ {ds : List D} {vs : List V} (n : Nat), RpA K H Xs ds vs → RpA K H Xs (ds.take n) (vs.take n)
  | [], _, n, h => by cases h; simp [RpA]
  | d :: ds, _, 0, h => by simp [RpA]
  | d :: ds, _, n + 1, h => by
    obtain ⟨v, r, e, q, t⟩ := h
    subst e
    exact ⟨v, _, rfl, q, RpA.take n t⟩
theorem RpA.drop : ∀ {ds : List D} {vs : List V} (n : Nat), RpA K H Xs ds vs → RpA K H Xs (ds.drop n) (vs.drop n)
  | [], _, n, h => by cases h; simp [RpA]
  | d :: ds, _, 0, h => h
  | d :: ds, _, n + 1, h => by
    obtain ⟨v, r, e, q, t⟩ := h
    subst e
    exact RpA.drop n t
theorem RpA.get : ∀ {ds : List D} {vs : List V} {n : Nat} {d : D}, RpA K H Xs ds vs → ds[n]? = some d → ∃ v, vs[n]? = some v ∧ Rp K H Xs d v
  | [], _, n, _, h, e => by simp at e
  | d :: ds, _, 0, _, h, e => by
    obtain ⟨v, r, q, p, t⟩ := h
    subst q
    simp at e
    subst e
    exact ⟨v, rfl, p⟩
  | d :: ds, _, n + 1, _, h, e => by
    obtain ⟨v, r, q, p, t⟩ := h
    subst q
    exact RpA.get (n := n) t (by simpa using e)
theorem RpA.getV {ds : List D} {vs : List V} {n : Nat} {v : V} (h : RpA K H Xs ds vs) (e : vs[n]? = some v) : ∃ d, ds[n]? = some d ∧ Rp K H Xs d v := by
  have hl := h.len
  have hn : n < ds.length := by
    have := (List.getElem?_eq_some_iff.mp e).1
    omega
  obtain ⟨w, e', p⟩ := h.get (List.getElem?_eq_getElem hn)
  rw [e] at e'
  cases e'
  exact ⟨_, List.getElem?_eq_getElem hn, p⟩
theorem FT.sq {a : Addr} {vs : List V} (h : FT K H Xs a vs) : SqT K H a vs := by
  rcases h with ⟨h, _⟩ | h
  · exact .inl h
  · rcases h with (h | ⟨o, h⟩) | h
    · cases h
    · cases h
    · exact .inr h
end

/-! ### the frame's facts and the state -/
def dkl : Option (Addr × Addr) → List Addr
  | none => []
  | some (a, b) => [a, b]
def DkAt (H : Hp) (kd kc : Addr) (k : Dk) : Prop :=
  kd ≠ kc ∧ H kd = some (.dK [(.inr "cells", .ref kc), (.inr "mixed", .int k.mixed), (.inr "turn", .int k.turn)]) ∧ H kc = some (.lst (k.cells.map V.int)) ∧ k.cells.length ≤ 1000
/-- what does not change in a body: the heap at its entry, what its arguments leave alone, where the deck stands -/
structure Fm where
  H0 : Hp
  X0 : List Addr
  dka : Option (Addr × Addr)
  /-- values that are held besides (what a loop walks) -/
  tmp : List (D × V)
def SlotOk (K : Fr) (H : Hp) (X : List Addr) (os : List (Nat × Addr)) (dka : Option (Addr × Addr)) (i : Nat) (o : Option V) : Sv → Prop
  | .un => True
  | .fz d => ∃ v, o = some v ∧ Rp K H X d v
  | .own ds => ∃ a vs, o = some (.ref a) ∧ (i, a) ∈ os ∧ H a = some (.lst vs) ∧ RpA K H X ds vs
  | .deck => ∃ kd kc, dka = some (kd, kc) ∧ o = some (.ref kd)
structure Rel (K : Fr) (fm : Fm) (X : List Addr) (os : List (Nat × Addr)) (s : Ms) (σ : L2.St) (H : Hp) : Prop where
  len : s.env.length = σ.length
  slot : ∀ i sv, s.env[i]? = some sv → SlotOk K H X os fm.dka i (σ[i]?.join) sv
  nd : (os.map (·.2)).Nodup
  sub : ∀ p ∈ os, p.2 ∈ X ∧ p.2 ∉ dkl fm.dka ∧ fm.H0 p.2 = none
  lv : ∀ p ∈ os, ∃ vs, H p.2 = some (.lst vs)
  x0 : ∀ a ∈ fm.X0, a ∈ X
  x1 : ∀ a ∈ fm.X0, fm.H0 a ≠ none
  xt : ∀ a ∈ X, H a ≠ none
  dks : ∀ a ∈ dkl fm.dka, a ∈ X
  dk : ∀ kd kc, fm.dka = some (kd, kc) → DkAt H kd kc s.dk
  ent : Stay (dkl fm.dka) fm.H0 H
  one : s.sm = true → ∃ o u, H sysModules = some (.frz o u)
  tm : ∀ p ∈ fm.tmp, Rp K H X p.1 p.2
/-- what may change: the deck, and (unless still) the frame's own lists -/
def Mu (dka : Option (Addr × Addr)) (os : List (Nat × Addr)) (m : Bool) : List Addr := dkl dka ++ (if m then [] else os.map (·.2))
theorem Mu.sub {K : Fr} {fm : Fm} {X : List Addr} {os : List (Nat × Addr)} {s : Ms} {σ : L2.St} {H : Hp} (r : Rel K fm X os s σ H) (m : Bool) : ∀ a ∈ Mu fm.dka os m, a ∈ X := fun a ha => by
  unfold Mu at ha
  rcases List.mem_append.mp ha with h | h
  · exact r.dks a h
  · cases m with
    | true => simp at h
    | false =>
      simp only [Bool.false_eq_true, if_false] at h
      obtain ⟨p, hp, e⟩ := List.mem_map.mp h
      rw [← e]
      exact (r.sub p hp).1
theorem Mu.still {dka : Option (Addr × Addr)} {os : List (Nat × Addr)} {m : Bool} : ∀ a ∈ Mu dka os true, a ∈ Mu dka os m := fun a ha => by
  unfold Mu at ha ⊢
  rcases List.mem_append.mp ha with h | h
  · exact List.mem_append_left _ h
  · simp at h
end Zo
/-! ZB: how the state's standing goes on behind a change. -/
namespace Zo
open PySem PySem.Spec PyProof.Rows L2
section
variable {K : Fr} {fm : Fm} {X : List Addr} {os : List (Nat × Addr)} {s : Ms} {σ : L2.St} {H H' : Hp}
theorem Stay.some {H H' : Hp} (st : Stay [] H H') {a : Addr} (h : H a ≠ none) : H' a ≠ none := by
  cases e : H a with
  | none => exact absurd e h
  | some o => rw [st a o e (by simp)]; simp
/-- nothing that stood was changed -/
theorem Rel.stay (r : Rel K fm X os s σ H) (st : Stay [] H H') : Rel K fm X os s σ H' where
  len := r.len
  slot := fun i sv e => by
    have q := r.slot i sv e
    cases sv with
    | un => exact q
    | fz d =>
      obtain ⟨v, e1, p⟩ := q
      exact ⟨v, e1, Rp.stay st (fun a h => absurd h (by simp)) d v p⟩
    | own ds =>
      obtain ⟨a, vs, e1, e2, e3, p⟩ := q
      exact ⟨a, vs, e1, e2, st _ _ e3 (by simp), RpA.stay st (fun a h => absurd h (by simp)) ds vs p⟩
    | deck => exact q
  nd := r.nd
  sub := r.sub
  lv := fun p hp => by
    obtain ⟨vs, e⟩ := r.lv p hp
    exact ⟨vs, st _ _ e (by simp)⟩
  x0 := r.x0
  x1 := r.x1
  xt := fun a h => st.some (r.xt a h)
  dks := r.dks
  dk := fun kd kc e => by
    obtain ⟨h1, h2, h3, h4⟩ := r.dk kd kc e
    exact ⟨h1, st _ _ h2 (by simp), st _ _ h3 (by simp), h4⟩
  ent := r.ent.trans (st.more fun a h => absurd h (by simp))
  one := fun e => by
    obtain ⟨o, u, q⟩ := r.one e
    exact ⟨o, u, st _ _ q (by simp)⟩
  tm := fun p hp => Rp.stay st (fun a h => absurd h (by simp)) p.1 p.2 (r.tm p hp)
theorem Rel.laid (r : Rel K fm X os s σ H) {p : Addr} {o : HO} (h : H p = none) : Rel K fm X os s σ (upd H p o) := r.stay (Stay.laid h)
theorem Rel.nx (r : Rel K fm X os s σ H) {p : Addr} (h : H p = none) : p ∉ X := fun z => r.xt p z h
/-- the deck was changed -/
theorem Rel.dput (r : Rel K fm X os s σ H) {k : Dk} (st : Stay (dkl fm.dka) H H') (h : ∀ kd kc, fm.dka = some (kd, kc) → DkAt H' kd kc k) : Rel K fm X os { s with dk := k } σ H' where
  len := r.len
  slot := fun i sv e => by
    have q := r.slot i sv e
    cases sv with
    | un => exact q
    | fz d =>
      obtain ⟨v, e1, p⟩ := q
      exact ⟨v, e1, Rp.stay st r.dks d v p⟩
    | own ds =>
      obtain ⟨a, vs, e1, e2, e3, p⟩ := q
      exact ⟨a, vs, e1, e2, st _ _ e3 (r.sub _ e2).2.1, RpA.stay st r.dks ds vs p⟩
    | deck => exact q
  nd := r.nd
  sub := r.sub
  lv := fun p hp => by
    obtain ⟨vs, e⟩ := r.lv p hp
    exact ⟨vs, st _ _ e (r.sub p hp).2.1⟩
  x0 := r.x0
  x1 := r.x1
  xt := fun a ha => by
    by_cases hd : a ∈ dkl fm.dka
    · cases e : fm.dka with
      | none => rw [e] at hd; simp [dkl] at hd
      | some p =>
        obtain ⟨kd, kc⟩ := p
        obtain ⟨_, h2, h3, _⟩ := h kd kc e
        rw [e] at hd
        simp only [dkl, List.mem_cons, List.not_mem_nil, or_false] at hd
        rcases hd with rfl | rfl
        · rw [h2]; simp
        · rw [h3]; simp
    · cases e : H a with
      | none => exact absurd e (r.xt a ha)
      | some o => rw [st a o e hd]; simp
  dks := r.dks
  dk := h
  ent := r.ent.trans st
  one := fun e => by
    obtain ⟨o, u, q⟩ := r.one e
    refine ⟨o, u, st _ _ q fun z => ?_⟩
    cases e2 : fm.dka with
    | none => rw [e2] at z; simp [dkl] at z
    | some p =>
      obtain ⟨kd, kc⟩ := p
      obtain ⟨_, h2, h3, _⟩ := r.dk kd kc e2
      rw [e2] at z
      simp only [dkl, List.mem_cons, List.not_mem_nil, or_false] at z
      rcases z with z | z
      · rw [← z, q] at h2; cases h2
      · rw [← z, q] at h3; cases h3
  tm := fun p hp => Rp.stay st r.dks p.1 p.2 (r.tm p hp)
def rid (os : List (Nat × Addr)) (i : Nat) : List (Nat × Addr) := os.filter fun p => decide (p.1 ≠ i)
theorem rid_mem {os : List (Nat × Addr)} {i : Nat} {p : Nat × Addr} : p ∈ rid os i ↔ p ∈ os ∧ p.1 ≠ i := by simp [rid]
theorem rid_nd {os : List (Nat × Addr)} (h : (os.map (·.2)).Nodup) (i : Nat) : ((rid os i).map (·.2)).Nodup := h.sublist ((List.filter_sublist).map _)
theorem getD_set_self {σ : L2.St} {i : Nat} {v : V} (h : i < σ.length) : ((σ.set i (some v))[i]?).join = some v := by simp [h]
theorem getD_set_ne {σ : L2.St} {i j : Nat} {o : Option V} (h : i ≠ j) : ((σ.set i o)[j]?) = σ[j]? := by simp [h]
/-- a slot is given a value -/
theorem Rel.setfz (r : Rel K fm X os s σ H) {i : Nat} {d : D} {v : V} (p : Rp K H X d v) : Rel K fm X (rid os i) { s with env := s.env.set i (.fz d) } (σ.set i (some v)) H where
  len := by simp [r.len]
  slot := fun j sv e => by
    by_cases hij : i = j
    · subst hij
      by_cases hl : i < s.env.length
      · simp [hl] at e
        subst e
        exact ⟨v, getD_set_self (by rw [← r.len]; exact hl), p⟩
      · exact absurd (by simpa using (List.getElem?_eq_some_iff.mp e).1) hl
    · have e' : s.env[j]? = some sv := by simpa [hij] using e
      have q := r.slot j sv e'
      rw [getD_set_ne hij]
      cases sv with
      | un => exact q
      | fz d => exact q
      | own ds =>
        obtain ⟨a, vs, e1, e2, e3⟩ := q
        exact ⟨a, vs, e1, rid_mem.mpr ⟨e2, fun z => hij z.symm⟩, e3⟩
      | deck => exact q
  nd := rid_nd r.nd i
  sub := fun p hp => r.sub p (rid_mem.mp hp).1
  lv := fun p hp => r.lv p (rid_mem.mp hp).1
  x0 := r.x0
  x1 := r.x1
  xt := r.xt
  dks := r.dks
  dk := r.dk
  ent := r.ent
  one := r.one
  tm := r.tm
theorem Rel.ent0 (r : Rel K fm X os s σ H) {p : Addr} (h : H p = none) : fm.H0 p = none := by
  cases e : fm.H0 p with
  | none => rfl
  | some o =>
    have hd : p ∉ dkl fm.dka := fun z => r.nx h (r.dks p z)
    rw [r.ent p o e hd] at h
    cases h
/-- a new list, told -/
theorem Rel.laidL (r : Rel K fm X os s σ H) {p : Addr} {vs : List V} (h : H p = none) : Rel K fm (p :: X) os s σ (upd H p (.lst vs)) where
  len := r.len
  slot := fun i sv e => by
    have q := (r.laid (o := .lst vs) h).slot i sv e
    have q0 := r.slot i sv e
    have st : Stay [] H (upd H p (.lst vs)) := Stay.laid h
    cases sv with
    | un => exact q
    | fz d =>
      obtain ⟨v, e1, z⟩ := q0
      exact ⟨v, e1, Rp.stay st (fun a h => absurd h (by simp)) d v (Rp.fresh h d v z)⟩
    | own ds =>
      obtain ⟨a, ws, e1, e2, e3, z⟩ := q0
      exact ⟨a, ws, e1, e2, st _ _ e3 (by simp), RpA.stay st (fun a h => absurd h (by simp)) ds ws (RpA.fresh h ds ws z)⟩
    | deck => exact q
  nd := r.nd
  sub := fun q hq => ⟨List.mem_cons_of_mem _ (r.sub q hq).1, (r.sub q hq).2⟩
  lv := (r.laid (o := .lst vs) h).lv
  x0 := fun a ha => List.mem_cons_of_mem _ (r.x0 a ha)
  x1 := r.x1
  xt := fun a ha => by
    rcases List.mem_cons.mp ha with rfl | ha
    · rw [upd_same]; simp
    · exact (r.laid (o := .lst vs) h).xt a ha
  dks := fun a ha => List.mem_cons_of_mem _ (r.dks a ha)
  dk := (r.laid (o := .lst vs) h).dk
  ent := (r.laid (o := .lst vs) h).ent
  one := (r.laid (o := .lst vs) h).one
  tm := fun q hq => Rp.stay (M := []) (Stay.laid h) (fun a h => absurd h (by simp)) q.1 q.2 (Rp.fresh h q.1 q.2 (r.tm q hq))
/-- a slot is given a new list, its own -/
theorem Rel.setown {p : Addr} (r : Rel K fm X os s σ H) {i : Nat} {ds : List D} {vs : List V} (hx : p ∈ X) (hp : H p = some (.lst vs)) (hn : p ∉ os.map (·.2)) (hd : p ∉ dkl fm.dka) (h0 : fm.H0 p = none) (ha : RpA K H X ds vs) :
    Rel K fm X ((i, p) :: rid os i) { s with env := s.env.set i (.own ds) } (σ.set i (some (.ref p))) H where
  len := by simp [r.len]
  slot := fun j sv e => by
    by_cases hij : i = j
    · subst hij
      by_cases hl : i < s.env.length
      · simp [hl] at e
        subst e
        exact ⟨p, vs, getD_set_self (by rw [← r.len]; exact hl), List.mem_cons_self, hp, ha⟩
      · have := (List.getElem?_eq_some_iff.mp e).1
        simp at this
        omega
    · have e' : s.env[j]? = some sv := by simpa [hij] using e
      have q := r.slot j sv e'
      rw [getD_set_ne hij]
      cases sv with
      | un => exact q
      | fz d => exact q
      | own ds =>
        obtain ⟨a, ws, e1, e2, e3⟩ := q
        exact ⟨a, ws, e1, List.mem_cons_of_mem _ (rid_mem.mpr ⟨e2, fun z => hij z.symm⟩), e3⟩
      | deck => exact q
  nd := by
    rw [List.map_cons, List.nodup_cons]
    refine ⟨fun z => ?_, rid_nd r.nd i⟩
    obtain ⟨q, hq, e⟩ := List.mem_map.mp z
    exact hn (List.mem_map.mpr ⟨q, (rid_mem.mp hq).1, e⟩)
  sub := fun q hq => by
    rcases List.mem_cons.mp hq with rfl | hq
    · exact ⟨hx, hd, h0⟩
    · exact r.sub q (rid_mem.mp hq).1
  lv := fun q hq => by
    rcases List.mem_cons.mp hq with rfl | hq
    · exact ⟨vs, hp⟩
    · exact r.lv q (rid_mem.mp hq).1
  x0 := r.x0
  x1 := r.x1
  xt := r.xt
  dks := r.dks
  dk := r.dk
  ent := r.ent
  one := r.one
  tm := r.tm
/-- a frame's own list is changed in its place -/
theorem Rel.put (r : Rel K fm X os s σ H) {i : Nat} {a : Addr} {ds ds' : List D} {vs' : List V} (he : s.env[i]? = some (.own ds)) (hs : σ[i]?.join = some (.ref a)) (hm : (i, a) ∈ os) (hr : RpA K H X ds' vs') :
    Rel K fm X os { s with env := s.env.set i (.own ds') } σ (upd H a (.lst vs')) ∧ Stay [a] H (upd H a (.lst vs')) := by
  have ax := (r.sub _ hm).1
  have st : Stay [a] H (upd H a (.lst vs')) := Stay.put List.mem_cons_self
  have sx : ∀ x ∈ [a], x ∈ X := fun x hx => by
    rw [List.mem_singleton.mp hx]; exact ax
  have hd := (r.sub _ hm).2.1
  have nda : ∀ {j b}, (j, b) ∈ os → b = a → j = i := fun {j b} h1 h2 => by
    subst h2
    have nd := r.nd
    have key : ∀ (l : List (Nat × Addr)), (l.map (·.2)).Nodup → (j, b) ∈ l → (i, b) ∈ l → j = i := by
      intro l
      induction l with
      | nil => intro _ h; cases h
      | cons q l ih =>
        intro nd h1 h2
        rw [List.map_cons, List.nodup_cons] at nd
        rcases List.mem_cons.mp h1 with e1 | h1
        · rcases List.mem_cons.mp h2 with e2 | h2
          · rw [← e2] at e1
            exact (Prod.mk.inj e1).1
          · exact absurd (List.mem_map.mpr ⟨_, h2, by rw [← e1]⟩) nd.1
        · rcases List.mem_cons.mp h2 with e2 | h2
          · exact absurd (List.mem_map.mpr ⟨_, h1, by rw [← e2]⟩) nd.1
          · exact ih nd.2 h1 h2
    exact key os nd h1 hm
  refine ⟨?_, st⟩
  exact {
    len := by simp [r.len]
    slot := fun j sv e => by
      by_cases hij : i = j
      · subst hij
        have hl := (List.getElem?_eq_some_iff.mp he).1
        simp [hl] at e
        subst e
        exact ⟨a, vs', hs, hm, upd_same, RpA.stay st sx ds' vs' hr⟩
      · have e' : s.env[j]? = some sv := by simpa [hij] using e
        have q := r.slot j sv e'
        cases sv with
        | un => exact q
        | fz d =>
          obtain ⟨v, e1, p⟩ := q
          exact ⟨v, e1, Rp.stay st sx d v p⟩
        | own ds =>
          obtain ⟨b, ws, e1, e2, e3, p⟩ := q
          have hb : b ≠ a := fun z => hij (nda e2 z).symm
          exact ⟨b, ws, e1, e2, by rw [upd_ne hb]; exact e3, RpA.stay st sx ds ws p⟩
        | deck => exact q
    nd := r.nd
    sub := r.sub
    lv := fun p hp => by
      by_cases hb : p.2 = a
      · exact ⟨vs', by rw [hb, upd_same]⟩
      · obtain ⟨ws, e⟩ := r.lv p hp
        exact ⟨ws, by rw [upd_ne hb]; exact e⟩
    x0 := r.x0
    x1 := r.x1
    xt := fun b hb => by
      by_cases hba : b = a
      · rw [hba, upd_same]; simp
      · rw [upd_ne hba]; exact r.xt b hb
    dks := r.dks
    dk := fun kd kc e => by
      obtain ⟨h1, h2, h3, h4⟩ := r.dk kd kc e
      have n1 : kd ≠ a := fun z => hd (by rw [e]; simp [dkl, z])
      have n2 : kc ≠ a := fun z => hd (by rw [e]; simp [dkl, z])
      exact ⟨h1, by rw [upd_ne n1]; exact h2, by rw [upd_ne n2]; exact h3, h4⟩
    ent := fun b o e n => by
      have hb : b ≠ a := fun z => by
        rw [z, (r.sub _ hm).2.2] at e
        cases e
      rw [upd_ne hb]
      exact r.ent b o e n
    one := fun e => by
      obtain ⟨o, u, q⟩ := r.one e
      obtain ⟨ws, z⟩ := r.lv _ hm
      refine ⟨o, u, ?_⟩
      have hb : sysModules ≠ a := fun e2 => by
        rw [← e2, q] at z
        cases z
      rw [upd_ne hb]
      exact q
    tm := fun p hp => Rp.stay st sx p.1 p.2 (r.tm p hp) }
/-- a frame's own list is left as it is for ever -/
theorem Rel.freeze (r : Rel K fm X os s σ H) {i : Nat} {ds : List D} (he : s.env[i]? = some (.own ds)) : ∃ X', Rel K fm X' (rid os i) { s with env := s.env.set i (.fz (.list ds)) } σ H := by
  obtain ⟨a, vs, hs, hm, hv, hr⟩ := r.slot i _ he
  have sub : ∀ x ∈ X.filter (fun x => decide (x ≠ a)), x ∈ X := fun x h => (List.mem_filter.mp h).1
  have na : a ∉ X.filter (fun x => decide (x ≠ a)) := fun h => by simpa using (List.mem_filter.mp h).2
  have keep : ∀ {x}, x ∈ X → x ≠ a → x ∈ X.filter (fun x => decide (x ≠ a)) := fun h n => List.mem_filter.mpr ⟨h, by simpa using n⟩
  have ha0 : fm.H0 a = none := (r.sub _ hm).2.2
  have nd := r.nd
  have other : ∀ {p : Nat × Addr}, p ∈ os → p.1 ≠ i → p.2 ≠ a := fun {p} h1 h2 z => by
    have key : ∀ (l : List (Nat × Addr)), (l.map (·.2)).Nodup → p ∈ l → (i, a) ∈ l → p.1 = i := by
      intro l
      induction l with
      | nil => intro _ h; cases h
      | cons q l ih =>
        intro nd h1 h2
        rw [List.map_cons, List.nodup_cons] at nd
        rcases List.mem_cons.mp h1 with e1 | h1
        · rcases List.mem_cons.mp h2 with e2 | h2
          · rw [e1, ← e2]
          · exact absurd (List.mem_map.mpr ⟨_, h2, by rw [← e1, z]⟩) nd.1
        · rcases List.mem_cons.mp h2 with e2 | h2
          · exact absurd (List.mem_map.mpr ⟨_, h1, by rw [← e2, z]⟩) nd.1
          · exact ih nd.2 h1 h2
    exact h2 (key os nd h1 hm)
  refine ⟨X.filter (fun x => decide (x ≠ a)), ?_⟩
  exact {
    len := by simp [r.len]
    slot := fun j sv e => by
      by_cases hij : i = j
      · subst hij
        have hl := (List.getElem?_eq_some_iff.mp he).1
        simp [hl] at e
        subst e
        exact ⟨.ref a, hs, a, vs, rfl, ⟨hv, na⟩, RpA.less sub ds vs hr⟩
      · have e' : s.env[j]? = some sv := by simpa [hij] using e
        have q := r.slot j sv e'
        cases sv with
        | un => exact q
        | fz d =>
          obtain ⟨v, e1, p⟩ := q
          exact ⟨v, e1, Rp.less sub d v p⟩
        | own ds =>
          obtain ⟨b, ws, e1, e2, e3, p⟩ := q
          exact ⟨b, ws, e1, rid_mem.mpr ⟨e2, fun z => hij z.symm⟩, e3, RpA.less sub ds ws p⟩
        | deck => exact q
    nd := rid_nd r.nd i
    sub := fun p hp => by
      obtain ⟨h1, h2⟩ := rid_mem.mp hp
      exact ⟨keep (r.sub p h1).1 (other h1 h2), (r.sub p h1).2⟩
    lv := fun p hp => r.lv p (rid_mem.mp hp).1
    x0 := fun b hb => keep (r.x0 b hb) fun z => r.x1 b hb (by rw [z]; exact ha0)
    x1 := r.x1
    xt := fun b hb => r.xt b (sub b hb)
    dks := fun b hb => keep (r.dks b hb) fun z => (r.sub _ hm).2.1 (by rw [← z]; exact hb)
    dk := r.dk
    ent := r.ent
    one := r.one
    tm := fun p hp => Rp.less sub p.1 p.2 (r.tm p hp) }
/-- a smaller set to be left alone -/
theorem Rel.lessX {p : Addr} (r : Rel K fm (p :: X) os s σ H) (hn : p ∉ os.map (·.2)) (hd : p ∉ dkl fm.dka) (h0 : fm.H0 p = none) (hx : p ∉ X) : Rel K fm X os s σ H := by
  have sub : ∀ x ∈ X, x ∈ p :: X := fun x h => List.mem_cons_of_mem _ h
  exact {
    len := r.len
    slot := fun j sv e => by
      have q := r.slot j sv e
      cases sv with
      | un => exact q
      | fz d =>
        obtain ⟨v, e1, p⟩ := q
        exact ⟨v, e1, Rp.less sub d v p⟩
      | own ds =>
        obtain ⟨b, ws, e1, e2, e3, p⟩ := q
        exact ⟨b, ws, e1, e2, e3, RpA.less sub ds ws p⟩
      | deck => exact q
    nd := r.nd
    sub := fun q hq => by
      refine ⟨(List.mem_cons.mp (r.sub q hq).1).resolve_left fun z => ?_, (r.sub q hq).2⟩
      exact hn (List.mem_map.mpr ⟨q, hq, z⟩)
    lv := r.lv
    x0 := fun b hb => (List.mem_cons.mp (r.x0 b hb)).resolve_left fun z => r.x1 b hb (by rw [z]; exact h0)
    x1 := r.x1
    xt := fun b hb => r.xt b (sub b hb)
    dks := fun b hb => (List.mem_cons.mp (r.dks b hb)).resolve_left fun z => hd (by rw [← z]; exact hb)
    dk := r.dk
    ent := r.ent
    one := r.one
    tm := fun q hq => Rp.less sub q.1 q.2 (r.tm q hq) }
/-- what is held besides -/
theorem Rel.hold (r : Rel K fm X os s σ H) {p : D × V} (h : Rp K H X p.1 p.2) : Rel K { fm with tmp := p :: fm.tmp } X os s σ H :=
  { len := r.len, slot := r.slot, nd := r.nd, sub := r.sub, lv := r.lv, x0 := r.x0, x1 := r.x1, xt := r.xt, dks := r.dks, dk := r.dk, ent := r.ent, one := r.one,
    tm := fun q hq => (List.mem_cons.mp hq).elim (fun e => by rw [e]; exact h) (r.tm q) }
theorem Rel.holds (r : Rel K fm X os s σ H) : ∀ (t : List (D × V)), (∀ p ∈ t, Rp K H X p.1 p.2) → Rel K { fm with tmp := t ++ fm.tmp } X os s σ H := fun t h =>
  { len := r.len, slot := r.slot, nd := r.nd, sub := r.sub, lv := r.lv, x0 := r.x0, x1 := r.x1, xt := r.xt, dks := r.dks, dk := r.dk, ent := r.ent, one := r.one,
    tm := fun q hq => (List.mem_append.mp hq).elim (h q) (r.tm q) }
theorem Rel.drops {t : List (D × V)} (r : Rel K { fm with tmp := t ++ fm.tmp } X os s σ H) : Rel K fm X os s σ H :=
  { len := r.len, slot := r.slot, nd := r.nd, sub := r.sub, lv := r.lv, x0 := r.x0, x1 := r.x1, xt := r.xt, dks := r.dks, dk := r.dk, ent := r.ent, one := r.one,
    tm := fun q hq => r.tm q (List.mem_append_right _ hq) }
/-- slots that nothing is told of may hold anything -/
theorem Rel.resig {σ' : L2.St} (r : Rel K fm X os s σ H) (hl : σ'.length = σ.length) (h : ∀ i : Nat, s.env[i]? = some Sv.un ∨ σ'[i]? = σ[i]?) : Rel K fm X os s σ' H where
  len := by rw [hl]; exact r.len
  slot := fun i sv e => by
    rcases h i with q | q
    · rw [q] at e
      cases e
      trivial
    · rw [q]; exact r.slot i sv e
  nd := r.nd
  sub := r.sub
  lv := r.lv
  x0 := r.x0
  x1 := r.x1
  xt := r.xt
  dks := r.dks
  dk := r.dk
  ent := r.ent
  one := r.one
  tm := r.tm
/-- a slot is forgotten -/
theorem Rel.forget (r : Rel K fm X os s σ H) (i : Nat) : Rel K fm X os { s with env := s.env.set i .un } σ H where
  len := by simp [r.len]
  slot := fun j sv e => by
    by_cases hij : i = j
    · subst hij
      by_cases hl : i < s.env.length
      · simp [hl] at e
        subst e
        trivial
      · exact absurd (by simpa using (List.getElem?_eq_some_iff.mp e).1) hl
    · exact r.slot j sv (by simpa [hij] using e)
  nd := r.nd
  sub := r.sub
  lv := r.lv
  x0 := r.x0
  x1 := r.x1
  xt := r.xt
  dks := r.dks
  dk := r.dk
  ent := r.ent
  one := r.one
  tm := r.tm
end
end Zo
/-! ZC: the judgements (an expression, its value by value), and the rules that do not hang on an operator. -/
namespace Zo
open PySem PySem.Spec PyProof.Rows L2
/-- what may be read: what nobody changes any more, or a list of the frame's own -/
def RpB (K : Fr) (H : Hp) (X : List Addr) (os : List (Nat × Addr)) (d : D) (v : V) : Prop :=
  Rp K H X d v ∨ ∃ i a vs ds, d = .list ds ∧ v = .ref a ∧ (i, a) ∈ os ∧ H a = some (.lst vs) ∧ RpA K H X ds vs
section
variable (K : Fr) (cl : Nat → Addr) (W : WX) (m : Bool)
def Wish (fm : Fm) (X : List Addr) (os : List (Nat × Addr)) (σ : L2.St) (c : Nat) (t : D) (s' : Ms) : Prop :=
  ∀ v dd H', Rel K fm X os s' σ H' → Rp K H' X t v → H' dd = some (.xd [(("thing" : Str), v)]) → W (.ref (cl c)) (some dd) σ H'
def GoodE (fm : Fm) (X : List Addr) (os : List (Nat × Addr)) (σ : L2.St) (H : Hp) (Q : VK) : Out D → Prop
  | .ok d s' => ∀ v H', Rel K fm X os s' σ H' → Stay (Mu fm.dka os m) H H' → Rp K H' X d v → Q v H'
  | .exc c t s' => Wish K cl W fm X os σ c t s'
  | .no => False
def GoodB (fm : Fm) (X : List Addr) (os : List (Nat × Addr)) (σ : L2.St) (H : Hp) (Q : VK) : Out D → Prop
  | .ok d s' => ∀ v H', Rel K fm X os s' σ H' → Stay (Mu fm.dka os m) H H' → RpB K H' X os d v → Q v H'
  | .exc c t s' => Wish K cl W fm X os σ c t s'
  | .no => False
/-- p is nobody's yet -/
structure Frsh (fm : Fm) (X : List Addr) (os : List (Nat × Addr)) (p : Addr) : Prop where
  nx : p ∉ X
  no : p ∉ os.map (·.2)
  nd : p ∉ dkl fm.dka
  n0 : fm.H0 p = none
/-- a new list -/
def GoodF (fm : Fm) (X : List Addr) (os : List (Nat × Addr)) (σ : L2.St) (H : Hp) (Q : VK) : Out (List D) → Prop
  | .ok ds s' => ∀ p vs H1, Rel K fm (p :: X) os s' σ H1 → Stay (Mu fm.dka os m) H H1 → Frsh fm X os p → H1 p = some (.lst vs) → RpA K H1 (p :: X) ds vs → Q (.ref p) H1
  | .exc c t s' => Wish K cl W fm X os σ c t s'
  | .no => False
def GoodA (fm : Fm) (X : List Addr) (os : List (Nat × Addr)) (σ : L2.St) (H : Hp) (Q : List V → Hp → Prop) : Out (List D) → Prop
  | .ok ds s' => ∀ vs H', Rel K fm X os s' σ H' → Stay (Mu fm.dka os m) H H' → RpA K H' X ds vs → Q vs H'
  | .exc c t s' => Wish K cl W fm X os σ c t s'
  | .no => False
def GoodT (fm : Fm) (X : List Addr) (os : List (Nat × Addr)) (σ : L2.St) (H : Hp) (Q : Bool → Hp → Prop) : Out Bool → Prop
  | .ok b s' => ∀ H', Rel K fm X os s' σ H' → Stay (Mu fm.dka os m) H H' → Q b H'
  | .exc c t s' => Wish K cl W fm X os σ c t s'
  | .no => False
def tE (ev : Ev) : TE := fun σ H Q => ∃ fm X os s, Rel K fm X os s σ H ∧ GoodE K cl W m fm X os σ H Q (ev s)
def tB (ev : Ev) : TE := fun σ H Q => ∃ fm X os s, Rel K fm X os s σ H ∧ GoodB K cl W m fm X os σ H Q (ev s)
def tF (ev : Evs) : TE := fun σ H Q => ∃ fm X os s, Rel K fm X os s σ H ∧ GoodF K cl W m fm X os σ H Q (ev s)
def tA (ev : Evs) : TA := fun σ H Q => ∃ fm X os s, Rel K fm X os s σ H ∧ GoodA K cl W m fm X os σ H Q (ev s)
def tT (ev : Ms → Out Bool) : TT := fun σ H Q => ∃ fm X os s, Rel K fm X os s σ H ∧ GoodT K cl W m fm X os σ H Q (ev s)
end
abbrev SE (cl : Nat → Addr) (X : Cx) (W : WX) (m : Bool) (e : Expr) (ev : Ev) : Prop := PE X e (tE X.K cl W m ev)
abbrev SB (cl : Nat → Addr) (X : Cx) (W : WX) (m : Bool) (e : Expr) (ev : Ev) : Prop := PE X e (tB X.K cl W m ev)
abbrev SF (cl : Nat → Addr) (X : Cx) (W : WX) (m : Bool) (e : Expr) (ev : Evs) : Prop := PE X e (tF X.K cl W m ev)
abbrev SA (cl : Nat → Addr) (X : Cx) (W : WX) (m : Bool) (es : List Expr) (ev : Evs) : Prop := PA X es (tA X.K cl W m ev)
abbrev STt (cl : Nat → Addr) (X : Cx) (W : WX) (m : Bool) (e : Expr) (ev : Ms → Out Bool) : Prop := PT X e (tT X.K cl W m ev)
abbrev SW (cl : Nat → Addr) (X : Cx) (W : WX) (m : Bool) (e : Expr) (ev : Ms → Out Bool) : Prop := PW X e (tT X.K cl W m ev)
section
variable {X : Cx} {e : Expr} {es : List Expr}
theorem pe_imp {t t' : TE} (h : PE X e t) (i : ∀ σ H Q, t' σ H Q → t σ H Q) : PE X e t' := ⟨fun pins s σ H Q I q => h.run pins s σ H Q I (i σ H Q q)⟩
theorem pa_imp {t t' : TA} (h : PA X es t) (i : ∀ σ H Q, t' σ H Q → t σ H Q) : PA X es t' := ⟨fun pos pins s σ H Q I q => h.run pos pins s σ H Q I (i σ H Q q)⟩
theorem pt_imp {t t' : TT} (h : PT X e t) (i : ∀ σ H Q, t' σ H Q → t σ H Q) : PT X e t' := ⟨fun pins s σ H Q I q => h.run pins s σ H Q I (i σ H Q q)⟩
theorem pw_imp {t t' : TT} (h : PW X e t) (i : ∀ σ H Q, t' σ H Q → t σ H Q) : PW X e t' := ⟨fun w pins s σ H Q I q => h.run w pins s σ H Q I (i σ H Q q)⟩
theorem ps_imp {st : Stmt} {t t' : TS} (h : PS X st t) (i : ∀ D σ H, t' D σ H → t D σ H) : PS X st t' := ⟨fun pins s σ H D I q => h.run pins s σ H D I (i D σ H q)⟩
theorem pss_imp {st : List Stmt} {t t' : TS} (h : PSs X st t) (i : ∀ D σ H, t' D σ H → t D σ H) : PSs X st t' := ⟨fun pins s σ H D I q => h.run pins s σ H D I (i D σ H q)⟩
end
section
variable {K : Fr} {fm : Fm} {X : List Addr} {os : List (Nat × Addr)} {s : Ms} {σ : L2.St} {H H' : Hp}
theorem RpB.list {ds : List D} {v : V} (h : RpB K H X os (.list ds) v) : ∃ a vs, v = .ref a ∧ H a = some (.lst vs) ∧ RpA K H X ds vs := by
  rcases h with ⟨a, vs, e, f, r⟩ | ⟨i, a, vs, ds', e, ev, hm, ha, r⟩
  · exact ⟨a, vs, e, f.1, r⟩
  · cases e
    exact ⟨a, vs, ev, ha, r⟩
theorem RpB.tuple {ds : List D} {v : V} (h : RpB K H X os (.tuple ds) v) : ∃ a vs, v = .ref a ∧ SqT K H a vs ∧ RpA K H X ds vs := by
  rcases h with ⟨a, vs, e, f, r⟩ | ⟨i, a, vs, ds', e, ev, hm, ha, r⟩
  · exact ⟨a, vs, e, f.sq, r⟩
  · cases e
theorem RpB.int {i : Int} {v : V} (h : RpB K H X os (.int i) v) : v = .int i := by
  rcases h with h | ⟨_, _, _, _, e, _⟩
  · exact h
  · cases e
theorem RpB.str {x : Str} {v : V} (h : RpB K H X os (.str x) v) : v = .str x := by
  rcases h with h | ⟨_, _, _, _, e, _⟩
  · exact h
  · cases e
theorem RpB.bool {b : Bool} {v : V} (h : RpB K H X os (.bool b) v) : v = .bl b := by
  rcases h with h | ⟨_, _, _, _, e, _⟩
  · exact h
  · cases e
theorem RpB.none {v : V} (h : RpB K H X os .none v) : v = .non := by
  rcases h with h | ⟨_, _, _, _, e, _⟩
  · exact h
  · cases e
theorem RpB.dict {es : List (D × D)} {v : V} (h : RpB K H X os (.dict es) v) : ∃ a kvs, v = .ref a ∧ H a = some (.dK kvs) ∧ a ∉ X ∧ RpK K H X es kvs := by
  rcases h with h | ⟨_, _, _, _, e, _⟩
  · exact h
  · cases e
theorem Rel.sx (r : Rel K fm X os s σ H) {m : Bool} : ∀ a ∈ Mu fm.dka os m, a ∈ X := Mu.sub r m
theorem RpB.still (r : Rel K fm X os s σ H) {d : D} {v : V} (h : RpB K H X os d v) (st : Stay (Mu fm.dka os true) H H') : RpB K H' X os d v := by
  rcases h with h | ⟨i, a, vs, ds, e, ev, hm, ha, q⟩
  · exact .inl (Rp.stay st r.sx d v h)
  · have na : a ∉ Mu fm.dka os true := fun z => by
      unfold Mu at z
      rcases List.mem_append.mp z with z | z
      · exact (r.sub _ hm).2.1 z
      · simp at z
    exact .inr ⟨i, a, vs, ds, e, ev, hm, st _ _ ha na, RpA.stay st r.sx ds vs q⟩
theorem Stay.any {M : List Addr} {H H' : Hp} (st : Stay [] H H') : Stay M H H' := st.more fun a h => absurd h (by simp)
end
/-! ### weakening -/
section
variable {cl : Nat → Addr} {X : Cx} {W : WX} {m : Bool} {e : Expr} {ev : Ev}
theorem sb_of (h : SE cl X W m e ev) : SB cl X W m e ev := pe_imp h fun σ H Q ⟨fm, Xs, os, s, r, g⟩ => ⟨fm, Xs, os, s, r, by
  cases q : ev s with
  | ok d s' =>
    rw [q] at g
    exact fun v H' r' st p => g v H' r' st (.inl p)
  | exc c t s' => rw [q] at g; exact g
  | no => rw [q] at g; exact g⟩
theorem Rel.nos {K : Fr} {fm : Fm} {Xs : List Addr} {os : List (Nat × Addr)} {s : Ms} {σ : L2.St} {H : Hp} (r : Rel K fm Xs os s σ H) {p : Addr} (h : H p = none) : p ∉ os.map (·.2) := fun z => by
  obtain ⟨q, hq, e⟩ := List.mem_map.mp z
  exact r.nx h (by rw [← e]; exact (r.sub q hq).1)
theorem Rel.frsh {K : Fr} {fm : Fm} {Xs : List Addr} {os : List (Nat × Addr)} {s : Ms} {σ : L2.St} {H : Hp} (r : Rel K fm Xs os s σ H) {p : Addr} (h : H p = none) : Frsh fm Xs os p := ⟨r.nx h, r.nos h, fun z => r.nx h (r.dks p z), r.ent0 h⟩
theorem useF {K : Fr} {fm : Fm} {Xs : List Addr} {os : List (Nat × Addr)} {s' : Ms} {σ : L2.St} {H H1 : Hp} {Q : VK} {ds : List D} {vs : List V} {p : Addr}
    (g : ∀ p vs H1, Rel K fm (p :: Xs) os s' σ H1 → Stay (Mu fm.dka os m) H H1 → Frsh fm Xs os p → H1 p = some (.lst vs) → RpA K H1 (p :: Xs) ds vs → Q (.ref p) H1)
    (r1 : Rel K fm Xs os s' σ H1) (st : Stay (Mu fm.dka os m) H H1) (hp : H1 p = none) (ra : RpA K H1 Xs ds vs) : Q (.ref p) (upd H1 p (.lst vs)) :=
  g p vs _ (r1.laidL hp) (st.trans (Stay.laid hp)) (r1.frsh hp) upd_same (RpA.stay (M := []) (Stay.laid hp) (fun a h => absurd h (by simp)) ds vs (RpA.fresh hp ds vs ra))
def lstOf (ev : Evs) : Ev := fun s => (ev s).bind fun ds s' => .ok (.list ds) s'
theorem sf_of {ev : Evs} (h : SF cl X W m e ev) : SE cl X W m e (lstOf ev) := pe_imp h fun σ H Q ⟨fm, Xs, os, s, r, g⟩ => ⟨fm, Xs, os, s, r, by
  unfold lstOf at g
  cases q : ev s with
  | ok ds s' =>
    rw [q] at g
    refine fun p vs H1 r1 st fp hp ra => g (.ref p) _ (r1.lessX fp.no fp.nd fp.n0 fp.nx) st ?_
    exact ⟨p, vs, rfl, ⟨hp, fp.nx⟩, RpA.less (fun x h => List.mem_cons_of_mem _ h) ds vs ra⟩
  | exc c t s' => rw [q] at g; exact g
  | no => rw [q] at g; exact g⟩
/-! ### names, constants -/
def evVar (i : Nat) : Ev := fun s => match s.env[i]? with
  | some (.fz d) => .ok d s
  | _ => .no
def evVarB (i : Nat) : Ev := fun s => match s.env[i]? with
  | some (.fz d) => .ok d s
  | some (.own ds) => .ok (.list ds) s
  | _ => .no
theorem join_some {σ : L2.St} {i : Nat} {v : V} (h : σ[i]?.join = some v) : σ[i]? = some (some v) := by
  cases e : σ[i]? with
  | none => rw [e] at h; cases h
  | some o => rw [e] at h; cases o <;> cases h; rfl
theorem se_var (i : Nat) (h : PE X e (tVar i)) : SE cl X W m e (evVar i) := pe_imp h fun σ H Q ⟨fm, Xs, os, s, r, g⟩ => by
  unfold evVar at g
  cases q : s.env[i]? with
  | none => rw [q] at g; exact g.elim
  | some sv =>
    rw [q] at g
    cases sv with
    | fz d =>
      obtain ⟨v, e1, p⟩ := r.slot i _ q
      exact ⟨v, join_some e1, g v H r (Stay.refl _ _) p⟩
    | _ => exact g.elim
theorem sb_var (i : Nat) (h : PE X e (tVar i)) : SB cl X W m e (evVarB i) := pe_imp h fun σ H Q ⟨fm, Xs, os, s, r, g⟩ => by
  unfold evVarB at g
  cases q : s.env[i]? with
  | none => rw [q] at g; exact g.elim
  | some sv =>
    rw [q] at g
    cases sv with
    | fz d =>
      obtain ⟨v, e1, p⟩ := r.slot i _ q
      exact ⟨v, join_some e1, g v H r (Stay.refl _ _) (.inl p)⟩
    | own ds =>
      obtain ⟨a, vs, e1, e2, e3, p⟩ := r.slot i _ q
      exact ⟨.ref a, join_some e1, g (.ref a) H r (Stay.refl _ _) (.inr ⟨i, a, vs, ds, rfl, rfl, e2, e3, p⟩)⟩
    | _ => exact g.elim
def evLit (d : D) : Ev := fun s => .ok d s
/-- a constant, written or of the module -/
theorem se_const {d : D} {v : V} (h : PE X e (tC v)) (p : ∀ H Xs, Rp X.K H Xs d v) : SE cl X W m e (evLit d) := pe_imp h fun σ H Q ⟨fm, Xs, os, s, r, g⟩ => g v H r (Stay.refl _ _) (p H Xs)
theorem se_int {i : Int} {j pos} : SE cl X W m (.Constant (.int i) j pos) (evLit (.int i)) := se_const pe_int fun _ _ => rfl
theorem se_str {x : Str} {j pos} : SE cl X W m (.Constant (.str x) j pos) (evLit (.str x)) := se_const pe_str fun _ _ => rfl
theorem se_bool {b : Bool} {j pos} : SE cl X W m (.Constant (.bool b) j pos) (evLit (.bool b)) := se_const pe_bl fun _ _ => rfl
theorem se_none {j pos} : SE cl X W m (.Constant .none j pos) (evLit .none) := se_const pe_non fun _ _ => rfl
/-! ### argument lists, displays -/
def evNil : Evs := fun s => .ok [] s
def evCons (a : Ev) (b : Evs) : Evs := fun s => (a s).bind fun d s1 => (b s1).bind fun ds s2 => .ok (d :: ds) s2
theorem sa_nil : SA cl X W m [] evNil := pa_imp pa_nil fun σ H Q ⟨fm, Xs, os, s, r, g⟩ => g [] H r (Stay.refl _ _) rfl
theorem sa_cons {es : List Expr} {evs : Evs} (h : SE cl X W m e ev) (hs : SA cl X W m es evs) (he : starEach (e :: es) X.env = (false, eval e X.env) :: starEach es X.env := by rfl) : SA cl X W m (e :: es) (evCons ev evs) :=
  pa_imp (pa_cons h hs he) fun σ H Q ⟨fm, Xs, os, s, r, g⟩ => by
    unfold evCons at g
    refine ⟨fm, Xs, os, s, r, ?_⟩
    cases q : ev s with
    | ok d s1 =>
      rw [q] at g
      simp only [Out.bind_ok] at g
      refine fun v H1 r1 st1 p1 => ⟨fm, Xs, os, s1, r1, ?_⟩
      cases q2 : evs s1 with
      | ok ds s2 =>
        rw [q2] at g
        refine fun vs H2 r2 st2 p2 => g (v :: vs) H2 r2 (st1.trans st2) ⟨v, vs, rfl, Rp.stay st2 r1.sx d v p1, p2⟩
      | exc c t s2 => rw [q2] at g; exact g
      | no => rw [q2] at g; exact g.elim
    | exc c t s1 => rw [q] at g; exact g
    | no => rw [q] at g; exact g.elim
def evTup (b : Evs) : Ev := fun s => (b s).bind fun ds s1 => if ds.length ≤ 1000 then .ok (.tuple ds) s1 else .no
def evLst (b : Evs) : Evs := fun s => (b s).bind fun ds s1 => if ds.length ≤ 1000 then .ok ds s1 else .no
theorem size1000 {n : Nat} (h : n ≤ 1000) : n ≤ sizeLine := Nat.le_of_lt (small1000 h)
theorem se_tup {es : List Expr} {evs : Evs} {x1 pos} (h : SA cl X W m es evs) : SE cl X W m (.Tuple es x1 pos) (evTup evs) := pe_imp (pe_tup h) fun σ H Q ⟨fm, Xs, os, s, r, g⟩ => by
  unfold evTup at g
  refine ⟨fm, Xs, os, s, r, ?_⟩
  cases q : evs s with
  | ok ds s1 =>
    rw [q] at g
    simp only [Out.bind_ok] at g
    refine fun vs H1 r1 st1 p1 => ?_
    split at g
    · rename_i hl
      refine ⟨by rw [p1.len]; exact size1000 hl, fun p hp => g (.ref p) _ (r1.laid hp) (st1.trans (Stay.laid hp)) ?_⟩
      exact ⟨p, vs, rfl, .inl ⟨.inl upd_same, r1.nx hp⟩, RpA.stay (M := []) (Stay.laid hp) (fun a h => absurd h (by simp)) ds vs p1⟩
    · exact g.elim
  | exc c t s1 => rw [q] at g; exact g
  | no => rw [q] at g; exact g.elim
theorem sf_lst {es : List Expr} {evs : Evs} {pos} (h : SA cl X W m es evs) : SF cl X W m (.List es pos) (evLst evs) := pe_imp (pe_lst h) fun σ H Q ⟨fm, Xs, os, s, r, g⟩ => by
  unfold evLst at g
  refine ⟨fm, Xs, os, s, r, ?_⟩
  cases q : evs s with
  | ok ds s1 =>
    rw [q] at g
    simp only [Out.bind_ok] at g
    refine fun vs H1 r1 st1 p1 => ?_
    split at g
    · rename_i hl
      exact ⟨by rw [p1.len]; exact size1000 hl, fun p hp => useF g r1 st1 hp p1⟩
    · exact g.elim
  | exc c t s1 => rw [q] at g; exact g
  | no => rw [q] at g; exact g.elim
/-! ### operators by what they do on values -/
/-- from two values that may be read: what the operator's reading asks -/
def OpSem (X : Cx) (r : R2) (f : D → D → Option D) : Prop :=
  ∀ (fm : Fm) (Xs : List Addr) (os : List (Nat × Addr)) (s : Ms) (σ : L2.St) (H : Hp) (d1 d2 d : D) (v1 v2 : V) (Q : VK), Rel X.K fm Xs os s σ H → RpB X.K H Xs os d1 v1 → RpB X.K H Xs os d2 v2 → f d1 d2 = some d →
    (∀ v H', Rel X.K fm Xs os s σ H' → Stay [] H H' → Rp X.K H' Xs d v → Q v H') → r v1 v2 H Q
def orF (f g : D → D → Option D) : D → D → Option D := fun a b => match f a b with
  | some d => some d
  | none => g a b
theorem OpSem.or {r r' : R2} {f g : D → D → Option D} (h : OpSem X r f) (h' : OpSem X r' g) : OpSem X (fun x y H Q => r x y H Q ∨ r' x y H Q) (orF f g) := by
  intro fm Xs os s σ H d1 d2 d v1 v2 Q R p1 p2 e q
  unfold orF at e
  cases e1 : f d1 d2 with
  | some d' =>
    rw [e1] at e
    cases e
    exact .inl (h fm Xs os s σ H d1 d2 _ v1 v2 Q R p1 p2 e1 q)
  | none =>
    rw [e1] at e
    exact .inr (h' fm Xs os s σ H d1 d2 d v1 v2 Q R p1 p2 e q)
def toOut {α : Type} (o : Option α) (s : Ms) : Out α := match o with
  | some d => .ok d s
  | none => .no
@[simp] theorem toOut_some {α : Type} (d : α) (s : Ms) : toOut (some d) s = .ok d s := rfl
@[simp] theorem toOut_none {α : Type} (s : Ms) : (toOut none s : Out α) = .no := rfl
def evBin (f : D → D → Option D) (a b : Ev) : Ev := fun s => (a s).bind fun x s1 => (b s1).bind fun y s2 => toOut (f x y) s2
theorem tOp_sem {K : Fr} {r : R2} {f : D → D → Option D} {a b : Ev} (hK : K = X.K) (hs : OpSem X r f) {σ : L2.St} {H : Hp} {Q : VK} (h : tE X.K cl W m (evBin f a b) σ H Q) : tOp r (tB X.K cl W m a) (tB X.K cl W true b) σ H Q := by
  obtain ⟨fm, Xs, os, s, R, g⟩ := h
  unfold evBin at g
  refine ⟨fm, Xs, os, s, R, ?_⟩
  cases q : a s with
  | ok x s1 =>
    rw [q] at g
    simp only [Out.bind_ok] at g
    refine fun v1 H1 r1 st1 p1 => ⟨fm, Xs, os, s1, r1, ?_⟩
    cases q2 : b s1 with
    | ok y s2 =>
      rw [q2] at g
      simp only [Out.bind_ok] at g
      refine fun v2 H2 r2 st2 p2 => ?_
      cases q3 : f x y with
      | some d =>
        rw [q3] at g
        exact hs fm Xs os s2 σ H2 x y d v1 v2 Q r2 (p1.still r1 st2) p2 q3 fun v H3 r3 st3 p3 => g v H3 r3 (st1.trans ((st2.more Mu.still).trans st3.any)) p3
      | none => rw [q3] at g; exact g.elim
    | exc c t s2 => rw [q2] at g; exact g
    | no => rw [q2] at g; exact g.elim
  | exc c t s1 => rw [q] at g; exact g
  | no => rw [q] at g; exact g.elim
theorem se_bin {op : Operator} {r : R2} {f : D → D → Option D} {ea eb : Expr} {a b : Ev} {pos} (ho : OpR X (binaryOp op) r) (hs : OpSem X r f) (ha : SB cl X W m ea a) (hb : SB cl X W true eb b) : SE cl X W m (.BinOp ea op eb pos) (evBin f a b) :=
  pe_imp (pe_op ho ha hb) fun _ _ _ h => tOp_sem rfl hs h
theorem se_cmp {op : CmpOp} {r : R2} {f : D → D → Option D} {ea eb : Expr} {a b : Ev} {pos} (ho : OpR X (compareOp op) r) (hs : OpSem X r f) (ha : SB cl X W m ea a) (hb : SB cl X W true eb b) (hm : behindInMarks op eb = false) : SE cl X W m (.Compare ea [op] [eb] pos) (evBin f a b) :=
  pe_imp (pe_cmpR ho ha hb hm) fun _ _ _ h => tOp_sem rfl hs h
/-! ### tests -/
def asBool : D → Option Bool
  | .bool b => some b
  | _ => none
def evT (a : Ev) : Ms → Out Bool := fun s => (a s).bind fun d s1 => toOut (asBool d) s1
theorem asBool_some {d : D} {b : Bool} (h : asBool d = some b) : d = .bool b := by
  cases d <;> simp [asBool] at h
  rw [h]
theorem tT_of {a : Ev} {σ : L2.St} {H : Hp} {Q : Bool → Hp → Prop} (h : tT X.K cl W m (evT a) σ H Q) : tE X.K cl W m a σ H (fun x H1 => ∃ k, x = .bl k ∧ Q k H1) := by
  obtain ⟨fm, Xs, os, s, R, g⟩ := h
  unfold evT at g
  refine ⟨fm, Xs, os, s, R, ?_⟩
  cases q : a s with
  | ok x s1 =>
    rw [q] at g
    simp only [Out.bind_ok] at g
    cases q3 : asBool x with
    | some b =>
      rw [q3] at g
      have e := asBool_some q3
      subst e
      exact fun v H1 r1 st1 p1 => ⟨b, p1, g H1 r1 st1⟩
    | none => rw [q3] at g; exact g.elim
  | exc c t s1 => rw [q] at g; exact g
  | no => rw [q] at g; exact g.elim
theorem st_val {a : Ev} (h : SE cl X W m e a) (he : ∀ whole, isTrue e X.env whole = (do let v ← whole; standAt e.pos; holding [v] (truthy v)) := by intro _; rfl) : STt cl X W m e (evT a) :=
  pt_imp (pt_val h he) fun _ _ _ h => tT_of h
theorem st_cmp {op : CmpOp} {r : R2} {f : D → D → Option D} {ea eb : Expr} {a b : Ev} {pos} (ho : OpR X (compareOp op) r) (hs : OpSem X r f) (ha : SB cl X W m ea a) (hb : SB cl X W true eb b) (hm : behindInMarks op eb = false) : STt cl X W m (.Compare ea [op] [eb] pos) (evT (evBin f a b)) :=
  pt_imp (pt_cmpR ho ha hb hm) fun _ _ _ h => tOp_sem rfl hs (tT_of h)
def evTnot (a : Ms → Out Bool) : Ms → Out Bool := fun s => (a s).bind fun b s1 => .ok (!b) s1
def evTand (a b : Ms → Out Bool) : Ms → Out Bool := fun s => (a s).bind fun c s1 => if c = true then b s1 else .ok false s1
def evTor (a b : Ms → Out Bool) : Ms → Out Bool := fun s => (a s).bind fun c s1 => if c = true then .ok true s1 else b s1
theorem st_not {a : Ms → Out Bool} {pos} (h : STt cl X W m e a) : STt cl X W m (.UnaryOp .Not e pos) (evTnot a) := pt_imp (pt_not h) fun σ H Q ⟨fm, Xs, os, s, R, g⟩ => by
  unfold evTnot at g
  refine ⟨fm, Xs, os, s, R, ?_⟩
  cases q : a s with
  | ok x s1 => rw [q] at g; exact g
  | exc c t s1 => rw [q] at g; exact g
  | no => rw [q] at g; exact g.elim
theorem GoodT.imp {K : Fr} {fm : Fm} {Xs : List Addr} {os : List (Nat × Addr)} {s : Ms} {σ : L2.St} {H H1 : Hp} {Q : Bool → Hp → Prop} {o : Out Bool} (st : Stay (Mu fm.dka os m) H H1) (g : GoodT K cl W m fm Xs os σ H Q o) : GoodT K cl W m fm Xs os σ H1 Q o := by
  cases o with
  | ok b s => exact fun H' r st' => g H' r (st.trans st')
  | exc c t s => exact g
  | no => exact g
theorem sw_and1 {a : Ms → Out Bool} {pos} (h : STt cl X W m e a) : SW cl X W m (.BoolOp .And [e] pos) a := pw_and1 h
theorem sw_or1 {a : Ms → Out Bool} {pos} (h : STt cl X W m e a) : SW cl X W m (.BoolOp .Or [e] pos) a := pw_or1 h
theorem sw_and {a b : Ms → Out Bool} {e2 : Expr} {rest : List Expr} {pos} (h : STt cl X W m e a) (hb : SW cl X W m (.BoolOp .And (e2 :: rest) pos) b) : SW cl X W m (.BoolOp .And (e :: e2 :: rest) pos) (evTand a b) :=
  pw_imp (pw_and h hb) fun σ H Q ⟨fm, Xs, os, s, R, g⟩ => by
    unfold evTand at g
    refine ⟨fm, Xs, os, s, R, ?_⟩
    cases q : a s with
    | ok x s1 =>
      rw [q] at g
      simp only [Out.bind_ok] at g
      cases x with
      | true => exact fun H1 r1 st1 => ⟨fm, Xs, os, s1, r1, GoodT.imp (s := s1) st1 g⟩
      | false => exact fun H1 r1 st1 => g H1 r1 st1
    | exc c t s1 => rw [q] at g; exact g
    | no => rw [q] at g; exact g.elim
theorem sw_or {a b : Ms → Out Bool} {e2 : Expr} {rest : List Expr} {pos} (h : STt cl X W m e a) (hb : SW cl X W m (.BoolOp .Or (e2 :: rest) pos) b) : SW cl X W m (.BoolOp .Or (e :: e2 :: rest) pos) (evTor a b) :=
  pw_imp (pw_or h hb) fun σ H Q ⟨fm, Xs, os, s, R, g⟩ => by
    unfold evTor at g
    refine ⟨fm, Xs, os, s, R, ?_⟩
    cases q : a s with
    | ok x s1 =>
      rw [q] at g
      simp only [Out.bind_ok] at g
      cases x with
      | false => exact fun H1 r1 st1 => ⟨fm, Xs, os, s1, r1, GoodT.imp (s := s1) st1 g⟩
      | true => exact fun H1 r1 st1 => g H1 r1 st1
    | exc c t s1 => rw [q] at g; exact g
    | no => rw [q] at g; exact g.elim
theorem st_pw {a : Ms → Out Bool} (h : SW cl X W m e a) : STt cl X W m e a := h.pt
theorem GoodE.imp {K : Fr} {fm : Fm} {Xs : List Addr} {os : List (Nat × Addr)} {σ : L2.St} {H H1 : Hp} {Q : VK} {o : Out D} (st : Stay (Mu fm.dka os m) H H1) (g : GoodE K cl W m fm Xs os σ H Q o) : GoodE K cl W m fm Xs os σ H1 Q o := by
  cases o with
  | ok b s => exact fun v H' r st' => g v H' r (st.trans st')
  | exc c t s => exact g
  | no => exact g
/-! ### and, or, not, if as values -/
def evAnd (a b : Ev) : Ev := fun s => (a s).bind fun d s1 => match asBool d with
  | some true => b s1
  | some false => .ok (.bool false) s1
  | none => .no
def evOr (a b : Ev) : Ev := fun s => (a s).bind fun d s1 => match asBool d with
  | some true => .ok (.bool true) s1
  | some false => b s1
  | none => .no
def evNot (a : Ev) : Ev := fun s => (a s).bind fun d s1 => match asBool d with
  | some c => .ok (.bool (!c)) s1
  | none => .no
theorem se_one {op} {pos} (h : SE cl X W m e ev) : SE cl X W m (.BoolOp op [e] pos) ev := pe_one h
theorem se_and {a b : Ev} {e2 : Expr} {rest : List Expr} {pos} (h : SE cl X W m e a) (hb : SE cl X W m (.BoolOp .And (e2 :: rest) pos) b) : SE cl X W m (.BoolOp .And (e :: e2 :: rest) pos) (evAnd a b) :=
  pe_imp (pe_and h hb) fun σ H Q ⟨fm, Xs, os, s, R, g⟩ => by
    unfold evAnd at g
    refine ⟨fm, Xs, os, s, R, ?_⟩
    cases q : a s with
    | ok x s1 =>
      rw [q] at g
      simp only [Out.bind_ok] at g
      cases q3 : asBool x with
      | some c =>
        rw [q3] at g
        have e3 := asBool_some q3
        subst e3
        cases c with
        | true => exact fun v H1 r1 st1 p1 => ⟨true, p1, ⟨fm, Xs, os, s1, r1, GoodE.imp st1 g⟩⟩
        | false => exact fun v H1 r1 st1 p1 => ⟨false, p1, g _ H1 r1 st1 rfl⟩
      | none => rw [q3] at g; exact g.elim
    | exc c t s1 => rw [q] at g; exact g
    | no => rw [q] at g; exact g.elim
theorem se_or {a b : Ev} {e2 : Expr} {rest : List Expr} {pos} (h : SE cl X W m e a) (hb : SE cl X W m (.BoolOp .Or (e2 :: rest) pos) b) : SE cl X W m (.BoolOp .Or (e :: e2 :: rest) pos) (evOr a b) :=
  pe_imp (pe_or h hb) fun σ H Q ⟨fm, Xs, os, s, R, g⟩ => by
    unfold evOr at g
    refine ⟨fm, Xs, os, s, R, ?_⟩
    cases q : a s with
    | ok x s1 =>
      rw [q] at g
      simp only [Out.bind_ok] at g
      cases q3 : asBool x with
      | some c =>
        rw [q3] at g
        have e3 := asBool_some q3
        subst e3
        cases c with
        | true => exact fun v H1 r1 st1 p1 => ⟨true, p1, g _ H1 r1 st1 rfl⟩
        | false => exact fun v H1 r1 st1 p1 => ⟨false, p1, ⟨fm, Xs, os, s1, r1, GoodE.imp st1 g⟩⟩
      | none => rw [q3] at g; exact g.elim
    | exc c t s1 => rw [q] at g; exact g
    | no => rw [q] at g; exact g.elim
theorem se_not {a : Ev} {pos} (h : SE cl X W m e a) : SE cl X W m (.UnaryOp .Not e pos) (evNot a) := pe_imp (pe_not h) fun σ H Q ⟨fm, Xs, os, s, R, g⟩ => by
  unfold evNot at g
  refine ⟨fm, Xs, os, s, R, ?_⟩
  cases q : a s with
  | ok x s1 =>
    rw [q] at g
    simp only [Out.bind_ok] at g
    cases q3 : asBool x with
    | some c =>
      rw [q3] at g
      have e3 := asBool_some q3
      subst e3
      exact fun v H1 r1 st1 p1 => ⟨c, p1, g _ H1 r1 st1 rfl⟩
    | none => rw [q3] at g; exact g.elim
  | exc c t s1 => rw [q] at g; exact g
  | no => rw [q] at g; exact g.elim
def evIf (c : Ms → Out Bool) (a b : Ev) : Ev := fun s => (c s).bind fun k s1 => if k = true then a s1 else b s1
theorem se_if {c : Ms → Out Bool} {a b : Ev} {ec ea eb : Expr} {pos} (hc : STt cl X W m ec c) (ha : SE cl X W m ea a) (hb : SE cl X W m eb b) : SE cl X W m (.IfExp ec ea eb pos) (evIf c a b) :=
  pe_imp (pe_ifExp hc ha hb) fun σ H Q ⟨fm, Xs, os, s, R, g⟩ => by
    unfold evIf at g
    refine ⟨fm, Xs, os, s, R, ?_⟩
    cases q : c s with
    | ok k s1 =>
      rw [q] at g
      simp only [Out.bind_ok] at g
      cases k with
      | true => exact fun H1 r1 st1 => ⟨fm, Xs, os, s1, r1, GoodE.imp st1 g⟩
      | false => exact fun H1 r1 st1 => ⟨fm, Xs, os, s1, r1, GoodE.imp st1 g⟩
    | exc c t s1 => rw [q] at g; exact g
    | no => rw [q] at g; exact g.elim
/-! ### chains: a < b < c -/
def evChain (f f' : D → D → Option D) (a b c : Ev) : Ev := fun s => (a s).bind fun x s1 => (b s1).bind fun y s2 => match f x y with
  | some (.bool true) => (c s2).bind fun z s3 => toOut (f' y z) s3
  | some (.bool false) => .ok (.bool false) s2
  | _ => .no
theorem tChain_sem {r r' : R2} {f f' : D → D → Option D} {a b c : Ev} (hs : OpSem X r f) (hs' : OpSem X r' f') {σ : L2.St} {H : Hp} {Q : VK} (h : tE X.K cl W m (evChain f f' a b c) σ H Q) :
    tChain r r' (tB X.K cl W m a) (tB X.K cl W true b) (tB X.K cl W true c) σ H Q := by
  obtain ⟨fm, Xs, os, s, R, g⟩ := h
  unfold evChain at g
  refine ⟨fm, Xs, os, s, R, ?_⟩
  cases q : a s with
  | ok x s1 =>
    rw [q] at g
    simp only [Out.bind_ok] at g
    refine fun v1 H1 r1 st1 p1 => ⟨fm, Xs, os, s1, r1, ?_⟩
    cases q2 : b s1 with
    | ok y s2 =>
      rw [q2] at g
      simp only [Out.bind_ok] at g
      refine fun v2 H2 r2 st2 p2 => ?_
      cases q3 : f x y with
      | none => rw [q3] at g; exact g.elim
      | some d =>
        rw [q3] at g
        have step := hs fm Xs os s2 σ H2 x y d v1 v2
        cases d with
        | bool k =>
          refine step _ r2 (p1.still r1 st2) p2 q3 fun v H3 r3 st3 p3 => ⟨k, p3, ?_⟩
          cases k with
          | true =>
            rw [if_pos rfl]
            refine ⟨fm, Xs, os, s2, r3, ?_⟩
            cases q4 : c s2 with
            | ok z s3 =>
              rw [q4] at g
              simp only [Out.bind_ok] at g
              refine fun v4 H4 r4 st4 p4 => ?_
              cases q5 : f' y z with
              | none => rw [q5] at g; exact g.elim
              | some d5 =>
                rw [q5] at g
                refine hs' fm Xs os s3 σ H4 y z d5 v2 v4 Q r4 ?_ p4 q5 fun v H5 r5 st5 p5 => g v H5 r5 (st1.trans ((st2.more Mu.still).trans (st3.any.trans ((st4.more Mu.still).trans st5.any)))) p5
                exact (p2.still r2 st3.any).still r3 st4
            | exc cc t s3 => rw [q4] at g; exact g
            | no => rw [q4] at g; exact g.elim
          | false =>
            rw [if_neg Bool.false_ne_true]
            exact g _ H3 r3 (st1.trans ((st2.more Mu.still).trans st3.any)) rfl
        | _ => exact g.elim
    | exc cc t s2 => rw [q2] at g; exact g
    | no => rw [q2] at g; exact g.elim
  | exc cc t s1 => rw [q] at g; exact g
  | no => rw [q] at g; exact g.elim
end
end Zo
/-! ZD: operators, indices, slices, built-ins: what they do on values, and that they do it. -/
namespace Zo
open PySem PySem.Spec PyProof.Rows L2
section
variable {X : Cx}
/-! ### results -/
theorem RpA.laid {K : Fr} {H : Hp} {Xs : List Addr} {p : Addr} {o : HO} {ds : List D} {vs : List V} (hp : H p = none) (h : RpA K H Xs ds vs) : RpA K (upd H p o) Xs ds vs := RpA.stay (M := []) (Stay.laid hp) (fun a h => absurd h (by simp)) ds vs h
theorem rp_newT {K : Fr} {H : Hp} {Xs : List Addr} {p : Addr} {ds : List D} {vs : List V} (hp : H p = none) (nx : p ∉ Xs) (h : RpA K H Xs ds vs) : Rp K (upd H p (.tup vs)) Xs (.tuple ds) (.ref p) := ⟨p, vs, rfl, .inl ⟨.inl upd_same, nx⟩, h.laid hp⟩
theorem rp_newL {K : Fr} {H : Hp} {Xs : List Addr} {p : Addr} {ds : List D} {vs : List V} (hp : H p = none) (nx : p ∉ Xs) (h : RpA K H Xs ds vs) : Rp K (upd H p (.lst vs)) Xs (.list ds) (.ref p) := ⟨p, vs, rfl, ⟨upd_same, nx⟩, h.laid hp⟩
theorem Rp.back {K : Fr} {H H' : Hp} {Xs : List Addr} {d : D} {v : V} (h : Rp K H Xs d v) (st : Stay [] H H') : Rp K H' Xs d v := Rp.stay st (fun a h => absurd h (by simp)) d v h
theorem RpB.tup {K : Fr} {H : Hp} {Xs : List Addr} {os : List (Nat × Addr)} {ds : List D} {v : V} (h : RpB K H Xs os (.tuple ds) v) : Rp K H Xs (.tuple ds) v := by
  rcases h with h | ⟨_, _, _, _, e, _⟩
  · exact h
  · cases e
/-! ### + -/
def addI : D → D → Option D
  | .int a, .int b => some (.int (a + b))
  | _, _ => none
def addS : D → D → Option D
  | .str a, .str b => if a.length + b.length ≤ sizeLine then some (.str (a ++ b)) else none
  | _, _ => none
def addL : D → D → Option (List D)
  | .list a, .list b => if a.length + b.length ≤ sizeLine then some (a ++ b) else none
  | _, _ => none
def addT : D → D → Option D
  | .tuple a, .tuple b => if a.length + b.length ≤ sizeLine then some (.tuple (a ++ b)) else none
  | _, _ => none
theorem addI_eq {a b d : D} (h : addI a b = some d) : ∃ i j, a = .int i ∧ b = .int j ∧ d = .int (i + j) := by
  cases a <;> cases b <;> simp [addI] at h
  exact ⟨_, _, rfl, rfl, h.symm⟩
theorem sem_addI : OpSem X (rI0 fun i j => .int (i + j)) addI := by
  intro fm Xs os s σ H d1 d2 d v1 v2 Q R p1 p2 e q
  obtain ⟨i, j, rfl, rfl, rfl⟩ := addI_eq e
  exact ⟨i, j, p1.int, p2.int, q _ H R (Stay.refl _ _) rfl⟩
theorem sem_addS : OpSem X (fun x y H Q => ∃ i j, x = .str i ∧ y = .str j ∧ i.length + j.length ≤ sizeLine ∧ Q (.str (i ++ j)) H) addS := by
  intro fm Xs os s σ H d1 d2 d v1 v2 Q R p1 p2 e q
  cases d1 <;> cases d2 <;> simp [addS] at e
  rename_i a b
  obtain ⟨hl, e⟩ := e
  subst e
  exact ⟨a, b, p1.str, p2.str, hl, q _ H R (Stay.refl _ _) rfl⟩
theorem sem_addT : OpSem X (rCatA X.K) addT := by
  intro fm Xs os s σ H d1 d2 d v1 v2 Q R p1 p2 e q
  cases d1 <;> cases d2 <;> simp [addT] at e
  rename_i a b
  obtain ⟨hl, e⟩ := e
  subst e
  obtain ⟨x, xs, e1, t1, r1⟩ := p1.tuple
  obtain ⟨y, ys, e2, t2, r2⟩ := p2.tuple
  subst e1 e2
  refine ⟨x, y, xs, ys, rfl, rfl, t1, t2, by rw [r1.len, r2.len]; exact hl, fun h => ?_, fun h h' => ?_, fun _ _ p hp => ?_⟩
  · subst h
    have ea : a = [] := by
      have := r1.len
      exact List.eq_nil_of_length_eq_zero this.symm
    subst ea
    exact q _ H R (Stay.refl _ _) p2.tup
  · subst h'
    have eb : b = [] := by
      have := r2.len
      exact List.eq_nil_of_length_eq_zero this.symm
    subst eb
    rw [List.append_nil] at q
    exact q _ H R (Stay.refl _ _) p1.tup
  · exact q _ _ (R.laid hp) (Stay.laid hp) (rp_newT hp (R.nx hp) (r1.app r2))
/-! ### new lists by an operator -/
def OpSemL (X : Cx) (r : R2) (f : D → D → Option (List D)) : Prop :=
  ∀ (fm : Fm) (Xs : List Addr) (os : List (Nat × Addr)) (s : Ms) (σ : L2.St) (H : Hp) (d1 d2 : D) (ds : List D) (v1 v2 : V) (Q : VK), Rel X.K fm Xs os s σ H → RpB X.K H Xs os d1 v1 → RpB X.K H Xs os d2 v2 → f d1 d2 = some ds →
    (∀ p vs, H p = none → RpA X.K H Xs ds vs → Q (.ref p) (upd H p (.lst vs))) → r v1 v2 H Q
theorem sem_addL : OpSemL X rCat addL := by
  intro fm Xs os s σ H d1 d2 ds v1 v2 Q R p1 p2 e q
  cases d1 <;> cases d2 <;> simp [addL] at e
  obtain ⟨hl, e⟩ := e
  subst e
  obtain ⟨x, xs, e1, t1, r1⟩ := p1.list
  obtain ⟨y, ys, e2, t2, r2⟩ := p2.list
  subst e1 e2
  exact ⟨x, y, xs, ys, rfl, rfl, t1, t2, by rw [r1.len, r2.len]; exact hl, fun p hp => q p _ hp (r1.app r2)⟩
def repL : D → D → Option (List D)
  | .list a, .int k => if 0 ≤ k ∧ k ≤ 1000 ∧ a.length * k.toNat ≤ sizeLine then some (List.replicate k.toNat a).flatten else none
  | _, _ => none
theorem RpA.rep {K : Fr} {H : Hp} {Xs : List Addr} {ds : List D} {vs : List V} (h : RpA K H Xs ds vs) : ∀ n : Nat, RpA K H Xs (List.replicate n ds).flatten (List.replicate n vs).flatten
  | 0 => by simp [RpA]
  | n + 1 => by
    rw [List.replicate_succ, List.replicate_succ, List.flatten_cons, List.flatten_cons]
    exact h.app (RpA.rep h n)
theorem sem_repL : OpSemL X rRep repL := by
  intro fm Xs os s σ H d1 d2 ds v1 v2 Q R p1 p2 e q
  cases d1 <;> cases d2 <;> simp [repL] at e
  obtain ⟨⟨h0, h1, hl⟩, e⟩ := e
  subst e
  obtain ⟨x, xs, e1, t1, r1⟩ := p1.list
  have e2 := p2.int
  subst e1 e2
  exact ⟨x, _, xs, rfl, rfl, t1, by omega, by omega, by rw [r1.len]; exact hl, fun p hp => q p _ hp (r1.rep _)⟩
def evBinL (f : D → D → Option (List D)) (a b : Ev) : Evs := fun s => (a s).bind fun x s1 => (b s1).bind fun y s2 => toOut (f x y) s2
theorem sf_bin {cl : Nat → Addr} {W : WX} {m : Bool} {op : Operator} {r : R2} {f : D → D → Option (List D)} {ea eb : Expr} {a b : Ev} {pos} (ho : OpR X (binaryOp op) r) (hs : OpSemL X r f) (ha : SB cl X W m ea a) (hb : SB cl X W true eb b) : SF cl X W m (.BinOp ea op eb pos) (evBinL f a b) :=
  pe_imp (pe_op ho ha hb) fun σ H Q ⟨fm, Xs, os, s, R, g⟩ => by
    unfold evBinL at g
    refine ⟨fm, Xs, os, s, R, ?_⟩
    cases q : a s with
    | ok x s1 =>
      rw [q] at g
      simp only [Out.bind_ok] at g
      refine fun v1 H1 r1 st1 p1 => ⟨fm, Xs, os, s1, r1, ?_⟩
      cases q2 : b s1 with
      | ok y s2 =>
        rw [q2] at g
        simp only [Out.bind_ok] at g
        refine fun v2 H2 r2 st2 p2 => ?_
        cases q3 : f x y with
        | some d =>
          rw [q3] at g
          exact hs fm Xs os s2 σ H2 x y d v1 v2 Q r2 (p1.still r1 st2) p2 q3 fun p vs hp ra => useF g r2 (st1.trans (st2.more Mu.still)) hp ra
        | none => rw [q3] at g; exact g.elim
      | exc c t s2 => rw [q2] at g; exact g
      | no => rw [q2] at g; exact g.elim
    | exc c t s1 => rw [q] at g; exact g
    | no => rw [q] at g; exact g.elim
/-! ### the other operators of whole numbers -/
def subI : D → D → Option D
  | .int a, .int b => some (.int (a - b))
  | _, _ => none
def mulI : D → D → Option D
  | .int a, .int b => if (-(2 ^ 64) < a ∧ a < 2 ^ 64) ∨ (-(2 ^ 64) < b ∧ b < 2 ^ 64) then some (.int (a * b)) else none
  | _, _ => none
def modI : D → D → Option D
  | .int a, .int b => if 0 < b then some (.int (a % b)) else none
  | _, _ => none
def fdivI : D → D → Option D
  | .int a, .int b => if 0 < b ∧ b < 1073741824 then some (.int (a / b)) else none
  | _, _ => none
def powI : D → D → Option D
  | .int a, .int b => if 0 ≤ b ∧ b ≤ 1000000 ∧ a.natAbs < 2 ^ 64 then some (.int (a ^ b.toNat)) else none
  | _, _ => none
theorem sem_subI : OpSem X (rI0 fun i j => .int (i - j)) subI := by
  intro fm Xs os s σ H d1 d2 d v1 v2 Q R p1 p2 e q
  cases d1 <;> cases d2 <;> simp [subI] at e
  subst e
  exact ⟨_, _, p1.int, p2.int, q _ H R (Stay.refl _ _) rfl⟩
theorem sem_mulI : OpSem X (rI CMul fun i j => .int (i * j)) mulI := by
  intro fm Xs os s σ H d1 d2 d v1 v2 Q R p1 p2 e q
  cases d1 <;> cases d2 <;> simp only [mulI] at e <;> try cases e
  split at e <;> cases e
  rename_i h
  exact ⟨_, _, p1.int, p2.int, h, q _ H R (Stay.refl _ _) rfl⟩
theorem sem_modI : OpSem X (rI (fun _ j => 0 < j) fun i j => .int (i % j)) modI := by
  intro fm Xs os s σ H d1 d2 d v1 v2 Q R p1 p2 e q
  cases d1 <;> cases d2 <;> simp only [modI] at e <;> try cases e
  split at e <;> cases e
  rename_i h
  exact ⟨_, _, p1.int, p2.int, h, q _ H R (Stay.refl _ _) rfl⟩
theorem sem_fdivI : OpSem X (rI CDiv fun i j => .int (i / j)) fdivI := by
  intro fm Xs os s σ H d1 d2 d v1 v2 Q R p1 p2 e q
  cases d1 <;> cases d2 <;> simp only [fdivI] at e <;> try cases e
  split at e <;> cases e
  rename_i h
  exact ⟨_, _, p1.int, p2.int, h, q _ H R (Stay.refl _ _) rfl⟩
theorem sem_powI : OpSem X (rI CPow fun i j => .int (i ^ j.toNat)) powI := by
  intro fm Xs os s σ H d1 d2 d v1 v2 Q R p1 p2 e q
  cases d1 <;> cases d2 <;> simp only [powI] at e <;> try cases e
  split at e <;> cases e
  rename_i h
  exact ⟨_, _, p1.int, p2.int, h, q _ H R (Stay.refl _ _) rfl⟩
/-! ### comparisons -/
def cmpI (f : Int → Int → Bool) : D → D → Option D
  | .int a, .int b => some (.bool (f a b))
  | _, _ => none
theorem sem_cmpI (f : Int → Int → Bool) : OpSem X (rI0 fun i j => .bl (f i j)) (cmpI f) := by
  intro fm Xs os s σ H d1 d2 d v1 v2 Q R p1 p2 e q
  cases d1 <;> cases d2 <;> simp [cmpI] at e
  subst e
  exact ⟨_, _, p1.int, p2.int, q _ H R (Stay.refl _ _) rfl⟩
def ltS : D → D → Option D
  | .str a, .str b => some (.bool (decide (a.cps.toList < b.cps.toList)))
  | _, _ => none
theorem sem_ltS : OpSem X (fun x y H Q => ∃ i j, x = .str i ∧ y = .str j ∧ Q (.bl (decide (i.cps.toList < j.cps.toList))) H) ltS := by
  intro fm Xs os s σ H d1 d2 d v1 v2 Q R p1 p2 e q
  cases d1 <;> cases d2 <;> simp only [ltS] at e <;> cases e
  exact ⟨_, _, p1.str, p2.str, q _ H R (Stay.refl _ _) rfl⟩
mutual
theorem Rp.dp {K : Fr} {H : Hp} {Xs : List Addr} : ∀ (d : D) (v : V), Rp K H Xs d v → d.canLay0 = true → Dp K H v d
  | .none, _, h, _ => by cases h; exact .non
  | .bool b, _, h, _ => by cases h; exact .bl b
  | .int i, _, h, _ => by cases h; exact .int i
  | .str x, _, h, _ => by cases h; exact .str x
  | .list ds, _, h, c => by
    obtain ⟨a, vs, e, f, r⟩ := h
    subst e
    exact .lst (SqL.of f.1) (RpA.dp ds vs r (by simpa [PyData.canLay0] using c))
  | .tuple ds, _, h, c => by
    obtain ⟨a, vs, e, f, r⟩ := h
    subst e
    exact .tup f.sq (RpA.dp ds vs r (by simpa [PyData.canLay0] using c))
  | .dict es, _, h, c => by simp [PyData.canLay0] at c
theorem RpA.dp {K : Fr} {H : Hp} {Xs : List Addr} : ∀ (ds : List D) (vs : List V), RpA K H Xs ds vs → PyData.canLayAll0 ds = true → DpAll K H vs ds
  | [], _, h, _ => by cases h; exact .nil
  | d :: ds, _, h, c => by
    obtain ⟨v, r, e, p, q⟩ := h
    subst e
    simp only [PyData.canLayAll0, Bool.and_eq_true] at c
    exact .cons (Rp.dp d v p c.1) (RpA.dp ds r q c.2)
end
theorem RpB.dp {K : Fr} {H : Hp} {Xs : List Addr} {os : List (Nat × Addr)} {d : D} {v : V} (h : RpB K H Xs os d v) (c : d.canLay0 = true) : Dp K H v d := by
  rcases h with h | ⟨i, a, vs, ds, e, ev, _, ha, r⟩
  · exact Rp.dp d v h c
  · subst e ev
    exact .lst (SqL.of ha) (RpA.dp ds vs r (by simpa [PyData.canLay0] using c))
def eqD (a b : D) : Option D := if SeqAt.shaped a = true ∧ SeqAt.shaped b = true then some (.bool (PyData.eqv a b)) else none
def neD (a b : D) : Option D := if SeqAt.shaped a = true ∧ SeqAt.shaped b = true then some (.bool (!PyData.eqv a b)) else none
theorem sem_eqD : OpSem X (rEqD X.K) eqD := by
  intro fm Xs os s σ H d1 d2 d v1 v2 Q R p1 p2 e q
  unfold eqD at e
  split at e <;> cases e
  rename_i h
  exact ⟨d1, d2, p1.dp (SeqAt.canLay_of_shaped h.1), p2.dp (SeqAt.canLay_of_shaped h.2), h.1, h.2, q _ H R (Stay.refl _ _) rfl⟩
theorem sem_neD : OpSem X (rNeD X.K) neD := by
  intro fm Xs os s σ H d1 d2 d v1 v2 Q R p1 p2 e q
  unfold neD at e
  split at e <;> cases e
  rename_i h
  exact ⟨d1, d2, p1.dp (SeqAt.canLay_of_shaped h.1), p2.dp (SeqAt.canLay_of_shaped h.2), h.1, h.2, q _ H R (Stay.refl _ _) rfl⟩
def isNone : D → Bool
  | .none => true
  | _ => false
def isN : D → D → Option D
  | a, .none => some (.bool (isNone a))
  | _, _ => none
def isNotN : D → D → Option D
  | a, .none => some (.bool (!isNone a))
  | _, _ => none
theorem rp_none_iff {K : Fr} {H : Hp} {Xs : List Addr} {os : List (Nat × Addr)} {d : D} {v : V} (h : RpB K H Xs os d v) : decide (v = .non) = isNone d := by
  rcases h with h | ⟨i, a, vs, ds, e, ev, _, ha, r⟩
  · cases d with
    | none => cases h; rfl
    | bool b => cases h; rfl
    | int b => cases h; rfl
    | str b => cases h; rfl
    | list b => obtain ⟨a, vs, e, _⟩ := h; subst e; rfl
    | tuple b => obtain ⟨a, vs, e, _⟩ := h; subst e; rfl
    | dict b => obtain ⟨a, vs, e, _⟩ := h; subst e; rfl
  · subst e ev; rfl
theorem sem_isN : OpSem X (fun x y H Q => y = .non ∧ Q (.bl (decide (x = .non))) H) isN := by
  intro fm Xs os s σ H d1 d2 d v1 v2 Q R p1 p2 e q
  cases d2 <;> simp only [isN] at e <;> cases e
  refine ⟨p2.none, ?_⟩
  rw [rp_none_iff p1]
  exact q _ H R (Stay.refl _ _) rfl
theorem sem_isNotN : OpSem X (fun x y H Q => y = .non ∧ Q (.bl (!decide (x = .non))) H) isNotN := by
  intro fm Xs os s σ H d1 d2 d v1 v2 Q R p1 p2 e q
  cases d2 <;> simp only [isNotN] at e <;> cases e
  refine ⟨p2.none, ?_⟩
  rw [rp_none_iff p1]
  exact q _ H R (Stay.refl _ _) rfl
/-! ### in -/
def flatD : D → Bool
  | .none | .bool _ | .int _ | .str _ => true
  | _ => false
def eqFlat : D → D → Bool
  | .none, .none => true
  | .bool a, .bool b => a == b
  | .bool a, .int b => (if a then 1 else 0) == b
  | .int a, .bool b => a == (if b then 1 else 0)
  | .int a, .int b => a == b
  | .str a, .str b => a == b
  | _, _ => false
def inItems (x : D) (ys : List D) : Option Bool := if flatD x = true ∧ ys.all flatD = true then some (ys.any fun y => eqFlat y x) else none
def inSeq (neg : Bool) : D → D → Option D
  | x, .list ys => (inItems x ys).map fun b => .bool (if neg then !b else b)
  | x, .tuple ys => (inItems x ys).map fun b => .bool (if neg then !b else b)
  | _, _ => none
theorem flat_rp {K : Fr} {H : Hp} {Xs : List Addr} {d : D} {v : V} (h : Rp K H Xs d v) (f : flatD d = true) : flatV v = true := by
  cases d <;> simp [flatD] at f <;> cases h <;> rfl
theorem eqFlat_rp {K : Fr} {H : Hp} {Xs : List Addr} {d e : D} {v w : V} (h : Rp K H Xs d v) (k : Rp K H Xs e w) (f : flatD d = true) (g : flatD e = true) : eqV v w = eqFlat d e := by
  cases d <;> simp [flatD] at f <;> cases h <;> cases e <;> simp [flatD] at g <;> cases k <;> rfl
theorem flatAll_rp {K : Fr} {H : Hp} {Xs : List Addr} : ∀ {ds : List D} {vs : List V}, RpA K H Xs ds vs → ds.all flatD = true → vs.all flatV = true
  | [], _, h, _ => by cases h; rfl
  | d :: ds, _, h, f => by
    obtain ⟨v, r, e, p, q⟩ := h
    subst e
    simp only [List.all_cons, Bool.and_eq_true] at f ⊢
    exact ⟨flat_rp p f.1, flatAll_rp q f.2⟩
theorem inV_rp {K : Fr} {H : Hp} {Xs : List Addr} {x : D} {w : V} (hx : Rp K H Xs x w) (fx : flatD x = true) : ∀ {ds : List D} {vs : List V}, RpA K H Xs ds vs → ds.all flatD = true → inV w vs = ds.any fun y => eqFlat y x
  | [], _, h, _ => by cases h; rfl
  | d :: ds, _, h, f => by
    obtain ⟨v, r, e, p, q⟩ := h
    subst e
    simp only [List.all_cons, Bool.and_eq_true] at f
    have ih := inV_rp hx fx q f.2
    unfold inV at ih ⊢
    rw [List.any_cons, List.any_cons, ih, eqFlat_rp p hx f.1 fx]
theorem RpB.flat {K : Fr} {H : Hp} {Xs : List Addr} {os : List (Nat × Addr)} {d : D} {v : V} (h : RpB K H Xs os d v) (f : flatD d = true) : Rp K H Xs d v := by
  rcases h with h | ⟨_, _, _, _, e, _⟩
  · exact h
  · subst e; simp [flatD] at f
theorem sem_inSeq (neg : Bool) : OpSem X (rIn X.K neg) (inSeq neg) := by
  intro fm Xs os s σ H d1 d2 d v1 v2 Q R p1 p2 e q
  have key : ∀ (p : Addr) (vs : List V) (ys : List D), v2 = .ref p → (SqL X.K H p vs ∨ SqT X.K H p vs) → RpA X.K H Xs ys vs → (inItems d1 ys).map (fun b => PyData.bool (if neg then !b else b)) = some d → rIn X.K neg v1 v2 H Q := fun p vs ys ev sq r e => by
    obtain ⟨b, e1, e2⟩ := Option.map_eq_some_iff.mp e
    unfold inItems at e1
    split at e1
    · rename_i h
      cases e1
      subst e2
      refine ⟨p, vs, ev, sq, flat_rp (p1.flat h.1) h.1, flatAll_rp r h.2, ?_⟩
      rw [inV_rp (p1.flat h.1) h.1 r h.2]
      refine q _ H R (Stay.refl _ _) ?_
      cases neg <;> rfl
    · cases e1
  cases d2 with
  | list ys =>
    obtain ⟨p, vs, ev, ha, r⟩ := p2.list
    exact key p vs ys ev (.inl (SqL.of ha)) r e
  | tuple ys =>
    obtain ⟨p, vs, ev, ha, r⟩ := p2.tuple
    exact key p vs ys ev (.inr ha) r e
  | _ => simp [inSeq] at e
/-- one sign in a text -/
def inSign (neg : Bool) : D → D → Option D
  | .str x, .str z => match x.cps.toList with
    | [c] => some (.bool (if neg then !decide (c ∈ z.cps.toList) else decide (c ∈ z.cps.toList)))
    | _ => none
  | _, _ => none
theorem str_one {x : Str} {c : Nat} (h : x.cps.toList = [c]) : x = ⟨#[c]⟩ := by
  obtain ⟨a⟩ := x
  congr 1
  exact Array.ext' h
theorem sem_inSign : OpSem X (fun x y H Q => ∃ (c : Nat) (z : Str), x = .str ⟨#[c]⟩ ∧ y = .str z ∧ Q (.bl (decide (c ∈ z.cps.toList))) H) (inSign false) := by
  intro fm Xs os s σ H d1 d2 d v1 v2 Q R p1 p2 e q
  cases d1 <;> cases d2 <;> simp only [inSign] at e <;> try cases e
  split at e
  · rename_i c hc
    cases e
    refine ⟨c, _, ?_, p2.str, q _ H R (Stay.refl _ _) rfl⟩
    rw [← str_one hc]; exact p1.str
  · cases e
theorem sem_notInSign : OpSem X (fun x y H Q => ∃ (c : Nat) (z : Str), x = .str ⟨#[c]⟩ ∧ y = .str z ∧ Q (.bl (!decide (c ∈ z.cps.toList))) H) (inSign true) := by
  intro fm Xs os s σ H d1 d2 d v1 v2 Q R p1 p2 e q
  cases d1 <;> cases d2 <;> simp only [inSign] at e <;> try cases e
  split at e
  · rename_i c hc
    cases e
    refine ⟨c, _, ?_, p2.str, q _ H R (Stay.refl _ _) rfl⟩
    rw [← str_one hc]; exact p1.str
  · cases e
/-! ### a[i] -/
def ixD : D → D → Option D
  | .list xs, .int i => atI xs i
  | .tuple xs, .int i => atI xs i
  | .str z, .int i => if z.length ≤ sizeLine then (atI z.cps.toList i).map fun c => .str ⟨#[c]⟩ else none
  | _, _ => none
theorem RpA.at {K : Fr} {H : Hp} {Xs : List Addr} {ds : List D} {vs : List V} {i : Int} {d : D} (h : RpA K H Xs ds vs) (e : atI ds i = some d) : ∃ v, atI vs i = some v ∧ Rp K H Xs d v := by
  unfold atI at e ⊢
  rw [h.len]
  cases q : ixN ds.length i with
  | none => rw [q] at e; cases e
  | some j =>
    rw [q] at e
    exact h.get e
theorem sem_ix : OpSem X (rIx X.K) ixD := by
  intro fm Xs os s σ H d1 d2 d v1 v2 Q R p1 p2 e q
  cases d2 with
  | int i =>
    cases d1 with
    | list ds =>
      simp only [ixD] at e
      obtain ⟨x, xs, e1, t1, r1⟩ := p1.list
      obtain ⟨v, ev, rv⟩ := r1.at e
      exact .inl ⟨x, xs, _, v, e1, p2.int, SqL.of t1, ev, q v H R (Stay.refl _ _) rv⟩
    | tuple ds =>
      simp only [ixD] at e
      obtain ⟨x, xs, e1, t1, r1⟩ := p1.tuple
      obtain ⟨v, ev, rv⟩ := r1.at e
      exact .inr (.inl ⟨x, xs, _, v, e1, p2.int, t1, ev, q v H R (Stay.refl _ _) rv⟩)
    | str z =>
      simp only [ixD] at e
      split at e
      · rename_i hl
        obtain ⟨c, e1, e2⟩ := Option.map_eq_some_iff.mp e
        subst e2
        exact .inr (.inr ⟨z, i, c, p1.str, p2.int, hl, e1, q _ H R (Stay.refl _ _) rfl⟩)
      · cases e
    | _ => simp [ixD] at e
  | _ => cases d1 <;> simp [ixD] at e
theorem se_ix {cl : Nat → Addr} {W : WX} {m : Bool} {ea eb : Expr} {a b : Ev} {pos} (ha : SB cl X W m ea a) (hb : SB cl X W true eb b) (hs : PlainIx eb := by exact fun _ _ => rfl) : SE cl X W m (.Subscript ea eb pos) (evBin ixD a b) :=
  pe_imp (pe_ix ix_seq ha hb hs) fun _ _ _ h => tOp_sem rfl sem_ix h
end
end Zo
/-! ZE: slices, built-ins by name, calls of defs. -/
namespace Zo
open PySem PySem.Spec PyProof.Rows L2
/-! ### slices -/
def cutL {α : Type} (xs : List α) (lo hi : Option Int) : List α := (xs.drop (HT.sIx xs.length 0 lo)).take (HT.sIx xs.length xs.length hi - HT.sIx xs.length 0 lo)
theorem RpA.cut {K : Fr} {H : Hp} {Xs : List Addr} {ds : List D} {vs : List V} (h : RpA K H Xs ds vs) (lo hi : Option Int) : RpA K H Xs (cutL ds lo hi) (cutV vs lo hi) := by
  unfold cutL cutV
  rw [h.len]
  exact (h.drop _).take _
abbrev Pt := Ms → Out (Option Int)
def ptNo : Pt := fun s => .ok none s
def asInt : D → Option Int
  | .int i => some i
  | _ => none
theorem asInt_some {d : D} {i : Int} (h : asInt d = some i) : d = .int i := by
  cases d <;> simp [asInt] at h
  rw [h]
def ptOf (a : Ev) : Pt := fun s => (a s).bind fun d s1 => match asInt d with
  | some i => .ok (some i) s1
  | none => .no
section
variable (K : Fr) (cl : Nat → Addr) (W : WX) (m : Bool)
def GoodP (fm : Fm) (X : List Addr) (os : List (Nat × Addr)) (σ : L2.St) (H : Hp) (Q : Option Int → Hp → Prop) : Out (Option Int) → Prop
  | .ok b s' => ∀ H', Rel K fm X os s' σ H' → Stay (Mu fm.dka os m) H H' → Q b H'
  | .exc c t s' => Wish K cl W fm X os σ c t s'
  | .no => False
def tP (ev : Pt) : TO := fun σ H Q => ∃ fm X os s, Rel K fm X os s σ H ∧ GoodP K cl W m fm X os σ H Q (ev s)
end
abbrev SP (cl : Nat → Addr) (X : Cx) (W : WX) (m : Bool) (e : Option Expr) (ev : Pt) : Prop := PO X e (tP X.K cl W m ev)
section
variable {cl : Nat → Addr} {X : Cx} {W : WX} {m : Bool} {e : Expr} {ev : Ev}
theorem po_imp {eo : Option Expr} {t t' : TO} (h : PO X eo t) (i : ∀ σ H Q, t' σ H Q → t σ H Q) : PO X eo t' := ⟨fun pins s σ H Q I q => h.run pins s σ H Q I (i σ H Q q)⟩
theorem sp_none : SP cl X W m none ptNo := po_imp po_none fun σ H Q ⟨fm, Xs, os, s, r, g⟩ => g H r (Stay.refl _ _)
theorem sp_some (h : SB cl X W m e ev) : SP cl X W m (some e) (ptOf ev) := po_imp (po_some h) fun σ H Q ⟨fm, Xs, os, s, r, g⟩ => by
  unfold ptOf at g
  refine ⟨fm, Xs, os, s, r, ?_⟩
  cases q : ev s with
  | ok d s1 =>
    rw [q] at g
    simp only [Out.bind_ok] at g
    cases q2 : asInt d with
    | some i =>
      rw [q2] at g
      have e2 := asInt_some q2
      subst e2
      exact fun v H1 r1 st1 p1 => ⟨i, p1.int, g H1 r1 st1⟩
    | none => rw [q2] at g; exact g.elim
  | exc c t s1 => rw [q] at g; exact g
  | no => rw [q] at g; exact g.elim
/-- what a slice of a tuple or a text is -/
def slD : D → Option Int → Option Int → Option D
  | .tuple xs, lo, hi => some (.tuple (cutL xs lo hi))
  | .str z, lo, hi => if z.length ≤ sizeLine then some (.str (cutS z lo hi)) else none
  | _, _, _ => none
def slL : D → Option Int → Option Int → Option (List D)
  | .list xs, lo, hi => some (cutL xs lo hi)
  | _, _, _ => none
def evSl (a : Ev) (lo hi : Pt) : Ev := fun s => (a s).bind fun x s1 => (lo s1).bind fun l s2 => (hi s2).bind fun u s3 => toOut (slD x l u) s3
def evSlL (a : Ev) (lo hi : Pt) : Evs := fun s => (a s).bind fun x s1 => (lo s1).bind fun l s2 => (hi s2).bind fun u s3 => toOut (slL x l u) s3
theorem se_slice {lo hi : Option Expr} {pl pu : Pt} {p2 pos} (h : SB cl X W m e ev) (hl : SP cl X W true lo pl) (hu : SP cl X W true hi pu) : SE cl X W m (.Subscript e (.Slice lo hi none p2) pos) (evSl ev pl pu) :=
  pe_imp (pe_slice (sl_tupA.or sl_str) h hl hu) fun σ H Q ⟨fm, Xs, os, s, R, g⟩ => by
    unfold evSl at g
    refine ⟨fm, Xs, os, s, R, ?_⟩
    cases q : ev s with
    | ok x s1 =>
      rw [q] at g
      simp only [Out.bind_ok] at g
      refine fun v1 H1 r1 st1 p1 => ⟨fm, Xs, os, s1, r1, ?_⟩
      cases q2 : pl s1 with
      | ok l s2 =>
        rw [q2] at g
        simp only [Out.bind_ok] at g
        refine fun H2 r2 st2 => ⟨fm, Xs, os, s2, r2, ?_⟩
        cases q3 : pu s2 with
        | ok u s3 =>
          rw [q3] at g
          simp only [Out.bind_ok] at g
          refine fun H3 r3 st3 => ?_
          have p3 := (p1.still r1 st2).still r2 st3
          have st := st1.trans ((st2.more Mu.still).trans (st3.more Mu.still))
          cases x with
          | tuple xs =>
            simp only [slD, toOut_some] at g
            obtain ⟨a, vs, ev, ha, ra⟩ := p3.tuple
            subst ev
            refine .inl ⟨a, vs, rfl, ha, fun hw => ?_, fun hw p hp => ?_⟩
            · have e0 : cutL xs l u = xs := by
                obtain ⟨h1, h2⟩ := hw
                rw [ra.len] at h1 h2
                unfold cutL
                rw [h1, h2]
                simp
              rw [e0] at g
              exact g _ H3 r3 st p3.tup
            · exact g _ _ (r3.laid hp) (st.trans (Stay.laid hp)) (rp_newT hp (r3.nx hp) (ra.cut l u))
          | str z =>
            simp only [slD] at g
            split at g
            · rename_i hz
              exact .inr ⟨z, p3.str, hz, g _ H3 r3 st rfl⟩
            · exact g.elim
          | _ => exact g.elim
        | exc c t s3 => rw [q3] at g; exact g
        | no => rw [q3] at g; exact g.elim
      | exc c t s2 => rw [q2] at g; exact g
      | no => rw [q2] at g; exact g.elim
    | exc c t s1 => rw [q] at g; exact g
    | no => rw [q] at g; exact g.elim
theorem sf_slice {lo hi : Option Expr} {pl pu : Pt} {p2 pos} (h : SB cl X W m e ev) (hl : SP cl X W true lo pl) (hu : SP cl X W true hi pu) : SF cl X W m (.Subscript e (.Slice lo hi none p2) pos) (evSlL ev pl pu) :=
  pe_imp (pe_slice sl_list h hl hu) fun σ H Q ⟨fm, Xs, os, s, R, g⟩ => by
    unfold evSlL at g
    refine ⟨fm, Xs, os, s, R, ?_⟩
    cases q : ev s with
    | ok x s1 =>
      rw [q] at g
      simp only [Out.bind_ok] at g
      refine fun v1 H1 r1 st1 p1 => ⟨fm, Xs, os, s1, r1, ?_⟩
      cases q2 : pl s1 with
      | ok l s2 =>
        rw [q2] at g
        simp only [Out.bind_ok] at g
        refine fun H2 r2 st2 => ⟨fm, Xs, os, s2, r2, ?_⟩
        cases q3 : pu s2 with
        | ok u s3 =>
          rw [q3] at g
          simp only [Out.bind_ok] at g
          refine fun H3 r3 st3 => ?_
          have p3 := (p1.still r1 st2).still r2 st3
          have st := st1.trans ((st2.more Mu.still).trans (st3.more Mu.still))
          cases x with
          | list xs =>
            simp only [slL, toOut_some] at g
            obtain ⟨a, vs, ev, ha, ra⟩ := p3.list
            subst ev
            exact ⟨a, vs, rfl, SqL.of ha, fun p hp => useF g r3 st hp (ra.cut l u)⟩
          | _ => exact g.elim
        | exc c t s3 => rw [q3] at g; exact g
        | no => rw [q3] at g; exact g.elim
      | exc c t s2 => rw [q2] at g; exact g
      | no => rw [q2] at g; exact g.elim
    | exc c t s1 => rw [q] at g; exact g
    | no => rw [q] at g; exact g.elim
/-! ### a built-in of one value -/
def CallSem (X : Cx) (r : List V → Hp → VK → Prop) (f : D → Option D) : Prop :=
  ∀ (fm : Fm) (Xs : List Addr) (os : List (Nat × Addr)) (s : Ms) (σ : L2.St) (H : Hp) (d d' : D) (v : V) (Q : VK), Rel X.K fm Xs os s σ H → RpB X.K H Xs os d v → f d = some d' →
    (∀ v' H', Rel X.K fm Xs os s σ H' → Stay [] H H' → Rp X.K H' Xs d' v' → Q v' H') → r [v] H Q
def CallSemL (X : Cx) (r : List V → Hp → VK → Prop) (f : D → Option (List D)) : Prop :=
  ∀ (fm : Fm) (Xs : List Addr) (os : List (Nat × Addr)) (s : Ms) (σ : L2.St) (H : Hp) (d : D) (ds : List D) (v : V) (Q : VK), Rel X.K fm Xs os s σ H → RpB X.K H Xs os d v → f d = some ds →
    (∀ p vs, H p = none → RpA X.K H Xs ds vs → Q (.ref p) (upd H p (.lst vs))) → r [v] H Q
def ev1 (f : D → Option D) (a : Ev) : Ev := fun s => (a s).bind fun x s1 => toOut (f x) s1
def ev1L (f : D → Option (List D)) (a : Ev) : Evs := fun s => (a s).bind fun x s1 => toOut (f x) s1
theorem tCB_sem {r : List V → Hp → VK → Prop} {f : D → Option D} {a : Ev} (hs : CallSem X r f) {σ : L2.St} {H : Hp} {Q : VK} (h : tE X.K cl W m (ev1 f a) σ H Q) : tCB r (tCons (tB X.K cl W m a) tNil) σ H Q := by
  obtain ⟨fm, Xs, os, s, R, g⟩ := h
  unfold ev1 at g
  refine ⟨fm, Xs, os, s, R, ?_⟩
  cases q : a s with
  | ok x s1 =>
    rw [q] at g
    simp only [Out.bind_ok] at g
    cases q3 : f x with
    | some d => rw [q3] at g; exact fun v1 H1 r1 st1 p1 => hs fm Xs os s1 σ H1 x d v1 Q r1 p1 q3 fun v H3 r3 st3 p3 => g v H3 r3 (st1.trans st3.any) p3
    | none => rw [q3] at g; exact g.elim
  | exc c t s1 => rw [q] at g; exact g
  | no => rw [q] at g; exact g.elim
theorem tCB_semL {r : List V → Hp → VK → Prop} {f : D → Option (List D)} {a : Ev} (hs : CallSemL X r f) {σ : L2.St} {H : Hp} {Q : VK} (h : tF X.K cl W m (ev1L f a) σ H Q) : tCB r (tCons (tB X.K cl W m a) tNil) σ H Q := by
  obtain ⟨fm, Xs, os, s, R, g⟩ := h
  unfold ev1L at g
  refine ⟨fm, Xs, os, s, R, ?_⟩
  cases q : a s with
  | ok x s1 =>
    rw [q] at g
    simp only [Out.bind_ok] at g
    cases q3 : f x with
    | some d => rw [q3] at g; exact fun v1 H1 r1 st1 p1 => hs fm Xs os s1 σ H1 x d v1 Q r1 p1 q3 fun p vs hp ra => useF g r1 st1 hp ra
    | none => rw [q3] at g; exact g.elim
  | exc c t s1 => rw [q] at g; exact g
  | no => rw [q] at g; exact g.elim
theorem se_b {r : List V → Hp → VK → Prop} {f : D → Option D} {x : Str} {id : String} {p pos} (hc : CallR X (.builtin id) r) (hs : CallSem X r f) (hg : Gl X x) (hm : X.mg x = none) (hv : bootBuiltins x = some (.builtin id)) (ha : SB cl X W m e ev)
    (hn : x ≠ "__name__" := by decide) (hdb : (x == ("__debug__" : Str)) = false := by decide) (he : starEach [e] X.env = (false, eval e X.env) :: starEach [] X.env := by rfl) : SE cl X W m (.Call (.Name x p) [e] [] pos) (ev1 f ev) :=
  pe_imp (pe_callB hc hg hm hv (pa_cons ha pa_nil he) hn hdb he) fun _ _ _ h => tCB_sem hs h
theorem se_ty {r : List V → Hp → VK → Prop} {f : D → Option D} {x : Str} {T : String} {p pos} (hc : CallR X (.type T) r) (hs : CallSem X r f) (hg : Gl X x) (hm : X.mg x = none) (hv : bootBuiltins x = some (.type T)) (ha : SB cl X W m e ev)
    (hn : x ≠ "__name__" := by decide) (hdb : (x == ("__debug__" : Str)) = false := by decide) (he : starEach [e] X.env = (false, eval e X.env) :: starEach [] X.env := by rfl) : SE cl X W m (.Call (.Name x p) [e] [] pos) (ev1 f ev) :=
  pe_imp (pe_callTy hc hg hm hv (pa_cons ha pa_nil he) hn hdb he) fun _ _ _ h => tCB_sem hs h
theorem sf_b {r : List V → Hp → VK → Prop} {f : D → Option (List D)} {x : Str} {id : String} {p pos} (hc : CallR X (.builtin id) r) (hs : CallSemL X r f) (hg : Gl X x) (hm : X.mg x = none) (hv : bootBuiltins x = some (.builtin id)) (ha : SB cl X W m e ev)
    (hn : x ≠ "__name__" := by decide) (hdb : (x == ("__debug__" : Str)) = false := by decide) (he : starEach [e] X.env = (false, eval e X.env) :: starEach [] X.env := by rfl) : SF cl X W m (.Call (.Name x p) [e] [] pos) (ev1L f ev) :=
  pe_imp (pe_callB hc hg hm hv (pa_cons ha pa_nil he) hn hdb he) fun _ _ _ h => tCB_semL hs h
theorem sf_ty {r : List V → Hp → VK → Prop} {f : D → Option (List D)} {x : Str} {T : String} {p pos} (hc : CallR X (.type T) r) (hs : CallSemL X r f) (hg : Gl X x) (hm : X.mg x = none) (hv : bootBuiltins x = some (.type T)) (ha : SB cl X W m e ev)
    (hn : x ≠ "__name__" := by decide) (hdb : (x == ("__debug__" : Str)) = false := by decide) (he : starEach [e] X.env = (false, eval e X.env) :: starEach [] X.env := by rfl) : SF cl X W m (.Call (.Name x p) [e] [] pos) (ev1L f ev) :=
  pe_imp (pe_callTy hc hg hm hv (pa_cons ha pa_nil he) hn hdb he) fun _ _ _ h => tCB_semL hs h
/-! ### len, list, tuple, all, any -/
def lenD : D → Option D
  | .list xs => some (.int xs.length)
  | .tuple xs => some (.int xs.length)
  | .str z => if z.length ≤ sizeLine then some (.int z.length) else none
  | _ => none
theorem sem_len : CallSem X (fun xs H Q => ∃ x n, xs = [x] ∧ LenV X.K x H n ∧ Q (.int n) H) lenD := by
  intro fm Xs os s σ H d d' v Q R p e q
  cases d with
  | list xs =>
    cases e
    obtain ⟨a, vs, ev, ha, ra⟩ := p.list
    subst ev
    exact ⟨_, _, rfl, .inl ⟨vs, SqL.of ha, ra.len.symm⟩, q _ H R (Stay.refl _ _) rfl⟩
  | tuple xs =>
    cases e
    obtain ⟨a, vs, ev, ha, ra⟩ := p.tuple
    subst ev
    exact ⟨_, _, rfl, .inr ⟨vs, ha, ra.len.symm⟩, q _ H R (Stay.refl _ _) rfl⟩
  | str z =>
    simp only [lenD] at e
    split at e
    · rename_i hz
      cases e
      have ev := p.str
      subst ev
      exact ⟨_, _, rfl, ⟨hz, rfl⟩, q _ H R (Stay.refl _ _) rfl⟩
    · cases e
  | _ => cases e
def listD : D → Option (List D)
  | .list xs => some xs
  | .tuple xs => some xs
  | _ => none
theorem sem_list : CallSemL X (fun xs H Q => ∃ p ys, xs = [.ref p] ∧ (SqL X.K H p ys ∨ SqT X.K H p ys) ∧ ∀ l, H l = none → Q (.ref l) (upd H l (.lst ys))) listD := by
  intro fm Xs os s σ H d ds v Q R p e q
  cases d with
  | list xs =>
    cases e
    obtain ⟨a, vs, ev, ha, ra⟩ := p.list
    subst ev
    exact ⟨a, vs, rfl, .inl (SqL.of ha), fun l hl => q l vs hl ra⟩
  | tuple xs =>
    cases e
    obtain ⟨a, vs, ev, ha, ra⟩ := p.tuple
    subst ev
    exact ⟨a, vs, rfl, .inr ha, fun l hl => q l vs hl ra⟩
  | _ => cases e
def tupD : D → Option D
  | .list xs => some (.tuple xs)
  | .tuple xs => some (.tuple xs)
  | _ => none
theorem sem_tuple : CallSem X (fun xs H Q => ∃ p ys, xs = [.ref p] ∧ ((SqL X.K H p ys ∧ ∀ l, H l = none → Q (.ref l) (upd H l (.tup ys))) ∨ (SqT X.K H p ys ∧ Q (.ref p) H))) tupD := by
  intro fm Xs os s σ H d d' v Q R p e q
  cases d with
  | list xs =>
    cases e
    obtain ⟨a, vs, ev, ha, ra⟩ := p.list
    subst ev
    exact ⟨a, vs, rfl, .inl ⟨SqL.of ha, fun l hl => q _ _ (R.laid hl) (Stay.laid hl) (rp_newT hl (R.nx hl) ra)⟩⟩
  | tuple xs =>
    cases e
    obtain ⟨a, vs, ev, ha, ra⟩ := p.tuple
    subst ev
    exact ⟨a, vs, rfl, .inr ⟨ha, q _ H R (Stay.refl _ _) p.tup⟩⟩
  | _ => cases e
def boolsOf : List D → Option (List Bool)
  | [] => some []
  | d :: ds => match asBool d, boolsOf ds with
    | some b, some bs => some (b :: bs)
    | _, _ => none
theorem boolsOf_rp {K : Fr} {H : Hp} {Xs : List Addr} : ∀ {ds : List D} {vs : List V} {bs : List Bool}, RpA K H Xs ds vs → boolsOf ds = some bs → vs = bs.map V.bl
  | [], _, _, h, e => by cases h; cases e; rfl
  | d :: ds, _, bs, h, e => by
    obtain ⟨v, r, e1, p, q⟩ := h
    subst e1
    unfold boolsOf at e
    cases q1 : asBool d with
    | none => rw [q1] at e; cases e
    | some b =>
      cases q2 : boolsOf ds with
      | none => rw [q1, q2] at e; cases e
      | some bs' =>
        rw [q1, q2] at e
        cases e
        have e3 := asBool_some q1
        subst e3
        have e4 := boolsOf_rp q q2
        subst e4
        have e5 : v = .bl b := p
        subst e5
        rfl
def allD : D → Option D
  | .list xs => (boolsOf xs).map fun bs => .bool (bs.all id)
  | _ => none
def anyD : D → Option D
  | .list xs => (boolsOf xs).map fun bs => .bool (bs.any id)
  | _ => none
theorem sem_all : CallSem X (rAll X.K) allD := by
  intro fm Xs os s σ H d d' v Q R p e q
  cases d with
  | list xs =>
    obtain ⟨bs, e1, e2⟩ := Option.map_eq_some_iff.mp e
    subst e2
    obtain ⟨a, vs, ev, ha, ra⟩ := p.list
    subst ev
    have e3 := boolsOf_rp ra e1
    subst e3
    exact ⟨a, bs, rfl, SqL.of ha, q _ H R (Stay.refl _ _) rfl⟩
  | _ => cases e
theorem sem_any : CallSem X (rAny X.K) anyD := by
  intro fm Xs os s σ H d d' v Q R p e q
  cases d with
  | list xs =>
    obtain ⟨bs, e1, e2⟩ := Option.map_eq_some_iff.mp e
    subst e2
    obtain ⟨a, vs, ev, ha, ra⟩ := p.list
    subst ev
    have e3 := boolsOf_rp ra e1
    subst e3
    exact ⟨a, bs, rfl, SqL.of ha, q _ H R (Stay.refl _ _) rfl⟩
  | _ => cases e
/-! ### isinstance -/
def tyName : D → String
  | .none => "NoneType"
  | .bool _ => "bool"
  | .int _ => "int"
  | .str _ => "str"
  | .list _ => "list"
  | .tuple _ => "tuple"
  | .dict _ => "dict"
def isT (T : String) : D → Bool
  | .none => false
  | .bool _ => T == "bool" || T == "int"
  | .int _ => T == "int"
  | .str _ => T == "str"
  | .list _ => T == "list"
  | .tuple _ => T == "tuple"
  | .dict _ => T == "dict"
/-- the model's own answers for the class T, one by one -/
def TyOk (T : String) : Prop := kitB "NoneType" T = some false ∧ kitB "bool" T = some (T == "bool" || T == "int") ∧ kitB "int" T = some (T == "int") ∧ kitB "str" T = some (T == "str") ∧ kitB "list" T = some (T == "list") ∧ kitB "tuple" T = some (T == "tuple") ∧ kitB "dict" T = some (T == "dict")
theorem kit_isT {T : String} (h : TyOk T) (d : D) : kitB (tyName d) T = some (isT T d) := by
  obtain ⟨h1, h2, h3, h4, h5, h6, h7⟩ := h
  cases d <;> assumption
theorem tyok_int : TyOk "int" := by refine ⟨?_, ?_, ?_, ?_, ?_, ?_, ?_⟩ <;> decide +kernel
theorem tyok_bool : TyOk "bool" := by refine ⟨?_, ?_, ?_, ?_, ?_, ?_, ?_⟩ <;> decide +kernel
theorem tyok_str : TyOk "str" := by refine ⟨?_, ?_, ?_, ?_, ?_, ?_, ?_⟩ <;> decide +kernel
theorem tyok_tuple : TyOk "tuple" := by refine ⟨?_, ?_, ?_, ?_, ?_, ?_, ?_⟩ <;> decide +kernel
theorem tyok_list : TyOk "list" := by refine ⟨?_, ?_, ?_, ?_, ?_, ?_, ?_⟩ <;> decide +kernel
theorem tyok_dict : TyOk "dict" := by refine ⟨?_, ?_, ?_, ?_, ?_, ?_, ?_⟩ <;> decide +kernel
theorem tyx_of {K : Fr} {H : Hp} {Xs : List Addr} {os : List (Nat × Addr)} {d : D} {v : V} (h : RpB K H Xs os d v) : TyX K H v (.type (tyName d)) := by
  cases d with
  | none => rw [h.none]; exact .base .non
  | bool b => rw [h.bool]; exact .base (.bl b)
  | int i => rw [h.int]; exact .base (.int i)
  | str x => rw [h.str]; exact .base (.str x)
  | list ds =>
    obtain ⟨a, vs, ev, ha, ra⟩ := h.list
    subst ev
    exact .base (.lst ha)
  | tuple ds =>
    obtain ⟨a, vs, ev, ha, ra⟩ := h.tuple
    subst ev
    rcases ha with (ha | ⟨o, ha⟩) | ⟨o, its, n, hk, hc, _⟩
    · exact .base (.tup ha)
    · exact .fTuple ha
    · exact .kTuple hk hc
  | dict es =>
    obtain ⟨a, kvs, ev, ha, _⟩ := h.dict
    subst ev
    exact .base (.dK ha)
def isiD (T : String) (d : D) : Option D := some (.bool (isT T d))
theorem se_isi {T : String} {x : Str} {p p2 pos} (ht : TyOk T) (hg : Gl X "isinstance") (hm : X.mg "isinstance" = none) (hx : PE X (.Name x p2) (tC (.ty T))) (ha : SB cl X W m e ev)
    (he : starEach [e, .Name x p2] X.env = (false, eval e X.env) :: starEach [.Name x p2] X.env := by rfl) (he2 : starEach [Expr.Name x p2] X.env = (false, eval (.Name x p2) X.env) :: starEach [] X.env := by rfl) (hpl : (backTo pos (starEach [Expr.Name x p2] X.env)).any (·.1) = false := by rfl) :
    SE cl X W m (.Call (.Name "isinstance" p) [e, .Name x p2] [] pos) (ev1 (isiD T) ev) :=
  pe_imp (pe_callB call_isi hg hm PyProof.Rows.boot_isinstance (pa_cons ha (pa_cons hx pa_nil he2) he) (by decide) (by decide) he hpl) fun σ H Q ⟨fm, Xs, os, s, R, g⟩ => by
    unfold ev1 at g
    refine ⟨fm, Xs, os, s, R, ?_⟩
    cases q : ev s with
    | ok x s1 =>
      rw [q] at g
      simp only [Out.bind_ok, isiD, toOut_some] at g
      exact fun v1 H1 r1 st1 p1 => ⟨v1, _, _, _, isT T x, rfl, .ty T, tyx_of p1, kit_ty (kit_isT ht x), g _ H1 r1 st1 rfl⟩
    | exc c t s1 => rw [q] at g; exact g
    | no => rw [q] at g; exact g.elim
end
/-! ### calls of defs -/
/-- a def that knows no deck: from values to values; nothing that stood is changed -/
def spP (K : Fr) (cl : Nat → Addr) (n : Nat) (f : List D → Ro) : Sp := fun vs H Q E => ∃ Xs ds, RpA K H Xs ds vs ∧ ds.length = n ∧ (∀ a ∈ Xs, H a ≠ none) ∧ (match f ds with
  | .ok d => ∀ v H', Stay [] H H' → Rp K H' Xs d v → Q v H'
  | .exc c t => ∀ v dd H', Stay [] H H' → Rp K H' Xs t v → H' dd = some (.xd [(("thing" : Str), v)]) → E (.ref (cl c)) (some dd) H'
  | .no => False)
/-- a def that is handed the deck first -/
def spD (K : Fr) (n : Nat) (f : List D → Dk → Rd) : Sp := fun vs H Q _ => ∃ kd kc ws Xs ds k, vs = .ref kd :: ws ∧ RpA K H Xs ds ws ∧ ds.length = n ∧ (∀ a ∈ Xs, H a ≠ none) ∧ kd ∈ Xs ∧ kc ∈ Xs ∧ DkAt H kd kc k ∧ (match f ds k with
  | .ok d k' => ∀ v H', Stay [kd, kc] H H' → DkAt H' kd kc k' → Rp K H' Xs d v → Q v H'
  | .no => False)
def ofRo (r : Ro) (s : Ms) : Out D := match r with
  | .ok d => .ok d s
  | .exc c t => .exc c t s
  | .no => .no
def ofRd (r : Rd) (s : Ms) : Out D := match r with
  | .ok d k => .ok d { s with dk := k }
  | .no => .no
def evCall (f : List D → Ro) (as : Evs) : Ev := fun s => (as s).bind fun ds s1 => ofRo (f ds) s1
section
variable {cl : Nat → Addr} {X : Cx} {W : WX} {m : Bool} {e : Expr} {es : List Expr} {ev : Ev} {evs : Evs} {k n : Nat} {f : Addr} {fd : FuncData} {ps : List Str} {x : Str} {p pos : Pos}
theorem GoodE.call {fm : Fm} {Xs : List Addr} {os : List (Nat × Addr)} {s : Ms} {σ : L2.St} {H H1 : Hp} {Q : VK} {g : List D → Ro} {ds : List D} {vs : List V} (r1 : Rel X.K fm Xs os s σ H1) (st : Stay (Mu fm.dka os m) H H1) (ra : RpA X.K H1 Xs ds vs) (hl : ds.length = n)
    (h : GoodE X.K cl W m fm Xs os σ H Q (ofRo (g ds) s)) : spP X.K cl n g vs H1 Q (WE W σ) := by
  refine ⟨Xs, ds, ra, hl, r1.xt, ?_⟩
  cases q : g ds with
  | ok d =>
    rw [q] at h
    exact fun v H' st' p => h v H' (r1.stay st') (st.trans st'.any) p
  | exc c t =>
    rw [q] at h
    exact fun v dd H' st' p hd => h v dd H' (r1.stay st') p hd
  | no => rw [q] at h; exact h
theorem se_call {g : List D → Ro} (F : FnOk X.prog X.w X.K X.mg X.base (L2.CX X.prog X.w) k f fd ps (spP X.K cl n g)) (hr : Room k X.A) (hg : Gl X x) (hm : X.mg x = some (.ref f)) (hk : PySem.W.keepIn X.K (.ref f) = true) (hb : Binds X.K fd ps []) (tk : Takes X W)
    (ha : SA cl X W m (e :: es) evs) (hn : ∀ s ds s1, evs s = .ok ds s1 → ds.length = n) (hdb : (x == ("__debug__" : Str)) = false := by decide) (he : starEach (e :: es) X.env = (false, eval e X.env) :: starEach es X.env := by rfl) (hpl : (backTo pos (starEach es X.env)).any (·.1) = false := by rfl) :
    SE cl X W m (.Call (.Name x p) (e :: es) [] pos) (evCall g evs) :=
  pe_imp (pe_callS F hr hg hm hk hb (fun σ => passAt tk σ) ha hdb he hpl) fun σ H Q ⟨fm, Xs, os, s, R, h⟩ => by
    unfold evCall at h
    refine ⟨fm, Xs, os, s, R, ?_⟩
    cases q : evs s with
    | ok ds s1 =>
      rw [q] at h
      simp only [Out.bind_ok] at h
      exact fun vs H1 r1 st1 ra => GoodE.call r1 st1 ra (hn _ _ _ q) h
    | exc c t s1 => rw [q] at h; exact h
    | no => rw [q] at h; exact h.elim
theorem evCons_len {a : Ev} {b : Evs} {j : Nat} (h : ∀ s ds s1, b s = .ok ds s1 → ds.length = j) : ∀ s ds s1, evCons a b s = .ok ds s1 → ds.length = j + 1 := by
  intro s ds s1 e
  unfold evCons at e
  cases q : a s with
  | ok d s2 =>
    rw [q] at e
    simp only [Out.bind_ok] at e
    cases q2 : b s2 with
    | ok ds' s3 =>
      rw [q2] at e
      simp only [Out.bind_ok, Out.ok.injEq] at e
      rw [← e.1, List.length_cons, h _ _ _ q2]
    | exc c t s3 => rw [q2] at e; cases e
    | no => rw [q2] at e; cases e
  | exc c t s2 => rw [q] at e; cases e
  | no => rw [q] at e; cases e
theorem evNil_len : ∀ s ds s1, evNil s = .ok ds s1 → ds.length = 0 := by
  intro s ds s1 e
  cases e
  rfl
/-- f(deck, ..): the deck stands in a slot -/
def evCallD (i : Nat) (f : List D → Dk → Rd) (as : Evs) : Ev := fun s => match s.env[i]? with
  | some .deck => (as s).bind fun ds s1 => ofRd (f ds s1.dk) s1
  | _ => .no
theorem se_callD {g : List D → Dk → Rd} {ed : Expr} (i : Nat) (F : FnOk X.prog X.w X.K X.mg X.base (L2.CX X.prog X.w) k f fd ps (spD X.K n g)) (hr : Room k X.A) (hg : Gl X x) (hm : X.mg x = some (.ref f)) (hk : PySem.W.keepIn X.K (.ref f) = true) (hb : Binds X.K fd ps []) (tk : Takes X W)
    (hd : PE X ed (tVar i)) (ha : SA cl X W m es evs) (hn : ∀ s ds s1, evs s = .ok ds s1 → ds.length = n) (hdb : (x == ("__debug__" : Str)) = false := by decide) (he : starEach (ed :: es) X.env = (false, eval ed X.env) :: starEach es X.env := by rfl) (hpl : (backTo pos (starEach es X.env)).any (·.1) = false := by rfl) :
    SE cl X W m (.Call (.Name x p) (ed :: es) [] pos) (evCallD i g evs) :=
  pe_imp (pe_callS F hr hg hm hk hb (fun σ => passAt tk σ) (pa_cons hd ha he) hdb he hpl) fun σ H Q ⟨fm, Xs, os, s, R, h⟩ => by
    unfold evCallD at h
    cases q0 : s.env[i]? with
    | none => rw [q0] at h; exact h.elim
    | some sv =>
      rw [q0] at h
      cases sv with
      | deck =>
        obtain ⟨kd, kc, ek, es⟩ := R.slot i _ q0
        refine ⟨.ref kd, join_some es, fm, Xs, os, s, R, ?_⟩
        cases q : evs s with
        | ok ds s1 =>
          rw [q] at h
          simp only [Out.bind_ok] at h
          refine fun vs H1 r1 st1 ra => ?_
          have d1 : kd ∈ Xs := r1.dks kd (by rw [ek]; simp [dkl])
          have d2 : kc ∈ Xs := r1.dks kc (by rw [ek]; simp [dkl])
          refine ⟨kd, kc, vs, Xs, ds, s1.dk, rfl, ra, hn _ _ _ q, r1.xt, d1, d2, r1.dk kd kc ek, ?_⟩
          cases q2 : g ds s1.dk with
          | ok d k' =>
            rw [q2] at h
            refine fun v H' st' dk' p' => ?_
            have st2 : Stay (dkl fm.dka) H1 H' := by rw [ek]; exact st'
            have r2 := r1.dput (k := k') st2 fun a b e => by
              rw [ek] at e
              cases e
              exact dk'
            refine h v H' r2 (st1.trans (st2.more fun a ha => ?_)) p'
            unfold Mu
            exact List.mem_append_left _ ha
          | no => rw [q2] at h; exact h
        | exc c t s1 => rw [q] at h; exact h
        | no => rw [q] at h; exact h.elim
      | _ => exact h.elim
end
end Zo
/-! ZF: statements; a frame's own lists: append, extend, pop. -/
namespace Zo
open PySem PySem.Spec PyProof.Rows L2
section
variable (K : Fr) (cl : Nat → Addr) (W : WX)
def GoodS (fm : Fm) (Dn : Ends) : Out Fl → Prop
  | .ok fl s' => ∀ X os σ' H', Rel K fm X os s' σ' H' → (match fl with
    | .nx => Dn.nx σ' H'
    | .bk => Dn.bk σ' H'
    | .ct => Dn.ct σ' H'
    | .rt d => ∀ v, Rp K H' X d v → Dn.rt v H')
  | .exc c t s' => ∀ X os σ', Wish K cl W fm X os σ' c t s'
  | .no => False
def tS (run : Ex) : TS := fun Dn σ H => ∃ fm X os s, Rel K fm X os s σ H ∧ GoodS K cl W fm Dn (run s)
end
abbrev SS (cl : Nat → Addr) (X : Cx) (W : WX) (st : Stmt) (run : Ex) : Prop := PS X st (tS X.K cl W run)
abbrev SSs (cl : Nat → Addr) (X : Cx) (W : WX) (st : List Stmt) (run : Ex) : Prop := PSs X st (tS X.K cl W run)
section
variable {cl : Nat → Addr} {X : Cx} {W : WX} {m : Bool} {e : Expr} {ev : Ev} {evs : Evs} {st : Stmt} {rest : List Stmt} {pos : Pos}
def seqS (a b : Ex) : Ex := fun s => (a s).bind fun fl s1 => match fl with
  | .nx => b s1
  | f => .ok f s1
def skipS : Ex := fun s => .ok .nx s
theorem ss_nil : SSs cl X W [] skipS := pss_imp pss_nil fun Dn σ H ⟨fm, Xs, os, s, r, g⟩ => g Xs os σ H r
theorem ss_one {a : Ex} (h : SS cl X W st a) : SSs cl X W [st] a := pss_one h
theorem ss_cons {a b : Ex} (h : SS cl X W st a) (hs : SSs cl X W rest b) : SSs cl X W (st :: rest) (seqS a b) := pss_imp (pss_cons h hs) fun Dn σ H ⟨fm, Xs, os, s, r, g⟩ => by
  unfold seqS at g
  refine ⟨fm, Xs, os, s, r, ?_⟩
  cases q : a s with
  | ok fl s1 =>
    rw [q] at g
    simp only [Out.bind_ok] at g
    intro X' os' σ' H' r'
    cases fl with
    | nx => exact ⟨fm, X', os', s1, r', g⟩
    | rt d => exact g X' os' σ' H' r'
    | bk => exact g X' os' σ' H' r'
    | ct => exact g X' os' σ' H' r'
  | exc c t s1 => rw [q] at g; exact g
  | no => rw [q] at g; exact g.elim
/-- a list that nobody changes any more: nothing is run -/
def fixS (i : Nat) (b : Ex) : Ex := fun s => match s.env[i]? with
  | some (.own ds) => b { s with env := s.env.set i (.fz (.list ds)) }
  | _ => .no
theorem ss_fix {b : Ex} (i : Nat) (h : SSs cl X W rest b) : SSs cl X W rest (fixS i b) := pss_imp h fun Dn σ H ⟨fm, Xs, os, s, r, g⟩ => by
  unfold fixS at g
  cases q : s.env[i]? with
  | none => rw [q] at g; exact g.elim
  | some sv =>
    rw [q] at g
    cases sv with
    | own ds =>
      obtain ⟨X', r'⟩ := r.freeze q
      exact ⟨fm, X', _, _, r', g⟩
    | _ => exact g.elim
/-! ### names are given values -/
def setS (i : Nat) (a : Ev) : Ex := fun s => (a s).bind fun d s1 => .ok .nx { s1 with env := s1.env.set i (.fz d) }
theorem ss_set {i : Nat} {x : Str} {p : Pos} (hN : X.N.Nodup) (hi : X.N[i]? = some x) (hx : Loc X.env.scope x) (h : SE cl X W m e ev) (hs : swapsWith e (some (.Name x p)) pos.line X.env = pure false := by rfl)
    (hf : X.fn x = true ∨ X.env.scope.names.lookup x = some .local := by first | exact .inl rfl | exact .inr rfl | assumption) : SS cl X W (.Assign [.Name x p] e pos) (setS i ev) :=
  ps_imp (ps_set hN hi hx h hs hf) fun Dn σ H ⟨fm, Xs, os, s, r, g⟩ => by
    unfold setS at g
    refine ⟨fm, Xs, os, s, r, ?_⟩
    cases q : ev s with
    | ok d s1 =>
      rw [q] at g
      simp only [Out.bind_ok] at g
      exact fun v H1 r1 st1 p1 => g Xs _ _ H1 (r1.setfz p1)
    | exc c t s1 => rw [q] at g; exact g Xs os σ
    | no => rw [q] at g; exact g.elim
def ownS (i : Nat) (a : Evs) : Ex := fun s => (a s).bind fun ds s1 => .ok .nx { s1 with env := s1.env.set i (.own ds) }
theorem Rel.newown {K : Fr} {fm : Fm} {Xs : List Addr} {os : List (Nat × Addr)} {s : Ms} {σ : L2.St} {H : Hp} (r : Rel K fm Xs os s σ H) {p : Addr} {i : Nat} {ds : List D} {vs : List V} (h : H p = none) (ra : RpA K H Xs ds vs) :
    Rel K fm (p :: Xs) ((i, p) :: rid os i) { s with env := s.env.set i (.own ds) } (σ.set i (some (.ref p))) (upd H p (.lst vs)) :=
  (r.laidL h).setown List.mem_cons_self upd_same (r.nos h) (fun z => r.nx h (r.dks p z)) (r.ent0 h) (RpA.stay (M := []) (Stay.laid h) (fun a h => absurd h (by simp)) ds vs (RpA.fresh h ds vs ra))
theorem ss_own {i : Nat} {x : Str} {p : Pos} (hN : X.N.Nodup) (hi : X.N[i]? = some x) (hx : Loc X.env.scope x) (h : SF cl X W m e evs) (hs : swapsWith e (some (.Name x p)) pos.line X.env = pure false := by rfl)
    (hf : X.fn x = true ∨ X.env.scope.names.lookup x = some .local := by first | exact .inl rfl | exact .inr rfl | assumption) : SS cl X W (.Assign [.Name x p] e pos) (ownS i evs) :=
  ps_imp (ps_set hN hi hx h hs hf) fun Dn σ H ⟨fm, Xs, os, s, r, g⟩ => by
    unfold ownS at g
    refine ⟨fm, Xs, os, s, r, ?_⟩
    cases q : evs s with
    | ok d s1 =>
      rw [q] at g
      simp only [Out.bind_ok] at g
      exact fun p vs H1 r1 st1 fp hp ra => g _ _ _ _ (r1.setown (i := i) List.mem_cons_self hp fp.no fp.nd fp.n0 ra)
    | exc c t s1 => rw [q] at g; exact g Xs os σ
    | no => rw [q] at g; exact g.elim
/-- a, b, .. = e -/
def setMany : List Nat → List D → List Sv → List Sv
  | i :: is, d :: ds, env => setMany is ds (env.set i (.fz d))
  | _, _, env => env
def unpS (is : List Nat) (a : Ev) : Ex := fun s => (a s).bind fun d s1 => match d with
  | .tuple ds => if ds.length = is.length then .ok .nx { s1 with env := setMany is ds s1.env } else .no
  | _ => .no
def unpLS (is : List Nat) (a : Ev) : Ex := fun s => (a s).bind fun d s1 => match d with
  | .list ds => if ds.length = is.length then .ok .nx { s1 with env := setMany is ds s1.env } else .no
  | _ => .no
def gNames : List Nat → TGs
  | [] => gNil
  | i :: is => gCons (gName i) (gNames is)
theorem gNames_rel {K : Fr} {fm : Fm} {Xs : List Addr} {H : Hp} {Q : L2.St → Hp → Prop} : ∀ (is : List Nat) (ds : List D) (vs : List V) (os : List (Nat × Addr)) (s : Ms) (σ : L2.St), Rel K fm Xs os s σ H → RpA K H Xs ds vs → ds.length = is.length →
    (∀ os' σ', Rel K fm Xs os' { s with env := setMany is ds s.env } σ' H → Q σ' H) → gNames is vs σ H Q
  | [], [], _, os, s, σ, r, ra, _, q => by
    cases ra
    exact ⟨rfl, q os σ r⟩
  | i :: is, d :: ds, _, os, s, σ, r, ra, hl, q => by
    obtain ⟨v, w, e, p, t⟩ := ra
    subst e
    refine ⟨v, w, rfl, ?_⟩
    exact gNames_rel is ds w _ { s with env := s.env.set i (.fz d) } _ (r.setfz p) t (by simpa using hl) fun os' σ' r' => q os' σ' r'
  | [], _ :: _, _, _, _, _, _, _, hl, _ => by simp at hl
  | _ :: _, [], _, _, _, _, _, _, hl, _ => by simp at hl
theorem ss_unp {tg : Expr} {is : List Nat} {n : Nat} (hn : n = is.length) (hP : PS X (.Assign [tg] e pos) (tAsg (tE X.K cl W m ev) (gTup X.K n (gNames is)))) : SS cl X W (.Assign [tg] e pos) (unpS is ev) :=
  ps_imp hP fun Dn σ H ⟨fm, Xs, os, s, r, g⟩ => by
    unfold unpS at g
    refine ⟨fm, Xs, os, s, r, ?_⟩
    cases q : ev s with
    | ok d s1 =>
      rw [q] at g
      simp only [Out.bind_ok] at g
      refine fun v H1 r1 st1 p1 => ?_
      cases d with
      | tuple ds =>
        dsimp only at g
        split at g
        · rename_i hl
          obtain ⟨a, vs, ev, ha, ra⟩ := p1
          exact ⟨a, vs, ev, ha.sq, by rw [ra.len, hl, hn], gNames_rel is ds vs os s1 σ r1 ra hl fun os' σ' r' => g Xs os' σ' H1 r'⟩
        · exact g.elim
      | _ => exact g.elim
    | exc c t s1 => rw [q] at g; exact g Xs os σ
    | no => rw [q] at g; exact g.elim
theorem ss_unpL {tg : Expr} {is : List Nat} {n : Nat} (hn : n = is.length) (hP : PS X (.Assign [tg] e pos) (tAsg (tE X.K cl W m ev) (gUnl X.K n (gNames is)))) : SS cl X W (.Assign [tg] e pos) (unpLS is ev) :=
  ps_imp hP fun Dn σ H ⟨fm, Xs, os, s, r, g⟩ => by
    unfold unpLS at g
    refine ⟨fm, Xs, os, s, r, ?_⟩
    cases q : ev s with
    | ok d s1 =>
      rw [q] at g
      simp only [Out.bind_ok] at g
      refine fun v H1 r1 st1 p1 => ?_
      cases d with
      | list ds =>
        dsimp only at g
        split at g
        · rename_i hl
          obtain ⟨a, vs, ev, ha, ra⟩ := p1
          exact ⟨a, vs, ev, SqL.of ha.1, by rw [ra.len, hl, hn], gNames_rel is ds vs os s1 σ r1 ra hl fun os' σ' r' => g Xs os' σ' H1 r'⟩
        · exact g.elim
      | _ => exact g.elim
    | exc c t s1 => rw [q] at g; exact g Xs os σ
    | no => rw [q] at g; exact g.elim
/-- a, b = e1, e2 -/
def par2S (i j : Nat) (a b : Ev) : Ex := fun s => (a s).bind fun d s1 => (b s1).bind fun d2 s2 => .ok .nx { s2 with env := (s2.env.set i (.fz d)).set j (.fz d2) }
theorem par2_rel {fm : Fm} {Xs : List Addr} {os : List (Nat × Addr)} {s : Ms} {σ : L2.St} {H : Hp} {i j : Nat} {a b : Ev} {Dn : Ends} (r : Rel X.K fm Xs os s σ H) (g : GoodS X.K cl W fm Dn (par2S i j a b s)) :
    tCons (tE X.K cl W m a) (tCons (tE X.K cl W m b) tNil) σ H fun vs H1 => ∃ v w, vs = [v, w] ∧ Dn.nx ((σ.set i (some v)).set j (some w)) H1 := by
  unfold par2S at g
  refine ⟨fm, Xs, os, s, r, ?_⟩
  cases q : a s with
  | ok d s1 =>
    rw [q] at g
    simp only [Out.bind_ok] at g
    refine fun v H1 r1 st1 p1 => ⟨fm, Xs, os, s1, r1, ?_⟩
    cases q2 : b s1 with
    | ok d2 s2 =>
      rw [q2] at g
      simp only [Out.bind_ok] at g
      exact fun v2 H2 r2 st2 p2 => ⟨v, v2, rfl, g Xs _ _ H2 ((r2.setfz (Rp.stay st2 r1.sx d v p1)).setfz p2)⟩
    | exc c t s2 => rw [q2] at g; exact g Xs os σ
    | no => rw [q2] at g; exact g.elim
  | exc c t s1 => rw [q] at g; exact g Xs os σ
  | no => rw [q] at g; exact g.elim
theorem ss_par2 {i j : Nat} {x y : Str} {ea eb : Expr} {a b : Ev} {px py pt : Pos} {kt k2 pt2} (hc : X.calm = true) (hN : X.N.Nodup) (hi : X.N[i]? = some x) (hj : X.N[j]? = some y) (hij : i ≠ j) (ha : SE cl X W m ea a) (hb : SE cl X W m eb b)
    (hP : ∀ ta, PA X [ea, eb] ta → PS X (.Assign [.Tuple [.Name x px, .Name y py] kt pt] (.Tuple [ea, eb] k2 pt2) pos) (tPar i j ta))
    (he : starEach [ea, eb] X.env = (false, eval ea X.env) :: starEach [eb] X.env := by rfl) (he2 : starEach [eb] X.env = (false, eval eb X.env) :: starEach [] X.env := by rfl) :
    SS cl X W (.Assign [.Tuple [.Name x px, .Name y py] kt pt] (.Tuple [ea, eb] k2 pt2) pos) (par2S i j a b) :=
  ps_imp (hP _ (pa_cons ha (pa_cons hb pa_nil he2) he)) fun Dn σ H ⟨fm, Xs, os, s, r, g⟩ => par2_rel r g
theorem RpA.pairs {K : Fr} {H : Hp} {Xs : List Addr} : ∀ {ds : List D} {vs : List V}, RpA K H Xs ds vs → ∀ p ∈ ds.zip vs, Rp K H Xs p.1 p.2
  | [], _, _, p, h => by simp at h
  | d :: ds, _, h, p, hp => by
    obtain ⟨v, r, e, q, t⟩ := h
    subst e
    rw [List.zip_cons_cons] at hp
    rcases List.mem_cons.mp hp with e | hp
    · rw [e]; exact q
    · exact RpA.pairs t p hp
theorem RpA.ofPairs {K : Fr} {H : Hp} {Xs : List Addr} : ∀ {ds : List D} {vs : List V}, vs.length = ds.length → (∀ p ∈ ds.zip vs, Rp K H Xs p.1 p.2) → RpA K H Xs ds vs
  | [], [], _, _ => rfl
  | [], _ :: _, h, _ => by simp at h
  | _ :: _, [], h, _ => by simp at h
  | d :: ds, v :: vs, h, q => by
    rw [List.zip_cons_cons] at q
    exact ⟨v, vs, rfl, q (d, v) List.mem_cons_self, RpA.ofPairs (by simpa using h) fun p hp => q p (List.mem_cons_of_mem _ hp)⟩
/-- a, b = [..], [..]: both the frame's own -/
def parOS (i j : Nat) (a b : Evs) : Ex := fun s => (a s).bind fun d s1 => (b s1).bind fun d2 s2 => .ok .nx { s2 with env := (s2.env.set i (.own d)).set j (.own d2) }
theorem parO_rel {fm : Fm} {Xs : List Addr} {os : List (Nat × Addr)} {s : Ms} {σ : L2.St} {H : Hp} {i j : Nat} {a b : Evs} {Dn : Ends} (hij : i ≠ j) (r : Rel X.K fm Xs os s σ H) (g : GoodS X.K cl W fm Dn (parOS i j a b s)) :
    tCons (tF X.K cl W m a) (tCons (tF X.K cl W true b) tNil) σ H fun vs H1 => ∃ v w, vs = [v, w] ∧ Dn.nx ((σ.set i (some v)).set j (some w)) H1 := by
  unfold parOS at g
  refine ⟨fm, Xs, os, s, r, ?_⟩
  cases q : a s with
  | ok d s1 =>
    rw [q] at g
    simp only [Out.bind_ok] at g
    refine fun p vs H1 r1 st1 fp hp ra => ⟨{ fm with tmp := d.zip vs ++ fm.tmp }, p :: Xs, os, s1, r1.holds _ (ra.pairs), ?_⟩
    cases q2 : b s1 with
    | ok d2 s2 =>
      rw [q2] at g
      simp only [Out.bind_ok] at g
      refine fun p2 ws H2 r2' st2 fp2' hp2 ra2 => ⟨.ref p, .ref p2, rfl, g (p2 :: p :: Xs) ((j, p2) :: rid ((i, p) :: rid os i) j) _ _ ?_⟩
      have ra1 : RpA X.K H2 (p2 :: p :: Xs) d vs := RpA.ofPairs ra.len fun q hq => r2'.tm q (List.mem_append_left _ hq)
      have r2 := r2'.drops
      have fp2 : Frsh fm (p :: Xs) os p2 := ⟨fp2'.nx, fp2'.no, fp2'.nd, fp2'.n0⟩
      have nm : p ∉ Mu fm.dka os true := fun z => by
        unfold Mu at z
        rcases List.mem_append.mp z with z | z
        · exact fp.nd z
        · simp at z
      have hv : H2 p = some (.lst vs) := st2 p _ hp nm
      have npp : p2 ≠ p := fun e => fp2.nx (by rw [e]; exact List.mem_cons_self)
      have rA := r2.setown (i := i) (List.mem_cons_of_mem _ List.mem_cons_self) hv fp.no fp.nd fp.n0 ra1
      refine rA.setown (i := j) List.mem_cons_self hp2 (fun z => ?_) fp2.nd fp2.n0 ra2
      rw [List.map_cons] at z
      rcases List.mem_cons.mp z with z | z
      · exact npp z
      · obtain ⟨q, hq, e⟩ := List.mem_map.mp z
        exact fp2.no (List.mem_map.mpr ⟨q, (rid_mem.mp hq).1, e⟩)
    | exc c t s2 =>
      rw [q2] at g
      exact fun v dd H' r' p' hd => g (p :: Xs) os σ v dd H' r'.drops p' hd
    | no => rw [q2] at g; exact g.elim
  | exc c t s1 => rw [q] at g; exact g Xs os σ
  | no => rw [q] at g; exact g.elim
theorem ss_parO {i j : Nat} {x y : Str} {ea eb : Expr} {a b : Evs} {px py pt : Pos} {kt k2 pt2} (hij : i ≠ j) (ha : SF cl X W m ea a) (hb : SF cl X W true eb b)
    (hP : ∀ ta, PA X [ea, eb] ta → PS X (.Assign [.Tuple [.Name x px, .Name y py] kt pt] (.Tuple [ea, eb] k2 pt2) pos) (tPar i j ta))
    (he : starEach [ea, eb] X.env = (false, eval ea X.env) :: starEach [eb] X.env := by rfl) (he2 : starEach [eb] X.env = (false, eval eb X.env) :: starEach [] X.env := by rfl) :
    SS cl X W (.Assign [.Tuple [.Name x px, .Name y py] kt pt] (.Tuple [ea, eb] k2 pt2) pos) (parOS i j a b) :=
  ps_imp (hP _ (pa_cons ha (pa_cons hb pa_nil he2) he)) fun Dn σ H ⟨fm, Xs, os, s, r, g⟩ => parO_rel hij r g
/-! ### return, if, an expression alone -/
def retS (a : Ev) : Ex := fun s => (a s).bind fun d s1 => .ok (.rt d) s1
theorem ss_ret (h : SE cl X W m e ev) : SS cl X W (.Return (some e) pos) (retS ev) := ps_imp (ps_ret h) fun Dn σ H ⟨fm, Xs, os, s, r, g⟩ => by
  unfold retS at g
  refine ⟨fm, Xs, os, s, r, ?_⟩
  cases q : ev s with
  | ok d s1 =>
    rw [q] at g
    exact fun v H1 r1 st1 p1 => g Xs os σ H1 r1 v p1
  | exc c t s1 => rw [q] at g; exact g Xs os σ
  | no => rw [q] at g; exact g.elim
def ifS (c : Ms → Out Bool) (a b : Ex) : Ex := fun s => (c s).bind fun k s1 => if k = true then a s1 else b s1
theorem ss_if {c : Ms → Out Bool} {p q : List Stmt} {a b : Ex} (hc : STt cl X W m e c) (ha : SSs cl X W p a) (hb : SSs cl X W q b) : SS cl X W (.If e p q pos) (ifS c a b) := ps_imp (ps_if hc ha hb) fun Dn σ H ⟨fm, Xs, os, s, r, g⟩ => by
  unfold ifS at g
  refine ⟨fm, Xs, os, s, r, ?_⟩
  cases q : c s with
  | ok k s1 =>
    rw [q] at g
    simp only [Out.bind_ok] at g
    cases k with
    | true => exact fun H1 r1 st1 => ⟨fm, Xs, os, s1, r1, g⟩
    | false => exact fun H1 r1 st1 => ⟨fm, Xs, os, s1, r1, g⟩
  | exc c t s1 => rw [q] at g; exact g Xs os σ
  | no => rw [q] at g; exact g.elim
def doS (a : Ev) : Ex := fun s => (a s).bind fun _ s1 => .ok .nx s1
theorem ss_do (h : SE cl X W m e ev) (hs : swapsWith e none pos.line X.env = pure false := by rfl) : SS cl X W (.Expr e pos) (doS ev) := ps_imp (ps_expr h hs) fun Dn σ H ⟨fm, Xs, os, s, r, g⟩ => by
  unfold doS at g
  refine ⟨fm, Xs, os, s, r, ?_⟩
  cases q : ev s with
  | ok d s1 =>
    rw [q] at g
    exact fun v H1 r1 st1 p1 => g Xs os σ H1 r1
  | exc c t s1 => rw [q] at g; exact g Xs os σ
  | no => rw [q] at g; exact g.elim
/-! ### a frame's own list: pop, append, extend -/
def evPop (i : Nat) : Ev := fun s => match s.env[i]? with
  | some (.own ds) => match ds.getLast? with
    | some d => .ok d { s with env := s.env.set i (.own ds.dropLast) }
    | none => .no
  | _ => .no
theorem mu_own {fm : Fm} {os : List (Nat × Addr)} {i : Nat} {a : Addr} (h : (i, a) ∈ os) : ∀ x ∈ [a], x ∈ Mu fm.dka os false := fun x hx => by
  rw [List.mem_singleton.mp hx]
  unfold Mu
  exact List.mem_append_right _ (List.mem_map.mpr ⟨_, h, rfl⟩)
theorem RpA.dropLast {K : Fr} {H : Hp} {Xs : List Addr} {ds : List D} {vs : List V} (h : RpA K H Xs ds vs) : RpA K H Xs ds.dropLast vs.dropLast := by
  rw [List.dropLast_eq_take, List.dropLast_eq_take, h.len]
  exact h.take _
theorem se_pop (i : Nat) {o : Expr} {apos cpos : Pos} (ho : PE X o (tVar i)) (hbase : attributeBase o "pop" X.env (eval o X.env) = eval o X.env := by rfl) (hline : (apos.endLine == cpos.line) = true := by rfl) :
    SE cl X W false (.Call (.Attribute o "pop" apos) [] [] cpos) (evPop i) :=
  pe_imp (pe_bm0 PySem.F.plainAttrs_list PySem.F.slot_list_pop PySem.F.type_list_pop mt_pop ho hbase hline) fun σ H Q ⟨fm, Xs, os, s, R, g⟩ => by
    unfold evPop at g
    cases q0 : s.env[i]? with
    | none => rw [q0] at g; exact g.elim
    | some sv =>
      rw [q0] at g
      cases sv with
      | own ds =>
        dsimp only at g
        obtain ⟨a, vs, hs, hm, hv, ra⟩ := R.slot i _ q0
        refine ⟨.ref a, join_some hs, .inl ⟨rfl, vs, SqL.of hv⟩, ?_⟩
        cases q1 : ds.getLast? with
        | none => rw [q1] at g; exact g.elim
        | some d =>
          rw [q1] at g
          have q2 : ds[ds.length - 1]? = some d := by rw [← List.getLast?_eq_getElem?]; exact q1
          obtain ⟨v, ev, pv⟩ := ra.get q2
          obtain ⟨r2, st2⟩ := R.put q0 hs hm ra.dropLast
          refine ⟨a, vs, v, rfl, rfl, hv, by rw [ra.len]; exact ev, g v _ r2 (st2.more (mu_own hm)) (Rp.stay st2 (fun x hx => by rw [List.mem_singleton.mp hx]; exact (R.sub _ hm).1) d v pv)⟩
      | _ => exact g.elim
def evPopAt (i : Nat) (a : Ev) : Ev := fun s => match s.env[i]? with
  | some (.own _) => (a s).bind fun d s1 => match s1.env[i]?, asInt d with
    | some (.own ds), some k => if 0 ≤ k ∧ k < 1000000 then (match ds[k.toNat]? with
      | some x => .ok x { s1 with env := s1.env.set i (.own (ds.eraseIdx k.toNat)) }
      | none => .no) else .no
    | _, _ => .no
  | _ => .no
theorem RpA.erase {K : Fr} {H : Hp} {Xs : List Addr} {ds : List D} {vs : List V} (h : RpA K H Xs ds vs) (n : Nat) : RpA K H Xs (ds.eraseIdx n) (vs.eraseIdx n) := by
  rw [List.eraseIdx_eq_take_drop_succ, List.eraseIdx_eq_take_drop_succ]
  exact (h.take n).app (h.drop (n + 1))
theorem se_popAt (i : Nat) {o : Expr} {apos cpos : Pos} (ho : PE X o (tVar i)) (h : SB cl X W true e ev)
    (he : starEach [e] X.env = (false, eval e X.env) :: starEach [] X.env := by rfl) (hP : ∀ t, PA X [e] t → PE X (.Call (.Attribute o "pop" apos) [e] [] cpos) (tBM X.K "list" rPopAt (tVar i) t)) :
    SE cl X W false (.Call (.Attribute o "pop" apos) [e] [] cpos) (evPopAt i ev) :=
  pe_imp (hP _ (pa_cons h pa_nil he)) fun σ H Q ⟨fm, Xs, os, s, R, g⟩ => by
    unfold evPopAt at g
    cases q0 : s.env[i]? with
    | none => rw [q0] at g; exact g.elim
    | some sv =>
      rw [q0] at g
      cases sv with
      | own ds0 =>
        dsimp only at g
        obtain ⟨a, vs, hs, hm, hv, ra⟩ := R.slot i _ q0
        refine ⟨.ref a, join_some hs, .inl ⟨rfl, vs, SqL.of hv⟩, fm, Xs, os, s, R, ?_⟩
        cases q : ev s with
        | ok d s1 =>
          rw [q] at g
          simp only [Out.bind_ok] at g
          refine fun v H1 r1 st1 p1 => ?_
          cases q1 : s1.env[i]? with
          | none => rw [q1] at g; exact g.elim
          | some sv1 =>
            rw [q1] at g
            cases sv1 with
            | own ds =>
              cases q2 : asInt d with
              | none => rw [q2] at g; exact g.elim
              | some k =>
                rw [q2] at g
                dsimp only at g
                have ed := asInt_some q2
                subst ed
                split at g
                · rename_i hk
                  cases q3 : ds[k.toNat]? with
                  | none => rw [q3] at g; exact g.elim
                  | some x =>
                    rw [q3] at g
                    obtain ⟨a1, vs1, hs1, hm1, hv1, ra1⟩ := r1.slot i _ q1
                    rw [hs] at hs1
                    cases hs1
                    obtain ⟨y, ey, py⟩ := ra1.get q3
                    obtain ⟨r2, st2⟩ := r1.put q1 hs hm1 (ra1.erase k.toNat)
                    have hlt : k.toNat < vs1.length := (List.getElem?_eq_some_iff.mp ey).1
                    refine ⟨a, vs1, k, k.toNat, y, rfl, by rw [p1.int], hv1, by omega, by omega, ?_, ey, g y _ r2 ((st1.more Mu.still).trans (st2.more (mu_own hm1))) (Rp.stay st2 (fun z hz => by rw [List.mem_singleton.mp hz]; exact (r1.sub _ hm1).1) x y py)⟩
                    rw [seqIndex_of hk.1 (by omega)]
                · exact g.elim
            | _ => exact g.elim
        | exc c t s1 => rw [q] at g; exact g
        | no => rw [q] at g; exact g.elim
      | _ => exact g.elim
def evApp (i : Nat) (a : Ev) : Ev := fun s => match s.env[i]? with
  | some (.own _) => (a s).bind fun d s1 => match s1.env[i]? with
    | some (.own ds) => if ds.length < 1000000 then .ok .none { s1 with env := s1.env.set i (.own (ds ++ [d])) } else .no
    | _ => .no
  | _ => .no
theorem line1M {n : Nat} (h : n < 1000000) : n < sizeLine := by rw [sizeLine_eq]; omega
theorem se_app (i : Nat) {o : Expr} {apos cpos : Pos} (ho : PE X o (tVar i)) (h : SE cl X W false e ev) (hbase : attributeBase o "append" X.env (eval o X.env) = eval o X.env := by rfl) (hP : ∀ t, PA X [e] t → PE X (.Call (.Attribute o "append" apos) [e] [] cpos) (tBM X.K "list" rAppend (tVar i) t))
    (he : starEach [e] X.env = (false, eval e X.env) :: starEach [] X.env := by rfl) : SE cl X W false (.Call (.Attribute o "append" apos) [e] [] cpos) (evApp i ev) :=
  pe_imp (hP _ (pa_cons h pa_nil he)) fun σ H Q ⟨fm, Xs, os, s, R, g⟩ => by
    unfold evApp at g
    cases q0 : s.env[i]? with
    | none => rw [q0] at g; exact g.elim
    | some sv =>
      rw [q0] at g
      cases sv with
      | own ds0 =>
        dsimp only at g
        obtain ⟨a, vs, hs, hm, hv, ra⟩ := R.slot i _ q0
        refine ⟨.ref a, join_some hs, .inl ⟨rfl, vs, SqL.of hv⟩, fm, Xs, os, s, R, ?_⟩
        cases q : ev s with
        | ok d s1 =>
          rw [q] at g
          simp only [Out.bind_ok] at g
          refine fun v H1 r1 st1 p1 => ?_
          cases q1 : s1.env[i]? with
          | none => rw [q1] at g; exact g.elim
          | some sv1 =>
            rw [q1] at g
            cases sv1 with
            | own ds =>
              dsimp only at g
              split at g
              · rename_i hl
                obtain ⟨a1, vs1, hs1, hm1, hv1, ra1⟩ := r1.slot i _ q1
                rw [hs] at hs1
                cases hs1
                obtain ⟨r2, st2⟩ := r1.put q1 hs hm1 (ra1.app (RpA.one p1))
                exact ⟨a, vs1, v, rfl, rfl, hv1, by rw [ra1.len]; exact line1M hl, g .non _ r2 (st1.trans (st2.more (mu_own hm1))) rfl⟩
              · exact g.elim
            | _ => exact g.elim
        | exc c t s1 => rw [q] at g; exact g
        | no => rw [q] at g; exact g.elim
      | _ => exact g.elim
def evExt (i : Nat) (a : Ev) : Ev := fun s => match s.env[i]? with
  | some (.own _) => (a s).bind fun d s1 => match s1.env[i]?, d with
    | some (.own ds), .list es => if ds.length + es.length < 1000000 then .ok .none { s1 with env := s1.env.set i (.own (ds ++ es)) } else .no
    | _, _ => .no
  | _ => .no
theorem se_ext (i : Nat) {o : Expr} {apos cpos : Pos} (ho : PE X o (tVar i)) (h : SE cl X W false e ev) (hP : ∀ t, PA X [e] t → PE X (.Call (.Attribute o "extend" apos) [e] [] cpos) (tBM X.K "list" rExtend (tVar i) t))
    (he : starEach [e] X.env = (false, eval e X.env) :: starEach [] X.env := by rfl) : SE cl X W false (.Call (.Attribute o "extend" apos) [e] [] cpos) (evExt i ev) :=
  pe_imp (hP _ (pa_cons h pa_nil he)) fun σ H Q ⟨fm, Xs, os, s, R, g⟩ => by
    unfold evExt at g
    cases q0 : s.env[i]? with
    | none => rw [q0] at g; exact g.elim
    | some sv =>
      rw [q0] at g
      cases sv with
      | own ds0 =>
        dsimp only at g
        obtain ⟨a, vs, hs, hm, hv, ra⟩ := R.slot i _ q0
        refine ⟨.ref a, join_some hs, .inl ⟨rfl, vs, SqL.of hv⟩, fm, Xs, os, s, R, ?_⟩
        cases q : ev s with
        | ok d s1 =>
          rw [q] at g
          simp only [Out.bind_ok] at g
          refine fun v H1 r1 st1 p1 => ?_
          cases q1 : s1.env[i]? with
          | none => rw [q1] at g; exact g.elim
          | some sv1 =>
            rw [q1] at g
            cases sv1 with
            | own ds =>
              cases d with
              | list es =>
                dsimp only at g
                split at g
                · rename_i hl
                  obtain ⟨a1, vs1, hs1, hm1, hv1, ra1⟩ := r1.slot i _ q1
                  rw [hs] at hs1
                  cases hs1
                  obtain ⟨b, ws, eb, fb, rb⟩ := p1
                  obtain ⟨r2, st2⟩ := r1.put q1 hs hm1 (ra1.app rb)
                  exact ⟨a, b, vs1, ws, rfl, by rw [eb], hv1, fb.1, by rw [ra1.len, rb.len]; exact Nat.le_of_lt (line1M hl), g .non _ r2 (st1.trans (st2.more (mu_own hm1))) rfl⟩
                · exact g.elim
              | _ => exact g.elim
            | _ => exact g.elim
        | exc c t s1 => rw [q] at g; exact g
        | no => rw [q] at g; exact g.elim
      | _ => exact g.elim
end
end Zo
/-! ZG: what is walked; for, while, list comprehensions. -/
namespace Zo
open PySem PySem.Spec PyProof.Rows L2
/-! ### what is walked -/
/-- the iterator gives the values ds, one after the other, while what it leans on (tmp) stands -/
def Walks (K : Fr) (J : It) (tmp : List (D × V)) (ds : List D) : Prop := ∀ (X : List Addr) (i : Nat) (H : Hp), (∀ p ∈ tmp, Rp K H X p.1 p.2) → (∀ a ∈ X, H a ≠ none) →
  (∀ d, ds[i]? = some d → J.go i H ∧ ∀ x H', J.yld i H x H' → Stay [] H H' ∧ Rp K H' X d x) ∧ (ds.length ≤ i → J.stop i H)
section
variable (K : Fr) (cl : Nat → Addr) (W : WX) (m : Bool)
def GoodI (fm : Fm) (X : List Addr) (os : List (Nat × Addr)) (σ : L2.St) (H : Hp) (R : It → Hp → Prop) : Out (List D) → Prop
  | .ok ds s' => ∀ J H' tmp, Rel K fm X os s' σ H' → Stay (Mu fm.dka os m) H H' → (∀ p ∈ tmp, Rp K H' X p.1 p.2) → Walks K J tmp ds → R J H'
  | .exc c t s' => Wish K cl W fm X os σ c t s'
  | .no => False
def tI (ev : Evs) : TI := fun σ H R => ∃ fm X os s, Rel K fm X os s σ H ∧ GoodI K cl W m fm X os σ H R (ev s)
end
abbrev SI (cl : Nat → Addr) (X : Cx) (W : WX) (m : Bool) (tg e : Expr) (ev : Evs) : Prop := PI X tg e (tI X.K cl W m ev)
section
variable {cl : Nat → Addr} {X : Cx} {W : WX} {m : Bool} {e e2 tg : Expr} {ev : Ev} {evs : Evs} {pos p : Pos}
theorem pi_imp {it : Expr} {t t' : TI} (h : PI X tg it t) (i : ∀ σ H R, t' σ H R → t σ H R) : PI X tg it t' := ⟨fun pins s σ H R I q => h.run pins s σ H R I (i σ H R q)⟩
/-- a list -/
theorem walks_list {K : Fr} {a : Addr} {ds : List D} : Walks K (Itl K a) [(.list ds, .ref a)] ds := by
  intro Xs i H ht hx
  have h := ht _ List.mem_cons_self
  obtain ⟨b, vs, eb, hf, ra⟩ := h
  cases eb
  refine ⟨fun d e => ?_, fun hl => ⟨vs, SqL.of hf.1, by rw [ra.len]; exact hl⟩⟩
  obtain ⟨v, ev, pv⟩ := ra.get e
  refine ⟨⟨vs, v, SqL.of hf.1, ev⟩, fun x H' hy => ?_⟩
  obtain ⟨eH, hy⟩ := hy
  subst eH
  have q := hy vs (SqL.of hf.1)
  rw [ev] at q
  cases q
  exact ⟨Stay.refl _ _, pv⟩
theorem walks_tup {K : Fr} {a : Addr} {ds : List D} : Walks K (Itt K a) [(.tuple ds, .ref a)] ds := by
  intro Xs i H ht hx
  have h := ht _ List.mem_cons_self
  obtain ⟨b, vs, eb, hf, ra⟩ := h
  cases eb
  refine ⟨fun d e => ?_, fun hl => ⟨vs, hf.sq, by rw [ra.len]; exact hl⟩⟩
  obtain ⟨v, ev, pv⟩ := ra.get e
  refine ⟨⟨vs, v, hf.sq, ev⟩, fun x H' hy => ?_⟩
  obtain ⟨eH, hy⟩ := hy
  subst eH
  have q := hy vs hf.sq
  rw [ev] at q
  cases q
  exact ⟨Stay.refl _ _, pv⟩
def evItL (a : Ev) : Evs := fun s => (a s).bind fun d s1 => match d with
  | .list ds => .ok ds s1
  | _ => .no
def evItT (a : Ev) : Evs := fun s => (a s).bind fun d s1 => match d with
  | .tuple ds => .ok ds s1
  | _ => .no
def signs (x : Str) : List D := x.cps.toList.map fun c => .str ⟨#[c]⟩
def evItS (a : Ev) : Evs := fun s => (a s).bind fun d s1 => match d with
  | .str x => .ok (signs x) s1
  | _ => .no
theorem si_list (h : SE cl X W m e ev) : SI cl X W m tg e (evItL ev) := pi_imp (pi_list h) fun σ H R ⟨fm, Xs, os, s, r, g⟩ => by
  unfold evItL at g
  refine ⟨fm, Xs, os, s, r, ?_⟩
  cases q : ev s with
  | ok d s1 =>
    rw [q] at g
    simp only [Out.bind_ok] at g
    refine fun v H1 r1 st1 p1 => ?_
    cases d with
    | list ds =>
      obtain ⟨a, vs, ev, hf, ra⟩ := id p1
      subst ev
      exact ⟨a, rfl, ⟨vs, SqL.of hf.1⟩, g _ H1 [(.list ds, .ref a)] r1 st1 (fun q hq => by rw [List.mem_singleton.mp hq]; exact p1) walks_list⟩
    | _ => exact g.elim
  | exc c t s1 => rw [q] at g; exact g
  | no => rw [q] at g; exact g.elim
theorem si_tup (h : SE cl X W m e ev) : SI cl X W m tg e (evItT ev) := pi_imp (pi_tup h) fun σ H R ⟨fm, Xs, os, s, r, g⟩ => by
  unfold evItT at g
  refine ⟨fm, Xs, os, s, r, ?_⟩
  cases q : ev s with
  | ok d s1 =>
    rw [q] at g
    simp only [Out.bind_ok] at g
    refine fun v H1 r1 st1 p1 => ?_
    cases d with
    | tuple ds =>
      obtain ⟨a, vs, ev, hf, ra⟩ := id p1
      subst ev
      exact ⟨a, rfl, ⟨vs, hf.sq⟩, g _ H1 [(.tuple ds, .ref a)] r1 st1 (fun q hq => by rw [List.mem_singleton.mp hq]; exact p1) walks_tup⟩
    | _ => exact g.elim
  | exc c t s1 => rw [q] at g; exact g
  | no => rw [q] at g; exact g.elim
theorem walks_str {K : Fr} {x : Str} : Walks K (Its x) [] (signs x) := by
  intro Xs i H _ _
  refine ⟨fun d e => ?_, fun hl => ?_⟩
  · unfold signs at e
    rw [List.getElem?_map] at e
    obtain ⟨c, ec, ed⟩ := Option.map_eq_some_iff.mp e
    subst ed
    have hc : x.cps[i]? = some c := by
      rw [← ec]; simp
    refine ⟨(Array.getElem?_eq_some_iff.mp hc).1, fun v H' hy => ?_⟩
    obtain ⟨eH, c', ec', ev⟩ := hy
    subst eH ev
    rw [hc] at ec'
    cases ec'
    exact ⟨Stay.refl _ _, rfl⟩
  · unfold signs at hl
    show x.cps.size ≤ i
    simpa using hl
theorem si_str (h : SE cl X W m e ev) : SI cl X W m tg e (evItS ev) := pi_imp (pi_str h) fun σ H R ⟨fm, Xs, os, s, r, g⟩ => by
  unfold evItS at g
  refine ⟨fm, Xs, os, s, r, ?_⟩
  cases q : ev s with
  | ok d s1 =>
    rw [q] at g
    simp only [Out.bind_ok] at g
    refine fun v H1 r1 st1 p1 => ?_
    cases d with
    | str x => exact ⟨x, p1, g _ H1 [] r1 st1 (fun q hq => absurd hq (by simp)) walks_str⟩
    | _ => exact g.elim
  | exc c t s1 => rw [q] at g; exact g
  | no => rw [q] at g; exact g.elim
def intsD (lo : Int) (n : Nat) : List D := (List.range n).map fun i => .int (lo + (i : Nat))
theorem walks_rng {K : Fr} {lo : Int} {n : Nat} : Walks K (Itr lo n) [] (intsD lo n) := by
  intro Xs i H _ _
  refine ⟨fun d e => ?_, fun hl => ?_⟩
  · unfold intsD at e
    rw [List.getElem?_map] at e
    obtain ⟨c, ec, ed⟩ := Option.map_eq_some_iff.mp e
    subst ed
    have hi : i < n := by simpa using (List.getElem?_eq_some_iff.mp ec).1
    have hc : c = i := by
      rw [List.getElem?_range hi] at ec
      exact (Option.some.inj ec).symm
    subst hc
    refine ⟨hi, fun v H' hy => ?_⟩
    obtain ⟨eH, ev⟩ := hy
    subst eH ev
    exact ⟨Stay.refl _ _, rfl⟩
  · unfold intsD at hl
    show n ≤ i
    simpa using hl
def evRng1 (a : Ev) : Evs := fun s => (a s).bind fun d s1 => match d with
  | .int j => if -(2 ^ 62) ≤ j ∧ j < 2 ^ 62 then .ok (intsD 0 j.toNat) s1 else .no
  | _ => .no
theorem si_rng1 (hg : Gl X "range") (hm : X.mg "range" = none) (h : SB cl X W m e ev) (hs : starEach [e] X.env = [(false, eval e X.env)] := by rfl) : SI cl X W m tg (.Call (.Name "range" p) [e] [] pos) (evRng1 ev) :=
  pi_imp (pi_range1 hg hm (pa_cons h pa_nil hs) hs) fun σ H R ⟨fm, Xs, os, s, r, g⟩ => by
    unfold evRng1 at g
    refine ⟨fm, Xs, os, s, r, ?_⟩
    cases q : ev s with
    | ok d s1 =>
      rw [q] at g
      simp only [Out.bind_ok] at g
      refine fun v H1 r1 st1 p1 => ?_
      cases d with
      | int j =>
        dsimp only at g
        split at g
        · rename_i hj
          exact ⟨j, by rw [p1.int], hj.1, hj.2, g _ H1 [] r1 st1 (fun q hq => absurd hq (by simp)) walks_rng⟩
        · exact g.elim
      | _ => exact g.elim
    | exc c t s1 => rw [q] at g; exact g
    | no => rw [q] at g; exact g.elim
def evRng2 (a b : Ev) : Evs := fun s => (a s).bind fun d s1 => (b s1).bind fun d2 s2 => match d, d2 with
  | .int i, .int j => if -(2 ^ 62) ≤ i ∧ i < 2 ^ 62 ∧ -(2 ^ 62) ≤ j ∧ j < 2 ^ 62 then .ok (intsD i (j - i).toNat) s2 else .no
  | _, _ => .no
theorem si_rng2 {b : Ev} (hg : Gl X "range") (hm : X.mg "range" = none) (h : SB cl X W m e ev) (h2 : SB cl X W true e2 b) (hs : starEach [e, e2] X.env = [(false, eval e X.env), (false, eval e2 X.env)] := by rfl) (hs2 : starEach [e2] X.env = [(false, eval e2 X.env)] := by rfl) :
    SI cl X W m tg (.Call (.Name "range" p) [e, e2] [] pos) (evRng2 ev b) :=
  pi_imp (pi_range2 hg hm (pa_cons h (pa_cons h2 pa_nil hs2) (by rw [hs, hs2])) hs hs2) fun σ H R ⟨fm, Xs, os, s, r, g⟩ => by
    unfold evRng2 at g
    refine ⟨fm, Xs, os, s, r, ?_⟩
    cases q : ev s with
    | ok d s1 =>
      rw [q] at g
      simp only [Out.bind_ok] at g
      refine fun v H1 r1 st1 p1 => ⟨fm, Xs, os, s1, r1, ?_⟩
      cases q2 : b s1 with
      | ok d2 s2 =>
        rw [q2] at g
        simp only [Out.bind_ok] at g
        refine fun v2 H2 r2 st2 p2 => ?_
        cases d with
        | int i =>
          cases d2 with
          | int j =>
            dsimp only at g
            split at g
            · rename_i hj
              exact ⟨i, j, by rw [p1.int, p2.int], hj, g _ H2 [] r2 (st1.trans (st2.more Mu.still)) (fun q hq => absurd hq (by simp)) walks_rng⟩
            · exact g.elim
          | _ => exact g.elim
        | _ => exact g.elim
      | exc c t s2 => rw [q2] at g; exact g
      | no => rw [q2] at g; exact g.elim
    | exc c t s1 => rw [q] at g; exact g
    | no => rw [q] at g; exact g.elim
/-- reversed(a list) -/
theorem walks_rev {K : Fr} {a : Addr} {ds : List D} : Walks K (Itv K a ds.length) [(.list ds, .ref a)] ds.reverse := by
  intro Xs i H ht hx
  have h := ht _ List.mem_cons_self
  obtain ⟨b, vs, eb, hf, ra⟩ := h
  cases eb
  refine ⟨fun d e => ?_, fun hl => show ds.length ≤ i by simpa using hl⟩
  have hi : i < ds.length := by simpa using (List.getElem?_eq_some_iff.mp e).1
  rw [List.getElem?_reverse hi] at e
  obtain ⟨v, ev, pv⟩ := ra.get e
  refine ⟨⟨hi, vs, v, SqL.of hf.1, ev⟩, fun x H' hy => ?_⟩
  obtain ⟨eH, hy⟩ := hy
  subst eH
  have q := hy vs (SqL.of hf.1)
  rw [ev] at q
  cases q
  exact ⟨Stay.refl _ _, pv⟩
def evRevL (a : Ev) : Evs := fun s => (a s).bind fun d s1 => match d with
  | .list ds => .ok ds.reverse s1
  | _ => .no
theorem si_rev (hg : Gl X "reversed") (hm : X.mg "reversed" = none) (h : SE cl X W m e ev) (hs : starEach [e] X.env = (false, eval e X.env) :: starEach [] X.env := by rfl) : SI cl X W m tg (.Call (.Name "reversed" p) [e] [] pos) (evRevL ev) :=
  pi_imp (RT.pi_revA hg hm h hs) fun σ H R ⟨fm, Xs, os, s, r, g⟩ => by
    unfold evRevL at g
    refine ⟨fm, Xs, os, s, r, ?_⟩
    cases q : ev s with
    | ok d s1 =>
      rw [q] at g
      simp only [Out.bind_ok] at g
      refine fun v H1 r1 st1 p1 => ?_
      cases d with
      | list ds =>
        obtain ⟨a, vs, ev, hf, ra⟩ := id p1
        subst ev
        refine ⟨a, vs, rfl, .inl ⟨SqL.of hf.1, ?_⟩⟩
        rw [ra.len]
        exact g _ H1 [(.list ds, .ref a)] r1 st1 (fun q hq => by rw [List.mem_singleton.mp hq]; exact p1) walks_rev
      | _ => exact g.elim
    | exc c t s1 => rw [q] at g; exact g
    | no => rw [q] at g; exact g.elim
/-- zip of two tuples, of two lists -/
def zipD (xs ys : List D) : List D := (xs.zip ys).map fun p => .tuple [p.1, p.2]
theorem zipD_get {xs ys : List D} {i : Nat} {d : D} (h : (zipD xs ys)[i]? = some d) : ∃ x y, xs[i]? = some x ∧ ys[i]? = some y ∧ d = .tuple [x, y] := by
  unfold zipD at h
  rw [List.getElem?_map] at h
  obtain ⟨p, ep, ed⟩ := Option.map_eq_some_iff.mp h
  obtain ⟨h1, h2⟩ := List.getElem?_zip_eq_some.mp ep
  exact ⟨_, _, h1, h2, ed.symm⟩
theorem zipD_len (xs ys : List D) : (zipD xs ys).length = min xs.length ys.length := by simp [zipD]
theorem rp_pair {K : Fr} {H : Hp} {Xs : List Addr} {T : Addr} {x y : D} {v w : V} (hT : H T = none) (nx : T ∉ Xs) (hx : Rp K H Xs x v) (hy : Rp K H Xs y w) : Rp K (upd H T (.tup [v, w])) Xs (.tuple [x, y]) (.ref T) :=
  rp_newT hT nx ⟨v, [w], rfl, hx, w, [], rfl, hy, rfl⟩
theorem free_nx {H : Hp} {Xs : List Addr} {T : Addr} (hx : ∀ a ∈ Xs, H a ≠ none) (h : H T = none) : T ∉ Xs := fun z => hx T z h
theorem walks_zipT {K : Fr} {a b : Addr} {ds es : List D} : Walks K (RZ.ItzT K a b) [(.tuple ds, .ref a), (.tuple es, .ref b)] (zipD ds es) := by
  intro Xs i H ht hx
  obtain ⟨a', vs, ea, hf, ra⟩ := ht _ List.mem_cons_self
  obtain ⟨b', ws, eb, hf2, rb⟩ := ht _ (List.mem_cons_of_mem _ List.mem_cons_self)
  cases ea
  cases eb
  refine ⟨fun d e => ?_, fun hl => ⟨vs, ws, hf.sq, hf2.sq, ?_⟩⟩
  · obtain ⟨x, y, e1, e2, ed⟩ := zipD_get e
    subst ed
    obtain ⟨v, ev, pv⟩ := ra.get e1
    obtain ⟨w, ew, pw⟩ := rb.get e2
    refine ⟨⟨vs, ws, v, w, hf.sq, hf2.sq, ev, ew⟩, fun z H' hy => ?_⟩
    obtain ⟨T, x', y', ez, hT, eH, h1, h2⟩ := hy
    have q1 := h1 vs hf.sq
    have q2 := h2 ws hf2.sq
    rw [ev] at q1
    rw [ew] at q2
    cases q1
    cases q2
    subst ez eH
    exact ⟨Stay.laid hT, rp_pair hT (free_nx hx hT) pv pw⟩
  · rw [zipD_len] at hl
    rw [ra.len, rb.len]
    omega
theorem walks_zipL {K : Fr} {a b : Addr} {ds es : List D} : Walks K (Itz K a b) [(.list ds, .ref a), (.list es, .ref b)] (zipD ds es) := by
  intro Xs i H ht hx
  obtain ⟨a', vs, ea, hf, ra⟩ := ht _ List.mem_cons_self
  obtain ⟨b', ws, eb, hf2, rb⟩ := ht _ (List.mem_cons_of_mem _ List.mem_cons_self)
  cases ea
  cases eb
  refine ⟨fun d e => ?_, fun hl => ⟨vs, ws, SqL.of hf.1, SqL.of hf2.1, ?_⟩⟩
  · obtain ⟨x, y, e1, e2, ed⟩ := zipD_get e
    subst ed
    obtain ⟨v, ev, pv⟩ := ra.get e1
    obtain ⟨w, ew, pw⟩ := rb.get e2
    refine ⟨⟨vs, ws, v, w, SqL.of hf.1, SqL.of hf2.1, ev, ew⟩, fun z H' hy => ?_⟩
    obtain ⟨T, x', y', ez, hT, eH, h1, h2⟩ := hy
    have q1 := h1 vs (SqL.of hf.1)
    have q2 := h2 ws (SqL.of hf2.1)
    rw [ev] at q1
    rw [ew] at q2
    cases q1
    cases q2
    subst ez eH
    exact ⟨Stay.laid hT, rp_pair hT (free_nx hx hT) pv pw⟩
  · rw [zipD_len] at hl
    rw [ra.len, rb.len]
    omega
def evZip (a b : Ev) : Evs := fun s => (a s).bind fun d s1 => (b s1).bind fun d2 s2 => match d, d2 with
  | .tuple xs, .tuple ys => .ok (zipD xs ys) s2
  | .list xs, .list ys => .ok (zipD xs ys) s2
  | _, _ => .no
theorem si_zip {b : Ev} {elts : List Expr} {kk : Nat} {tpos : Pos} (hg : Gl X "zip") (hm : X.mg "zip" = none) (h : SE cl X W m e ev) (h2 : SE cl X W m e2 b) (hs : starEach [e, e2] X.env = (false, eval e X.env) :: starEach [e2] X.env := by rfl)
    (hs2 : starEach [e2] X.env = (false, eval e2 X.env) :: starEach [] X.env := by rfl) (hpl : (backTo pos (starEach [e2] X.env)).any (·.1) = false := by rfl) : SI cl X W m (.Tuple elts kk tpos) (.Call (.Name "zip" p) [e, e2] [] pos) (evZip ev b) :=
  pi_imp (RZ.pi_zipA hg hm (pa_cons h (pa_cons h2 pa_nil hs2) hs) hs hpl) fun σ H R ⟨fm, Xs, os, s, r, g⟩ => by
    unfold evZip at g
    refine ⟨fm, Xs, os, s, r, ?_⟩
    cases q : ev s with
    | ok d s1 =>
      rw [q] at g
      simp only [Out.bind_ok] at g
      refine fun v H1 r1 st1 p1 => ⟨fm, Xs, os, s1, r1, ?_⟩
      cases q2 : b s1 with
      | ok d2 s2 =>
        rw [q2] at g
        simp only [Out.bind_ok] at g
        refine fun v2 H2 r2 st2 p2 => ?_
        have p1' := Rp.stay st2 r1.sx d v p1
        cases d with
        | tuple xs =>
          cases d2 with
          | tuple ys =>
            obtain ⟨a, vs, ea, hf, ra⟩ := id p1'
            obtain ⟨b, ws, eb, hf2, rb⟩ := id p2
            subst ea eb
            exact ⟨a, b, vs, ws, rfl, .inr ⟨hf.sq, hf2.sq, g _ H2 [(.tuple xs, .ref a), (.tuple ys, .ref b)] r2 (st1.trans st2) (fun q hq => by
              rcases List.mem_cons.mp hq with e | hq
              · rw [e]; exact p1'
              · rw [List.mem_singleton.mp hq]; exact p2) walks_zipT⟩⟩
          | _ => exact g.elim
        | list xs =>
          cases d2 with
          | list ys =>
            obtain ⟨a, vs, ea, hf, ra⟩ := id p1'
            obtain ⟨b, ws, eb, hf2, rb⟩ := id p2
            subst ea eb
            exact ⟨a, b, vs, ws, rfl, .inl ⟨SqL.of hf.1, SqL.of hf2.1, g _ H2 [(.list xs, .ref a), (.list ys, .ref b)] r2 (st1.trans st2) (fun q hq => by
              rcases List.mem_cons.mp hq with e | hq
              · rw [e]; exact p1'
              · rw [List.mem_singleton.mp hq]; exact p2) walks_zipL⟩⟩
          | _ => exact g.elim
        | _ => exact g.elim
      | exc c t s2 => rw [q2] at g; exact g
      | no => rw [q2] at g; exact g.elim
    | exc c t s1 => rw [q] at g; exact g
    | no => rw [q] at g; exact g.elim
/-! ### targets -/
/-- a target stores a value: what it makes of the state -/
def TgSem (K : Fr) (g : TG) (vs : List Nat) (f : D → Ms → Option Ms) : Prop :=
  ∀ (fm : Fm) (Xs : List Addr) (os : List (Nat × Addr)) (s s' : Ms) (σ : L2.St) (H : Hp) (d : D) (x : V) (Q : L2.St → Hp → Prop), Rel K fm Xs os s σ H → Rp K H Xs d x → f d s = some s' →
    (∀ σ', Rel K fm Xs os s' σ' H → wipe σ' vs = wipe σ vs → Q σ' H) → g x σ H Q
def tgN (i : Nat) : D → Ms → Option Ms := fun d s => some { s with env := s.env.set i (.fz d) }
def tgT (is : List Nat) : D → Ms → Option Ms := fun d s => match d with
  | .tuple ds => if ds.length = is.length then some { s with env := setMany is ds s.env } else none
  | _ => none
/-- as setfz, the frame's own lists as they were told -/
theorem Rel.setfz0 {K : Fr} {fm : Fm} {Xs : List Addr} {os : List (Nat × Addr)} {s : Ms} {σ : L2.St} {H : Hp} (r : Rel K fm Xs os s σ H) {i : Nat} {d : D} {v : V} (p : Rp K H Xs d v) : Rel K fm Xs os { s with env := s.env.set i (.fz d) } (σ.set i (some v)) H :=
  { len := by simp [r.len]
    slot := fun j sv e => by
      by_cases hij : i = j
      · subst hij
        by_cases hl : i < s.env.length
        · simp [hl] at e
          subst e
          exact ⟨v, getD_set_self (by rw [← r.len]; exact hl), p⟩
        · exact absurd (by simpa using (List.getElem?_eq_some_iff.mp e).1) hl
      · have e' : s.env[j]? = some sv := by simpa [hij] using e
        have q := r.slot j sv e'
        rw [getD_set_ne hij]
        exact q
    nd := r.nd, sub := r.sub, lv := r.lv, x0 := r.x0, x1 := r.x1, xt := r.xt, dks := r.dks, dk := r.dk, ent := r.ent, one := r.one, tm := r.tm }
theorem wipe_get {σ : L2.St} {i : Nat} : ∀ {vs : List Nat}, (wipe σ vs)[i]? = if i ∈ vs ∧ i < σ.length then some none else σ[i]?
  | [] => by simp [wipe]
  | v :: vs => by
    unfold wipe
    by_cases h : v = i
    · subst h
      by_cases hl : v < σ.length
      · rw [List.getElem?_set_self (by rw [wipe_length]; exact hl), if_pos ⟨List.mem_cons_self, hl⟩]
      · rw [List.getElem?_eq_none (by rw [List.length_set, wipe_length]; omega), if_neg (fun q => hl q.2), List.getElem?_eq_none (by omega)]
    · rw [List.getElem?_set_ne h, wipe_get]
      by_cases hm : i ∈ vs
      · simp [hm]
      · have : i ∉ v :: vs := fun z => (List.mem_cons.mp z).elim (fun e => h e.symm) hm
        simp [hm, this]
theorem wipe_set {σ : L2.St} {vs : List Nat} {i : Nat} {o : Option V} (h : i ∈ vs) : wipe (σ.set i o) vs = wipe σ vs := by
  apply List.ext_getElem?
  intro j
  rw [wipe_get, wipe_get, List.length_set]
  by_cases hj : j ∈ vs ∧ j < σ.length
  · rw [if_pos hj, if_pos hj]
  · rw [if_neg hj, if_neg hj]
    by_cases e : i = j
    · subst e
      have : ¬ i < σ.length := fun z => hj ⟨h, z⟩
      rw [List.getElem?_eq_none (by rw [List.length_set]; omega), List.getElem?_eq_none (by omega)]
    · rw [List.getElem?_set_ne e]
theorem tgN_sem {K : Fr} {i : Nat} {vs : List Nat} (h : i ∈ vs) : TgSem K (gName i) vs (tgN i) := by
  intro fm Xs os s s' σ H d x Q r p e q
  cases e
  exact q _ (r.setfz0 p) (wipe_set h)
theorem gNames_sem {K : Fr} {fm : Fm} {Xs : List Addr} {os : List (Nat × Addr)} {H : Hp} {Q : L2.St → Hp → Prop} {vs : List Nat} {σ0 : L2.St} : ∀ (is : List Nat) (ds : List D) (ws : List V) (s : Ms) (σ : L2.St), (∀ i ∈ is, i ∈ vs) → Rel K fm Xs os s σ H → RpA K H Xs ds ws → ds.length = is.length → wipe σ vs = wipe σ0 vs →
    (∀ σ', Rel K fm Xs os { s with env := setMany is ds s.env } σ' H → wipe σ' vs = wipe σ0 vs → Q σ' H) → gNames is ws σ H Q
  | [], [], _, s, σ, _, r, ra, _, hw, q => by
    cases ra
    exact ⟨rfl, q σ r hw⟩
  | i :: is, d :: ds, _, s, σ, hm, r, ra, hl, hw, q => by
    obtain ⟨v, w, e, p, t⟩ := ra
    subst e
    refine ⟨v, w, rfl, ?_⟩
    exact gNames_sem is ds w { s with env := s.env.set i (.fz d) } _ (fun j hj => hm j (List.mem_cons_of_mem _ hj)) (r.setfz0 p) t (by simpa using hl) (by rw [wipe_set (hm i List.mem_cons_self)]; exact hw) q
  | [], _ :: _, _, _, _, _, _, _, hl, _, _ => by simp at hl
  | _ :: _, [], _, _, _, _, _, _, hl, _, _ => by simp at hl
theorem tgT_sem {K : Fr} {n : Nat} {is vs : List Nat} (hn : n = is.length) (h : ∀ i ∈ is, i ∈ vs) : TgSem K (gTup K n (gNames is)) vs (tgT is) := by
  intro fm Xs os s s' σ H d x Q r p e q
  unfold tgT at e
  cases d with
  | tuple ds =>
    dsimp only at e
    split at e
    · rename_i hl
      cases e
      obtain ⟨a, ws, ea, hf, ra⟩ := p
      exact ⟨a, ws, ea, hf.sq, by rw [ra.len, hl, hn], gNames_sem is ds ws s σ h r ra hl rfl fun σ' r' hw => q σ' r' hw⟩
    · cases e
  | _ => cases e
end
end Zo
/-! ZH: while, for, list comprehensions. -/
namespace Zo
open PySem PySem.Spec PyProof.Rows L2
section
variable {K : Fr} {fm : Fm} {X : List Addr} {os : List (Nat × Addr)} {s : Ms} {σ : L2.St} {H H' : Hp}
/-- a list that is being made is changed -/
theorem Rel.putX (r : Rel K fm X os s σ H) {p : Addr} {ws ws' : List V} (hx : p ∈ X) (no : p ∉ os.map (·.2)) (nd : p ∉ dkl fm.dka) (n0 : fm.H0 p = none) (hp : H p = some (.lst ws)) : Rel K fm X os s σ (upd H p (.lst ws')) := by
  have st : Stay [p] H (upd H p (.lst ws')) := Stay.put List.mem_cons_self
  have sx : ∀ x ∈ [p], x ∈ X := fun x h => by rw [List.mem_singleton.mp h]; exact hx
  exact {
    len := r.len
    slot := fun i sv e => by
      have q := r.slot i sv e
      cases sv with
      | un => exact q
      | fz d =>
        obtain ⟨v, e1, z⟩ := q
        exact ⟨v, e1, Rp.stay st sx d v z⟩
      | own ds =>
        obtain ⟨a, vs, e1, e2, e3, z⟩ := q
        have na : a ≠ p := fun e => no (List.mem_map.mpr ⟨_, e2, e⟩)
        exact ⟨a, vs, e1, e2, by rw [upd_ne na]; exact e3, RpA.stay st sx ds vs z⟩
      | deck => exact q
    nd := r.nd
    sub := r.sub
    lv := fun q hq => by
      obtain ⟨vs, e⟩ := r.lv q hq
      have na : q.2 ≠ p := fun e => no (List.mem_map.mpr ⟨_, hq, e⟩)
      exact ⟨vs, by rw [upd_ne na]; exact e⟩
    x0 := r.x0
    x1 := r.x1
    xt := fun b hb => by
      by_cases hbp : b = p
      · rw [hbp, upd_same]; simp
      · rw [upd_ne hbp]; exact r.xt b hb
    dks := r.dks
    dk := fun kd kc e => by
      obtain ⟨h1, h2, h3, h4⟩ := r.dk kd kc e
      have m1 : kd ≠ p := fun z => nd (by rw [e]; simp [dkl, z])
      have m2 : kc ≠ p := fun z => nd (by rw [e]; simp [dkl, z])
      exact ⟨h1, by rw [upd_ne m1]; exact h2, by rw [upd_ne m2]; exact h3, h4⟩
    ent := fun b o e n => by
      have hb : b ≠ p := fun z => by rw [z, n0] at e; cases e
      rw [upd_ne hb]
      exact r.ent b o e n
    one := fun e => by
      obtain ⟨o, u, q⟩ := r.one e
      have hb : sysModules ≠ p := fun z => by rw [← z, q] at hp; cases hp
      exact ⟨o, u, by rw [upd_ne hb]; exact q⟩
    tm := fun q hq => Rp.stay st sx q.1 q.2 (r.tm q hq) }
/-! ### slots are forgotten -/
def forgetE : List Nat → List Sv → List Sv
  | [], e => e
  | i :: is, e => forgetE is (e.set i .un)
def forgetS (vs : List Nat) (s : Ms) : Ms := { s with env := forgetE vs s.env }
theorem forgetE_len : ∀ (vs : List Nat) (e : List Sv), (forgetE vs e).length = e.length
  | [], _ => rfl
  | i :: is, e => by unfold forgetE; rw [forgetE_len is, List.length_set]
theorem forgetE_get : ∀ (vs : List Nat) (e : List Sv) (i : Nat), i ∈ vs → i < e.length → (forgetE vs e)[i]? = some .un := by
  have keep : ∀ (vs : List Nat) (e : List Sv) (i : Nat), e[i]? = some .un → (forgetE vs e)[i]? = some .un := by
    intro vs
    induction vs with
    | nil => intro e i h; exact h
    | cons j js ih =>
      intro e i h
      refine ih _ i ?_
      by_cases hij : j = i
      · subst hij
        rw [List.getElem?_set_self (List.getElem?_eq_some_iff.mp h).1]
      · rw [List.getElem?_set_ne hij]; exact h
  intro vs
  induction vs with
  | nil => intro e i h; simp at h
  | cons j js ih =>
    intro e i h hl
    unfold forgetE
    rcases List.mem_cons.mp h with rfl | h
    · exact keep js _ i (List.getElem?_set_self hl)
    · exact ih _ i h (by rw [List.length_set]; exact hl)
theorem Rel.forgets (r : Rel K fm X os s σ H) : ∀ (vs : List Nat), Rel K fm X os (forgetS vs s) σ H := by
  intro vs
  induction vs generalizing s with
  | nil => exact r
  | cons i is ih => exact ih (r.forget i)
theorem Rel.wiped {σ' : L2.St} {vs : List Nat} (r : Rel K fm X os (forgetS vs s) σ H) (h : wipe σ' vs = wipe σ vs) : Rel K fm X os (forgetS vs s) σ' H := by
  have hl : σ'.length = σ.length := by
    have := congrArg List.length h
    rwa [wipe_length, wipe_length] at this
  refine r.resig hl fun i => ?_
  by_cases hi : i ∈ vs
  · by_cases hl2 : i < s.env.length
    · exact .inl (forgetE_get vs s.env i hi hl2)
    · refine .inr ?_
      have e := r.len
      have e2 : (forgetS vs s).env.length = s.env.length := forgetE_len _ _
      rw [e2] at e
      rw [List.getElem?_eq_none (by omega), List.getElem?_eq_none (by omega)]
  · refine .inr ?_
    have q := congrArg (fun l : L2.St => l[i]?) h
    simp only [wipe_get, hi, false_and, if_false] at q
    exact q
theorem wipe_wipe {σ : L2.St} {vs : List Nat} : wipe (wipe σ vs) vs = wipe σ vs := by
  apply List.ext_getElem?
  intro j
  rw [wipe_get, wipe_get, wipe_length]
  by_cases h : j ∈ vs ∧ j < σ.length
  · rw [if_pos h, if_pos h]
  · rw [if_neg h, if_neg h]
end
section
variable {cl : Nat → Addr} {X : Cx} {W : WX} {m : Bool} {e e2 tg iter : Expr} {ev : Ev} {evs : Evs} {pos p : Pos} {body : List Stmt}
/-! ### while -/
def stepS (o : Out Fl) (k : Ex) : Out Fl := match o with
  | .ok .nx s => k s
  | .ok .ct s => k s
  | .ok .bk s => .ok .nx s
  | .ok (.rt d) s => .ok (.rt d) s
  | .exc c t s => .exc c t s
  | .no => .no
def whileS : Nat → (Ms → Out Bool) → Ex → Ex
  | 0, _, _ => fun _ => .no
  | n + 1, c, b => fun s => (c s).bind fun k s1 => if k = true then stepS (b s1) (whileS n c b) else .ok .nx s1
theorem GoodS.step {K : Fr} {fm fm' : Fm} {Dn : Ends} {o : Out Fl} {k : Ex} {N : L2.St → Hp → Prop} (h : GoodS K cl W fm Dn (stepS o k)) (hd : ∀ {Xs os s σ H}, Rel K fm' Xs os s σ H → Rel K fm Xs os s σ H)
    (hN : ∀ Xs os s σ H, Rel K fm' Xs os s σ H → GoodS K cl W fm Dn (k s) → N σ H) : GoodS K cl W fm' { Dn with nx := N, ct := N, bk := Dn.nx } o := by
  cases o with
  | ok fl s1 =>
    cases fl with
    | nx => exact fun Xs os σ H r => hN Xs os s1 σ H r h
    | ct => exact fun Xs os σ H r => hN Xs os s1 σ H r h
    | bk => exact fun Xs os σ H r => h Xs os σ H (hd r)
    | rt d => exact fun Xs os σ H r => h Xs os σ H (hd r)
  | exc c t s1 => exact fun Xs os σ v dd H' r p q => h Xs os σ v dd H' (hd r) p q
  | no => exact h.elim
theorem ss_while {c : Ms → Out Bool} {b : Ex} (n : Nat) (hp : PassesOwn (model X.prog X.w) X.A X.env X.xe) (hc : STt cl X W m e c) (hb : SSs cl X W body b) : SS cl X W (.While e body [] pos) (whileS n c b) :=
  ps_imp (ps_while hp hc hb) fun Dn σ H ⟨fm, Xs, os, s, r, g⟩ => by
    refine ⟨fun k σ H => ∃ Xs os s, Rel X.K fm Xs os s σ H ∧ GoodS X.K cl W fm Dn (whileS k c b s), ⟨n, Xs, os, s, r, g⟩, ?_⟩
    rintro k σ H ⟨Xs, os, s, r, g⟩
    cases k with
    | zero => exact g.elim
    | succ k =>
      unfold whileS at g
      refine ⟨fm, Xs, os, s, r, ?_⟩
      cases q : c s with
      | ok v s1 =>
        rw [q] at g
        simp only [Out.bind_ok] at g
        intro H1 r1 st1
        cases v with
        | true =>
          rw [if_pos rfl] at g ⊢
          refine ⟨fun σ H => ∃ Xs os s, Rel X.K fm Xs os s σ H ∧ GoodS X.K cl W fm Dn (whileS k c b s), fun σ' H' z => ⟨k, Nat.lt_succ_self _, z⟩, fm, Xs, os, s1, r1, ?_⟩
          exact GoodS.step g (fun r => r) fun Xs os s σ H r g => ⟨Xs, os, s, r, g⟩
        | false =>
          rw [if_neg Bool.false_ne_true] at g ⊢
          exact g Xs os σ H1 r1
      | exc cc t s1 => rw [q] at g; exact g Xs os σ
      | no => rw [q] at g; exact g.elim
/-! ### for -/
def forGo (tgt : D → Ms → Option Ms) (b : Ex) : List D → Ex
  | [] => fun s => .ok .nx s
  | d :: ds => fun s => match tgt d s with
    | some s1 => stepS (b s1) (forGo tgt b ds)
    | none => .no
def forS (src : Evs) (tgt : D → Ms → Option Ms) (b : Ex) : Ex := fun s => (src s).bind fun ds s1 => forGo tgt b ds s1
theorem ss_for {g : TG} {vs : List Nat} {src : Evs} {tgt : D → Ms → Option Ms} {b : Ex} (hp : PassesOwn (model X.prog X.w) X.A X.env X.xe) (hc : X.calm = true) (hi : SI cl X W m tg iter src) (hg : PG X tg g) (ht : TgSem X.K g vs tgt) (hb : SSs cl X W body b)
    (hs : ∀ x, foldedSetIterable iter X.env x = pure x := by intro _; rfl) : SS cl X W (.For tg iter body [] pos) (forS src tgt b) :=
  ps_imp (ps_for hp hc hi hg hb hs) fun Dn σ H ⟨fm, Xs, os, s, r, g⟩ => by
    unfold forS at g
    refine ⟨fm, Xs, os, s, r, ?_⟩
    cases q : src s with
    | ok ds s1 =>
      rw [q] at g
      simp only [Out.bind_ok] at g
      intro J H1 tmp r1 st1 htm hw
      refine ⟨fun i k σ H => i ≤ ds.length ∧ k = ds.length - i ∧ ∃ Xs os s, Rel X.K { fm with tmp := tmp ++ fm.tmp } Xs os s σ H ∧ GoodS X.K cl W fm Dn (forGo tgt b (ds.drop i) s), ⟨_, Nat.zero_le _, rfl, Xs, os, s1, r1.holds tmp htm, g⟩, ?_⟩
      rintro i k σ H ⟨hle, hk, Xs, os, s, r, g⟩
      obtain ⟨hgo, hstop⟩ := hw Xs i H (fun p hp => r.tm p (List.mem_append_left _ hp)) r.xt
      by_cases hlt : i < ds.length
      · rw [List.drop_eq_getElem_cons hlt] at g
        obtain ⟨go, yl⟩ := hgo _ (List.getElem?_eq_getElem hlt)
        refine .inr ⟨go, fun σ H => ∃ Xs os s, Rel X.K { fm with tmp := tmp ++ fm.tmp } Xs os s σ H ∧ GoodS X.K cl W fm Dn (forGo tgt b (ds.drop (i + 1)) s), fun σ' H' z => ⟨ds.length - (i + 1), by omega, hlt, rfl, z⟩, fun x H' hy => ?_⟩
        obtain ⟨st, px⟩ := yl x H' hy
        unfold forGo at g
        cases q2 : tgt ds[i] s with
        | none => rw [q2] at g; exact g.elim
        | some s2 =>
          rw [q2] at g
          refine ht _ Xs os s s2 σ H' _ x _ (r.stay st) px q2 fun σ' r' _ => ⟨_, Xs, os, s2, r', ?_⟩
          exact GoodS.step g (fun r => r.drops) fun Xs os s σ H r g => ⟨Xs, os, s, r, g⟩
      · have e : i = ds.length := by omega
        subst e
        rw [List.drop_length] at g
        exact .inl ⟨hstop (Nat.le_refl _), g Xs os σ H r.drops⟩
    | exc c t s1 => rw [q] at g; exact g Xs os σ
    | no => rw [q] at g; exact g.elim
/-! ### list comprehensions -/
def evYes : Ms → Out Bool := fun s => .ok true s
theorem pts_yes : PTs X [] (tT X.K cl W m evYes) := ⟨fun pins s σ H Q I ⟨fm, Xs, os, ms, r, g⟩ => pts_nil.run pins s σ H Q I (g H r (Stay.refl _ _))⟩
def compGo (vs : List Nat) (tgt : D → Ms → Option Ms) (cond : Ms → Out Bool) (elt : Ev) : List D → List D → Evs
  | [], acc => fun s => .ok acc s
  | d :: ds, acc => fun s => match tgt d s with
    | none => .no
    | some s1 => match cond s1 with
      | .ok k s2 => if k = true then (match elt s2 with
          | .ok x s3 => if acc.length < 1000000 then compGo vs tgt cond elt ds (acc ++ [x]) (forgetS vs s3) else .no
          | _ => .no)
        else compGo vs tgt cond elt ds acc (forgetS vs s2)
      | _ => .no
def evComp (vs : List Nat) (src : Evs) (tgt : D → Ms → Option Ms) (cond : Ms → Out Bool) (elt : Ev) : Evs := fun s => (src s).bind fun ds s1 => compGo vs tgt cond elt ds [] (forgetS vs s1)
abbrev W0 : WX := fun _ _ _ _ => False
theorem sf_comp {g : TG} {vs : List Nat} {src : Evs} {tgt : D → Ms → Option Ms} {cond : Ms → Out Bool} {elt : Ev} (ht : TgSem X.K g vs tgt) (hP : PE X e (tLc (tI X.K cl W m src) g (tT X.K cl W0 m cond) (tE X.K cl W0 m elt) vs)) : SF cl X W m e (evComp vs src tgt cond elt) :=
  pe_imp hP fun σ H Q ⟨fm, Xs, os, s, R, gg⟩ => by
    unfold evComp at gg
    refine ⟨fm, Xs, os, s, R, ?_⟩
    cases q : src s with
    | ok ds s1 =>
      rw [q] at gg
      simp only [Out.bind_ok] at gg
      intro J H1 tmp r1 st1 htm hw Dl hD
      have fr := r1.frsh hD
      have nMu : Dl ∉ Mu fm.dka os m := fun z => fr.nx (Mu.sub r1 m Dl z)
      have hDH : H Dl = none := by
        cases e : H Dl with
        | none => rfl
        | some o => rw [st1 Dl o e nMu] at hD; cases hD
      have r2 : Rel X.K { fm with tmp := tmp ++ fm.tmp } (Dl :: Xs) os (forgetS vs s1) (wipe σ vs) (upd H1 Dl (.lst [])) := by
        have a := ((r1.holds tmp htm).laidL (vs := []) hD).forgets vs
        exact a.wiped wipe_wipe
      refine ⟨fun i k H2 => i ≤ ds.length ∧ k = ds.length - i ∧ ∃ s2 acc ws, Rel X.K { fm with tmp := tmp ++ fm.tmp } (Dl :: Xs) os (forgetS vs s2) (wipe σ vs) H2 ∧ Stay (Mu fm.dka os m) H H2 ∧ H2 Dl = some (.lst ws) ∧ RpA X.K H2 (Dl :: Xs) acc ws ∧
        GoodF X.K cl W m fm Xs os σ H Q (compGo vs tgt cond elt (ds.drop i) acc (forgetS vs s2)), ⟨_, Nat.zero_le _, rfl, s1, [], [], r2, st1.trans (Stay.laid hD), upd_same, rfl, gg⟩, ?_⟩
      rintro i k H2 ⟨hle, hk, s2, acc, ws, r, st, hDl, ra, g⟩
      obtain ⟨hgo, hstop⟩ := hw (Dl :: Xs) i H2 (fun p hp => r.tm p (List.mem_append_left _ hp)) r.xt
      by_cases hlt : i < ds.length
      · rw [List.drop_eq_getElem_cons hlt] at g
        obtain ⟨go, yl⟩ := hgo _ (List.getElem?_eq_getElem hlt)
        refine .inr ⟨go, fun H2 => ∃ s2 acc ws, Rel X.K { fm with tmp := tmp ++ fm.tmp } (Dl :: Xs) os (forgetS vs s2) (wipe σ vs) H2 ∧ Stay (Mu fm.dka os m) H H2 ∧ H2 Dl = some (.lst ws) ∧ RpA X.K H2 (Dl :: Xs) acc ws ∧
          GoodF X.K cl W m fm Xs os σ H Q (compGo vs tgt cond elt (ds.drop (i + 1)) acc (forgetS vs s2)), fun H' z => ⟨ds.length - (i + 1), by omega, hlt, rfl, z⟩, fun x H3 hy => ?_⟩
        obtain ⟨st3, px⟩ := yl x H3 hy
        have r3 := r.stay st3
        have hD3 := st3 _ _ hDl (by simp)
        have ra3 : RpA X.K H3 (Dl :: Xs) acc ws := RpA.stay st3 (fun a h => absurd h (by simp)) acc ws ra
        have sA := st.trans st3.any
        unfold compGo at g
        cases q2 : tgt ds[i] (forgetS vs s2) with
        | none => rw [q2] at g; exact g.elim
        | some s4 =>
          rw [q2] at g
          dsimp only at g
          refine ht _ (Dl :: Xs) os _ s4 _ H3 _ x _ r3 px q2 fun σ4 r4 hw4 => ?_
          have hw4' : wipe σ4 vs = wipe σ vs := by rw [hw4, wipe_wipe]
          refine ⟨hw4', _, Dl :: Xs, os, s4, r4, ?_⟩
          cases q3 : cond s4 with
          | ok b s5 =>
            rw [q3] at g
            dsimp only at g
            intro H5 r5 st5
            have hD5 := st5 _ _ hD3 nMu
            have ra5 : RpA X.K H5 (Dl :: Xs) acc ws := RpA.stay st5 (Mu.sub r4 m) acc ws ra3
            cases b with
            | true =>
              rw [if_pos rfl] at g ⊢
              refine ⟨_, Dl :: Xs, os, s5, r5, ?_⟩
              cases q4 : elt s5 with
              | ok y s6 =>
                rw [q4] at g
                dsimp only at g
                intro v H6 r6 st6 p6
                split at g
                · rename_i hl
                  have hD6 := st6 _ _ hD5 nMu
                  have ra6 : RpA X.K H6 (Dl :: Xs) acc ws := RpA.stay st6 (Mu.sub r5 m) acc ws ra5
                  refine ⟨ws, hD6, by rw [ra6.len]; exact line1M hl, s6, acc ++ [y], ws ++ [v], ?_, ?_, upd_same, ?_, g⟩
                  · have a := r6.putX (ws' := ws ++ [v]) List.mem_cons_self fr.no fr.nd fr.n0 hD6
                    refine (a.forgets vs).wiped ?_
                    rw [wipe_wipe, hw4']
                  · have sB := (sA.trans st5).trans st6
                    intro a o h n
                    have na : a ≠ Dl := fun e => by rw [e, hDH] at h; cases h
                    rw [upd_ne na]
                    exact sB a o h n
                  · exact RpA.stay (M := [Dl]) (Stay.put List.mem_cons_self) (fun a h => by rw [List.mem_singleton.mp h]; exact List.mem_cons_self) _ _ (ra6.app (RpA.one p6))
                · exact g.elim
              | exc c t s6 => rw [q4] at g; exact g.elim
              | no => rw [q4] at g; exact g.elim
            | false =>
              rw [if_neg Bool.false_ne_true] at g ⊢
              refine ⟨s5, acc, ws, ?_, sA.trans st5, hD5, ra5, g⟩
              refine (r5.forgets vs).wiped ?_
              rw [wipe_wipe, hw4']
          | exc c t s5 => rw [q3] at g; exact g.elim
          | no => rw [q3] at g; exact g.elim
      · have e : i = ds.length := by omega
        subst e
        rw [List.drop_length] at g
        refine .inl ⟨hstop (Nat.le_refl _), ?_⟩
        exact g Dl ws H2 (r.drops.wiped wipe_wipe.symm) st fr hDl ra
    | exc c t s1 => rw [q] at gg; exact gg
    | no => rw [q] at gg; exact gg.elim
end
end Zo
/-! ZI: a def keeps its promise, from what its body is run to. -/
namespace Zo
open PySem PySem.Spec PyProof.Rows L2
def dk0 : Dk := ⟨[], 0, 0⟩
def envOf0 (n : Nat) (ds : List D) : List Sv := ds.map .fz ++ List.replicate (n - ds.length) .un
def roOf (o : Out Fl) : Ro := match o with
  | .ok (.rt d) _ => .ok d
  | .ok .nx _ => .ok .none
  | .ok _ _ => .no
  | .exc c t _ => .exc c t
  | .no => .no
/-- what a def without the deck answers: n slots -/
def runFn (n : Nat) (run : Ex) (ds : List D) : Ro := roOf (run ⟨envOf0 n ds, dk0, false⟩)
def rdOf (o : Out Fl) : Rd := match o with
  | .ok (.rt d) s => .ok d s.dk
  | .ok .nx s => .ok .none s.dk
  | _ => .no
/-- .. with the deck, its first argument -/
def runFnD (n : Nat) (run : Ex) (ds : List D) (k : Dk) : Rd := rdOf (run ⟨.deck :: envOf0 (n - 1) ds, k, false⟩)
section
variable {P : Program} {w : World} {K : Fr} {mg : Str → Option Value} {base : Heap} {cl : Nat → Addr}
theorem start_get {N : List Str} {vs : List V} {i : Nat} {v : V} (h : vs[i]? = some v) : (L2.start N vs)[i]?.join = some v := by
  have hl := (List.getElem?_eq_some_iff.mp h).1
  unfold L2.start
  rw [List.getElem?_append_left (by rw [List.length_map]; exact hl), List.getElem?_map, h]
  rfl
theorem env0_get {n : Nat} {ds : List D} {i : Nat} {sv : Sv} (h : (envOf0 n ds)[i]? = some sv) : (∃ d, ds[i]? = some d ∧ sv = .fz d) ∨ sv = .un := by
  unfold envOf0 at h
  by_cases hl : i < ds.length
  · rw [List.getElem?_append_left (by rw [List.length_map]; exact hl), List.getElem?_map] at h
    obtain ⟨d, e1, e2⟩ := Option.map_eq_some_iff.mp h
    exact .inl ⟨d, e1, e2.symm⟩
  · rw [List.getElem?_append_right (by rw [List.length_map]; omega), List.getElem?_replicate] at h
    split at h
    · cases h; exact .inr rfl
    · cases h
theorem start_len {N : List Str} {vs : List V} (h : vs.length ≤ N.length) : (L2.start N vs).length = N.length := by
  unfold L2.start
  rw [List.length_append, List.length_map, List.length_replicate]
  omega
theorem rel_start {N : List Str} {Xs : List Addr} {ds : List D} {vs : List V} {H : Hp} (ra : RpA K H Xs ds vs) (hn : ds.length ≤ N.length) (xt : ∀ a ∈ Xs, H a ≠ none) : Rel K ⟨H, Xs, none, []⟩ Xs [] ⟨envOf0 N.length ds, dk0, false⟩ (L2.start N vs) H where
  len := by
    rw [start_len (by rw [ra.len]; exact hn)]
    unfold envOf0
    simp
    omega
  slot := fun i sv e => by
    rcases env0_get e with ⟨d, e1, e2⟩ | e2
    · subst e2
      obtain ⟨v, ev, pv⟩ := ra.get e1
      exact ⟨v, start_get ev, pv⟩
    · subst e2; trivial
  nd := by simp
  sub := fun p hp => absurd hp (by simp)
  lv := fun p hp => absurd hp (by simp)
  x0 := fun a h => h
  x1 := xt
  xt := xt
  dks := fun a h => absurd h (by simp [dkl])
  dk := fun kd kc e => by cases e
  ent := Stay.refl _ _
  one := fun e => by cases e
  tm := fun p hp => absurd hp (by simp)
theorem fn_pure {x qual : Str} {st : Stmt} {f : Addr} {fd : FuncData} {N ps : List Str} {k n : Nat} {run : Ex} (F : Fun K x qual st f fd) (S : FnScope N ps (defScope st)) (hn : ps.length = n) (hN : ps.length ≤ N.length)
    (hb : ∀ (cdv : Value) (A : Around) (outer : List Env) (s : Shared) (H : Hp) (E : XK), Room k (A.deeper (envOfC qual (defScope st) s.heap.objs.size f cdv)) → SSs cl (cxOf (L2.CX P w) P w K mg base N qual (defScope st) f cdv A outer s H E) (fun c d _ H => E c d H) (defBody st) run) :
    FnOk P w K mg base (L2.CX P w) (k + 1) f fd ps (spP K cl n (runFn N.length run)) := by
  refine F.okX S (fun vs H Q E h => ?_) fun cdv A outer s H vs Q E hr h => ⟨_, hb cdv A outer s H E hr, ?_⟩
  · obtain ⟨Xs, ds, ra, hl, _⟩ := h
    rw [ra.len, hl, hn]
  · obtain ⟨Xs, ds, ra, hl, xt, hm⟩ := h
    refine ⟨_, Xs, [], _, rel_start ra (by omega) xt, ?_⟩
    unfold runFn at hm
    cases q : run ⟨envOf0 N.length ds, dk0, false⟩ with
    | ok fl s' =>
      rw [q] at hm
      intro X os σ' H' r
      cases fl with
      | nx => exact hm .non H' r.ent rfl
      | rt d => exact fun v p => hm v H' r.ent (Rp.less r.x0 d v p)
      | bk => exact hm.elim
      | ct => exact hm.elim
    | exc c t s' =>
      rw [q] at hm
      exact fun X os σ' v dd H' r p hd => hm v dd H' r.ent (Rp.less r.x0 t v p) hd
    | no => rw [q] at hm; exact hm.elim
theorem rel_startD {N : List Str} {Xs : List Addr} {ds : List D} {vs : List V} {H : Hp} {kd kc : Addr} {k : Dk} (ra : RpA K H Xs ds vs) (hn : ds.length + 1 ≤ N.length) (xt : ∀ a ∈ Xs, H a ≠ none) (h1 : kd ∈ Xs) (h2 : kc ∈ Xs) (hk : DkAt H kd kc k) :
    Rel K ⟨H, Xs, some (kd, kc), []⟩ Xs [] ⟨.deck :: envOf0 (N.length - 1) ds, k, false⟩ (L2.start N (.ref kd :: vs)) H where
  len := by
    rw [start_len (by rw [List.length_cons, ra.len]; exact hn)]
    unfold envOf0
    simp
    omega
  slot := fun i sv e => by
    cases i with
    | zero =>
      cases e
      exact ⟨kd, kc, rfl, start_get rfl⟩
    | succ i =>
      have e' : (envOf0 (N.length - 1) ds)[i]? = some sv := by simpa using e
      rcases env0_get e' with ⟨d, e1, e2⟩ | e2
      · subst e2
        obtain ⟨v, ev, pv⟩ := ra.get e1
        exact ⟨v, start_get (by simpa using ev), pv⟩
      · subst e2; trivial
  nd := by simp
  sub := fun p hp => absurd hp (by simp)
  lv := fun p hp => absurd hp (by simp)
  x0 := fun a h => h
  x1 := xt
  xt := xt
  dks := fun a h => by
    simp only [dkl, List.mem_cons, List.not_mem_nil, or_false] at h
    rcases h with rfl | rfl
    · exact h1
    · exact h2
  dk := fun kd kc e => by cases e; exact hk
  ent := Stay.refl _ _
  one := fun e => by cases e
  tm := fun p hp => absurd hp (by simp)
theorem fn_deck {x qual : Str} {st : Stmt} {f : Addr} {fd : FuncData} {N ps : List Str} {k n : Nat} {run : Ex} (F : Fun K x qual st f fd) (S : FnScope N ps (defScope st)) (hn : ps.length = n + 1) (hN : ps.length ≤ N.length)
    (hb : ∀ (cdv : Value) (A : Around) (outer : List Env) (s : Shared) (H : Hp) (E : XK), Room k (A.deeper (envOfC qual (defScope st) s.heap.objs.size f cdv)) → SSs cl (cxOf (L2.CX P w) P w K mg base N qual (defScope st) f cdv A outer s H E) W0 (defBody st) run) :
    FnOk P w K mg base (L2.CX P w) (k + 1) f fd ps (spD K n (runFnD N.length run)) := by
  refine F.okX S (fun vs H Q E h => ?_) fun cdv A outer s H vs Q E hr h => ⟨_, hb cdv A outer s H E hr, ?_⟩
  · obtain ⟨kd, kc, ws, Xs, ds, kk, rfl, ra, hl, _⟩ := h
    rw [List.length_cons, ra.len, hl, hn]
  · obtain ⟨kd, kc, ws, Xs, ds, kk, rfl, ra, hl, xt, h1, h2, hk, hm⟩ := h
    refine ⟨_, Xs, [], _, rel_startD ra (by omega) xt h1 h2 hk, ?_⟩
    unfold runFnD at hm
    cases q : run ⟨.deck :: envOf0 (N.length - 1) ds, kk, false⟩ with
    | ok fl s' =>
      rw [q] at hm
      intro X os σ' H' r
      cases fl with
      | nx => exact hm .non H' r.ent (r.dk kd kc rfl) rfl
      | rt d => exact fun v p => hm v H' r.ent (r.dk kd kc rfl) (Rp.less r.x0 d v p)
      | bk => exact hm.elim
      | ct => exact hm.elim
    | exc c t s' => rw [q] at hm; exact hm.elim
    | no => rw [q] at hm; exact hm.elim
end
end Zo
/-! ZJ: the program's own errors: class BadX(ZonesError) with one thing, ZonesError(Exception); made, raised, caught. -/
namespace PySem
namespace Zx
open PySem.W PySem.Calls PyProof.Rows PySem.HandSPX
open Builtin Builtin.ObjectAttr
/-- what stands behind an own error's class: ZonesError, at Z, then Exception's row -/
def behind (Z : Addr) : List Value := [.ref Z, .type "Exception", .type "BaseException", .type "object"]
theorem behind_has (Z : Addr) (T : String) : (behind Z).contains (.type T) = ([.type "Exception", .type "BaseException", .type "object"] : List Value).contains (.type T) := by
  unfold behind
  rw [List.contains_cons]
  rfl
theorem behind_pass (self : Value) (C Z : Addr) : refuseLoop self "__setattr__" (.ref C :: behind Z) = pure () := by
  unfold behind
  rw [refuseLoop_ref, refuseLoop_ref]
  exact F.store_Exception.passes self
section
variable {prog : Program} {w : World} {A : Around} {E : Value → Shared → Prop} {R : Result → Shared → Prop} {hh : Heap} {gs : Array GenState} {dr : Drawn} {tt : Nat} {oo : OsState}
/-- self.field = v on an own error without a dict yet -/
theorem osa_ze {K : Frag} {field : Str} {tk : Tok} {v : Value} {e C Z : Addr} {fv : Array Value} {cd : ClassData}
    (kin : K.In hh) (he : hh.get? e = some { cls := .ref C, data := .fields fv }) (hcd : clsIn K C = some cd) (hmro : cd.mro = .ref C :: behind Z) (hdct : cd.hasDict = true) (hno : findIn K (.ref C) field = some none)
    (done : ∀ h2 tk2 d, (∀ b o, b ≠ e → hh.get? b = some o → h2.get? b = some o) → hh.objs.size ≤ d → d ≠ e → h2.get? e = some { cls := .ref C, dict := some d, data := .fields fv } →
      h2.Ns1 d (fun y => if y = field then some v else none) → R (.ok (.ret .none)) ⟨h2, gs, dr, tk2, oo⟩) :
    codeAny (model prog w) A (.call (.builtin "object.__setattr__") ⟨[.ref e, .str field tk, v], []⟩) R ⟨hh, gs, dr, tt, oo⟩ := by
  have inst : InstAt hh e { cls := .ref C, data := .fields fv } C none := ⟨he, rfl, rfl, trivial⟩
  have store := F.store_object
  have hobj : cd.mro.contains (.type "object") = true := by
    rw [hmro, List.contains_cons, behind_has, show (Value.type "object" == Value.ref C) = false from rfl, Bool.false_or]
    decide +kernel
  have hnemp : cd.mro.isEmpty = false := by rw [hmro]; rfl
  have hes : e ≠ hh.objs.size := Nat.ne_of_lt (Heap.lt_size he)
  have isObj : Looks (model prog w) hh (isInstance (.ref e) (.type "object")) true := inst.type.andThen (looks_mroIn kin (by
    unfold mroIn
    rw [hcd, Option.bind_some, if_neg (by rw [hnemp]; decide), hobj]))
  refine codeAny_call_builtin store.slot.plain store.entry (@check_slot (model prog w) _ _ ⟨hh, gs, dr, tt, oo⟩ "object.__setattr__" "object" "__setattr__" (.ref e) [.str field tk, v] [] _ store.kind store.split isObj (store.args (.ref e) (.str field tk) v) ?_)
  have lm : Looks (model prog w) hh (mroOf (.ref C)) cd.mro := (looks_clsIn kin hcd).andThen .now
  have lt : Looks (model prog w) hh (storeTaker? none) none := .now
  have lc : Looks (model prog w) hh (classData C) cd := looks_clsIn kin hcd
  rw [osa_eq, refuse_eq]
  refine wpAny_bind (wpAny_bind (inst.type.at (wpAny_bind (lm.at ?_))))
  rw [hmro, behind_pass]
  refine wpAny_pure (wpAny_bind (inst.type.at (wpAny_bind ((looks_findIn kin hno).at (wpAny_bind (lt.at ?_))))))
  show wpAny _ _ (storeInOwnDict (.ref e) (.ref C) (.str field tk) field v false) _ _ _
  obtain ⟨a1, a2, a3, a4, a5, a6, a7, a8, a9, a10, a11⟩ := cd
  dsimp only at hdct
  subst hdct
  unfold storeInOwnDict ownDictForStores
  repeat (first | with_reducible refine store_in_new ?_ ?_ | with_reducible refine wpAny_loadPart_at he ?_ | with_reducible refine lc.at ?_ | wp_step)
  · exact ⟨_, #[], _, (Heap.get?_update_ne _ _ _ _ hes.symm).trans (Heap.get?_push_at rfl rfl), rfl, fun q hq => absurd hq (by simp), fun _ => rfl⟩
  · intro h2 tk2 hn2 hsame
    have he1 : (hh.push { cls := .type "dict", data := .dict #[] }).get? e = some { cls := .ref C, data := .fields fv } := Heap.get?_push_of_some _ he
    refine done h2 tk2 hh.objs.size (fun b o hb ho => ?_) (Nat.le_refl _) hes.symm ?_ hn2
    · exact (hsame.2 b (Nat.ne_of_lt (Heap.lt_size ho))).trans ((Heap.get?_update_ne _ _ _ _ hb).trans (Heap.get?_push_of_some _ ho))
    · exact (hsame.2 e hes).trans (Heap.get?_update_self _ he1 rfl)
end
/-! ### the text of __init__ -/
def iA (p1 p2 : Pos) : Arguments := { posonlyargs := [], args := [{ arg := "self", annotation := none, pos := p1 }, { arg := "thing", annotation := none, pos := p2 }], vararg := none, kwonlyargs := [], kw_defaults := [], kwarg := none, defaults := [] }
def iB (q1 q2 q3 q4 : Pos) : List Stmt := [.Assign [.Attribute (.Name "self" q1) "thing" q2] (.Name "thing" q3) q4]
def iS : Scope := { kind := .function, names := [(PySem.Str.ofString "self", .local), (PySem.Str.ofString "thing", .local)], isGenerator := false, isCoroutine := false, more := [] }
/-- what the written part says of an own error's class x, at C, of its __init__ (called q), at fI, of ZonesError, at Z -/
structure ExTxt (K : Frag) (mg : Str → Option Value) (x q : Str) (C Z fI : Addr) : Prop where
  gC : mg x = some (.ref C)
  cls : ∃ nm qn N bs sn sub ab col dd k0 k1 k2 k3 k5, K.lookup C = some (excClassObj nm qn C N bs (behind Z) true sn sub ab col dd k0 k1 k2 k3 k5 "Exception.__new__")
  sa : findIn K (.ref C) "__setattr__" = some (some (.builtin "object.__setattr__"))
  ga : findIn K (.ref C) "__getattribute__" = some (some (.builtin "BaseException.__getattribute__"))
  gg : findIn K (.ref C) "__getattr__" = some none
  noN : findIn K (.ref C) "thing" = some none
  iC : findIn K (.ref C) "__init__" = some (some (.ref fI))
  tC : typeIn K (.ref fI) = some (.type "function")
  kC : keepIn K (.ref C) = true
  exC : subIn K (.ref C) (.type "BaseException") = some true
  tyC : typeIn K (.ref C) = some (.type "type")
  hdC : hasDictIn K C = true
  te : exmOne K (.ref C) (.ref C) = some true
  fn : ∃ (oc : Value) (od : Option Addr) (doc pm : Value) (an : Option Addr) (cdv ct : Value) (osl : Array (Option Value)) (p1 p2 q1 q2 q3 q4 : Pos),
    K.lookup fI = some ⟨oc, od, .func (fnOf "__init__" q (iA p1 p2) (iB q1 q2 q3 q4) iS .none .none doc pm an cdv ct), osl⟩ ∧ codeIn K cdv q = true
theorem single (v : Value) : [v].length ≤ sizeLine := by
  rw [sizeLine_eq]
  exact (by decide : 1 ≤ 16777216)
theorem ldN {M : Model} {s : Shared} {name : Str} {scope : Scope} {L a : Addr} {cd : Value} {m : Str → Option Value} {x : Str} {pos : Pos} {v : Value} {Q : Value → Shared → Prop} {A : Around} {E : Value → Shared → Prop} (hn : s.heap.Ns L m) (hv : m x = some v) (h : Q v s)
    (hk : scope.kind = .function := by rfl) (hl : (envOfC name scope L a cd).kindOf x = some .local := by rfl) (hd : (x == ("__debug__" : Str)) = false := by decide) :
    wpAny M A (eval (.Name x pos) (envOfC name scope L a cd)) Q E s := wpAny_Name (wpAny_loadName_local hk hl hn hv h) hd
/-- what __init__ leaves of a fresh exception at x -/
structure Told (h h' : Heap) (x C dx t1 : Addr) (v : Value) : Prop where
  keep : ∀ b o, b ≠ x → h.get? b = some o → h'.get? b = some o
  obj : h'.get? x = some { cls := .ref C, dict := some dx, data := .fields #[.ref t1, .none, .none, .none, .bool false, .none] }
  dbig : h.objs.size ≤ dx
  dne : dx ≠ x
  ns : h'.Ns1 dx (fun y => if y = "thing" then some v else none)
/-- a made one -/
structure Made (h h' : Heap) (e C d : Addr) (v : Value) : Prop where
  keep : ∀ b o, h.get? b = some o → h'.get? b = some o
  new : h.objs.size ≤ e
  obj : ∃ oe vs, h'.get? e = some oe ∧ oe.cls = .ref C ∧ oe.dict = some d ∧ oe.data = .fields vs ∧ vs[1]? = some .none
  dbig : h.objs.size ≤ d
  dne : d ≠ e
  ns : h'.Ns1 d (fun y => if y = "thing" then some v else none)
section
variable {prog : Program} {w : World} {A : Around} {E : Value → Shared → Prop} {R : Result → Shared → Prop} {s : Shared} {K : Frag} {mg : Str → Option Value} {x q : Str} {C Z fI : Addr}
theorem ze_init (T : ExTxt K mg x q C Z fI) {x t0 : Addr} {v : Value} (X : K.In s.heap) (hlim : s.heap.NoLimit) (hx : s.heap.get? x = some (excO C t0)) (hnx : K.lookup x = none) (hroom : A.depth < recursionLimit)
    (hq : ∀ h' tk dx, Told s.heap h' x C dx t0 v → R (.ok (.ret .none)) { s with heap := h', toks := tk }) :
    codeAny (model prog w) A (.call (.ref fI) ⟨[.ref x, v], []⟩) R s := by
  obtain ⟨oc, od, doc, pm, an, cdv, ct, osl, p1, p2, q1, q2, q3, q4, ho, hcd⟩ := T.fn
  obtain ⟨nm, qn, N, bs, sn, sub, ab, col, dd, k0, k1, k2, k3, k5, hC⟩ := T.cls
  have hcl : clsIn K C = some { name := nm, bases := bs, mro := .ref C :: behind Z, ns := N, qualname := qn, hasDict := true, slotNames := sn, subclasses := sub, abstract := ab, collection := col, hasDel := false } := by unfold clsIn; rw [hC] <;> rfl
  refine Att.call_fn (binds := [("self", .ref x), ("thing", v)]) X hlim ho hcd hroom (BindsTo.of_eq (by first | rfl | with_unfolding_all rfl)) (by first | rfl | decide | with_unfolding_all rfl) (fun s₁ IC => ?_) rfl rfl rfl
  obtain ⟨h₁, tk₁, rfl⟩ := IC.toInCall.same
  have k : ∀ b o, s.heap.get? b = some o → h₁.get? b = some o := IC.toInCall.keep
  have hn := IC.toInCall.ns
  have X₁ : K.In h₁ := X.keeps k
  have hx₁ := k _ _ hx
  show wpAny _ _ (execs _ _) _ _ _
  refine wpAny_execs_cons (plainObj_wpAny_Assign_Attribute ?_)
  refine ldN (v := v) hn (by first | rfl | with_unfolding_all rfl | kernel_rfl) (ldN (v := .ref x) hn (by first | rfl | with_unfolding_all rfl | kernel_rfl) ?_)
  refine set_plain X₁ (ox := excO C t0) (od := none) ⟨hx₁, rfl, rfl, trivial⟩ T.sa ?_
  refine osa_ze X₁ hx₁ hcl rfl rfl T.noN (fun h₃ tk₃ dx k₃ dn dne hx₃ hn₃ => ?_)
  show wpAny _ _ (execs _ _) _ _ _
  have z : s.heap.objs.size < h₁.objs.size := hn.lt
  exact wpAny_execs_nil (hq h₃ tk₃ dx ⟨fun b o hb e => k₃ b o hb (k b o e), hx₃, Nat.le_of_lt (Nat.lt_of_lt_of_le z dn), dne, hn₃⟩)
theorem ze_made (T : ExTxt K mg x q C Z fI) {v : Value} (X : K.In s.heap) (hlim : s.heap.NoLimit) (hroom : A.depth + 1 < recursionLimit)
    (hq : ∀ h' tk e d, Made s.heap h' e C d v → R (.ok (.ret (.ref e))) { s with heap := h', toks := tk }) :
    codeAny (model prog w) A (.call (.ref C) ⟨[v], []⟩) R s := by
  obtain ⟨nm, qn, N, bs, sn, sub, ab, col, dd, k0, k1, k2, k3, k5, hC⟩ := T.cls
  obtain ⟨hp, g, dr, tk, os⟩ := s
  have k : ∀ b o, hp.get? b = some o → ((hp.push (kdv_tup [v])).push (excO C hp.objs.size)).get? b = some o := fun b o e => Heap.get?_push_of_some _ (Heap.get?_push_of_some _ e)
  have hget : ((hp.push (kdv_tup [v])).push (excO C hp.objs.size)).get? (hp.objs.size + 1) = some (excO C hp.objs.size) := by heap_get
  have hnx : K.lookup (hp.objs.size + 1) = none := by
    cases e : K.lookup (hp.objs.size + 1) with
    | none => rfl
    | some o =>
      have z : hp.get? (hp.objs.size + 1) = some o := X _ _ e
      exact absurd (Nat.lt_of_succ_lt (Heap.lt_size z)) (Nat.lt_irrefl _)
  refine call_own F.excBase_Exception (behind_has Z) (X _ _ hC) (looks_findIn X T.iC) (fun self => bind_fn X self T.tC) (single v) ?_
  refine ze_init (s := ⟨(hp.push (kdv_tup [v])).push (excO C hp.objs.size), g, dr, tk, os⟩) T (X.keeps k) (hlim.keeps k) hget hnx ?_ fun h' tk' dx ⟨k', hx, dn, dne, hns⟩ => ?_
  · show A.depth + 1 < recursionLimit
    exact hroom
  · have old : ∀ b o, hp.get? b = some o → h'.get? b = some o := fun b o e => k' b o (Nat.ne_of_lt (Nat.lt_succ_of_lt (Heap.lt_size e))) (k b o e)
    have z : hp.objs.size + 1 + 1 ≤ dx := by
      first
        | (simpa only [Heap.size_push] using dn)
        | exact dn
        | (have q := dn; rw [Heap.size_push, Heap.size_push] at q; exact q)
    exact ⟨rfl, hq h' tk' (hp.objs.size + 1) dx ⟨old, Nat.le_succ _, ⟨_, _, hx, rfl, rfl, rfl, rfl⟩, Nat.le_trans (Nat.le_trans (Nat.le_succ _) (Nat.le_succ _)) z, dne, hns⟩⟩
end
end Zx
end PySem
namespace Zo
open PySem PySem.Spec PyProof.Rows L2
open PySem.Zx (ExTxt)
theorem relO_thing {v : V} {v' : Value} (r : RelV v v') (f : Str) : RelO (List.lookup f [(("thing" : Str), v)]) (if f = "thing" then some v' else none) := by
  by_cases hw : f = "thing"
  · subst hw
    rw [if_pos rfl]
    have q : List.lookup ("thing" : Str) [(("thing" : Str), v)] = some v := by simp [List.lookup]
    rw [q]
    exact r
  · rw [if_neg hw]
    have qw : (f == ("thing" : Str)) = false := by simpa using hw
    have q2 : List.lookup f [(("thing" : Str), v)] = none := by simp [List.lookup, qw]
    rw [q2]
    trivial
section
variable {X : Cx} {x q : Str} {C Z fI : Addr}
/-- BadX(e) -/
def tMkZ (C : Addr) (ta : TA) : L2.St → Hp → XK → Prop := fun σ H Q => ta σ H fun vs H1 => ∃ v, vs = [v] ∧ ∀ d, H1 d = none → Q (.ref C) (some d) (upd H1 d (.xd [(("thing" : Str), v)]))
theorem pmk_ze {a : Expr} {ta : TA} {p pos : Pos} {k : Nat} (T : ExTxt X.K X.mg x q C Z fI) (hr : Room k X.A) (ha : PA X [a] ta) (hg : Gl X x) (hdb : (x == ("__debug__" : Str)) = false := by decide)
    (he : starEach (a :: []) X.env = (false, eval a X.env) :: starEach [] X.env := by rfl) (hpl : (backTo pos (starEach [] X.env)).any (·.1) = false := by rfl) :
    PMk X (.Call (.Name x p) [a] [] pos) (tMkZ C ta) := by
  intro pins s σ H Q I h
  refine wpAny_Call_Name_kw (ld_glob I hg T.gC ?_ hdb)
  refine PySem.W.callWith_K (h₀ := X.base) I.ok.mod.kin T.kC (thn (ha.run pos pins s σ H _ I h) fun us s1 hh => ?_) he hpl
  obtain ⟨vs, H1, I1, r1, v, ev, q1⟩ := hh
  subst ev
  refine ⟨I1.kIn, ?_⟩
  cases r1 with
  | cons rv rn =>
    rename_i v' us'
    cases rn
    show wpAny _ _ (call (.ref C) [v']) _ _ _
    have hlim := I1.nolimit
    obtain ⟨hp, g, dr, tk, os⟩ := s1
    refine wpAny_call (PySem.Zx.ze_made T I1.kIn hlim (by have := hr.dp; omega) fun h' tk' e d M => ?_)
    show MkP X pins σ Q (.ref e) ⟨h', g, dr, tk', os⟩
    obtain ⟨oe, fv, hoe, hc, hd, hdat, h1⟩ := M.obj
    have hns := M.ns
    obtain ⟨G', g1, g2⟩ := restrict h' fun b => decide (b ≠ e)
    have gk : ∀ b, b ≠ e → G'.get? b = h'.get? b := fun b hb => g1 b (decide_eq_true hb)
    have ge : G'.get? e = none := g2 e (by simp)
    have old : ∀ b o, hp.get? b = some o → G'.get? b = some o := fun b o q => (gk b (Nat.ne_of_lt (Nat.lt_of_lt_of_le (Heap.lt_size q) M.new))).trans (M.keep b o q)
    have ob : ObjOk X.prog X.w (upd H1 d (.xd [(("thing" : Str), v)])) G' d (.xd [(("thing" : Str), v)]) :=
      ⟨_, hns.at (fun o q => (gk d M.dne).trans q), fun f => relO_thing rv f⟩
    have J : Inv X pins σ (upd H1 d (.xd [(("thing" : Str), v)])) ⟨G', g, dr, tk', os⟩ := I1.laid (t' := tk') old M.dbig ob
    refine ⟨e, oe, fv, ⟨G', g, dr, tk', os⟩, _, .ref C, some d, rfl, J, fun b o q => ?_, ge, hoe, ⟨hc, hd⟩, hdat, h1, ?_, rfl, I1.bare, raises_own T.exC T.tyC, q1 d (I1.hok.fresh M.dbig)⟩
    · by_cases hb : b = e
      · have q' : G'.get? b = some o := q
        rw [hb, ge] at q'; cases q'
      · exact (gk b hb).symm.trans q
    · rw [upd_ne (Ne.symm M.dne)]
      exact I1.hok.fresh M.new
/-- raise BadX(e) -/
def raiseS (c : Nat) (a : Ev) : Ex := fun s => (a s).bind fun d s1 => .exc c d s1
theorem ss_raise {cl : Nat → Addr} {W : WX} {m : Bool} {a : Expr} {ev : Ev} {p pos pos2 : Pos} {k : Nat} (c : Nat) (hc : X.calm = true) (T : ExTxt X.K X.mg x q (cl c) Z fI) (hr : Room k X.A) (tk : Takes X W) (ha : SE cl X W m a ev) (hg : Gl X x) (hdb : (x == ("__debug__" : Str)) = false := by decide)
    (he : starEach (a :: []) X.env = (false, eval a X.env) :: starEach [] X.env := by rfl) (hpl : (backTo pos (starEach [] X.env)).any (·.1) = false := by rfl) :
    SS cl X W (.Raise (some (.Call (.Name x p) [a] [] pos)) none pos2) (raiseS c ev) :=
  ps_imp (ps_raise hc tk (pmk_ze T hr (pa_cons ha pa_nil he) hg hdb he hpl)) fun Dn σ H ⟨fm, Xs, os, s, r, g⟩ => by
    unfold raiseS at g
    refine ⟨fm, Xs, os, s, r, ?_⟩
    cases q : ev s with
    | ok d s1 =>
      rw [q] at g
      simp only [Out.bind_ok] at g
      refine fun v H1 r1 st1 p1 => ⟨v, rfl, fun dd hd => ?_⟩
      exact g Xs os σ v dd _ (r1.laid hd) (Rp.stay (M := []) (Stay.laid hd) (fun a h => absurd h (by simp)) d v p1) upd_same
    | exc c t s1 => rw [q] at g; exact g Xs os σ
    | no => rw [q] at g; exact g.elim
/-! ### caught -/
/-- e.thing, e the exception that the suite holds -/
def tThing (C : Addr) (a : Addr) (cls : Value) (d : Option Addr) (te : TE) : TE := fun σ H Q => te σ H fun x H1 => x = .ref a ∧ cls = .ref C ∧ ∃ (dd : Addr) (v : V), d = some dd ∧ H1 dd = some (.xd [(("thing" : Str), v)]) ∧ Q v H1
theorem pe_thing {a : Addr} {oe : Obj} {cls : Value} {d : Option Addr} {pn : List (Addr × Obj)} {e : Expr} {te : TE} {pos : Pos} (T : ExTxt X.K X.mg x q C Z fI) (hz : Zc cls d oe) (hf : ∃ vs, oe.data = .fields vs) (he : PE (X.suite a ((a, oe) :: pn)) e te)
    (hb : attributeBase e "thing" X.env (eval e X.env) = eval e X.env := by rfl) :
    PE (X.suite a ((a, oe) :: pn)) (.Attribute e "thing" pos) (tThing C a cls d te) := by
  refine ⟨fun pins s σ H Q I h => ?_⟩
  refine attr_of hb (thn (he.run pins s σ H _ I h) fun u s1 hh => ?_)
  obtain ⟨x, H1, I1, rx, ex, ec, dd, v, ed, ea, q⟩ := hh
  subst ex
  obtain rfl : u = Value.ref a := rx
  subst ec
  subst ed
  obtain ⟨ha, _⟩ := I1.pin (a, oe) (List.mem_append_left _ List.mem_cons_self)
  obtain ⟨vs, hd⟩ := hf
  have hx : ObjOk X.prog X.w H1 s1.heap dd (.xd [(("thing" : Str), v)]) := I1.hok dd _ ea
  obtain ⟨mA, hns, hr⟩ := hx
  obtain ⟨od, ho, hl⟩ := lookIn_ns hns
  have l : List.lookup ("thing" : Str) [(("thing" : Str), v)] = some v := by simp [List.lookup]
  obtain ⟨u, hu, ru⟩ := RelO.some_of (v := v) (o := mA "thing") (by rw [← l]; exact hr "thing")
  have J : PySem.W.InstAt s1.heap a oe C (some od) := ⟨ha, hz.1, by unfold PySem.W.notCls; rw [hd] <;> rfl, by rw [hz.2]; exact ho⟩
  exact HandSPX.exc_get I1.kIn J T.ga T.gg T.exC (PySem.W.findObj_own T.hdC T.noN rfl (by rw [hl, hu])) (handed_of ru) ⟨v, H1, I1.tok _, ru, q⟩
/-- isinstance asks an error's class so -/
structure ExIs (K : PySem.W.Frag) (C : Addr) : Prop where
  ha : PySem.W.findIn K (.ref C) "__class__" = some (some (.builtin "object.__class__"))
  hn : PySem.W.specialIn K (.builtin "object.__class__") "__get__" = some (some (.builtin "getset_descriptor.__get__"))
  ht : PySem.W.takesIn K (.builtin "object.__class__") = some true
  hm : PySem.W.mroIn K C (.type "object") = some true
/-- isinstance(e, ZonesError) -/
def rIsZ (C : Addr) (Z : Addr) (cls : Value) (d : Option Addr) (a : Addr) : List V → Hp → VK → Prop := fun xs H Q => xs = [.ref a, .ref Z] ∧ cls = .ref C ∧ (∃ dd v, d = some dd ∧ H dd = some (.xd [(("thing" : Str), v)])) ∧ Q (.bl true) H
theorem call_isZ {a : Addr} {oe : Obj} {cls : Value} {d : Option Addr} {pn : List (Addr × Obj)} (T : ExTxt X.K X.mg x q C Z fI) (S : ExIs X.K C) (hk : PySem.W.kitOne X.K (.ref C) (.ref Z) = some true) (hz : Zc cls d oe) (hf : ∃ vs, oe.data = .fields vs) :
    CallR (X.suite a ((a, oe) :: pn)) (.builtin "isinstance") (rIsZ C Z cls d a) := by
  intro pins s σ H xs us Q I r h
  obtain ⟨rfl, ec, ⟨dd, v, ed, ea⟩, q⟩ := h
  subst ec ed
  cases r with
  | cons rx rr =>
    cases rr with
    | cons rt rr =>
      cases rr
      cases rx
      cases rt
      obtain ⟨hget, _⟩ := I.pin (a, oe) (List.mem_append_left _ List.mem_cons_self)
      obtain ⟨vs, hd⟩ := hf
      have hx : ObjOk X.prog X.w H s.heap dd (.xd [(("thing" : Str), v)]) := I.hok dd _ ea
      obtain ⟨mA, hns, hr⟩ := hx
      obtain ⟨od, ho, hl⟩ := lookIn_ns hns
      have J : PySem.W.InstAt s.heap a oe C (some od) := ⟨hget, hz.1, by unfold PySem.W.notCls; rw [hd] <;> rfl, by rw [hz.2]; exact ho⟩
      have hcl : (PySem.W.clsIn X.K C).isSome = true := by
        obtain ⟨cd, hc, _⟩ := PySem.W.any_some T.hdC
        rw [hc]; rfl
      exact PySem.W.kia_one (PySem.W.kitx_exc hcl T.ga T.gg T.exC S.ha S.hn S.ht S.hm) I.kIn J hk (fun z => nomatch z) fun tk => ⟨.bl true, H, I.kept (t' := tk) fun _ _ z => z, rfl, q⟩
/-- return (w, e.thing, isinstance(e, ZonesError)) -/
def heardS (c : Nat) (w : Str) (i : Nat) (b : Ex) : Ex := fun s => match b s with
  | .exc c' t s1 => if c' = c then (match s1.env[i]? with
    | some .un => .ok (.rt (.tuple [.str w, t, .bool true])) s1
    | _ => .no) else .no
  | o => o
theorem ss_heard {cl : Nat → Addr} {Wout : WX} {w n : Str} {i c : Nat} {body : List Stmt} {b : Ex} {pos pos' np p1 p2 p3 p4 p5 p6 p7 p8 p9 : Pos} {j k : Nat}
    (hs : X.stack = X.env :: X.outer) (hf : X.env.frame = some X.env.locals) (hN : X.N.Nodup) (hi : X.N[i]? = some n) (hln : X.env.kindOf n = some .local) (hc : Names X x (.ref (cl c))) (tk : Takes X Wout)
    (T : ExTxt X.K X.mg x q (cl c) Z fI) (S : ExIs X.K (cl c)) (hk : PySem.W.kitOne X.K (.ref (cl c)) (.ref Z) = some true) (hZ : X.mg "ZonesError" = some (.ref Z)) (gZ : Gl X "ZonesError") (hgi : Gl X "isinstance") (hmi : X.mg "isinstance" = none) (hnl : Loc X.env.scope n)
    (hfn : X.fn n = true ∨ X.env.scope.names.lookup n = some .local)
    (hb : ∀ (W : WX) (pn : List (Addr × Obj)) (xe : Value → Shared → Prop), Takes (X.tr pn xe) W → PassesOwn (model X.prog X.w) X.A X.env xe → SSs cl (X.tr pn xe) W body b)
    (hv : ∀ (a : Addr) (oe : Obj) (pn : List (Addr × Obj)) (p : Pos), PE (X.suite a ((a, oe) :: pn)) (.Name n p) (tVar i)) :
    SS cl X Wout (.Try body [.ExceptHandler (some (.Name x np)) (some n) [.Return (some (.Tuple [.Constant (.str w) j p1, .Attribute (.Name n p2) "thing" p3, .Call (.Name "isinstance" p4) [.Name n p5, .Name "ZonesError" p6] [] p7] k p8)) p9] pos'] [] [] pos) (heardS c w i b) := by
  refine ps_imp (ps_try_as (i := i) (tb := fun W => tS X.K cl W b) (ts := fun a cls d => tRet (tTup (tCons (tC (.str w)) (tCons (tThing (cl c) a cls d (tVar i)) (tCons (tCB (rIsZ (cl c) Z cls d a) (tCons (tVar i) (tCons (tC (.ref Z)) tNil))) tNil))))) (Wout := Wout) hs hf hN hi hln hc tk hb ?_) ?_
  · intro a oe cls d pn hz hvs
    refine pss_one (ps_ret (pe_tup (pa_cons pe_str (pa_cons (pe_thing T hz hvs (hv a oe pn p2)) (pa_cons (pe_callB (call_isZ T S hk hz hvs) hgi hmi PyProof.Rows.boot_isinstance (pa_cons (hv a oe pn p5) (pa_cons ?_ pa_nil))) pa_nil)))))
    exact pe_glob (v := V.ref Z) gZ hZ rfl
  · intro Dn σ H ⟨fm, Xs, os, s, r, g⟩
    refine ⟨fm, Xs, os, s, r, ?_⟩
    unfold heardS at g
    cases qb : b s with
    | ok fl s1 => rw [qb] at g; exact g
    | no => rw [qb] at g; exact g.elim
    | exc c' t s1 =>
      rw [qb] at g
      dsimp only at g
      split at g
      · rename_i ec
        subst ec
        split at g
        · rename_i hun
          intro X' os' σ' v dd H' r' pv hd
          refine ⟨true, T.te, fun _ a na => ?_, fun z => Bool.noConfusion z⟩
          have hlt : i < σ'.length := by
            rw [← r'.len]
            exact (List.getElem?_eq_some_iff.mp hun).1
          have hget : (σ'.set i (some (.ref a)))[i]? = some (some (.ref a)) := List.getElem?_set_self hlt
          refine ⟨_, hget, rfl, rfl, dd, v, rfl, hd, _, hget, rfl, rfl, ⟨dd, v, rfl, hd⟩, size1000 (show 3 ≤ 1000 by decide), fun p hp => ?_⟩
          refine g X' os' σ' _ (r'.laid hp) _ ?_
          exact ⟨p, _, rfl, .inl ⟨.inl upd_same, r'.nx hp⟩, ⟨_, _, rfl, rfl, v, _, rfl, Rp.stay (M := []) (Stay.laid hp) (fun a h => absurd h (by simp)) t v pv, _, [], rfl, rfl, rfl⟩⟩
        · exact g.elim
      · exact g.elim
end
end Zo
/-! ZK: the law's deck: a draw. -/
namespace Zo
open PySem PySem.Spec PyProof.Rows L2
def top (i : Nat) : Stmt := PySem.Challenge.pw_zonestold_k19_formulas_at_words.main.body.getD i (.Pass ⟨0, 0, 0, 0⟩)
abbrev sDraw : Stmt := top 27
def drawA (c t : Int) : Int := (c % 2147483629 + 60013 * t * t + 47) * 40692 % 2147483647
def drawB (m t : Int) : Int := (m * m + 69997 * t + 31) % 2147483587
def drawV (c t b : Int) : Int := drawB (drawA c t) t * 39373 % 2147483563 / 64 % b
/-- _law_draw -/
def drawK (b : Int) (k : Dk) : Rd := if 0 < b ∧ b < 1000000000 ∧ 0 ≤ k.turn ∧ k.turn < 1000000000000 then
      (match k.cells.getLast? with
      | some c => if 10 ^ 18 ≤ c then .ok (.int (c % b)) { k with cells := k.cells.dropLast ++ [c / (if b > 2 then b else 2)], turn := k.turn + 1 }
        else .ok (.int (drawV (c + k.mixed) (k.turn + 1) b)) { k with cells := k.cells.dropLast, turn := k.turn + 1 }
      | none => .ok (.int (drawV k.mixed (k.turn + 1) b)) { k with turn := k.turn + 1 })
    else .no
def drawF : List D → Dk → Rd
  | [.int b], k => drawK b k
  | _, _ => .no
def dkv (kc : Addr) (m t : Int) : List (Key × V) := [(.inr "cells", .ref kc), (.inr "mixed", .int m), (.inr "turn", .int t)]
theorem ne_ct : ¬ (Str.ofString "cells" = Str.ofString "turn") := by decide +kernel
theorem ne_mt : ¬ (Str.ofString "mixed" = Str.ofString "turn") := by decide +kernel
theorem ne_cm : ¬ (Str.ofString "cells" = Str.ofString "mixed") := by decide +kernel
theorem dkv_put (kc : Addr) (m t u : Int) : putK (dkv kc m t) (.inr "turn") (.int u) = dkv kc m u := by
  simp [putK, dkv, ne_ct, ne_mt]
theorem dkv_c (kc : Addr) (m t : Int) : valV (dkv kc m t) (.inr "cells") = some (.ref kc) := rfl
theorem dkv_m (kc : Addr) (m t : Int) : valV (dkv kc m t) (.inr "mixed") = some (.int m) := by simp [valV, dkv, List.find?, ne_cm]
theorem dkv_t (kc : Addr) (m t : Int) : valV (dkv kc m t) (.inr "turn") = some (.int t) := by simp [valV, dkv, List.find?, ne_ct, ne_mt]
theorem dget_c {H : Hp} {kd kc : Addr} {m t : Int} (h : H kd = some (.dK (dkv kc m t))) : DGet H kd (.str "cells") (some (.ref kc)) := by
  have := DGet.k (k := .inr "cells") h
  rw [dkv_c] at this
  exact this
theorem dget_m {H : Hp} {kd kc : Addr} {m t : Int} (h : H kd = some (.dK (dkv kc m t))) : DGet H kd (.str "mixed") (some (.int m)) := by
  have := DGet.k (k := .inr "mixed") h
  rw [dkv_m] at this
  exact this
theorem dget_t {H : Hp} {kd kc : Addr} {m t : Int} (h : H kd = some (.dK (dkv kc m t))) : DGet H kd (.str "turn") (some (.int t)) := by
  have := DGet.k (k := .inr "turn") h
  rw [dkv_t] at this
  exact this
/-! ### readings -/
abbrev xCells : TE := tDGet (tVar 0) (tC (.str "cells"))
abbrev xMixed : TE := tDGet (tVar 0) (tC (.str "mixed"))
abbrev xTurn : TE := tDGet (tVar 0) (tC (.str "turn"))
abbrev tN (i : Int) : TE := tC (.int i)
abbrev rAddI : R2 := rI0 fun i j => .int (i + j)
abbrev rMulI : R2 := rI CMul fun i j => .int (i * j)
abbrev rModI : R2 := rI (fun _ j => 0 < j) fun i j => .int (i % j)
abbrev rDivI : R2 := rI CDivW fun i j => .int (i / j)
/-- (cell % 2147483629 + 60013 * turn * turn + 47) * 40692 % 2147483647 -/
abbrev xA : TE := tOp rModI (tOp rMulI (tOp rAddI (tOp rAddI (tOp rModI (tVar 2) (tN 2147483629)) (tOp rMulI (tOp rMulI (tN 60013) xTurn) xTurn)) (tN 47)) (tN 40692)) (tN 2147483647)
abbrev xB : TE := tOp rModI (tOp rAddI (tOp rAddI (tOp rMulI (tVar 3) (tVar 3)) (tOp rMulI (tN 69997) xTurn)) (tN 31)) (tN 2147483587)
abbrev xV : TE := tOp rModI (tOp rDivI (tOp rModI (tOp rMulI (tVar 3) (tN 39373)) (tN 2147483563)) (tN 64)) (tVar 1)
abbrev xInt : List V → Hp → VK → Prop := fun xs H Q => (∃ i, xs = [.int i] ∧ Q (.int i) H) ∨ ∃ k, xs = [.bl k] ∧ Q (.int (if k then 1 else 0)) H
abbrev xMax : List V → Hp → VK → Prop := fun xs H Q => ∃ i j, xs = [.int i, .int j] ∧ Q (.int (if j > i then j else i)) H
abbrev t_draw (K : Fr) : TS :=
  tSeq (sDPut (tVar 0) (tC (.str "turn")) (tOp rAddI xTurn (tN 1)))
  (tSeq (tAsg xMixed (gName 2))
  (tSeq (tIfS (tTest (tOp (rNeD K) xCells (tLst tNil)))
    (tSeq (tAsg (tBM0 K "list" rPop xCells) (gName 2))
    (tSeq (tIfS (tTest (tOp (rI0 fun i j => .bl (decide (j ≤ i))) (tVar 2) (tOp (rI CPow fun i j => .int (i ^ j.toNat)) (tN 10) (tN 18))))
      (tSeq (tDrop (tBM K "list" rAppend xCells (tCons (tOp rDivI (tVar 2) (tCB xMax (tCons (tN 2) (tCons (tVar 1) tNil)))) tNil)))
        (tRet (tCB xInt (tCons (tOp rModI (tVar 2) (tVar 1)) tNil)))) tNext)
    (tAsg (tOp rAddI (tVar 2) xMixed) (gName 2)))) tNext)
  (tSeq (tAsg xA (gName 3)) (tSeq (tAsg xB (gName 3)) (tRet (tCB xInt (tCons xV tNil)))))))
theorem cdivw {i j : Int} (h : 0 < j) (h2 : j < 1000000000) : CDivW i j := wide_div (b := 30) h (by
  have : (j.natAbs : Int) = j := Int.natAbs_of_nonneg (by omega)
  omega) (by decide) (by decide)
theorem cmul1 {i j : Int} (h : 0 ≤ i) (h2 : i < 2 ^ 62) : CMul i j := .inl ⟨by omega, by omega⟩
theorem cmul2 {i j : Int} (h : 0 ≤ j) (h2 : j < 2 ^ 62) : CMul i j := .inr ⟨by omega, by omega⟩
theorem mod_lt0 (a : Int) {b : Int} (h : 0 < b) : 0 ≤ a % b ∧ a % b < b := ⟨Int.emod_nonneg a (by omega), Int.emod_lt_of_pos a h⟩
/-- the reading gives the value, nothing is changed -/
def Gives (te : TE) (σ : L2.St) (H : Hp) (v : V) : Prop := ∀ Q : VK, Q v H → te σ H Q
section
variable {σ : L2.St} {H : Hp} {ta tb : TE} {a b : Int}
theorem g_var {i : Nat} {v : V} (h : σ[i]? = some (some v)) : Gives (tVar i) σ H v := fun Q q => ⟨v, h, q⟩
theorem g_c (v : V) : Gives (tC v) σ H v := fun Q q => q
theorem g_op0 {g : Int → Int → V} (h1 : Gives ta σ H (.int a)) (h2 : Gives tb σ H (.int b)) : Gives (tOp (rI0 g) ta tb) σ H (g a b) := fun Q q => h1 _ (h2 _ ⟨a, b, rfl, rfl, q⟩)
theorem g_op {C : Int → Int → Prop} {g : Int → Int → V} (h1 : Gives ta σ H (.int a)) (h2 : Gives tb σ H (.int b)) (c : C a b) : Gives (tOp (rI C g) ta tb) σ H (g a b) := fun Q q => h1 _ (h2 _ ⟨a, b, rfl, rfl, c, q⟩)
theorem g_dget {kd : Addr} {x : Str} {v : V} (h0 : σ[0]? = some (some (.ref kd))) (h : DGet H kd (.str x) (some v)) : Gives (tDGet (tVar 0) (tC (.str x))) σ H v := fun Q q => ⟨_, h0, kd, v, rfl, h, q⟩
end
theorem g_A {σ : L2.St} {H : Hp} {kd kc : Addr} {m t c : Int} (h : H kd = some (.dK (dkv kc m t))) (h0 : σ[0]? = some (some (.ref kd))) (h2 : σ[2]? = some (some (.int c))) (ht : 0 ≤ t) (ht2 : t < 1000000000001) : Gives xA σ H (.int (drawA c t)) := by
  have gt : Gives xTurn σ H (.int t) := g_dget h0 (dget_t h)
  exact g_op (g_op (g_op0 (g_op0 (g_op (g_var h2) (g_c _) (by decide)) (g_op (g_op (g_c _) gt (cmul1 (by decide) (by decide))) gt (cmul2 ht (by omega)))) (g_c _)) (g_c _) (cmul2 (by decide) (by decide))) (g_c _) (by decide)
theorem g_B {σ : L2.St} {H : Hp} {kd kc : Addr} {m t c : Int} (h : H kd = some (.dK (dkv kc m t))) (h0 : σ[0]? = some (some (.ref kd))) (h3 : σ[3]? = some (some (.int c))) (hc : 0 ≤ c) (hc2 : c < 2147483647) : Gives xB σ H (.int (drawB c t)) := by
  have gt : Gives xTurn σ H (.int t) := g_dget h0 (dget_t h)
  exact g_op (g_op0 (g_op0 (g_op (g_var h3) (g_var h3) (cmul1 hc (by omega))) (g_op (g_c _) gt (cmul1 (by decide) (by decide)))) (g_c _)) (g_c _) (by decide)
theorem g_V {σ : L2.St} {H : Hp} {b c : Int} (h1 : σ[1]? = some (some (.int b))) (h3 : σ[3]? = some (some (.int c))) (hb : 0 < b) : Gives xV σ H (.int (c * 39373 % 2147483563 / 64 % b)) :=
  g_op (g_op (g_op (g_op (g_var h3) (g_c _) (cmul2 (by decide) (by decide))) (g_c _) (by decide)) (g_c _) (cdivw (by decide) (by decide))) (g_var h1) hb
/-- the last three rows -/
theorem pure_tail {σ : L2.St} {H : Hp} {kd kc : Addr} {m t b c : Int} {Q : VK} {N : L2.St → Hp → Prop} (hl : σ.length = 4) (h : H kd = some (.dK (dkv kc m t))) (h0 : σ[0]? = some (some (.ref kd))) (h1 : σ[1]? = some (some (.int b))) (h2 : σ[2]? = some (some (.int c))) (hb : 0 < b) (ht : 0 ≤ t) (ht2 : t < 1000000000001) (q : Q (.int (drawV c t b)) H) {bk ct : L2.St → Hp → Prop} :
    tSeq (tAsg xA (gName 3)) (tSeq (tAsg xB (gName 3)) (tRet (tCB xInt (tCons xV tNil)))) { nx := N, rt := Q, bk := bk, ct := ct } σ H := by
  have hA := mod_lt0 ((c % 2147483629 + 60013 * t * t + 47) * 40692) (b := 2147483647) (by decide)
  have s0 : ∀ v, (σ.set 3 v)[0]? = σ[0]? := fun v => List.getElem?_set_ne (by decide)
  have s1 : ∀ v, (σ.set 3 v)[1]? = σ[1]? := fun v => List.getElem?_set_ne (by decide)
  have s3 : ∀ (τ : L2.St) v, τ.length = 4 → (τ.set 3 v)[3]? = some v := fun τ v h => List.getElem?_set_self (by omega)
  refine g_A h h0 h2 ht ht2 _ ?_
  show tSeq (tAsg xB (gName 3)) (tRet (tCB xInt (tCons xV tNil))) _ (σ.set 3 (some (.int (drawA c t)))) H
  refine g_B h (by rw [s0]; exact h0) (s3 _ _ hl) hA.1 hA.2 _ ?_
  show tRet (tCB xInt (tCons xV tNil)) _ ((σ.set 3 (some (.int (drawA c t)))).set 3 (some (.int (drawB (drawA c t) t)))) H
  rw [List.set_set]
  exact g_V (by rw [s1]; exact h1) (s3 _ _ hl) hb _ (.inl ⟨_, rfl, q⟩)
theorem dp_ints {K : Fr} {H : Hp} {a : Addr} {is : List Int} (h : H a = some (.lst (is.map V.int))) : Dp K H (.ref a) (.list (is.map PyData.int)) := by
  refine .lst (SqL.of h) ?_
  clear h
  induction is with
  | nil => exact .nil
  | cons i is ih => exact .cons (.int i) ih
theorem shapedI (is : List Int) : SeqAt.shaped (.list (is.map PyData.int)) = true := PySem.W.shaped_ints is
theorem eqv_ints (is : List Int) : PyData.eqv (.list (is.map PyData.int)) (.list []) = is.isEmpty := by
  cases is <;> rfl
theorem pure_draw {K : Fr} (vs : List V) (H : Hp) (Q : VK) (E : XK) (h : spD K 1 drawF vs H Q E) : t_draw K { nx := fun _ H' => Q .non H', rt := Q } (start ["deck", "below", "cell", "mixed"] vs) H := by
  obtain ⟨kd, kc, ws, Xs, ds, k, rfl, ra, hl, xt, m1, m2, hk, hm⟩ := h
  obtain ⟨hne, hkd, hkc, hlen⟩ := hk
  match ds, hl with
  | [d], _ =>
  obtain ⟨v, r, e, pv, er⟩ := ra
  subst e
  cases er
  cases d with
  | int b =>
    have ev : v = .int b := pv
    subst ev
    have hm : match drawK b k with
      | .ok d k' => ∀ v H', Stay [kd, kc] H H' → DkAt H' kd kc k' → Rp K H' Xs d v → Q v H'
      | .no => False := hm
    unfold drawK at hm
    by_cases hc : 0 < b ∧ b < 1000000000 ∧ 0 ≤ k.turn ∧ k.turn < 1000000000000
    · rw [if_pos hc] at hm
      obtain ⟨hb, hb2, ht, ht2⟩ := hc
      have h1 : H kd = some (.dK (dkv kc k.mixed k.turn)) := hkd
      refine g_op0 (g_dget rfl (dget_t h1)) (g_c _) _ ⟨_, rfl, kd, _, rfl, DPut.k (k := .inr "turn") h1 (by show 3 < sizeLine; decide), ?_⟩
      rw [dkv_put]
      have h2 : (upd H kd (.dK (dkv kc k.mixed (k.turn + 1)))) kd = some (.dK (dkv kc k.mixed (k.turn + 1))) := upd_same
      have h2c : (upd H kd (.dK (dkv kc k.mixed (k.turn + 1)))) kc = some (.lst (k.cells.map V.int)) := by rw [upd_ne (Ne.symm hne)]; exact hkc
      have st2 : Stay [kd, kc] H (upd H kd (.dK (dkv kc k.mixed (k.turn + 1)))) := Stay.put (by simp)
      refine g_dget rfl (dget_m h2) _ ?_
      show tSeq _ _ _ [some (.ref kd), some (.int b), some (.int k.mixed), none] _
      refine g_dget rfl (dget_c h2) _ ?_
      refine ⟨by show 0 ≤ sizeLine; decide, fun p hp => ?_⟩
      have st3 : Stay [kd, kc] H (upd (upd H kd (.dK (dkv kc k.mixed (k.turn + 1)))) p (.lst [])) := st2.trans (Stay.laid hp)
      have h3 := h2
      rw [← upd_ne (H := upd H kd (.dK (dkv kc k.mixed (k.turn + 1)))) (o := .lst []) (ne_of_none h2 hp)] at h3
      have h3c := h2c
      rw [← upd_ne (H := upd H kd (.dK (dkv kc k.mixed (k.turn + 1)))) (o := .lst []) (ne_of_none h2c hp)] at h3c
      have h3p : (upd (upd H kd (.dK (dkv kc k.mixed (k.turn + 1)))) p (.lst [])) p = some (.lst (([] : List Int).map V.int)) := upd_same
      generalize hH : upd (upd H kd (.dK (dkv kc k.mixed (k.turn + 1)))) p (.lst []) = H3 at *
      refine ⟨.list (k.cells.map PyData.int), .list (([] : List Int).map PyData.int), dp_ints h3c, dp_ints h3p, shapedI _, shapedI _, !k.cells.isEmpty, by rw [show (([] : List Int).map PyData.int) = [] from rfl, eqv_ints], ?_⟩
      cases hlast : k.cells.getLast? with
      | none =>
        have he : k.cells = [] := by simpa using hlast
        rw [hlast] at hm
        rw [if_neg (by rw [he]; simp)]
        refine pure_tail rfl h3 rfl rfl rfl hb (by omega) (by omega) ?_
        exact hm _ H3 st3 ⟨hne, h3, h3c, hlen⟩ rfl
      | some c =>
        have hnil : k.cells ≠ [] := fun z => by rw [z] at hlast; cases hlast
        have hget : (k.cells.map V.int)[(k.cells.map V.int).length - 1]? = some (V.int c) := by
          rw [List.length_map, List.getElem?_map, ← List.getLast?_eq_getElem?, hlast]
          rfl
        rw [hlast] at hm
        dsimp only at hm
        rw [if_pos (by simp [hnil])]
        refine g_dget rfl (dget_c h3) _ ⟨.inl ⟨rfl, _, SqL.of h3c⟩, kc, _, _, rfl, rfl, h3c, hget, ?_⟩
        have hdl : (k.cells.map V.int).dropLast = k.cells.dropLast.map V.int := by rw [List.map_dropLast]
        rw [hdl]
        have st4 : Stay [kd, kc] H (upd H3 kc (.lst (k.cells.dropLast.map V.int))) := st3.trans (Stay.put (by simp))
        have h4 : (upd H3 kc (.lst (k.cells.dropLast.map V.int))) kd = some (.dK (dkv kc k.mixed (k.turn + 1))) := by rw [upd_ne hne]; exact h3
        have h4c : (upd H3 kc (.lst (k.cells.dropLast.map V.int))) kc = some (.lst (k.cells.dropLast.map V.int)) := upd_same
        generalize hH4 : upd H3 kc (.lst (k.cells.dropLast.map V.int)) = H4 at *
        show tSeq _ _ _ [some (.ref kd), some (.int b), some (.int c), none] H4
        refine g_op0 (g_var rfl) (g_op (g_c _) (g_c _) ⟨by decide, by decide, by decide⟩) _ ⟨_, rfl, ?_⟩
        by_cases hbig : 10 ^ 18 ≤ c
        · rw [if_pos hbig] at hm
          rw [if_pos (decide_eq_true (by simpa using hbig))]
          have hmax : 0 < (if b > 2 then b else 2) ∧ (if b > 2 then b else 2) < 1000000000 := by split <;> omega
          refine g_dget rfl (dget_c h4) _ ⟨.inl ⟨rfl, _, SqL.of h4c⟩, ?_⟩
          refine g_op (g_var rfl) (show Gives (tCB xMax (tCons (tN 2) (tCons (tVar 1) tNil))) _ _ _ from fun Q q => ⟨_, rfl, 2, b, rfl, q⟩) (cdivw hmax.1 hmax.2) _ ?_
          have hlen5 : (k.cells.dropLast.map V.int).length < 1000 := by
            rw [List.length_map, List.length_dropLast]
            have : 0 < k.cells.length := List.length_pos_iff.mpr hnil
            omega
          refine ⟨kc, _, _, rfl, rfl, h4c, Nat.lt_of_lt_of_le hlen5 (size1000 (Nat.le_refl _)), ?_⟩
          show tRet (tCB xInt (tCons (tOp rModI (tVar 2) (tVar 1)) tNil)) _ [some (.ref kd), some (.int b), some (.int c), none] _
          refine (show Gives (tOp rModI (tVar 2) (tVar 1)) [some (.ref kd), some (.int b), some (.int c), none] _ (.int (c % b)) from g_op (g_var rfl) (g_var rfl) hb) _ ?_
          refine Or.inl ⟨_, rfl, ?_⟩
          refine hm _ _ (st4.trans (Stay.put (by simp))) ⟨hne, by rw [upd_ne hne]; exact h4, ?_, ?_⟩ rfl
          · rw [upd_same, List.map_append]
            rfl
          · rw [List.length_append, List.length_singleton, List.length_dropLast]
            omega
        · rw [if_neg hbig] at hm
          rw [if_neg (by simpa using hbig)]
          refine g_op0 (g_var rfl) (g_dget rfl (dget_m h4)) _ ?_
          refine pure_tail rfl h4 rfl rfl rfl hb (by omega) (by omega) ?_
          refine hm _ H4 st4 ⟨hne, h4, h4c, ?_⟩ rfl
          rw [List.length_dropLast]
          omega
    · rw [if_neg hc] at hm
      exact hm.elim
  | _ => exact hm.elim
theorem scDraw : FnScope ["deck", "below", "cell", "mixed"] ["deck", "below"] (defScope sDraw) := ⟨rfl, rfl, rfl, by decide +kernel, rfl, by decide +kernel, by decide +kernel⟩
theorem ok_draw {P : Program} {w : World} {K : Fr} {mg : Str → Option Value} {base : Heap} {f : Addr} {fd : FuncData} {k : Nat} (F : Fun K "_law_draw" "_law_draw" sDraw f fd) (mmax : mg "max" = none) (mint : mg "int" = none) : FnOk P w K mg base (L2.CX P w) (k + 1) f fd ["deck", "below"] (spD K 1 drawF) := by
  refine F.okX scDraw (fun vs H Q E h => ?_) fun cdv A outer s H vs Q E hr h => ⟨t_draw K, ?_, pure_draw vs H Q E h⟩
  · obtain ⟨kd, kc, ws, Xs, ds, k, rfl, ra, hl, _⟩ := h
    rw [List.length_cons, ra.len, hl]
    rfl
  · have hu := hr.units
    have hu1 := Nat.lt_of_le_of_lt (Nat.add_le_add_left (show 1 ≤ 64 by decide) _) hr.units
    exact pss_cons (ps_dput hu1 (pv 0) pe_str (pe_op op_add (pe_dget hu1 (pv 0) pe_str (fun _ _ => rfl)) pe_int) rfl)
      (pss_cons (ps_set (i := 2) scDraw.nd rfl (Or.inl rfl) (pe_dget hu1 (pv 0) pe_str (fun _ _ => rfl)))
      (pss_cons (ps_if (pt_cmpR (op_neD hu) (pe_dget hu1 (pv 0) pe_str (fun _ _ => rfl)) (pe_lst pa_nil) (nomark _))
        (pss_cons (ps_set (i := 2) scDraw.nd rfl (Or.inl rfl) (pe_bm0 PySem.F.plainAttrs_list PySem.F.slot_list_pop PySem.F.type_list_pop mt_pop (pe_dget hu1 (pv 0) pe_str (fun _ _ => rfl))))
        (pss_cons (ps_if (pt_cmpR op_ge (pv 2) (pe_op op_pow pe_int pe_int) (nomark _))
          (pss_cons (ps_expr (pe_bm PySem.F.plainAttrs_list PySem.F.slot_list_append PySem.F.type_list_append mt_append (pe_dget hu1 (pv 0) pe_str (fun _ _ => rfl)) (pa_cons (pe_op op_fdivW (pv 2) (pe_callB (call_max2 rfl) rfl mmax PyProof.Rows.boot_max (pa_cons pe_int (pa_cons (pv 1) pa_nil)))) pa_nil)))
          (pss_one (ps_ret (pe_callTy call_int1 rfl mint PyProof.Rows.boot_int (pa_cons (pe_op op_mod (pv 2) (pv 1)) pa_nil))))) pss_nil)
        (pss_one (ps_set (i := 2) scDraw.nd rfl (Or.inl rfl) (pe_op op_add (pv 2) (pe_dget hu1 (pv 0) pe_str (fun _ _ => rfl))))))) pss_nil)
      (pss_cons (ps_set (i := 3) scDraw.nd rfl (Or.inl rfl) (pe_op op_mod (pe_op op_mul (pe_op op_add (pe_op op_add (pe_op op_mod (pv 2) pe_int) (pe_op op_mul (pe_op op_mul pe_int (pe_dget hu1 (pv 0) pe_str (fun _ _ => rfl))) (pe_dget hu1 (pv 0) pe_str (fun _ _ => rfl)))) pe_int) pe_int) pe_int))
      (pss_cons (ps_set (i := 3) scDraw.nd rfl (Or.inl rfl) (pe_op op_mod (pe_op op_add (pe_op op_add (pe_op op_mul (pv 3) (pv 3)) (pe_op op_mul pe_int (pe_dget hu1 (pv 0) pe_str (fun _ _ => rfl)))) pe_int) pe_int))
      (pss_one (ps_ret (pe_callTy call_int1 rfl mint PyProof.Rows.boot_int (pa_cons (pe_op op_mod (pe_op op_fdivW (pe_op op_mod (pe_op op_mul (pv 3) pe_int) pe_int) pe_int) (pv 1)) pa_nil))))))))
end Zo
/-! ZL: repr of a value. -/
namespace Zo
open PySem PySem.Spec PyProof.Rows L2
mutual
/-- no dict but empty ones -/
def plainD : D → Bool
  | .dict es => es.isEmpty
  | .list ds => plainA ds
  | .tuple ds => plainA ds
  | _ => true
def plainA : List D → Bool
  | [] => true
  | d :: ds => plainD d && plainA ds
end
section
variable {X : Cx} {pins : List (Addr × Obj)} {σ : L2.St} {H : Hp} {s : Shared} {Xs : List Addr}
/-- what a walk of the text of a value asks -/
abbrev Shw (X : Cx) (s : Shared) (n : Nat) (u : Value) (d : D) (t : Str) : Prop := ∃ as bs, Reads s.heap u d as ∧ ReadAtMost s.heap n bs ∧ ReprK X.prog X.w bs s.heap n u t
abbrev ShwA (X : Cx) (s : Shared) (n : Nat) (us : List Value) (ds : List D) (ts : List Str) : Prop := ∃ as bs, ReadsAll s.heap us ds as ∧ ReadAtMost s.heap n bs ∧ ReprAllK X.prog X.w bs s.heap n us ts
theorem none_at (h : Heap) (n : Nat) : ReadAtMost h n [] := fun _ z => nomatch z
theorem shw_list (I : Inv X pins σ H s) {a : Addr} {vs : List V} {ds : List D} (ha : H a = some (.lst vs)) (hz : (PyData.shown (.list ds)).length ≤ sizeLine) (k : ∀ us, Vals vs us → ShwA X s (PyData.depthAll ds) us ds (PyData.shownAll ds)) :
    Shw X s (PyData.list ds).depth (.ref a) (.list ds) (PyData.shown (.list ds)) := by
  obtain ⟨its, rv, ⟨o, n, ho, hc, _, hd⟩, _⟩ := I.list (SqL.of ha)
  obtain ⟨as, bs, hr, hb, hk⟩ := k its rv
  have r : Reads s.heap (.ref a) (.list ds) (a :: as) := .list ho hc hd hr
  have deep : PyData.depthAll ds < (PyData.list ds).depth := by simp only [PyData.depth]; omega
  have fresh : a ∉ bs := not_mem_of_deeper r deep hb
  refine ⟨_, a :: bs, r, ReadAtMost.cons r (Nat.le_of_lt deep) hb, ?_⟩
  simp only [PyData.depth, PyData.shown]
  cases its with
  | nil =>
    cases hr
    simp only [PyData.shownAll, listText_nil]
    exact ReprK.listEmpty ho hc hd
  | cons x l => exact ReprK.list ho hc hd fresh (by simpa using hk.length_eq) fun i y e => hk.item i y (by simpa using e)
theorem shw_tup (I : Inv X pins σ H s) {a : Addr} {vs : List V} {ds : List D} (ha : SqT X.K H a vs) (hz : (PyData.shown (.tuple ds)).length ≤ sizeLine) (k : ∀ us, Vals vs us → ShwA X s (PyData.depthAll ds) us ds (PyData.shownAll ds)) :
    Shw X s (PyData.tuple ds).depth (.ref a) (.tuple ds) (PyData.shown (.tuple ds)) := by
  obtain ⟨its, rv, ⟨o, ho, hc, n, hd⟩, _⟩ := I.tuple ha
  obtain ⟨as, bs, hr, hb, hk⟩ := k its rv
  have r : Reads s.heap (.ref a) (.tuple ds) as := .tuple ho hc hd hr
  have deep : PyData.depthAll ds < (PyData.tuple ds).depth := by simp only [PyData.depth]; omega
  have fresh : a ∉ bs := not_mem_of_deeper r deep hb
  refine ⟨_, a :: bs, r, ReadAtMost.cons r (Nat.le_of_lt deep) hb, ?_⟩
  simp only [PyData.depth, PyData.shown]
  exact ReprK.tuple ho hc hd fresh hk
theorem shw_dict0 (I : Inv X pins σ H s) {a : Addr} (ha : H a = some (.dK [])) : Shw X s (PyData.dict []).depth (.ref a) (.dict []) (PyData.shown (.dict [])) := by
  obtain ⟨_, hsys, vs, rel, o, es, n, ho, hx, hd, _, hp, _⟩ := dk_of I.hok ha
  cases rel
  have e0 : es.toList = [] := List.eq_nil_of_length_eq_zero hp.length
  have r : Reads s.heap (.ref a) (.dict []) (a :: [] ++ []) := .dict ho hx.1 hd (by rw [e0]; exact .nil) (by rw [e0]; exact .nil)
  have deep : 0 < (PyData.dict []).depth := by simp only [PyData.depth]; omega
  refine ⟨_, [a], r, ReadAtMost.cons r (Nat.le_of_lt deep) (none_at _ 0), ?_⟩
  simp only [PyData.depth, PyData.shown]
  exact ReprK.dict ho hx.1 hd hsys (by simp) (by rw [e0]; exact .nil)
mutual
theorem Rp.shows (I : Inv X pins σ H s) : ∀ (d : D) (v : V) (u : Value), Rp X.K H Xs d v → RelV v u → plainD d = true → d.showable = true → d.shown.length ≤ sizeLine → Shw X s d.depth u d d.shown
  | .none, _, _, h, r, _, _, _ => by
    cases h
    cases r
    exact ⟨_, [], .none, none_at _ _, by simp only [PyData.shown]; exact .of_is ReprIs.none _ _ _⟩
  | .bool b, _, _, h, r, _, _, _ => by
    cases h
    cases r
    exact ⟨_, [], .bool b, none_at _ _, by simp only [PyData.shown]; exact .of_is (ReprIs.bool b) _ _ _⟩
  | .int i, _, _, h, r, _, hs, _ => by
    cases h
    obtain ⟨t, rfl⟩ := r
    exact ⟨_, [], .int i t, none_at _ _, by simp only [PyData.shown]; exact .of_is (ReprIs.int t (by simpa [PyData.showable] using hs)) _ _ _⟩
  | .str x, _, _, h, r, _, _, hz => by
    cases h
    obtain ⟨t, rfl⟩ := r
    exact ⟨_, [], .str x t, none_at _ _, by simp only [PyData.shown]; exact .of_is (ReprIs.str x t (by simpa only [PyData.shown] using hz)) _ _ _⟩
  | .list ds, _, _, h, r, hp, hs, hz => by
    obtain ⟨a, vs, e, f, q⟩ := h
    subst e
    cases r
    have hz' : (listText (PyData.shownAll ds)).length ≤ sizeLine := by simpa only [PyData.shown] using hz
    exact shw_list I f.1 hz fun us rv => RpA.shows I ds vs us q rv (by simpa [plainD] using hp) (by simpa [PyData.showable] using hs) fun t ht => Nat.le_trans (listText_mem_le ht) hz'
  | .tuple ds, _, _, h, r, hp, hs, hz => by
    obtain ⟨a, vs, e, f, q⟩ := h
    subst e
    cases r
    have hz' : (tupleText (PyData.shownAll ds)).length ≤ sizeLine := by simpa only [PyData.shown] using hz
    exact shw_tup I f.sq hz fun us rv => RpA.shows I ds vs us q rv (by simpa [plainD] using hp) (by simpa [PyData.showable] using hs) fun t ht => Nat.le_trans (tupleText_mem_le ht) hz'
  | .dict es, _, _, h, r, hp, _, _ => by
    obtain ⟨a, kvs, e, f, _, q⟩ := h
    subst e
    cases r
    cases es with
    | nil =>
      cases q
      exact shw_dict0 I f
    | cons p es => simp [plainD] at hp
theorem RpA.shows (I : Inv X pins σ H s) : ∀ (ds : List D) (vs : List V) (us : List Value), RpA X.K H Xs ds vs → Vals vs us → plainA ds = true → PyData.showableAll ds = true → (∀ t ∈ PyData.shownAll ds, t.length ≤ sizeLine) → ShwA X s (PyData.depthAll ds) us ds (PyData.shownAll ds)
  | [], _, _, h, r, _, _, _ => by
    cases h
    cases r
    exact ⟨_, [], .nil, none_at _ _, by simp only [PyData.shownAll]; exact .nil⟩
  | d :: ds, _, _, h, r, hp, hs, hz => by
    obtain ⟨v, vs, e, q, t⟩ := h
    subst e
    cases r with
    | cons r1 r2 =>
      have hs' : d.showable = true ∧ PyData.showableAll ds = true := by simpa [PyData.showableAll] using hs
      have hp' : plainD d = true ∧ plainA ds = true := by simpa [plainA] using hp
      obtain ⟨a1, b1, h1, m1, k1⟩ := Rp.shows I d v _ q r1 hp'.1 hs'.1 (hz _ (by simp only [PyData.shownAll]; exact List.mem_cons_self ..))
      obtain ⟨a2, b2, h2, m2, k2⟩ := RpA.shows I ds vs _ t r2 hp'.2 hs'.2 fun x hx => hz x (by simp only [PyData.shownAll]; exact List.mem_cons_of_mem _ hx)
      refine ⟨_, b1 ++ b2, .cons h1 h2, ?_, ?_⟩
      · simp only [PyData.depthAll]
        exact (m1.mono (Nat.le_max_left _ _)).append (m2.mono (Nat.le_max_right _ _))
      · simp only [PyData.depthAll, PyData.shownAll]
        exact .cons ((k1.more fun b hb => List.mem_append_left _ hb).level_le (Nat.le_max_left _ _)) (k2.more_le (fun b hb => List.mem_append_right _ hb) (Nat.le_max_right _ _))
end
/-! ### the rule -/
def seqD : D → Bool
  | .list _ => true
  | .tuple _ => true
  | _ => false
def reprD (d : D) : Option D := if seqD d = true ∧ plainD d = true ∧ d.showable = true ∧ d.shown.length ≤ sizeLine ∧ d.depth ≤ 60 then some (.str d.shown) else none
theorem sem_repr_at (hg : X.A.guards = some []) (hu : X.A.units + 64 < cLine) {Q : VK} {v : V} {u : Value} (I : Inv X pins σ H s) (r : RelV v u) : ∀ (d d' : D), Rp X.K H Xs d v → reprD d = some d' → Q (.str d.shown) H →
    wpAny (model X.prog X.w) X.A (call (.builtin "repr") [u]) (EP X pins σ Q) X.xe s := by
  intro d d' h e q
  unfold reprD at e
  split at e
  · rename_i hc
    cases e
    obtain ⟨h1, h2, h3, h4, h5⟩ := hc
    cases d with
    | list ds =>
      obtain ⟨a, vs, ev, f, ra⟩ := h
      subst ev
      cases r
      obtain ⟨its, rv, ⟨o, n, ho, hc, _, hd⟩, _⟩ := I.list (SqL.of f.1)
      have hz' : (listText (PyData.shownAll ds)).length ≤ sizeLine := by simpa only [PyData.shown] using h4
      obtain ⟨as, bs, hr, hb, hk⟩ := RpA.shows I ds vs its ra rv (by simpa [plainD] using h2) (by simpa [PyData.showable] using h3) fun t ht => Nat.le_trans (listText_mem_le ht) hz'
      have rr : Reads s.heap (.ref a) (.list ds) (a :: as) := .list ho hc hd hr
      have deep : PyData.depthAll ds < (PyData.list ds).depth := by simp only [PyData.depth]; omega
      have fresh : a ∉ bs := not_mem_of_deeper rr deep hb
      have hdep : PyData.depthAll ds + 1 ≤ 60 := by simpa only [PyData.depth, Nat.add_comm] using h5
      simp only [PyData.shown] at q
      refine call_repr_slot (by omega) ⟨o, ho, hc⟩ F.slot_list_repr.toG ?_
      cases its with
      | nil =>
        cases hr
        simp only [PyData.shownAll, listText_nil] at q
        exact call_list_repr_empty ⟨o, ho, hc⟩ ho hd ⟨_, _, rfl, .str "[]", H, I.tok _, ⟨_, rfl⟩, q⟩
      | cons x l =>
        refine call_list_reprK ho hc hd fresh (by simpa using hk.length_eq) (fun i y e => hk.item i y (by simpa using e)) hg (fun b _ => Clear.nil b) (by show X.A.units + 1 + (PyData.depthAll ds + 1) < cLine; omega) (fun _ _ z => z) (fun h' u tk k => ⟨_, _, rfl, .str (listText (PyData.shownAll ds)), H, I.kept (t' := tk) k, ⟨_, rfl⟩, q⟩) hz'
    | tuple ds =>
      obtain ⟨a, vs, ev, f, ra⟩ := h
      subst ev
      cases r
      obtain ⟨its, rv, ⟨o, ho, hc, n, hd⟩, _⟩ := I.tuple f.sq
      have hz' : (tupleText (PyData.shownAll ds)).length ≤ sizeLine := by simpa only [PyData.shown] using h4
      obtain ⟨as, bs, hr, hb, hk⟩ := RpA.shows I ds vs its ra rv (by simpa [plainD] using h2) (by simpa [PyData.showable] using h3) fun t ht => Nat.le_trans (tupleText_mem_le ht) hz'
      have rr : Reads s.heap (.ref a) (.tuple ds) as := .tuple ho hc hd hr
      have deep : PyData.depthAll ds < (PyData.tuple ds).depth := by simp only [PyData.depth]; omega
      have fresh : a ∉ bs := not_mem_of_deeper rr deep hb
      have hdep : PyData.depthAll ds + 1 ≤ 60 := by simpa only [PyData.depth, Nat.add_comm] using h5
      simp only [PyData.shown] at q
      refine call_repr_slot (by omega) ⟨o, ho, hc⟩ F.slot_tuple_repr ?_
      exact call_tuple_reprK ho hc hd fresh hk hg (fun b _ => Clear.nil b) (by show X.A.units + 1 + (PyData.depthAll ds + 1) < cLine; omega) (fun _ _ z => z) (fun h' u tk k => ⟨_, _, rfl, .str (tupleText (PyData.shownAll ds)), H, I.kept (t' := tk) k, ⟨_, rfl⟩, q⟩) hz'
    | _ => simp [seqD] at h1
  · cases e
def rRepr (K : Fr) : List V → Hp → VK → Prop := fun xs H Q => ∃ v Xs d d', xs = [v] ∧ Rp K H Xs d v ∧ reprD d = some d' ∧ Q (.str d.shown) H
theorem call_repr (hg : X.A.guards = some []) (hu : X.A.units + 64 < cLine) : CallR X (.builtin "repr") (rRepr X.K) := by
  intro pins s σ H xs us Q I r h
  obtain ⟨v, Xs, d, d', rfl, p, e, q⟩ := h
  cases r with
  | cons rx rr =>
    cases rr
    exact sem_repr_at hg hu I rx d d' p e q
theorem se_repr {cl : Nat → Addr} {W : WX} {m : Bool} {e : Expr} {ev : Ev} {p pos : Pos} (hg : X.A.guards = some []) (hu : X.A.units + 64 < cLine) (hgl : Gl X "repr") (hm : X.mg "repr" = none) (ha : SE cl X W m e ev) (he : starEach [e] X.env = (false, eval e X.env) :: starEach [] X.env := by rfl) :
    SE cl X W m (.Call (.Name "repr" p) [e] [] pos) (ev1 reprD ev) :=
  pe_imp (pe_callB (call_repr hg hu) hgl hm (show bootBuiltins "repr" = some (.builtin "repr") by decide +kernel) (pa_cons ha pa_nil he) (by decide) (by decide) he) fun σ H Q ⟨fm, Xs, os, s, R, g⟩ => by
    unfold ev1 at g
    refine ⟨fm, Xs, os, s, R, ?_⟩
    cases q : ev s with
    | ok x s1 =>
      rw [q] at g
      simp only [Out.bind_ok] at g
      cases q3 : reprD x with
      | some d =>
        rw [q3] at g
        have ed : d = .str x.shown := by
          unfold reprD at q3
          split at q3
          · cases q3; rfl
          · cases q3
        subst ed
        exact fun v1 H1 r1 st1 p1 => ⟨v1, Xs, x, _, rfl, p1, q3, g _ H1 r1 st1 rfl⟩
      | none => rw [q3] at g; exact g.elim
    | exc c t s1 => rw [q] at g; exact g
    | no => rw [q] at g; exact g.elim
end
end Zo
/-! ZM: the law is called by the claim: its body at that one caller. -/
namespace Zo
open PySem PySem.Spec PyProof.Rows L2
/-- a def's body at one caller -/
theorem run_at {P : Program} {w : World} {K : Fr} {mg : Str → Option Value} {base : Heap} {k : Nat} {f : Addr} {x qual : Str} {st : Stmt} {fd : FuncData} {N ps : List Str} {A : Around} {outer : List Env} {s : Shared} {H : Hp} {Q : VK} {E : XK} {args : Args} {us : List Value} {vs : List V}
    (F : Fun K x qual st f fd) (S : FnScope N ps (defScope st)) (hr : Room (k + 1) A) (e0 : Env0 P w K mg base A outer s H) (hb : BindsTo s fd args (ps.zip us)) (rel : Vals vs us) (hl : vs.length = ps.length)
    (body : ∀ cdv : Value, ∃ t, PSs (cxOf (L2.CX P w) P w K mg base N qual (defScope st) f cdv A outer s H E) (defBody st) t ∧ t { nx := fun _ H' => Q .non H', rt := Q } (start N vs) H) :
    codeAny (model P w) A (.call (.ref f) args) (CR (L2.CX P w) outer P w H s Q E) s := by
  obtain ⟨oc, od, kV, doc, pm, an, cdv, ct, osl, rfl, lk, code⟩ := F.ex
  have kin : K.In s.heap := e0.mod.kin.keeps fun b o z => (e0.bs b o z).1
  have free : s.heap.NoLimit := e0.mod.nolimit.keeps fun b o z => (e0.bs b o z).1
  have local_ : ∀ y ∈ ps.zip us, (defScope st).names.lookup y.1 = some .local ∨ ((defScope st).names.lookup y.1 = some .cell ∧ ((cellsFrom (s.heap.objs.size + 1) (defScope st).names []).lookup y.1).isSome = true) := by
    rintro ⟨n, v⟩ hy
    exact (S.par n (List.of_mem_zip hy).1).imp id fun q => ⟨q, PySem.W.cellsFrom_some _ _ _ (.inl q)⟩
  refine codeAny_call_function hr.depth (kin _ _ lk) rfl S.co S.gen rfl (PySem.W.codeRec_of kin code) (hb _ _ _ _ ?_)
  refine wpAny_newFunctionEnv_cells S.kind local_ fun en hen s1 entered => ?_
  subst hen
  refine ⟨free.keeps entered.toInCall.keep, codeAny_func ?_⟩
  obtain ⟨t, run, start_⟩ := body cdv
  have inv : Inv (cxOf (L2.CX P w) P w K mg base N qual (defScope st) f cdv A outer s H E) [] (start N vs) H s1 := inv_start S hr.hd e0 hl rel entered
  refine wpAny_mono (run.run [] s1 (start N vs) H _ inv start_) (fun fl s2 done => ?_) fun _ _ z => z
  cases fl with
  | ret u =>
    obtain ⟨v, τ, G, J, rv, q⟩ := done
    exact ⟨v, G, J.os, J.bare, J.base, J.hok, rv, q⟩
  | next =>
    obtain ⟨τ, G, J, q⟩ := done
    exact ⟨.non, G, J.os, J.bare, J.base, J.hok, rfl, q⟩
  | brk =>
    obtain ⟨_, _, _, q⟩ := done
    exact q.elim
  | cont =>
    obtain ⟨_, _, _, q⟩ := done
    exact q.elim
/-- the law at its caller: what its body is run to, from any heap in which nothing but the script stands -/
theorem law_at {P : Program} {w : World} {K : Fr} {mg mb : Str → Option Value} {k : Nat} {fa a : Addr} {x qual par : Str} {st : Stmt} {fd : FuncData} {N : List Str} {t0 : Shared} {its : List Value} {ns : List Int}
    (kin : K.In t0.heap) (glo : t0.heap.Ns mainGlobals mg) (blt : t0.heap.Ns builtinsNs mb) (boots : ∀ x : Str, x ≠ "__name__" → mb x = bootBuiltins x) (free : t0.heap.NoLimit) (nogen : t0.gens = #[])
    (script : t0.heap.get? a = some { cls := .type "list", data := .seq its.toArray }) (areI : IntsAre its ns) (few : ns.length ≤ sizeLine) (hr : Room (k + 1) callerA)
    (F : Fun K x qual st fa fd) (S : FnScope N [par] (defScope st)) (bind : ∀ (s : Shared) (u : Value), BindsTo s fd ⟨[u], []⟩ [(par, u)])
    (body : ∀ (base : Heap) (H : Hp) (cdv : Value), K.In base → base.Ns mainGlobals mg → SqL K H a (ns.map V.int) →
      ∃ t, PSs (cxOf (L2.CX P w) P w K mg base N qual (defScope st) fa cdv callerA [] t0 H (fun _ _ _ => False)) (defBody st) t ∧ t { nx := fun _ _ => False, rt := fun v _ => v = .bl true } (start N [.ref a]) H) :
    codeAny (model P w) callerA (.call (.ref fa) ⟨[.ref a], []⟩) (fun r s' => r = .ok (.ret (.bool true)) ∧ OldK t0.heap s'.heap ∧ s'.os = t0.os ∧ AllBare s'.gens) t0 := by
  have rels := vals_ints areI
  have count := areI.length
  have go : ∀ H : Hp, (∀ b, H b = none ∨ (b = a ∧ ∃ o xs, H b = some (.frz o (.lst xs)))) → SqL K H a (ns.map V.int) → HOk P w H t0.heap → (H a ≠ none → K.lookup a = none) →
      codeAny (model P w) callerA (.call (.ref fa) ⟨[.ref a], []⟩) (fun r s' => r = .ok (.ret (.bool true)) ∧ OldK t0.heap s'.heap ∧ s'.os = t0.os ∧ AllBare s'.gens) t0 := by
    intro H one sq hok nk
    have atA : ∀ b, H b ≠ none → b = a := fun b z => (one b).elim (fun e => absurd e z) fun e => e.1
    have dictFree : ∀ {b : Addr} {o : Obj} {es : Array DictEntry} {ep : Nat}, t0.heap.get? b = some o → o.data = .dict es ep → H b = none := by
      intro b o es ep get data
      rcases one b with e | ⟨e, _⟩
      · exact e
      · rw [e, script] at get
        cases get
        cases (show Data.seq its.toArray _ = Data.dict es ep from data)
    have names : ∀ {b : Addr} {m : Str → Option Value}, t0.heap.Ns b m → (hidT t0.heap H).Ns b m := by
      rintro b m ⟨o, es, ep, get, data, rest⟩
      exact ⟨o, es, ep, hidT_get get (dictFree get data), data, rest⟩
    have kinB : K.In (hidT t0.heap H) := fun b o z => hidT_get (kin b o z) (by
      rcases one b with e | ⟨e, o', xs, h⟩
      · exact e
      · subst e
        rw [nk (by rw [h]; simp)] at z
        cases z)
    have md : Mod K mg (hidT t0.heap H) := ⟨kinB, names glo, ⟨mb, names blt, boots⟩, let ⟨mc, c1, c2⟩ := free; ⟨mc, names c1, c2⟩⟩
    have env : Env0 P w K mg (hidT t0.heap H) callerA [] t0 H := ⟨rfl, md, fun _ _ z => of_hidT z, Nat.le_of_eq (hidT_size _ _), trivial, fun b z => absurd (show b ∈ ([] : List Addr) from z) (by simp), hok, .of_eq nogen⟩
    refine codeAny_mono (run_at (Q := fun v _ => v = .bl true) (E := fun _ _ _ => False) (us := [.ref a]) (vs := [.ref a]) F S hr env (bind t0 (.ref a)) (.cons rfl .nil) rfl fun cdv => ?_) fun r s' done => ?_
    · obtain ⟨t, ps, q⟩ := body (hidT t0.heap H) H cdv kinB (names glo) sq
      refine ⟨t, ps, ?_⟩
      have e : (fun (_ : L2.St) (H' : Hp) => (fun (v : V) (_ : Hp) => v = V.bl true) V.non H') = fun _ _ => False := by
        funext _ _
        simp
      rw [e]
      exact q
    cases r with
    | error e =>
      obtain ⟨_, _, _, _, _, _, _, _, _, _, _, _, z⟩ := done
      exact z.elim
    | ok fl =>
      cases fl with
      | next => exact done.elim
      | brk => exact done.elim
      | cont => exact done.elim
      | ret u =>
        obtain ⟨v, G, sameOs, bare, un, hok2, ru, q⟩ := done
        have q2 : v = .bl true := q
        subst q2
        obtain rfl : u = Value.bool true := ru
        refine ⟨rfl, OldK.of_keep fun b o get => ?_, sameOs, bare⟩
        rcases one b with e | ⟨_, ob, xs, e⟩
        · exact un.keep b o get e (fun z => absurd (show b ∈ ([] : List Addr) from z) (by simp)) (by simp)
        · obtain ⟨g1, _⟩ := hok b _ e
          obtain ⟨g2, _⟩ := hok2 b _ (un.frzs b ob _ e)
          rw [get] at g1
          cases g1
          exact g2
  cases inK : K.lookup a with
  | some o =>
    have get := kin a o inK
    rw [script] at get
    cases get
    exact go (fun _ => none) (fun _ => .inl rfl) (.inr ⟨_, its.toArray, _, inK, rfl, rfl, rfl, by rw [List.size_toArray, count]; exact few, by simpa using rels⟩) (fun b u z => by cases (show (none : Option HO) = some u from z)) fun z => absurd rfl z
  | none =>
    refine go (fun b => if b = a then some (.frz { cls := .type "list", data := .seq its.toArray } (.lst (ns.map V.int))) else none) (fun b => ?_) (.inl (.inr ⟨{ cls := .type "list", data := .seq its.toArray }, if_pos rfl⟩)) (fun b u z => ?_) fun _ => inK
    · by_cases e : b = a
      · exact .inr ⟨e, _, _, if_pos e⟩
      · exact .inl (if_neg e)
    · by_cases e : b = a
      · cases (if_pos e).symm.trans z
        subst e
        exact ⟨script, by rw [List.length_map]; exact few, its, _, rels, script⟩
      · cases (if_neg e).symm.trans z
/-- the goal that k_head leaves, from the law's body -/
theorem law_walk {l : PySem.W.OpenLaw} {n k : Nat} {q : Program} {loose : List Str} {XP : (Str → Option Value) → Heap → Prop} {YP : World → Heap → Prop} {d : DefRec} {K : Params → Fr} {x qual par : Str} {st : Stmt} {N : List Str}
    (hn : l.most = some n) (hn2 : n ≤ sizeLine) (hdf : d.params.defaults = []) (hr : Room (k + 1) callerA) (S : FnScope N [par] (defScope st))
    (hY : ∀ (w : World) (h : Heap), YP w h → (K w.params).In h)
    (F : ∀ (w : World) (mg : Str → Option Value) (fa : Addr) (h : Heap), (K w.params).In h → h.Ns mainGlobals mg → mg d.name = some (.ref fa) →
      ∃ fd : FuncData, Fun (K w.params) x qual st fa fd ∧ (∀ (s : Shared) (u : Value), BindsTo s fd ⟨[u], []⟩ [(par, u)]) ∧
        ∀ (base : Heap) (s : Shared) (H : Hp) (cdv : Value) (a : Addr) (ns : List Int), ns.length ≤ n → (K w.params).In base → base.Ns mainGlobals mg → SqL (K w.params) H a (ns.map V.int) →
          ∃ t, PSs (cxOf (L2.CX l.prog w) l.prog w (K w.params) mg base N qual (defScope st) fa cdv callerA [] s H (fun _ _ _ => False)) (defBody st) t ∧ t { nx := fun _ _ => False, rt := fun v _ => v = .bl true } (start N [.ref a]) H) :
    PySem.W.WalkO q loose XP YP l.row.toRowW d [] (fun f vs => PySem.call f vs) := by
  refine Att.attach_call hn hdf fun w s₀ t0 mg mb fa o pm cd doc a its ns G Y ho hd hcd hmg script areI few nogen => ?_
  have kin := hY w _ Y
  obtain ⟨fd, F1, bind, body⟩ := F w mg fa _ kin G.T.g hmg
  exact law_at kin G.T.g G.T.b G.T.builtins G.T.nolimit nogen script areI (Nat.le_trans few hn2) hr F1 S bind fun base H cdv kb nb sq => body base t0 H cdv a ns few kb nb sq
end Zo
/-! ZN: the deck is made, and the law goes on with it. -/
namespace Zo
open PySem PySem.Spec PyProof.Rows L2
abbrev sBegun : Stmt := top 26
def mixF (m c : Int) : Int := (m * 48271 + c % 2147483629 + 37) % 2147483587
/-- _law_begun(script, salt) -/
def begun (ns : List Int) (salt : Int) : Dk := ⟨(ns.take 63).reverse, (ns.take 63).foldl mixF salt, 0⟩
def spBegun (K : Fr) : Sp := fun vs H Q _ => ∃ (a : Addr) (salt : Int) (ns : List Int), vs = [.ref a, .int salt] ∧ SqL K H a (ns.map V.int) ∧ ∀ kd kc H', Stay [] H H' → H kd = none → H kc = none → DkAt H' kd kc (begun ns salt) → Q (.ref kd) H'
theorem mergeDk (kc : Addr) (m : Int) : mergeK [] (dkv kc m 0) = dkv kc m 0 := by
  have n1 : ¬ (Str.ofString "turn" = Str.ofString "cells") := fun e => ne_ct e.symm
  have n2 : ¬ (Str.ofString "turn" = Str.ofString "mixed") := fun e => ne_mt e.symm
  have n3 : ¬ (Str.ofString "mixed" = Str.ofString "cells") := fun e => ne_cm e.symm
  simp [mergeK, putK, dkv, ne_ct, ne_mt, ne_cm, n1, n2, n3]
theorem cutI (ns : List Int) : cutV (ns.map V.int) none (some 63) = (ns.take 63).map V.int := by
  unfold cutV
  have h0 : HT.sIx (ns.map V.int).length 0 none = 0 := rfl
  rw [h0, List.drop_zero, List.map_take, Nat.sub_zero]
  have h1 : HT.sIx (ns.map V.int).length (ns.map V.int).length (some 63) = min 63 (ns.map V.int).length := by
    simp [HT.sIx]
  rw [h1]
  by_cases h : (ns.map V.int).length ≤ 63
  · rw [Nat.min_eq_right h, List.take_of_length_le (Nat.le_refl _), List.take_of_length_le h]
  · rw [Nat.min_eq_left (by omega)]
theorem fold_take {ns : List Int} {i : Nat} {c : Int} {m : Int} (h : ns[i]? = some c) : (ns.take (i + 1)).foldl mixF m = mixF ((ns.take i).foldl mixF m) c := by
  have hi := (List.getElem?_eq_some_iff.mp h)
  obtain ⟨hl, e⟩ := hi
  rw [List.take_succ_eq_append_getElem hl, List.foldl_append, e]
  rfl
theorem scBegun : FnScope ["script", "salt", "cells", "mixed", "cell"] ["script", "salt"] (defScope sBegun) := ⟨rfl, rfl, rfl, by decide +kernel, rfl, by decide +kernel, by decide +kernel⟩
theorem ok_begun {P : Program} {w : World} {K : Fr} {mg : Str → Option Value} {base : Heap} {f : Addr} {fd : FuncData} {k : Nat} (F : Fun K "_law_begun" "_law_begun" sBegun f fd) (mlist : mg "list" = none) : FnOk P w K mg base (L2.CX P w) (k + 1) f fd ["script", "salt"] (spBegun K) := by
  refine F.okX scBegun (fun vs H Q E h => ?_) fun cdv A outer s H vs Q E hr h => ⟨_, pss_cons (ps_par (i := 2) (j := 3) rfl scBegun.nd rfl rfl (by decide) rfl rfl (pa_cons (pe_callTy call_list_of rfl mlist PyProof.Rows.boot_list (pa_cons (pe_slice sl_list (pv 0) po_none (po_some pe_int)) pa_nil)) (pa_cons (pv 1) pa_nil)) rfl)
      (pss_cons (ps_for (passes_of rfl) rfl (pi_list (pv 2)) (pg_name (i := 4) scBegun.nd rfl (Or.inl rfl)) (pss_one (ps_set (i := 3) scBegun.nd rfl (Or.inl rfl) (pe_op op_mod (pe_op op_add (pe_op op_add (pe_op op_mul (pv 3) pe_int) (pe_op op_mod (pv 4) pe_int)) pe_int) pe_int))))
      (pss_one (ps_ret (pe_disp (pps_cons pe_str (pe_revL (pv 2)) (pps_cons pe_str (pv 3) (pps_cons pe_str pe_int pps_nil))) rfl rfl (by simp) (by simp))))), ?_⟩
  · obtain ⟨a, salt, ns, rfl, _⟩ := h
    rfl
  · obtain ⟨a, salt, ns, rfl, hS, q⟩ := h
    refine ⟨_, rfl, ⟨63, rfl, a, _, rfl, hS, fun p hp => ⟨p, _, rfl, .inl (SqL.of upd_same), fun c hc => ?_⟩⟩⟩
    rw [cutI] at hc ⊢
    have st1 : Stay [] H (upd H p (.lst ((ns.take 63).map V.int))) := Stay.laid hp
    generalize hH1 : upd H p (.lst ((ns.take 63).map V.int)) = H1 at *
    have st2 : Stay [] H (upd H1 c (.lst ((ns.take 63).map V.int))) := st1.trans (Stay.laid hc)
    have hc0 : H c = none := by
      cases e : H c with
      | none => rfl
      | some o => rw [st1 c o e (by simp)] at hc; cases hc
    have hcc : (upd H1 c (.lst ((ns.take 63).map V.int))) c = some (.lst ((ns.take 63).map V.int)) := upd_same
    generalize hH2 : upd H1 c (.lst ((ns.take 63).map V.int)) = H2 at *
    refine ⟨_, rfl, _, _, rfl, ?_⟩
    refine ⟨_, rfl, c, rfl, ⟨_, SqL.of hcc⟩, for_list (K := K) (a := c) (xs := (ns.take 63).map V.int) (fun i σ H' => ∃ v : Option V, σ = [some (.ref a), some (.int salt), some (.ref c), some (.int (((ns.take 63).take i).foldl mixF salt)), v] ∧ H' = H2)
      ⟨none, rfl, rfl⟩ (fun i σ H' _ ⟨_, _, e⟩ => by rw [e]; exact SqL.of hcc) ?_ ?_⟩
    · rintro i y σ H' hi ⟨v, rfl, rfl⟩
      rw [List.getElem?_map] at hi
      obtain ⟨z, hz, ez⟩ := Option.map_eq_some_iff.mp hi
      subst ez
      refine g_op (g_op0 (g_op0 (g_op (g_var rfl) (g_c _) (cmul2 (by decide) (by decide))) (g_op (g_var rfl) (g_c _) (by decide))) (g_c _)) (g_c _) (by decide) _ ?_
      refine ⟨some (.int z), ?_, rfl⟩
      rw [fold_take hz]
      rfl
    · rintro σ H' ⟨v, rfl, rfl⟩
      rw [List.length_map, List.take_length]
      intro kd hkd
      refine ⟨_, rfl, c, _, rfl, SqL.of (show (upd H' kd (.dK [])) c = some (.lst ((ns.take 63).map V.int)) from ?_), fun kc hkc => ?_⟩
      · rw [upd_ne (ne_of_none hcc hkd)]; exact hcc
      have nkc : kc ≠ kd := fun e => by rw [e, upd_same] at hkc; cases hkc
      have hkc0 : H' kc = none := by rw [upd_ne nkc] at hkc; exact hkc
      have back : ∀ b, H' b = none → H b = none := fun b e => by
        cases z : H b with
        | none => rfl
        | some o => rw [st2 b o z (by simp)] at e; cases e
      refine ⟨_, rfl, ?_⟩
      refine ⟨by rw [upd_ne (Ne.symm nkc)]; exact upd_same, dkv kc (((ns.take 63)).foldl mixF salt) 0, rfl, (show 3 ≤ 15 by decide), ?_⟩
      rw [mergeDk]
      refine q kd kc _ ?_ (back _ hkd) (back _ hkc0) ⟨Ne.symm nkc, upd_same, ?_, ?_⟩
      · intro b o e _
        have h2 := st2 b o e (by simp)
        have n1 : b ≠ kd := ne_of_none h2 hkd
        have n2 : b ≠ kc := ne_of_none h2 hkc0
        rw [upd_ne n1, upd_ne n2, upd_ne n1]
        exact h2
      · rw [upd_ne nkc, upd_same, ← List.map_reverse]
        rfl
      · show (ns.take 63).reverse.length ≤ 1000
        rw [List.length_reverse, List.length_take]
        omega
end Zo
/-! ZO: calls by keywords, chains, -, {}, sorted. -/
namespace Zo
open PySem PySem.Spec PyProof.Rows L2
/-! ### f(k = v, ..) -/
def pick {α : Type} (ix : List Nat) (l : List α) : List α := ix.filterMap fun i => l[i]?
theorem pick_rp {K : Fr} {H : Hp} {Xs : List Addr} {ds : List D} {vs : List V} (h : RpA K H Xs ds vs) : ∀ ix : List Nat, RpA K H Xs (pick ix ds) (pick ix vs)
  | [] => rfl
  | i :: ix => by
    have ih := pick_rp h ix
    unfold pick at ih ⊢
    cases e : ds[i]? with
    | some d =>
      obtain ⟨v, ev, pv⟩ := h.get e
      rw [List.filterMap_cons_some e, List.filterMap_cons_some ev]
      exact ⟨v, _, rfl, pv, ih⟩
    | none =>
      have ev : vs[i]? = none := by
        have := List.getElem?_eq_none_iff.mp e
        exact List.getElem?_eq_none_iff.mpr (by rw [h.len]; exact this)
      rw [List.filterMap_cons_none e, List.filterMap_cons_none ev]
      exact ih
theorem pick_vals {vs : List V} {us : List Value} (h : Vals vs us) : ∀ ix : List Nat, Vals (pick ix vs) (pick ix us)
  | [] => .nil
  | i :: ix => by
    have ih := pick_vals h ix
    unfold pick at ih ⊢
    cases e : vs[i]? with
    | some d =>
      obtain ⟨v, ev, pv⟩ := h.get e
      rw [List.filterMap_cons_some e, List.filterMap_cons_some ev]
      exact .cons pv ih
    | none =>
      have ev : us[i]? = none := by
        have := List.getElem?_eq_none_iff.mp e
        exact List.getElem?_eq_none_iff.mpr (by rw [← h.length]; exact this)
      rw [List.filterMap_cons_none e, List.filterMap_cons_none ev]
      exact ih
/-- how a call by keywords alone binds -/
def KwB (fd : FuncData) (ps ks : List Str) (ix : List Nat) : Prop := ∀ (s : Shared) (ws : List Value), ws.length = ks.length → BindsTo s fd ⟨[], ks.zip ws⟩ (ps.zip (pick ix ws))
theorem kwB_of {K : Fr} {x qual : Str} {st : Stmt} {f : Addr} {fd : FuncData} {ps ks : List Str} {ix : List Nat} (F : Fun K x qual st f fd)
    (h : ∀ (kV doc pm : Value) (an : Option Addr) (cdv ct : Value) (ws : List Value), ws.length = ks.length → bindArgs (PySem.W.fnOf x qual (defArgs st) (defBody st) (defScope st) .none kV doc pm an cdv ct) ⟨[], ks.zip ws⟩ = pure (ps.zip (pick ix ws))) : KwB fd ps ks ix := by
  obtain ⟨oc, od, kV, doc, pm, an, cdv, ct, osl, rfl, lk, hcd⟩ := F.ex
  exact fun s ws hw => .of_eq (h kV doc pm an cdv ct ws hw)
abbrev SK (cl : Nat → Addr) (X : Cx) (W : WX) (m : Bool) (kws : List Keyword) (ev : Evs) : Prop := PK X kws (tA X.K cl W m ev)
section
variable {cl : Nat → Addr} {X : Cx} {W : WX} {m : Bool} {e : Expr} {ev : Ev} {evs : Evs} {kws : List Keyword} {k n : Nat} {f : Addr} {fd : FuncData} {ps ks : List Str} {x : Str} {p pos kpos : Pos} {nm : Option Str}
theorem pk_imp {t t' : TA} (h : PK X kws t) (i : ∀ σ H Q, t' σ H Q → t σ H Q) : PK X kws t' := ⟨fun pos pins s σ H Q I q => h.run pos pins s σ H Q I (i σ H Q q)⟩
theorem sk_nil : SK cl X W m [] evNil := pk_imp pk_nil fun σ H Q ⟨fm, Xs, os, s, r, g⟩ => g [] H r (Stay.refl _ _) rfl
theorem sk_cons (h : SE cl X W m e ev) (hs : SK cl X W m kws evs) : SK cl X W m (⟨nm, e, kpos⟩ :: kws) (evCons ev evs) :=
  pk_imp (pk_cons h hs) fun σ H Q ⟨fm, Xs, os, s, r, g⟩ => by
    unfold evCons at g
    refine ⟨fm, Xs, os, s, r, ?_⟩
    cases q : ev s with
    | ok d s1 =>
      rw [q] at g
      simp only [Out.bind_ok] at g
      refine fun v H1 r1 st1 p1 => ⟨fm, Xs, os, s1, r1, ?_⟩
      cases q2 : evs s1 with
      | ok ds s2 =>
        rw [q2] at g
        refine fun vs H2 r2 st2 p2 => g (v :: vs) H2 r2 (st1.trans st2) ⟨v, vs, rfl, Rp.stay st2 r1.sx d v p1, p2⟩
      | exc c t s2 => rw [q2] at g; exact g
      | no => rw [q2] at g; exact g.elim
    | exc c t s1 => rw [q] at g; exact g
    | no => rw [q] at g; exact g.elim
def evCallK (f : List D → Ro) (ix : List Nat) (as : Evs) : Ev := fun s => (as s).bind fun ds s1 => ofRo (f (pick ix ds)) s1
theorem se_callK {g : List D → Ro} {ix : List Nat} (F : FnOk X.prog X.w X.K X.mg X.base (L2.CX X.prog X.w) k f fd ps (spP X.K cl n g)) (hr : Room k X.A) (hg : Gl X x) (hm : X.mg x = some (.ref f)) (hk : PySem.W.keepIn X.K (.ref f) = true) (hb : KwB fd ps ks ix) (tk : Takes X W)
    (ha : SK cl X W m kws evs) (hl : ks.length = kws.length) (hn : ∀ s ds s1, evs s = .ok ds s1 → (pick ix ds).length = n ∧ ds.length = ks.length) (hall : (backToKw pos (keywordEach kws X.env)).all (·.1.isSome) = true := by rfl) (hks : (backToKw pos (keywordEach kws X.env)).filterMap (·.1) = ks := by rfl)
    (hdb : (x == ("__debug__" : Str)) = false := by decide) (hpl : ((backTo pos (starEach [] X.env)).any (·.1) || (backToKw pos (keywordEach kws X.env)).any (·.1.isNone)) = false := by rfl) :
    SE cl X W m (.Call (.Name x p) [] kws pos) (evCallK g ix evs) := by
  refine ⟨fun pins s σ H Q I h => ?_⟩
  obtain ⟨fm, Xs, os, ms, R, h⟩ := h
  refine wpAny_Call_Name_kw (ld_glob I hg hm ?_ hdb)
  refine PySem.W.callWith_KW0 (h₀ := X.base) I.ok.mod.kin hk hall ?_ hpl
  refine thn (ha.run pos pins s σ H (fun zs H2 => ∃ ds s1, zs.length = ks.length ∧ RpA X.K H2 Xs ds zs ∧ evs ms = .ok ds s1 ∧ Rel X.K fm Xs os s1 σ H2 ∧ Stay (Mu fm.dka os m) H H2) I ⟨fm, Xs, os, ms, R, ?_⟩) fun ws s2 hh => ?_
  · unfold evCallK at h
    cases q : evs ms with
    | ok ds s1 => exact fun vs H1 r1 st1 ra => ⟨ds, s1, by rw [ra.len, (hn _ _ _ q).2], ra, rfl, r1, st1⟩
    | exc c t s1 => rw [q] at h; exact h
    | no => rw [q] at h; exact h.elim
  · obtain ⟨zs, H2, I2, rz, ds, s1, hz, ra, q, r1, st1⟩ := hh
    refine ⟨I2.kIn, ?_⟩
    rw [hks]
    unfold evCallK at h
    rw [q] at h
    simp only [Out.bind_ok] at h
    have sp := GoodE.call (cl := cl) (m := m) (W := W) (n := n) r1 st1 (pick_rp ra ix) (hn _ _ _ q).1 h
    have hw : ws.length = ks.length := by rw [← rz.length]; exact hz
    refine wpAny_call (codeAny_mono (F.run X.A X.stack s2 H2 ⟨[], ks.zip ws⟩ (pick ix ws) (pick ix zs) Q (WE W σ) hr I2.env0 (hb s2 ws hw) (pick_vals rz ix) sp) fun r s' done => ?_)
    cases r with
    | error er => exact passAt tk σ pins H2 s2 er s' I2 done
    | ok fl =>
      cases fl with
      | ret u => exact I2.after done
      | next => exact done.elim
      | brk => exact done.elim
      | cont => exact done.elim
/-! ### chains -/
theorem se_chain {op op' : CmpOp} {r r' : R2} {f f' : D → D → Option D} {ea eb ec : Expr} {a b c : Ev} (ho : OpR X (compareOp op) r) (hs : OpSem X r f) (ho' : OpR X (compareOp op') r') (hs' : OpSem X r' f') (ha : SB cl X W m ea a) (hb : SB cl X W true eb b) (hc : SB cl X W true ec c)
    (hm : lastMarks [op, op'] [eb, ec] = false := by with_unfolding_all rfl) : SE cl X W m (.Compare ea [op, op'] [eb, ec] pos) (evChain f f' a b c) :=
  pe_imp (pe_chain ho ho' ha hb hc hm) fun _ _ _ h => tChain_sem hs hs' h
theorem st_chain {op op' : CmpOp} {r r' : R2} {f f' : D → D → Option D} {ea eb ec : Expr} {a b c : Ev} (ho : OpR X (compareOp op) r) (hs : OpSem X r f) (ho' : OpR X (compareOp op') r') (hs' : OpSem X r' f') (ha : SB cl X W m ea a) (hb : SB cl X W true eb b) (hc : SB cl X W true ec c)
    (hm : lastMarks [op, op'] [eb, ec] = false := by with_unfolding_all rfl) : STt cl X W m (.Compare ea [op, op'] [eb, ec] pos) (evT (evChain f f' a b c)) :=
  pt_imp (pt_chain ho ho' ha hb hc hm) fun _ _ _ h => tChain_sem hs hs' (tT_of h)
/-! ### - -/
def negD : D → Option D
  | .int i => some (.int (-i))
  | _ => none
theorem se_neg (h : SB cl X W m e ev) : SE cl X W m (.UnaryOp .USub e pos) (ev1 negD ev) := pe_imp (pe_un un_neg h) fun σ H Q ⟨fm, Xs, os, s, R, g⟩ => by
  unfold ev1 at g
  refine ⟨fm, Xs, os, s, R, ?_⟩
  cases q : ev s with
  | ok d s1 =>
    rw [q] at g
    simp only [Out.bind_ok] at g
    cases d with
    | int i => exact fun v H1 r1 st1 p1 => ⟨i, p1.int, g _ H1 r1 st1 rfl⟩
    | _ => exact g.elim
  | exc c t s1 => rw [q] at g; exact g
  | no => rw [q] at g; exact g.elim
/-! ### {} -/
theorem se_dict0 : SE cl X W m (.Dict [] [] pos) (evLit (.dict [])) := pe_imp pe_dnewK fun σ H Q ⟨fm, Xs, os, s, R, g⟩ => fun p hp =>
  g (.ref p) _ (R.laid hp) (Stay.laid hp) ⟨p, [], rfl, upd_same, R.nx hp, rfl⟩
/-! ### sorted: texts -/
def strsOf : List D → Option (List Str)
  | [] => some []
  | .str x :: ds => (strsOf ds).map fun xs => x :: xs
  | _ => none
theorem strsOf_rp {K : Fr} {H : Hp} {Xs : List Addr} : ∀ {ds : List D} {vs : List V} {xs : List Str}, RpA K H Xs ds vs → strsOf ds = some xs → vs = xs.map V.str
  | [], _, _, h, e => by cases h; cases e; rfl
  | d :: ds, _, xs, h, e => by
    obtain ⟨v, r, e1, p, q⟩ := h
    subst e1
    cases d with
    | str x =>
      obtain ⟨ys, e2, e3⟩ := Option.map_eq_some_iff.mp e
      subst e3
      have := strsOf_rp q e2
      subst this
      have ev : v = .str x := p
      subst ev
      rfl
    | _ => cases e
theorem strs_rp {K : Fr} {H : Hp} {Xs : List Addr} : ∀ xs : List Str, RpA K H Xs (xs.map PyData.str) (xs.map V.str)
  | [] => rfl
  | x :: xs => ⟨_, _, rfl, rfl, strs_rp xs⟩
def leS (a b : Str) : Bool := !decide (b.cps.toList < a.cps.toList)
def sortD : D → Option (List D)
  | .list ds => match strsOf ds with
    | some xs => if xs.length < 64 then some ((xs.mergeSort leS).map PyData.str) else none
    | none => none
  | _ => none
theorem leS_trans (a b c : Str) (h : leS a b = true) (k : leS b c = true) : leS a c = true := by
  simp only [leS, Bool.not_eq_true', decide_eq_false_iff_not, List.not_lt] at *
  exact List.le_trans h k
theorem leS_total (a b : Str) : (leS a b || leS b a) = true := by
  simp only [leS, Bool.or_eq_true, Bool.not_eq_true', decide_eq_false_iff_not, List.not_lt]
  exact (List.le_total b.cps.toList a.cps.toList).symm
theorem leS_anti (a b : Str) (h : leS a b = true) (k : leS b a = true) : a = b := by
  simp only [leS, Bool.not_eq_true', decide_eq_false_iff_not, List.not_lt] at *
  obtain ⟨x⟩ := a
  obtain ⟨y⟩ := b
  congr 1
  exact Array.ext' (List.le_antisymm h k)
theorem rising_leS : ∀ (p : Str) (l : List Str), PyProof.Rows.risingS p l = true → (p :: l).Pairwise fun a b => leS a b = true
  | p, [], _ => by simp
  | p, x :: r, h => by
    unfold PyProof.Rows.risingS at h
    rw [Bool.and_eq_true] at h
    have ih := rising_leS x r h.2
    have hx : leS p x = true := by
      unfold leS
      rw [← PyProof.Rows.ltCps_eq]
      exact h.1
    refine List.pairwise_cons.mpr ⟨fun b hb => ?_, ih⟩
    rcases List.mem_cons.mp hb with rfl | hb
    · exact hx
    · exact leS_trans _ _ _ hx ((List.pairwise_cons.mp ih).1 b hb)
theorem sorted_one {ys xs : List Str} (hp : ys.Perm xs) (hs : PyProof.Rows.sortedS ys = true) : ys = xs.mergeSort leS := by
  have h1 : ys.Pairwise fun a b => leS a b = true := by
    cases ys with
    | nil => simp
    | cons y ys => exact rising_leS y ys hs
  have h2 := List.pairwise_mergeSort (le := leS) leS_trans leS_total xs
  exact List.Perm.eq_of_pairwise (le := fun a b => leS a b = true) (fun a b _ _ => leS_anti a b) h1 h2 (hp.trans (List.mergeSort_perm xs leS).symm)
theorem sem_sorted : CallSemL X (rSortedS X.K) sortD := by
  intro fm Xs os s σ H d ds v Q R p e q
  cases d with
  | list xs =>
    simp only [sortD] at e
    cases q1 : strsOf xs with
    | none => rw [q1] at e; cases e
    | some ys =>
      rw [q1] at e
      dsimp only at e
      split at e
      · rename_i hl
        cases e
        obtain ⟨a, vs, ev, ha, ra⟩ := p.list
        subst ev
        have e3 := strsOf_rp ra q1
        subst e3
        refine ⟨a, ys, rfl, SqL.of ha, hl, fun zs p hz hs hp => ?_⟩
        have := sorted_one hz hs
        subst this
        exact q p _ hp (strs_rp _)
      · cases e
  | _ => cases e
end
end Zo
/-! ZP: constants of the module; the law's first row. -/
namespace Zo
open PySem PySem.Spec PyProof.Rows L2
/-- the module's constant x is d -/
def GCon (K : Fr) (mg : Str → Option Value) (x : Str) (d : D) : Prop := ∃ u v, mg x = some u ∧ L2.RelV v u ∧ ∀ H Xs, Rp K H Xs d v
theorem gcon_str {K : Fr} {mg : Str → Option Value} {x y : Str} {t : Tok} (h : mg x = some (.str y t)) : GCon K mg x (.str y) := ⟨_, .str y, h, ⟨t, rfl⟩, fun _ _ => rfl⟩
theorem gcon_int {K : Fr} {mg : Str → Option Value} {x : Str} {i : Int} {t : Tok} (h : mg x = some (.int i t)) : GCon K mg x (.int i) := ⟨_, .int i, h, ⟨t, rfl⟩, fun _ _ => rfl⟩
/-- the values of texts -/
inductive StrsAre : List Value → List Str → Prop
  | nil : StrsAre [] []
  | cons (x : Str) (t : Tok) {us : List Value} {xs : List Str} : StrsAre us xs → StrsAre (.str x t :: us) (x :: xs)
theorem StrsAre.vals : ∀ {us : List Value} {xs : List Str}, StrsAre us xs → L2.Vals (xs.map V.str) us
  | _, _, .nil => .nil
  | _, _, .cons x t r => .cons ⟨t, rfl⟩ r.vals
theorem gcon_strs {K : Fr} {mg : Str → Option Value} {x : Str} {a : Addr} {dd : Option Addr} {us : List Value} {xs : List Str} {n : Nat} {sl : Array (Option Value)} (h : mg x = some (.ref a)) (hk : K.lookup a = some ⟨.type "tuple", dd, .seq us.toArray n, sl⟩) (r : StrsAre us xs) (hz : us.length ≤ 1000 := by decide) : GCon K mg x (.tuple (xs.map .str)) := by
  refine ⟨_, .ref a, h, rfl, fun H Xs => ⟨a, xs.map V.str, rfl, .inr (.inr ⟨_, us.toArray, n, hk, rfl, rfl, ?_, ?_⟩), strs_rp xs⟩⟩
  · rw [List.size_toArray]; exact size1000 hz
  · simpa using r.vals
section
variable {cl : Nat → Addr} {X : Cx} {W : WX} {m : Bool} {x : Str} {pos : Pos} {d : D}
theorem se_glob (h : GCon X.K X.mg x d) (hg : Gl X x) (hd : (x == ("__debug__" : Str)) = false := by decide) : SE cl X W m (.Name x pos) (evLit d) := by
  obtain ⟨u, v, hm, r, p⟩ := h
  exact se_const (pe_glob hg hm r hd) p
end
/-- the state behind the law's first row -/
def lawMs (n : Nat) (k : Dk) : Ms := ⟨.un :: .deck :: List.replicate n .un, k, false⟩
theorem law_body {P : Program} {w : World} {K : Fr} {mg : Str → Option Value} {base : Heap} {cl : Nat → Addr} {N : List Str} {qual : Str} {sc : Scope} {fa a : Addr} {cdv : Value} {A : Around} {s : Shared} {H : Hp} {E : XK} {s0 : Stmt} {rest : List Stmt} {run : Ex} {salt : Int} {ns : List Int} {n : Nat}
    (sq : SqL K H a (ns.map V.int)) (hN : N.length = n + 2)
    (h0 : PS (cxOf (L2.CX P w) P w K mg base N qual sc fa cdv A [] s H E) s0 (tAsg (tCallS (spBegun K) (WE W0) (tCons (tVar 0) (tCons (tC (.int salt)) tNil))) (gName 1)))
    (hs : SSs cl (cxOf (L2.CX P w) P w K mg base N qual sc fa cdv A [] s H E) W0 rest run) (hrun : ∃ s', run (lawMs n (begun ns salt)) = .ok (.rt (.bool true)) s') :
    ∃ t, PSs (cxOf (L2.CX P w) P w K mg base N qual sc fa cdv A [] s H E) (s0 :: rest) t ∧ t { nx := fun _ _ => False, rt := fun v _ => v = .bl true } (start N [.ref a]) H := by
  refine ⟨_, pss_cons h0 hs, ?_⟩
  have h1 : (start N [.ref a])[0]? = some (some (.ref a)) := rfl
  refine ⟨_, h1, a, salt, ns, rfl, sq, fun kd kc H' st n1 n2 dk => ?_⟩
  obtain ⟨s', q⟩ := hrun
  refine ⟨⟨H', [kd, kc], some (kd, kc), []⟩, [kd, kc], [], lawMs n (begun ns salt), ?_, ?_⟩
  · have hl : (start N [V.ref a]).length = n + 2 := by
      rw [start_len (by rw [hN]; simp), hN]
    obtain ⟨d1, d2, d3, d4⟩ := dk
    exact {
      len := by
        show (Sv.un :: Sv.deck :: List.replicate n Sv.un).length = _
        rw [List.length_set, hl]
        simp
      slot := fun i sv e => by
        match i with
        | 0 => cases e; trivial
        | 1 =>
          cases e
          exact ⟨kd, kc, rfl, getD_set_self (by rw [hl]; omega)⟩
        | i + 2 =>
          have e' : (List.replicate n Sv.un)[i]? = some sv := e
          rw [List.getElem?_replicate] at e'
          split at e'
          · cases e'; trivial
          · cases e'
      nd := by simp
      sub := fun p hp => absurd hp (by simp)
      lv := fun p hp => absurd hp (by simp)
      x0 := fun a h => h
      x1 := fun b hb => by
        simp only [List.mem_cons, List.not_mem_nil, or_false] at hb
        show H' b ≠ none
        rcases hb with rfl | rfl
        · rw [d2]; simp
        · rw [d3]; simp
      xt := fun b hb => by
        simp only [List.mem_cons, List.not_mem_nil, or_false] at hb
        rcases hb with rfl | rfl
        · rw [d2]; simp
        · rw [d3]; simp
      dks := fun b hb => hb
      dk := fun kd kc e => by cases e; exact ⟨d1, d2, d3, d4⟩
      ent := Stay.refl _ _
      one := fun e => by cases e
      tm := fun p hp => absurd hp (by simp) }
  · show GoodS K cl W0 _ _ (run (lawMs n (begun ns salt)))
    rw [q]
    exact fun X os σ' H' r v p => p
theorem kit_of {K : Fr} {C Z : Addr} (h : C ≠ Z) (k : PySem.W.kitCls K (.ref C) (.ref Z) = some true) : PySem.W.kitOne K (.ref C) (.ref Z) = some true := by
  unfold PySem.W.kitOne
  rw [if_neg (by simpa using h)]
  exact k
theorem ss_no {cl : Nat → Addr} {X : Cx} {W : WX} {st : List Stmt} : SSs cl X W st (fun _ => .no) := ⟨fun pins s σ H D I ⟨_, _, _, _, _, g⟩ => g.elim⟩
theorem pick_len {α : Type} {l : List α} : ∀ {ix : List Nat}, (∀ i ∈ ix, i < l.length) → (pick ix l).length = ix.length
  | [], _ => rfl
  | i :: ix, h => by
    have e : l[i]? = some (l[i]'(h i List.mem_cons_self)) := List.getElem?_eq_getElem _
    have ih := pick_len (l := l) (ix := ix) fun j hj => h j (List.mem_cons_of_mem _ hj)
    unfold pick at ih ⊢
    rw [List.filterMap_cons_some e, List.length_cons, ih, List.length_cons]
theorem kw_len {evs : Evs} {ix : List Nat} {j : Nat} (h : ∀ s ds s1, evs s = .ok ds s1 → ds.length = j) (hi : ∀ i ∈ ix, i < j) : ∀ s ds s1, evs s = .ok ds s1 → (pick ix ds).length = ix.length ∧ ds.length = j := fun s ds s1 e => by
  have hl := h s ds s1 e
  exact ⟨pick_len (by rw [hl]; exact hi), hl⟩
theorem bt_len : bootBuiltins "len" = some (.builtin "len") := by decide +kernel
theorem bt_all : bootBuiltins "all" = some (.builtin "all") := by decide +kernel
theorem bt_any : bootBuiltins "any" = some (.builtin "any") := by decide +kernel
theorem bt_sorted : bootBuiltins "sorted" = some (.builtin "sorted") := by decide +kernel
theorem bt_isinstance : bootBuiltins "isinstance" = some (.builtin "isinstance") := by decide +kernel
theorem bt_repr : bootBuiltins "repr" = some (.builtin "repr") := by decide +kernel
theorem bt_max : bootBuiltins "max" = some (.builtin "max") := by decide +kernel
theorem bt_min : bootBuiltins "min" = some (.builtin "min") := by decide +kernel
theorem bt_sum : bootBuiltins "sum" = some (.builtin "sum") := by decide +kernel
theorem bt_list : bootBuiltins "list" = some (.type "list") := by decide +kernel
theorem bt_tuple : bootBuiltins "tuple" = some (.type "tuple") := by decide +kernel
theorem bt_int : bootBuiltins "int" = some (.type "int") := by decide +kernel
theorem bt_bool : bootBuiltins "bool" = some (.type "bool") := by decide +kernel
theorem bt_str : bootBuiltins "str" = some (.type "str") := by decide +kernel
theorem bt_dict : bootBuiltins "dict" = some (.type "dict") := by decide +kernel
theorem bt_range : bootBuiltins "range" = some (.type "range") := by decide +kernel
theorem bt_zip : bootBuiltins "zip" = some (.type "zip") := by decide +kernel
theorem bt_enumerate : bootBuiltins "enumerate" = some (.type "enumerate") := by decide +kernel
theorem bt_reversed : bootBuiltins "reversed" = some (.type "reversed") := by decide +kernel
theorem bt_set : bootBuiltins "set" = some (.type "set") := by decide +kernel
/-! ### == and != of texts -/
def eqSt : D → D → Option D
  | .str a, .str b => some (.bool (a == b))
  | _, _ => none
def neSt : D → D → Option D
  | .str a, .str b => some (.bool (!(a == b)))
  | _, _ => none
theorem sem_eqSt {X : Cx} : OpSem X rEq eqSt := by
  intro fm Xs os s σ H d1 d2 d v1 v2 Q R p1 p2 e q
  cases d1 <;> cases d2 <;> simp only [eqSt] at e <;> cases e
  rename_i a b
  have e1 := p1.str
  have e2 := p2.str
  subst e1 e2
  refine ⟨rfl, ?_⟩
  rw [dec_str]
  exact q _ H R (Stay.refl _ _) rfl
theorem sem_neSt {X : Cx} : OpSem X rNe neSt := by
  intro fm Xs os s σ H d1 d2 d v1 v2 Q R p1 p2 e q
  cases d1 <;> cases d2 <;> simp only [neSt] at e <;> cases e
  rename_i a b
  have e1 := p1.str
  have e2 := p2.str
  subst e1 e2
  refine ⟨rfl, ?_⟩
  rw [dec_str]
  exact q _ H R (Stay.refl _ _) rfl
end Zo
namespace Zo
open PySem PySem.Spec PyProof.Rows L2
section
abbrev s_is_tuple_of : Stmt := top 7
abbrev s_is_word : Stmt := top 8
abbrev s_is_named : Stmt := top 10
abbrev s_is_name : Stmt := top 11
abbrev s_parts_of_formula : Stmt := top 18
abbrev s_is_formula_value : Stmt := top 19
abbrev s_is_formula : Stmt := top 23
abbrev s_law_begun : Stmt := sBegun
abbrev s_law_draw : Stmt := sDraw
abbrev s_law_pick : Stmt := top 28
abbrev s_law_formula : Stmt := top 29
abbrev s_law_is_so : Stmt := top 30
abbrev s_law_near : Stmt := top 31
abbrev s_are_rising : Stmt := top 12
abbrev s_is_one_of : Stmt := top 9
abbrev s_is_shown_word : Stmt := top 15
abbrev s_are_words : Stmt := top 16
abbrev s_need_formula : Stmt := top 20
abbrev s_joined_truth : Stmt := top 21
abbrev s_is_shown : Stmt := top 22
abbrev s_shows_it : Stmt := top 24
abbrev s_law_heard : Stmt := top 32
abbrev s_law : Stmt := top 33
/-- what the top has written -/
structure Txt (K : Fr) (mg : Str → Option Value) (cl ad : Nat → Addr) (fd : Nat → FuncData) (fi : Nat → Addr) (za : Addr) : Prop where
  g0 : mg "is_tuple_of" = some (.ref (ad 0))
  F0 : Fun K "is_tuple_of" "is_tuple_of" s_is_tuple_of (ad 0) (fd 0)
  B0 : Binds K (fd 0) ["thing", "many"] []
  g1 : mg "is_word" = some (.ref (ad 1))
  F1 : Fun K "is_word" "is_word" s_is_word (ad 1) (fd 1)
  B1 : Binds K (fd 1) ["thing", "word"] []
  g3 : mg "is_named" = some (.ref (ad 3))
  F3 : Fun K "is_named" "is_named" s_is_named (ad 3) (fd 3)
  B3 : Binds K (fd 3) ["thing", "word", "many"] []
  g4 : mg "is_name" = some (.ref (ad 4))
  F4 : Fun K "is_name" "is_name" s_is_name (ad 4) (fd 4)
  B4 : Binds K (fd 4) ["thing"] []
  g8 : mg "parts_of_formula" = some (.ref (ad 8))
  F8 : Fun K "parts_of_formula" "parts_of_formula" s_parts_of_formula (ad 8) (fd 8)
  B8 : Binds K (fd 8) ["thing"] []
  g9 : mg "is_formula_value" = some (.ref (ad 9))
  F9 : Fun K "is_formula_value" "is_formula_value" s_is_formula_value (ad 9) (fd 9)
  B9 : Binds K (fd 9) ["thing"] []
  g13 : mg "is_formula" = some (.ref (ad 13))
  F13 : Fun K "is_formula" "is_formula" s_is_formula (ad 13) (fd 13)
  B13 : Binds K (fd 13) ["thing"] []
  k13_thing : KwB (fd 13) ["thing"] ["thing"] [0]
  g15 : mg "_law_begun" = some (.ref (ad 15))
  F15 : Fun K "_law_begun" "_law_begun" s_law_begun (ad 15) (fd 15)
  B15 : Binds K (fd 15) ["script", "salt"] []
  g16 : mg "_law_draw" = some (.ref (ad 16))
  F16 : Fun K "_law_draw" "_law_draw" s_law_draw (ad 16) (fd 16)
  B16 : Binds K (fd 16) ["deck", "below"] []
  g17 : mg "_law_pick" = some (.ref (ad 17))
  F17 : Fun K "_law_pick" "_law_pick" s_law_pick (ad 17) (fd 17)
  B17 : Binds K (fd 17) ["deck", "some"] []
  g18 : mg "_law_formula" = some (.ref (ad 18))
  F18 : Fun K "_law_formula" "_law_formula" s_law_formula (ad 18) (fd 18)
  B18 : Binds K (fd 18) ["deck", "deep"] []
  g19 : mg "_law_is_so" = some (.ref (ad 19))
  F19 : Fun K "_law_is_so" "_law_is_so" s_law_is_so (ad 19) (fd 19)
  B19 : Binds K (fd 19) ["formula", "words"] []
  g20 : mg "_law_near" = some (.ref (ad 20))
  F20 : Fun K "_law_near" "_law_near" s_law_near (ad 20) (fd 20)
  B20 : Binds K (fd 20) ["deck", "formula"] []
  g5 : mg "are_rising" = some (.ref (ad 5))
  F5 : Fun K "are_rising" "are_rising" s_are_rising (ad 5) (fd 5)
  B5 : Binds K (fd 5) ["things"] []
  g2 : mg "is_one_of" = some (.ref (ad 2))
  F2 : Fun K "is_one_of" "is_one_of" s_is_one_of (ad 2) (fd 2)
  B2 : Binds K (fd 2) ["thing", "words"] []
  g6 : mg "is_shown_word" = some (.ref (ad 6))
  F6 : Fun K "is_shown_word" "is_shown_word" s_is_shown_word (ad 6) (fd 6)
  B6 : Binds K (fd 6) ["thing"] []
  g7 : mg "are_words" = some (.ref (ad 7))
  F7 : Fun K "are_words" "are_words" s_are_words (ad 7) (fd 7)
  B7 : Binds K (fd 7) ["thing"] []
  g10 : mg "need_formula" = some (.ref (ad 10))
  F10 : Fun K "need_formula" "need_formula" s_need_formula (ad 10) (fd 10)
  B10 : Binds K (fd 10) ["formula"] []
  g11 : mg "joined_truth" = some (.ref (ad 11))
  F11 : Fun K "joined_truth" "joined_truth" s_joined_truth (ad 11) (fd 11)
  B11 : Binds K (fd 11) ["word", "truths"] []
  g12 : mg "is_shown" = some (.ref (ad 12))
  F12 : Fun K "is_shown" "is_shown" s_is_shown (ad 12) (fd 12)
  B12 : Binds K (fd 12) ["formula", "words"] []
  g14 : mg "shows_it" = some (.ref (ad 14))
  F14 : Fun K "shows_it" "shows_it" s_shows_it (ad 14) (fd 14)
  B14 : Binds K (fd 14) ["formula", "words"] []
  k14_words_formula : KwB (fd 14) ["formula", "words"] ["words", "formula"] [1, 0]
  g21 : mg "_law_heard" = some (.ref (ad 21))
  F21 : Fun K "_law_heard" "_law_heard" s_law_heard (ad 21) (fd 21)
  B21 : Binds K (fd 21) ["formula", "words", "by_name"] []
  g22 : mg "law" = some (.ref (ad 22))
  F22 : Fun K "law" "law" s_law (ad 22) (fd 22)
  B22 : Binds K (fd 22) ["script"] []
  n_all : mg "all" = none
  n_any : mg "any" = none
  n_int : mg "int" = none
  n_isinstance : mg "isinstance" = none
  n_len : mg "len" = none
  n_list : mg "list" = none
  n_max : mg "max" = none
  n_range : mg "range" = none
  n_repr : mg "repr" = none
  n_sorted : mg "sorted" = none
  n_str : mg "str" = none
  n_tuple : mg "tuple" = none
  n_zip : mg "zip" = none
  c_FIGURES : GCon K mg "FIGURES" (.str "0123456789")
  c_MARK_WORDS : GCon K mg "MARK_WORDS" (.tuple [(.str "time!"), (.str "urgent!"), (.str "committed!"), (.str "reply!")])
  c_MOST_SIGNS : GCon K mg "MOST_SIGNS" (.int 12)
  c_SMALL : GCon K mg "SMALL" (.str "abcdefghijklmnopqrstuvwxyz")
  e0 : PySem.Zx.ExTxt K mg "BadFormula" "BadFormula.__init__" (cl 0) za (fi 0)
  i0 : ExIs K (cl 0)
  z0 : PySem.W.kitOne K (.ref (cl 0)) (.ref za) = some true
  gZ : mg "ZonesError" = some (.ref za)
/-! ### is_tuple_of -/
def b_is_tuple_of : Ex := (retS (evAnd (ev1 (isiD "tuple") (evVarB 0)) (evBin eqD (ev1 lenD (evVarB 0)) (evVarB 1))))
def f_is_tuple_of : List D → Ro := runFn 2 b_is_tuple_of
theorem sc_is_tuple_of : FnScope ["thing", "many"] ["thing", "many"] (defScope s_is_tuple_of) := ⟨rfl, rfl, rfl, by decide +kernel, rfl, by decide +kernel, by decide +kernel⟩
theorem ok_is_tuple_of {P : Program} {w : World} {K : Fr} {mg : Str → Option Value} {base : Heap} {cl ad : Nat → Addr} {fd : Nat → FuncData} {fi : Nat → Addr} {za : Addr} (T : Txt K mg cl ad fd fi za) : FnOk P w K mg base (L2.CX P w) 3 (ad 0) (fd 0) ["thing", "many"] (spP K cl 2 f_is_tuple_of) :=
  fn_pure (cl := cl) (k := 2) T.F0 sc_is_tuple_of rfl (by decide) fun cdv A outer s H E hr => by exact (ss_one (ss_ret (m := false) (se_and (se_isi tyok_tuple rfl T.n_isinstance (pe_bltn (v := V.ty "tuple") rfl T.n_tuple bt_tuple rfl) (sb_var 0 (pv 0))) (se_one (se_cmp (op_eqD hr.units) sem_eqD (sb_of (se_b L2.call_len sem_len rfl T.n_len bt_len (sb_var 0 (pv 0)))) (sb_var 1 (pv 1)) (nomark _))))))
/-! ### is_word -/
def b_is_word : Ex := (retS (evAnd (ev1 (isiD "str") (evVarB 0)) (evBin eqD (evVarB 0) (evVarB 1))))
def f_is_word : List D → Ro := runFn 2 b_is_word
theorem sc_is_word : FnScope ["thing", "word"] ["thing", "word"] (defScope s_is_word) := ⟨rfl, rfl, rfl, by decide +kernel, rfl, by decide +kernel, by decide +kernel⟩
theorem ok_is_word {P : Program} {w : World} {K : Fr} {mg : Str → Option Value} {base : Heap} {cl ad : Nat → Addr} {fd : Nat → FuncData} {fi : Nat → Addr} {za : Addr} (T : Txt K mg cl ad fd fi za) : FnOk P w K mg base (L2.CX P w) 3 (ad 1) (fd 1) ["thing", "word"] (spP K cl 2 f_is_word) :=
  fn_pure (cl := cl) (k := 2) T.F1 sc_is_word rfl (by decide) fun cdv A outer s H E hr => by exact (ss_one (ss_ret (m := false) (se_and (se_isi tyok_str rfl T.n_isinstance (pe_bltn (v := V.ty "str") rfl T.n_str bt_str rfl) (sb_var 0 (pv 0))) (se_one (se_cmp (op_eqD hr.units) sem_eqD (sb_var 0 (pv 0)) (sb_var 1 (pv 1)) (nomark _))))))
/-! ### is_named -/
def b_is_named : Ex := (retS (evAnd (evCall f_is_tuple_of (evCons (evVar 0) (evCons (evVar 2) evNil))) (evCall f_is_word (evCons (evBin ixD (evVarB 0) (evLit (.int 0))) (evCons (evVar 1) evNil)))))
def f_is_named : List D → Ro := runFn 3 b_is_named
theorem sc_is_named : FnScope ["thing", "word", "many"] ["thing", "word", "many"] (defScope s_is_named) := ⟨rfl, rfl, rfl, by decide +kernel, rfl, by decide +kernel, by decide +kernel⟩
theorem ok_is_named {P : Program} {w : World} {K : Fr} {mg : Str → Option Value} {base : Heap} {cl ad : Nat → Addr} {fd : Nat → FuncData} {fi : Nat → Addr} {za : Addr} (T : Txt K mg cl ad fd fi za) : FnOk P w K mg base (L2.CX P w) 4 (ad 3) (fd 3) ["thing", "word", "many"] (spP K cl 3 f_is_named) :=
  fn_pure (cl := cl) (k := 3) T.F3 sc_is_named rfl (by decide) fun cdv A outer s H E hr => by exact (ss_one (ss_ret (m := false) (se_and (se_call (ok_is_tuple_of T) (hr.mono (by decide)) rfl T.g0 T.F0.kp T.B0 (takes_of rfl rfl rfl rfl) (sa_cons (se_var 0 (pv 0)) (sa_cons (se_var 2 (pv 2)) sa_nil)) (evCons_len (evCons_len evNil_len))) (se_one (se_call (ok_is_word T) (hr.mono (by decide)) rfl T.g1 T.F1.kp T.B1 (takes_of rfl rfl rfl rfl) (sa_cons (se_ix (sb_var 0 (pv 0)) (sb_of se_int)) (sa_cons (se_var 1 (pv 1)) sa_nil)) (evCons_len (evCons_len evNil_len)))))))
/-! ### is_name -/
def b_is_name : Ex := (seqS (ifS (evTor (evTnot (evT (ev1 (isiD "str") (evVarB 0)))) (evTor (evTnot (evT (evChain (cmpI (fun i j => decide (i ≤ j))) (cmpI (fun i j => decide (i ≤ j))) (evLit (.int 1)) (ev1 lenD (evVarB 0)) (evLit (.int 12))))) (evT (evBin (inSign true) (evBin ixD (evVarB 0) (evLit (.int 0))) (evLit (.str "abcdefghijklmnopqrstuvwxyz")))))) (retS (evLit (.bool false))) skipS) (retS (ev1 allD (lstOf (evComp [1] (evItS (evVar 0)) (tgN 1) evYes (evBin (inSign false) (evVarB 1) (evBin addS (evLit (.str "abcdefghijklmnopqrstuvwxyz")) (evLit (.str "0123456789")))))))))
def f_is_name : List D → Ro := runFn 2 b_is_name
theorem sc_is_name : FnScope ["thing", "sign"] ["thing"] (defScope s_is_name) := ⟨rfl, rfl, rfl, by decide +kernel, rfl, by decide +kernel, by decide +kernel⟩
theorem ok_is_name {P : Program} {w : World} {K : Fr} {mg : Str → Option Value} {base : Heap} {cl ad : Nat → Addr} {fd : Nat → FuncData} {fi : Nat → Addr} {za : Addr} (T : Txt K mg cl ad fd fi za) : FnOk P w K mg base (L2.CX P w) 3 (ad 4) (fd 4) ["thing"] (spP K cl 1 f_is_name) :=
  fn_pure (cl := cl) (k := 2) T.F4 sc_is_name rfl (by decide) fun cdv A outer s H E hr => by exact (ss_cons (ss_if (m := false) (st_pw (sw_or (st_not (st_val (se_isi tyok_str rfl T.n_isinstance (pe_bltn (v := V.ty "str") rfl T.n_str bt_str rfl) (sb_var 0 (pv 0))))) (sw_or (st_not (st_chain op_le (sem_cmpI (fun i j => decide (i ≤ j))) op_le (sem_cmpI (fun i j => decide (i ≤ j))) (sb_of se_int) (sb_of (se_b L2.call_len sem_len rfl T.n_len bt_len (sb_var 0 (pv 0)))) (sb_of (se_glob T.c_MOST_SIGNS rfl)))) (sw_or1 (st_cmp op_notIn_sign sem_notInSign (sb_of (se_ix (sb_var 0 (pv 0)) (sb_of se_int))) (sb_of (se_glob T.c_SMALL rfl)) (by rfl)))))) (ss_one (ss_ret (m := false) se_bool)) ss_nil) (ss_one (ss_ret (m := false) (se_b (cr_all rfl) sem_all rfl T.n_all bt_all (sb_of (sf_of (sf_comp (tgN_sem (vs := [1]) (i := 1) (by decide)) (pe_lc (own := [("sign", 1)]) rfl sc_is_name.nd (si_str (se_var 0 (pv 0))) (blkOk_by (by show blkC ["thing", "sign"] (defScope s_is_name) _ _ = true; decide +kernel)) (fun _ _ _ _ _ => (pg_name (i := 1) sc_is_name.nd rfl (by first | exact Or.inl rfl | exact Or.inr rfl))) (fun _ _ _ _ _ => pts_yes) (fun _ _ _ _ _ => (se_cmp op_in_sign sem_inSign (sb_var 1 (pv 1)) (sb_of (se_bin op_add_str sem_addS (sb_of (se_glob T.c_SMALL rfl)) (sb_of (se_glob T.c_FIGURES rfl)))) (by rfl)))))))))))
/-! ### parts_of_formula -/
def b_parts_of_formula : Ex := (seqS (ifS (evT (evCall f_is_named (evCons (evVar 0) (evCons (evLit (.str "true")) (evCons (evLit (.int 1)) evNil))))) (retS (evTup evNil)) skipS) (seqS (ifS (evT (evCall f_is_named (evCons (evVar 0) (evCons (evLit (.str "shown")) (evCons (evLit (.int 2)) evNil))))) (retS (evIf (evT (evCall f_is_name (evCons (evBin ixD (evVarB 0) (evLit (.int 1))) evNil))) (evTup evNil) (evLit .none))) skipS) (seqS (ifS (evT (evCall f_is_named (evCons (evVar 0) (evCons (evLit (.str "not")) (evCons (evLit (.int 2)) evNil))))) (retS (evSl (evVarB 0) (ptOf (evLit (.int 1))) ptNo)) skipS) (retS (evIf (evTor (evT (evCall f_is_named (evCons (evVar 0) (evCons (evLit (.str "and")) (evCons (evLit (.int 3)) evNil))))) (evT (evCall f_is_named (evCons (evVar 0) (evCons (evLit (.str "or")) (evCons (evLit (.int 3)) evNil)))))) (evSl (evVarB 0) (ptOf (evLit (.int 1))) ptNo) (evLit .none))))))
def f_parts_of_formula : List D → Ro := runFn 1 b_parts_of_formula
theorem sc_parts_of_formula : FnScope ["thing"] ["thing"] (defScope s_parts_of_formula) := ⟨rfl, rfl, rfl, by decide +kernel, rfl, by decide +kernel, by decide +kernel⟩
theorem ok_parts_of_formula {P : Program} {w : World} {K : Fr} {mg : Str → Option Value} {base : Heap} {cl ad : Nat → Addr} {fd : Nat → FuncData} {fi : Nat → Addr} {za : Addr} (T : Txt K mg cl ad fd fi za) : FnOk P w K mg base (L2.CX P w) 5 (ad 8) (fd 8) ["thing"] (spP K cl 1 f_parts_of_formula) :=
  fn_pure (cl := cl) (k := 4) T.F8 sc_parts_of_formula rfl (by decide) fun cdv A outer s H E hr => by exact (ss_cons (ss_if (m := false) (st_val (se_call (ok_is_named T) (hr.mono (by decide)) rfl T.g3 T.F3.kp T.B3 (takes_of rfl rfl rfl rfl) (sa_cons (se_var 0 (pv 0)) (sa_cons se_str (sa_cons se_int sa_nil))) (evCons_len (evCons_len (evCons_len evNil_len))))) (ss_one (ss_ret (m := false) (se_tup sa_nil))) ss_nil) (ss_cons (ss_if (m := false) (st_val (se_call (ok_is_named T) (hr.mono (by decide)) rfl T.g3 T.F3.kp T.B3 (takes_of rfl rfl rfl rfl) (sa_cons (se_var 0 (pv 0)) (sa_cons se_str (sa_cons se_int sa_nil))) (evCons_len (evCons_len (evCons_len evNil_len))))) (ss_one (ss_ret (m := false) (se_if (st_val (se_call (ok_is_name T) (hr.mono (by decide)) rfl T.g4 T.F4.kp T.B4 (takes_of rfl rfl rfl rfl) (sa_cons (se_ix (sb_var 0 (pv 0)) (sb_of se_int)) sa_nil) (evCons_len evNil_len))) (se_tup sa_nil) se_none))) ss_nil) (ss_cons (ss_if (m := false) (st_val (se_call (ok_is_named T) (hr.mono (by decide)) rfl T.g3 T.F3.kp T.B3 (takes_of rfl rfl rfl rfl) (sa_cons (se_var 0 (pv 0)) (sa_cons se_str (sa_cons se_int sa_nil))) (evCons_len (evCons_len (evCons_len evNil_len))))) (ss_one (ss_ret (m := false) (se_slice (sb_var 0 (pv 0)) (sp_some (sb_of se_int)) sp_none))) ss_nil) (ss_one (ss_ret (m := false) (se_if (st_pw (sw_or (st_val (se_call (ok_is_named T) (hr.mono (by decide)) rfl T.g3 T.F3.kp T.B3 (takes_of rfl rfl rfl rfl) (sa_cons (se_var 0 (pv 0)) (sa_cons se_str (sa_cons se_int sa_nil))) (evCons_len (evCons_len (evCons_len evNil_len))))) (sw_or1 (st_val (se_call (ok_is_named T) (hr.mono (by decide)) rfl T.g3 T.F3.kp T.B3 (takes_of rfl rfl rfl rfl) (sa_cons (se_var 0 (pv 0)) (sa_cons se_str (sa_cons se_int sa_nil))) (evCons_len (evCons_len (evCons_len evNil_len)))))))) (se_slice (sb_var 0 (pv 0)) (sp_some (sb_of se_int)) sp_none) se_none))))))
/-! ### is_formula_value -/
def b_is_formula_value : Ex := (seqS (ownS 1 (evLst (evCons (evVar 0) evNil))) (seqS (whileS 100000 (evT (evBin neD (evVarB 1) (lstOf (evLst evNil)))) (seqS (setS 2 (evCall f_parts_of_formula (evCons (evPop 1) evNil))) (seqS (ifS (evT (evBin isN (evVarB 2) (evLit .none))) (retS (evLit (.bool false))) skipS) (doS (evExt 1 (lstOf (ev1L listD (evVarB 2)))))))) (retS (evLit (.bool true)))))
def f_is_formula_value : List D → Ro := runFn 3 b_is_formula_value
theorem sc_is_formula_value : FnScope ["thing", "waiting", "parts"] ["thing"] (defScope s_is_formula_value) := ⟨rfl, rfl, rfl, by decide +kernel, rfl, by decide +kernel, by decide +kernel⟩
theorem ok_is_formula_value {P : Program} {w : World} {K : Fr} {mg : Str → Option Value} {base : Heap} {cl ad : Nat → Addr} {fd : Nat → FuncData} {fi : Nat → Addr} {za : Addr} (T : Txt K mg cl ad fd fi za) : FnOk P w K mg base (L2.CX P w) 6 (ad 9) (fd 9) ["thing"] (spP K cl 1 f_is_formula_value) :=
  fn_pure (cl := cl) (k := 5) T.F9 sc_is_formula_value rfl (by decide) fun cdv A outer s H E hr => by exact (ss_cons (ss_own (m := false) (i := 1) sc_is_formula_value.nd rfl (by first | exact Or.inl rfl | exact Or.inr rfl) (sf_lst (sa_cons (se_var 0 (pv 0)) sa_nil))) (ss_cons (ss_while (m := false) 100000 (passes_of rfl) (st_cmp (op_neD hr.units) sem_neD (sb_var 1 (pv 1)) (sb_of (sf_of (sf_lst sa_nil))) (nomark _)) (ss_cons (ss_set (m := false) (i := 2) sc_is_formula_value.nd rfl (by first | exact Or.inl rfl | exact Or.inr rfl) (se_call (ok_parts_of_formula T) (hr.mono (by decide)) rfl T.g8 T.F8.kp T.B8 (takes_of rfl rfl rfl rfl) (sa_cons (se_pop 1 (pv 1)) sa_nil) (evCons_len evNil_len))) (ss_cons (ss_if (m := false) (st_cmp op_isN sem_isN (sb_var 2 (pv 2)) (sb_of se_none) (nomark _)) (ss_one (ss_ret (m := false) se_bool)) ss_nil) (ss_one (ss_do (m := false) (se_ext 1 (pv 1) (sf_of (sf_ty L2.call_list_of sem_list rfl T.n_list bt_list (sb_var 2 (pv 2)))) (fun t h => pe_bm PySem.F.plainAttrs_list PySem.F.slot_list_extend PySem.F.type_list_extend mt_extend (pv 1) h))))))) (ss_one (ss_ret (m := false) se_bool))))
/-! ### is_formula -/
def b_is_formula : Ex := (retS (evCall f_is_formula_value (evCons (evVar 0) evNil)))
def f_is_formula : List D → Ro := runFn 1 b_is_formula
theorem sc_is_formula : FnScope ["thing"] ["thing"] (defScope s_is_formula) := ⟨rfl, rfl, rfl, by decide +kernel, rfl, by decide +kernel, by decide +kernel⟩
theorem ok_is_formula {P : Program} {w : World} {K : Fr} {mg : Str → Option Value} {base : Heap} {cl ad : Nat → Addr} {fd : Nat → FuncData} {fi : Nat → Addr} {za : Addr} (T : Txt K mg cl ad fd fi za) : FnOk P w K mg base (L2.CX P w) 7 (ad 13) (fd 13) ["thing"] (spP K cl 1 f_is_formula) :=
  fn_pure (cl := cl) (k := 6) T.F13 sc_is_formula rfl (by decide) fun cdv A outer s H E hr => by exact (ss_one (ss_ret (m := false) (se_call (ok_is_formula_value T) (hr.mono (by decide)) rfl T.g9 T.F9.kp T.B9 (takes_of rfl rfl rfl rfl) (sa_cons (se_var 0 (pv 0)) sa_nil) (evCons_len evNil_len))))
/-! ### _law_pick -/
def b_law_pick : Ex := (retS (evBin ixD (evVarB 1) (evCallD 0 drawF (evCons (ev1 lenD (evVarB 1)) evNil))))
def f_law_pick : List D → Dk → Rd := runFnD 2 b_law_pick
theorem sc_law_pick : FnScope ["deck", "some"] ["deck", "some"] (defScope s_law_pick) := ⟨rfl, rfl, rfl, by decide +kernel, rfl, by decide +kernel, by decide +kernel⟩
theorem ok_law_pick {P : Program} {w : World} {K : Fr} {mg : Str → Option Value} {base : Heap} {cl ad : Nat → Addr} {fd : Nat → FuncData} {fi : Nat → Addr} {za : Addr} (T : Txt K mg cl ad fd fi za) : FnOk P w K mg base (L2.CX P w) 4 (ad 17) (fd 17) ["deck", "some"] (spD K 1 f_law_pick) :=
  fn_deck (cl := cl) (k := 3) T.F17 sc_law_pick rfl (by decide) fun cdv A outer s H E hr => by exact (ss_one (ss_ret (m := false) (se_ix (sb_var 1 (pv 1)) (sb_of (se_callD 0 (ok_draw (k := 2) T.F16 T.n_max T.n_int) (hr.mono (by decide)) rfl T.g16 T.F16.kp T.B16 (takes0) (pv 0) (sa_cons (se_b L2.call_len sem_len rfl T.n_len bt_len (sb_var 1 (pv 1))) sa_nil) (evCons_len evNil_len))))))
/-! ### _law_formula -/
def b_law_formula (self : List D → Dk → Rd) : Ex := (seqS (setS 2 (evIf (evT (evBin (cmpI (fun i j => decide (j < i))) (evVarB 1) (evLit (.int 0)))) (evCallD 0 drawF (evCons (evLit (.int 6)) evNil)) (evCallD 0 drawF (evCons (evLit (.int 3)) evNil)))) (seqS (ifS (evT (evBin eqD (evVarB 2) (evLit (.int 0)))) (retS (evTup (evCons (evLit (.str "true")) evNil))) skipS) (seqS (ifS (evT (evBin (cmpI (fun i j => decide (i < j))) (evVarB 2) (evLit (.int 3)))) (retS (evTup (evCons (evLit (.str "shown")) (evCons (evCallD 0 f_law_pick (evCons (lstOf (evLst (evCons (evLit (.str "hot")) (evCons (evLit (.str "late")) (evCons (evLit (.str "done")) (evCons (evLit (.str "w1")) (evCons (evLit (.str "true")) (evCons (evLit (.str "not")) evNil)))))))) evNil)) evNil)))) skipS) (seqS (ifS (evT (evBin eqD (evVarB 2) (evLit (.int 3)))) (retS (evTup (evCons (evLit (.str "not")) (evCons (evCallD 0 self (evCons (evBin subI (evVarB 1) (evLit (.int 1))) evNil)) evNil)))) skipS) (retS (evTup (evCons (evCallD 0 f_law_pick (evCons (lstOf (evLst (evCons (evLit (.str "and")) (evCons (evLit (.str "or")) evNil)))) evNil)) (evCons (evCallD 0 self (evCons (evBin subI (evVarB 1) (evLit (.int 1))) evNil)) (evCons (evCallD 0 self (evCons (evBin subI (evVarB 1) (evLit (.int 1))) evNil)) evNil)))))))))
def f_law_formula : Nat → List D → Dk → Rd
  | 0 => fun _ _ => .no
  | r + 1 => runFnD 3 (b_law_formula (f_law_formula r))
theorem sc_law_formula : FnScope ["deck", "deep", "way"] ["deck", "deep"] (defScope s_law_formula) := ⟨rfl, rfl, rfl, by decide +kernel, rfl, by decide +kernel, by decide +kernel⟩
theorem ok_law_formula {P : Program} {w : World} {K : Fr} {mg : Str → Option Value} {base : Heap} {cl ad : Nat → Addr} {fd : Nat → FuncData} {fi : Nat → Addr} {za : Addr} (T : Txt K mg cl ad fd fi za) : ∀ r : Nat, FnOk P w K mg base (L2.CX P w) (5 + r) (ad 18) (fd 18) ["deck", "deep"] (spD K 1 (f_law_formula r))
  | 0 => fn_deck (cl := cl) (k := 4) (run := fun _ => .no) T.F18 sc_law_formula rfl (by decide) fun cdv A outer s H E hr => ss_no
  | r + 1 => by
    have IH := ok_law_formula (P := P) (w := w) (base := base) T r
    exact fn_deck (cl := cl) (k := 5 + r) T.F18 sc_law_formula rfl (by decide) fun cdv A outer s H E hr => by exact (ss_cons (ss_set (m := false) (i := 2) sc_law_formula.nd rfl (by first | exact Or.inl rfl | exact Or.inr rfl) (se_if (st_cmp op_gt (sem_cmpI (fun i j => decide (j < i))) (sb_var 1 (pv 1)) (sb_of se_int) (nomark _)) (se_callD 0 (ok_draw (k := 2) T.F16 T.n_max T.n_int) (hr.mono (by omega)) rfl T.g16 T.F16.kp T.B16 (takes0) (pv 0) (sa_cons se_int sa_nil) (evCons_len evNil_len)) (se_callD 0 (ok_draw (k := 2) T.F16 T.n_max T.n_int) (hr.mono (by omega)) rfl T.g16 T.F16.kp T.B16 (takes0) (pv 0) (sa_cons se_int sa_nil) (evCons_len evNil_len)))) (ss_cons (ss_if (m := false) (st_cmp (op_eqD hr.units) sem_eqD (sb_var 2 (pv 2)) (sb_of se_int) (nomark _)) (ss_one (ss_ret (m := false) (se_tup (sa_cons se_str sa_nil)))) ss_nil) (ss_cons (ss_if (m := false) (st_cmp op_lt (sem_cmpI (fun i j => decide (i < j))) (sb_var 2 (pv 2)) (sb_of se_int) (nomark _)) (ss_one (ss_ret (m := false) (se_tup (sa_cons se_str (sa_cons (se_callD 0 (ok_law_pick T) (hr.mono (by omega)) rfl T.g17 T.F17.kp T.B17 (takes0) (pv 0) (sa_cons (sf_of (sf_lst (sa_cons se_str (sa_cons se_str (sa_cons se_str (sa_cons se_str (sa_cons se_str (sa_cons se_str sa_nil)))))))) sa_nil) (evCons_len evNil_len)) sa_nil))))) ss_nil) (ss_cons (ss_if (m := false) (st_cmp (op_eqD hr.units) sem_eqD (sb_var 2 (pv 2)) (sb_of se_int) (nomark _)) (ss_one (ss_ret (m := false) (se_tup (sa_cons se_str (sa_cons (se_callD 0 IH hr rfl T.g18 T.F18.kp T.B18 (takes0) (pv 0) (sa_cons (se_bin op_sub sem_subI (sb_var 1 (pv 1)) (sb_of se_int)) sa_nil) (evCons_len evNil_len)) sa_nil))))) ss_nil) (ss_one (ss_ret (m := false) (se_tup (sa_cons (se_callD 0 (ok_law_pick T) (hr.mono (by omega)) rfl T.g17 T.F17.kp T.B17 (takes0) (pv 0) (sa_cons (sf_of (sf_lst (sa_cons se_str (sa_cons se_str sa_nil)))) sa_nil) (evCons_len evNil_len)) (sa_cons (se_callD 0 IH hr rfl T.g18 T.F18.kp T.B18 (takes0) (pv 0) (sa_cons (se_bin op_sub sem_subI (sb_var 1 (pv 1)) (sb_of se_int)) sa_nil) (evCons_len evNil_len)) (sa_cons (se_callD 0 IH hr rfl T.g18 T.F18.kp T.B18 (takes0) (pv 0) (sa_cons (se_bin op_sub sem_subI (sb_var 1 (pv 1)) (sb_of se_int)) sa_nil) (evCons_len evNil_len)) sa_nil))))))))))
/-! ### _law_is_so -/
def b_law_is_so (self : List D → Ro) : Ex := (seqS (ifS (evT (evBin eqD (evBin ixD (evVarB 0) (evLit (.int 0))) (evLit (.str "true")))) (retS (evLit (.bool true))) skipS) (seqS (ifS (evT (evBin eqD (evBin ixD (evVarB 0) (evLit (.int 0))) (evLit (.str "shown")))) (retS (evBin (inSeq false) (evBin ixD (evVarB 0) (evLit (.int 1))) (evVarB 1))) skipS) (seqS (ifS (evT (evBin eqD (evBin ixD (evVarB 0) (evLit (.int 0))) (evLit (.str "not")))) (retS (evNot (evCall self (evCons (evBin ixD (evVarB 0) (evLit (.int 1))) (evCons (evVar 1) evNil))))) skipS) (seqS (setS 2 (lstOf (evLst (evCons (evCall self (evCons (evBin ixD (evVarB 0) (evLit (.int 1))) (evCons (evVar 1) evNil))) (evCons (evCall self (evCons (evBin ixD (evVarB 0) (evLit (.int 2))) (evCons (evVar 1) evNil))) evNil))))) (retS (evIf (evT (evBin eqD (evBin ixD (evVarB 0) (evLit (.int 0))) (evLit (.str "and")))) (evBin eqD (evVarB 2) (lstOf (evLst (evCons (evLit (.bool true)) (evCons (evLit (.bool true)) evNil))))) (evBin (inSeq false) (evLit (.bool true)) (evVarB 2))))))))
def f_law_is_so : Nat → List D → Ro
  | 0 => fun _ => .no
  | r + 1 => runFn 3 (b_law_is_so (f_law_is_so r))
theorem sc_law_is_so : FnScope ["formula", "words", "both"] ["formula", "words"] (defScope s_law_is_so) := ⟨rfl, rfl, rfl, by decide +kernel, rfl, by decide +kernel, by decide +kernel⟩
theorem ok_law_is_so {P : Program} {w : World} {K : Fr} {mg : Str → Option Value} {base : Heap} {cl ad : Nat → Addr} {fd : Nat → FuncData} {fi : Nat → Addr} {za : Addr} (T : Txt K mg cl ad fd fi za) : ∀ r : Nat, FnOk P w K mg base (L2.CX P w) (3 + r) (ad 19) (fd 19) ["formula", "words"] (spP K cl 2 (f_law_is_so r))
  | 0 => fn_pure (cl := cl) (k := 2) (run := fun _ => .no) T.F19 sc_law_is_so rfl (by decide) fun cdv A outer s H E hr => ss_no
  | r + 1 => by
    have IH := ok_law_is_so (P := P) (w := w) (base := base) T r
    exact fn_pure (cl := cl) (k := 3 + r) T.F19 sc_law_is_so rfl (by decide) fun cdv A outer s H E hr => by exact (ss_cons (ss_if (m := false) (st_cmp (op_eqD hr.units) sem_eqD (sb_of (se_ix (sb_var 0 (pv 0)) (sb_of se_int))) (sb_of se_str) (nomark _)) (ss_one (ss_ret (m := false) se_bool)) ss_nil) (ss_cons (ss_if (m := false) (st_cmp (op_eqD hr.units) sem_eqD (sb_of (se_ix (sb_var 0 (pv 0)) (sb_of se_int))) (sb_of se_str) (nomark _)) (ss_one (ss_ret (m := false) (se_cmp op_in_seq (sem_inSeq false) (sb_of (se_ix (sb_var 0 (pv 0)) (sb_of se_int))) (sb_var 1 (pv 1)) (by rfl)))) ss_nil) (ss_cons (ss_if (m := false) (st_cmp (op_eqD hr.units) sem_eqD (sb_of (se_ix (sb_var 0 (pv 0)) (sb_of se_int))) (sb_of se_str) (nomark _)) (ss_one (ss_ret (m := false) (se_not (se_call IH hr rfl T.g19 T.F19.kp T.B19 (takes_of rfl rfl rfl rfl) (sa_cons (se_ix (sb_var 0 (pv 0)) (sb_of se_int)) (sa_cons (se_var 1 (pv 1)) sa_nil)) (evCons_len (evCons_len evNil_len)))))) ss_nil) (ss_cons (ss_set (m := false) (i := 2) sc_law_is_so.nd rfl (by first | exact Or.inl rfl | exact Or.inr rfl) (sf_of (sf_lst (sa_cons (se_call IH hr rfl T.g19 T.F19.kp T.B19 (takes_of rfl rfl rfl rfl) (sa_cons (se_ix (sb_var 0 (pv 0)) (sb_of se_int)) (sa_cons (se_var 1 (pv 1)) sa_nil)) (evCons_len (evCons_len evNil_len))) (sa_cons (se_call IH hr rfl T.g19 T.F19.kp T.B19 (takes_of rfl rfl rfl rfl) (sa_cons (se_ix (sb_var 0 (pv 0)) (sb_of se_int)) (sa_cons (se_var 1 (pv 1)) sa_nil)) (evCons_len (evCons_len evNil_len))) sa_nil))))) (ss_one (ss_ret (m := false) (se_if (st_cmp (op_eqD hr.units) sem_eqD (sb_of (se_ix (sb_var 0 (pv 0)) (sb_of se_int))) (sb_of se_str) (nomark _)) (se_cmp (op_eqD hr.units) sem_eqD (sb_var 2 (pv 2)) (sb_of (sf_of (sf_lst (sa_cons se_bool (sa_cons se_bool sa_nil))))) (nomark _)) (se_cmp op_in_seq (sem_inSeq false) (sb_of se_bool) (sb_var 2 (pv 2)) (by rfl)))))))))
/-! ### _law_near -/
def b_law_near : Ex := (seqS (setS 2 (lstOf (evLst (evCons (evLit .none) (evCons (evLit (.bool true)) (evCons (evTup evNil) (evCons (evLit (.str "true")) (evCons (evTup (evCons (evLit (.str "true")) (evCons (evLit (.int 1)) evNil))) (evCons (evTup (evCons (evLit (.str "shown")) evNil)) (evCons (evTup (evCons (evLit (.str "shown")) (evCons (evLit (.str "Hot")) evNil))) (evCons (evTup (evCons (evLit (.str "shown")) (evCons (evLit (.str "")) evNil))) (evCons (evTup (evCons (evLit (.str "shown")) (evCons (evLit (.int 7)) evNil))) (evCons (evTup (evCons (evLit (.str "shown")) (evCons (evLit (.str "a")) (evCons (evLit (.str "b")) evNil)))) (evCons (evTup (evCons (evLit (.str "not")) evNil)) (evCons (evTup (evCons (evLit (.str "not")) (evCons (evVar 1) (evCons (evVar 1) evNil)))) (evCons (evTup (evCons (evLit (.str "and")) (evCons (evVar 1) evNil))) (evCons (evTup (evCons (evLit (.str "or")) (evCons (evVar 1) (evCons (evVar 1) (evCons (evVar 1) evNil))))) (evCons (lstOf (evLst (evCons (evLit (.str "not")) (evCons (evVar 1) evNil)))) (evCons (evTup (evCons (evLit (.str "Not")) (evCons (evVar 1) evNil))) (evCons (evTup (evCons (evLit (.str "not")) (evCons (lstOf (evLst (evCons (evVar 1) evNil))) evNil))) (evCons (evTup (evCons (evLit (.str "and")) (evCons (evVar 1) (evCons (evTup (evCons (evLit (.str "shown")) (evCons (evLit (.str "averyverylongname")) evNil))) evNil)))) (evCons (evTup (evCons (evLit (.str "or")) (evCons (evTup (evCons (evLit (.str "not")) (evCons (evTup evNil) evNil))) (evCons (evVar 1) evNil)))) (evCons (evTup (evCons (evLit (.str "xor")) (evCons (evVar 1) (evCons (evVar 1) evNil)))) (evCons (evTup (evCons (evLit (.str "not")) (evCons (evLit (.str "true")) evNil))) (evCons (evTup (evCons (evVar 1) evNil)) evNil))))))))))))))))))))))))) (retS (evCallD 0 f_law_pick (evCons (evVar 2) evNil))))
def f_law_near : List D → Dk → Rd := runFnD 3 b_law_near
theorem sc_law_near : FnScope ["deck", "formula", "some"] ["deck", "formula"] (defScope s_law_near) := ⟨rfl, rfl, rfl, by decide +kernel, rfl, by decide +kernel, by decide +kernel⟩
theorem ok_law_near {P : Program} {w : World} {K : Fr} {mg : Str → Option Value} {base : Heap} {cl ad : Nat → Addr} {fd : Nat → FuncData} {fi : Nat → Addr} {za : Addr} (T : Txt K mg cl ad fd fi za) : FnOk P w K mg base (L2.CX P w) 5 (ad 20) (fd 20) ["deck", "formula"] (spD K 1 f_law_near) :=
  fn_deck (cl := cl) (k := 4) T.F20 sc_law_near rfl (by decide) fun cdv A outer s H E hr => by exact (ss_cons (ss_set (m := false) (i := 2) sc_law_near.nd rfl (by first | exact Or.inl rfl | exact Or.inr rfl) (sf_of (sf_lst (sa_cons se_none (sa_cons se_bool (sa_cons (se_tup sa_nil) (sa_cons se_str (sa_cons (se_tup (sa_cons se_str (sa_cons se_int sa_nil))) (sa_cons (se_tup (sa_cons se_str sa_nil)) (sa_cons (se_tup (sa_cons se_str (sa_cons se_str sa_nil))) (sa_cons (se_tup (sa_cons se_str (sa_cons se_str sa_nil))) (sa_cons (se_tup (sa_cons se_str (sa_cons se_int sa_nil))) (sa_cons (se_tup (sa_cons se_str (sa_cons se_str (sa_cons se_str sa_nil)))) (sa_cons (se_tup (sa_cons se_str sa_nil)) (sa_cons (se_tup (sa_cons se_str (sa_cons (se_var 1 (pv 1)) (sa_cons (se_var 1 (pv 1)) sa_nil)))) (sa_cons (se_tup (sa_cons se_str (sa_cons (se_var 1 (pv 1)) sa_nil))) (sa_cons (se_tup (sa_cons se_str (sa_cons (se_var 1 (pv 1)) (sa_cons (se_var 1 (pv 1)) (sa_cons (se_var 1 (pv 1)) sa_nil))))) (sa_cons (sf_of (sf_lst (sa_cons se_str (sa_cons (se_var 1 (pv 1)) sa_nil)))) (sa_cons (se_tup (sa_cons se_str (sa_cons (se_var 1 (pv 1)) sa_nil))) (sa_cons (se_tup (sa_cons se_str (sa_cons (sf_of (sf_lst (sa_cons (se_var 1 (pv 1)) sa_nil))) sa_nil))) (sa_cons (se_tup (sa_cons se_str (sa_cons (se_var 1 (pv 1)) (sa_cons (se_tup (sa_cons se_str (sa_cons se_str sa_nil))) sa_nil)))) (sa_cons (se_tup (sa_cons se_str (sa_cons (se_tup (sa_cons se_str (sa_cons (se_tup sa_nil) sa_nil))) (sa_cons (se_var 1 (pv 1)) sa_nil)))) (sa_cons (se_tup (sa_cons se_str (sa_cons (se_var 1 (pv 1)) (sa_cons (se_var 1 (pv 1)) sa_nil)))) (sa_cons (se_tup (sa_cons se_str (sa_cons se_str sa_nil))) (sa_cons (se_tup (sa_cons (se_var 1 (pv 1)) sa_nil)) sa_nil))))))))))))))))))))))))) (ss_one (ss_ret (m := false) (se_callD 0 (ok_law_pick T) (hr.mono (by decide)) rfl T.g17 T.F17.kp T.B17 (takes0) (pv 0) (sa_cons (se_var 2 (pv 2)) sa_nil) (evCons_len evNil_len)))))
/-! ### are_rising -/
def b_are_rising : Ex := (retS (ev1 allD (lstOf (evComp [1, 2] (evZip (evVar 0) (evSl (evVarB 0) (ptOf (evLit (.int 1))) ptNo)) (tgT [1, 2]) evYes (evBin ltS (evVarB 1) (evVarB 2))))))
def f_are_rising : List D → Ro := runFn 3 b_are_rising
theorem sc_are_rising : FnScope ["things", "one", "other"] ["things"] (defScope s_are_rising) := ⟨rfl, rfl, rfl, by decide +kernel, rfl, by decide +kernel, by decide +kernel⟩
theorem ok_are_rising {P : Program} {w : World} {K : Fr} {mg : Str → Option Value} {base : Heap} {cl ad : Nat → Addr} {fd : Nat → FuncData} {fi : Nat → Addr} {za : Addr} (T : Txt K mg cl ad fd fi za) : FnOk P w K mg base (L2.CX P w) 3 (ad 5) (fd 5) ["things"] (spP K cl 1 f_are_rising) :=
  fn_pure (cl := cl) (k := 2) T.F5 sc_are_rising rfl (by decide) fun cdv A outer s H E hr => by exact (ss_one (ss_ret (m := false) (se_b (cr_all rfl) sem_all rfl T.n_all bt_all (sb_of (sf_of (sf_comp (tgT_sem (is := [1, 2]) (vs := [1, 2]) (n := 2) rfl (by decide)) (pe_lc (own := [("one", 1), ("other", 2)]) rfl sc_are_rising.nd (si_zip rfl T.n_zip (se_var 0 (pv 0)) (se_slice (sb_var 0 (pv 0)) (sp_some (sb_of se_int)) sp_none)) (blkOk_by (by show blkC ["things", "one", "other"] (defScope s_are_rising) _ _ = true; decide +kernel)) (fun _ _ _ _ _ => (pg_tup (n := 2) rfl (pgs_cons (pg_name (i := 1) sc_are_rising.nd rfl (by first | exact Or.inl rfl | exact Or.inr rfl)) (pgs_cons (pg_name (i := 2) sc_are_rising.nd rfl (by first | exact Or.inl rfl | exact Or.inr rfl)) pgs_nil)))) (fun _ _ _ _ _ => pts_yes) (fun _ _ _ _ _ => (se_cmp op_lt_str sem_ltS (sb_var 1 (pv 1)) (sb_var 2 (pv 2)) (nomark _))))))))))
/-! ### is_one_of -/
def b_is_one_of : Ex := (retS (evAnd (ev1 (isiD "str") (evVarB 0)) (evBin (inSeq false) (evVarB 0) (evVarB 1))))
def f_is_one_of : List D → Ro := runFn 2 b_is_one_of
theorem sc_is_one_of : FnScope ["thing", "words"] ["thing", "words"] (defScope s_is_one_of) := ⟨rfl, rfl, rfl, by decide +kernel, rfl, by decide +kernel, by decide +kernel⟩
theorem ok_is_one_of {P : Program} {w : World} {K : Fr} {mg : Str → Option Value} {base : Heap} {cl ad : Nat → Addr} {fd : Nat → FuncData} {fi : Nat → Addr} {za : Addr} (T : Txt K mg cl ad fd fi za) : FnOk P w K mg base (L2.CX P w) 3 (ad 2) (fd 2) ["thing", "words"] (spP K cl 2 f_is_one_of) :=
  fn_pure (cl := cl) (k := 2) T.F2 sc_is_one_of rfl (by decide) fun cdv A outer s H E hr => by exact (ss_one (ss_ret (m := false) (se_and (se_isi tyok_str rfl T.n_isinstance (pe_bltn (v := V.ty "str") rfl T.n_str bt_str rfl) (sb_var 0 (pv 0))) (se_one (se_cmp op_in_seq (sem_inSeq false) (sb_var 0 (pv 0)) (sb_var 1 (pv 1)) (by rfl))))))
/-! ### is_shown_word -/
def b_is_shown_word : Ex := (retS (evOr (evCall f_is_name (evCons (evVar 0) evNil)) (evCall f_is_one_of (evCons (evVar 0) (evCons (evLit (.tuple [(.str "time!"), (.str "urgent!"), (.str "committed!"), (.str "reply!")])) evNil)))))
def f_is_shown_word : List D → Ro := runFn 1 b_is_shown_word
theorem sc_is_shown_word : FnScope ["thing"] ["thing"] (defScope s_is_shown_word) := ⟨rfl, rfl, rfl, by decide +kernel, rfl, by decide +kernel, by decide +kernel⟩
theorem ok_is_shown_word {P : Program} {w : World} {K : Fr} {mg : Str → Option Value} {base : Heap} {cl ad : Nat → Addr} {fd : Nat → FuncData} {fi : Nat → Addr} {za : Addr} (T : Txt K mg cl ad fd fi za) : FnOk P w K mg base (L2.CX P w) 4 (ad 6) (fd 6) ["thing"] (spP K cl 1 f_is_shown_word) :=
  fn_pure (cl := cl) (k := 3) T.F6 sc_is_shown_word rfl (by decide) fun cdv A outer s H E hr => by exact (ss_one (ss_ret (m := false) (se_or (se_call (ok_is_name T) (hr.mono (by decide)) rfl T.g4 T.F4.kp T.B4 (takes_of rfl rfl rfl rfl) (sa_cons (se_var 0 (pv 0)) sa_nil) (evCons_len evNil_len)) (se_one (se_call (ok_is_one_of T) (hr.mono (by decide)) rfl T.g2 T.F2.kp T.B2 (takes_of rfl rfl rfl rfl) (sa_cons (se_var 0 (pv 0)) (sa_cons (se_glob T.c_MARK_WORDS rfl) sa_nil)) (evCons_len (evCons_len evNil_len)))))))
/-! ### are_words -/
def b_are_words : Ex := (retS (evAnd (ev1 (isiD "tuple") (evVarB 0)) (evAnd (ev1 allD (lstOf (evComp [1] (evItT (evVar 0)) (tgN 1) evYes (evCall f_is_shown_word (evCons (evVar 1) evNil))))) (evCall f_are_rising (evCons (evVar 0) evNil)))))
def f_are_words : List D → Ro := runFn 2 b_are_words
theorem sc_are_words : FnScope ["thing", "word"] ["thing"] (defScope s_are_words) := ⟨rfl, rfl, rfl, by decide +kernel, rfl, by decide +kernel, by decide +kernel⟩
theorem ok_are_words {P : Program} {w : World} {K : Fr} {mg : Str → Option Value} {base : Heap} {cl ad : Nat → Addr} {fd : Nat → FuncData} {fi : Nat → Addr} {za : Addr} (T : Txt K mg cl ad fd fi za) : FnOk P w K mg base (L2.CX P w) 5 (ad 7) (fd 7) ["thing"] (spP K cl 1 f_are_words) :=
  fn_pure (cl := cl) (k := 4) T.F7 sc_are_words rfl (by decide) fun cdv A outer s H E hr => by exact (ss_one (ss_ret (m := false) (se_and (se_isi tyok_tuple rfl T.n_isinstance (pe_bltn (v := V.ty "tuple") rfl T.n_tuple bt_tuple rfl) (sb_var 0 (pv 0))) (se_and (se_b (cr_all rfl) sem_all rfl T.n_all bt_all (sb_of (sf_of (sf_comp (tgN_sem (vs := [1]) (i := 1) (by decide)) (pe_lc (own := [("word", 1)]) rfl sc_are_words.nd (si_tup (se_var 0 (pv 0))) (blkOk_by (by show blkC ["thing", "word"] (defScope s_are_words) _ _ = true; decide +kernel)) (fun _ _ _ _ _ => (pg_name (i := 1) sc_are_words.nd rfl (by first | exact Or.inl rfl | exact Or.inr rfl))) (fun _ _ _ _ _ => pts_yes) (fun _ _ _ _ _ => (se_call (ok_is_shown_word T) (hr.mono (by decide)) rfl T.g6 T.F6.kp T.B6 (takes0) (sa_cons (se_var 1 (pv 1)) sa_nil) (evCons_len evNil_len)))))))) (se_one (se_call (ok_are_rising T) (hr.mono (by decide)) rfl T.g5 T.F5.kp T.B5 (takes_of rfl rfl rfl rfl) (sa_cons (se_var 0 (pv 0)) sa_nil) (evCons_len evNil_len)))))))
/-! ### need_formula -/
def b_need_formula : Ex := (ifS (evTnot (evT (evCall f_is_formula_value (evCons (evVar 0) evNil)))) (raiseS 0 (evVar 0)) skipS)
def f_need_formula : List D → Ro := runFn 1 b_need_formula
theorem sc_need_formula : FnScope ["formula"] ["formula"] (defScope s_need_formula) := ⟨rfl, rfl, rfl, by decide +kernel, rfl, by decide +kernel, by decide +kernel⟩
theorem ok_need_formula {P : Program} {w : World} {K : Fr} {mg : Str → Option Value} {base : Heap} {cl ad : Nat → Addr} {fd : Nat → FuncData} {fi : Nat → Addr} {za : Addr} (T : Txt K mg cl ad fd fi za) : FnOk P w K mg base (L2.CX P w) 7 (ad 10) (fd 10) ["formula"] (spP K cl 1 f_need_formula) :=
  fn_pure (cl := cl) (k := 6) T.F10 sc_need_formula rfl (by decide) fun cdv A outer s H E hr => by exact (ss_one (ss_if (m := false) (st_not (st_val (se_call (ok_is_formula_value T) (hr.mono (by decide)) rfl T.g9 T.F9.kp T.B9 (takes_of rfl rfl rfl rfl) (sa_cons (se_var 0 (pv 0)) sa_nil) (evCons_len evNil_len)))) (ss_one (ss_raise (m := false) 0 rfl T.e0 hr (takes_of rfl rfl rfl rfl) (se_var 0 (pv 0)) rfl)) ss_nil))
/-! ### joined_truth -/
def b_joined_truth : Ex := (seqS (ifS (evT (evBin eqD (evVarB 0) (evLit (.str "not")))) (retS (evNot (evBin ixD (evVarB 1) (evLit (.int 0))))) skipS) (retS (evIf (evT (evBin eqD (evVarB 0) (evLit (.str "and")))) (ev1 allD (evVarB 1)) (ev1 anyD (evVarB 1)))))
def f_joined_truth : List D → Ro := runFn 2 b_joined_truth
theorem sc_joined_truth : FnScope ["word", "truths"] ["word", "truths"] (defScope s_joined_truth) := ⟨rfl, rfl, rfl, by decide +kernel, rfl, by decide +kernel, by decide +kernel⟩
theorem ok_joined_truth {P : Program} {w : World} {K : Fr} {mg : Str → Option Value} {base : Heap} {cl ad : Nat → Addr} {fd : Nat → FuncData} {fi : Nat → Addr} {za : Addr} (T : Txt K mg cl ad fd fi za) : FnOk P w K mg base (L2.CX P w) 3 (ad 11) (fd 11) ["word", "truths"] (spP K cl 2 f_joined_truth) :=
  fn_pure (cl := cl) (k := 2) T.F11 sc_joined_truth rfl (by decide) fun cdv A outer s H E hr => by exact (ss_cons (ss_if (m := false) (st_cmp (op_eqD hr.units) sem_eqD (sb_var 0 (pv 0)) (sb_of se_str) (nomark _)) (ss_one (ss_ret (m := false) (se_not (se_ix (sb_var 1 (pv 1)) (sb_of se_int))))) ss_nil) (ss_one (ss_ret (m := false) (se_if (st_cmp (op_eqD hr.units) sem_eqD (sb_var 0 (pv 0)) (sb_of se_str) (nomark _)) (se_b (cr_all rfl) sem_all rfl T.n_all bt_all (sb_var 1 (pv 1))) (se_b (cr_any rfl) sem_any rfl T.n_any bt_any (sb_var 1 (pv 1)))))))
/-! ### is_shown -/
def b_is_shown : Ex := (seqS (parOS 2 3 (evLst (evCons (evTup (evCons (evVar 0) (evCons (evLit (.bool false)) evNil))) evNil)) (evLst evNil)) (seqS (whileS 100000 (evT (evBin neD (evVarB 2) (lstOf (evLst evNil)))) (seqS (unpS [4, 5] (evPop 2)) (ifS (evT (evBin eqD (evBin ixD (evVarB 4) (evLit (.int 0))) (evLit (.str "true")))) (doS (evApp 3 (evLit (.bool true)))) (ifS (evT (evBin eqD (evBin ixD (evVarB 4) (evLit (.int 0))) (evLit (.str "shown")))) (doS (evApp 3 (evBin (inSeq false) (evBin ixD (evVarB 4) (evLit (.int 1))) (evVarB 1)))) (ifS (evT (evVar 5)) (seqS (setS 6 (evBin subI (ev1 lenD (evVarB 4)) (evLit (.int 1)))) (ownS 3 (evBinL addL (lstOf (evSlL (evVarB 3) ptNo (ptOf (ev1 negD (evVarB 6))))) (lstOf (evLst (evCons (evCall f_joined_truth (evCons (evBin ixD (evVarB 4) (evLit (.int 0))) (evCons (lstOf (evSlL (evVarB 3) (ptOf (ev1 negD (evVarB 6))) ptNo)) evNil))) evNil)))))) (seqS (doS (evApp 2 (evTup (evCons (evVar 4) (evCons (evLit (.bool true)) evNil))))) (doS (evExt 2 (lstOf (evComp [7] (evItT (evSl (evVarB 4) (ptOf (evLit (.int 1))) ptNo)) (tgN 7) evYes (evTup (evCons (evVar 7) (evCons (evLit (.bool false)) evNil))))))))))))) (retS (evBin ixD (evVarB 3) (evLit (.int 0))))))
def f_is_shown : List D → Ro := runFn 8 b_is_shown
theorem sc_is_shown : FnScope ["formula", "words", "waiting", "found", "part", "is_ready", "many", "other"] ["formula", "words"] (defScope s_is_shown) := ⟨rfl, rfl, rfl, by decide +kernel, rfl, by decide +kernel, by decide +kernel⟩
theorem ok_is_shown {P : Program} {w : World} {K : Fr} {mg : Str → Option Value} {base : Heap} {cl ad : Nat → Addr} {fd : Nat → FuncData} {fi : Nat → Addr} {za : Addr} (T : Txt K mg cl ad fd fi za) : FnOk P w K mg base (L2.CX P w) 4 (ad 12) (fd 12) ["formula", "words"] (spP K cl 2 f_is_shown) :=
  fn_pure (cl := cl) (k := 3) T.F12 sc_is_shown rfl (by decide) fun cdv A outer s H E hr => by exact (ss_cons (ss_parO (m := false) (i := 2) (j := 3) (by decide) (sf_lst (sa_cons (se_tup (sa_cons (se_var 0 (pv 0)) (sa_cons se_bool sa_nil))) sa_nil)) (sf_lst sa_nil) (fun ta h => ps_par rfl sc_is_shown.nd rfl rfl (by decide) rfl rfl h rfl)) (ss_cons (ss_while (m := false) 100000 (passes_of rfl) (st_cmp (op_neD hr.units) sem_neD (sb_var 2 (pv 2)) (sb_of (sf_of (sf_lst sa_nil))) (nomark _)) (ss_cons (ss_unp (m := false) (is := [4, 5]) (n := 2) rfl (ps_asg (se_pop 2 (pv 2)) (pg_tup rfl (pgs_cons (pg_name (i := 4) sc_is_shown.nd rfl (by first | exact Or.inl rfl | exact Or.inr rfl)) (pgs_cons (pg_name (i := 5) sc_is_shown.nd rfl (by first | exact Or.inl rfl | exact Or.inr rfl)) pgs_nil))))) (ss_one (ss_if (m := false) (st_cmp (op_eqD hr.units) sem_eqD (sb_of (se_ix (sb_var 4 (pv 4)) (sb_of se_int))) (sb_of se_str) (nomark _)) (ss_one (ss_do (m := false) (se_app 3 (pv 3) se_bool rfl (fun t h => pe_bm PySem.F.plainAttrs_list PySem.F.slot_list_append PySem.F.type_list_append mt_append (pv 3) h)))) (ss_one (ss_if (m := false) (st_cmp (op_eqD hr.units) sem_eqD (sb_of (se_ix (sb_var 4 (pv 4)) (sb_of se_int))) (sb_of se_str) (nomark _)) (ss_one (ss_do (m := false) (se_app 3 (pv 3) (se_cmp op_in_seq (sem_inSeq false) (sb_of (se_ix (sb_var 4 (pv 4)) (sb_of se_int))) (sb_var 1 (pv 1)) (by rfl)) rfl (fun t h => pe_bm PySem.F.plainAttrs_list PySem.F.slot_list_append PySem.F.type_list_append mt_append (pv 3) h)))) (ss_one (ss_if (m := false) (st_val (se_var 5 (pv 5))) (ss_cons (ss_set (m := false) (i := 6) sc_is_shown.nd rfl (by first | exact Or.inl rfl | exact Or.inr rfl) (se_bin op_sub sem_subI (sb_of (se_b L2.call_len sem_len rfl T.n_len bt_len (sb_var 4 (pv 4)))) (sb_of se_int))) (ss_one (ss_own (m := false) (i := 3) sc_is_shown.nd rfl (by first | exact Or.inl rfl | exact Or.inr rfl) (sf_bin op_cat sem_addL (sb_of (sf_of (sf_slice (sb_var 3 (pv 3)) sp_none (sp_some (sb_of (se_neg (sb_var 6 (pv 6)))))))) (sb_of (sf_of (sf_lst (sa_cons (se_call (ok_joined_truth T) (hr.mono (by decide)) rfl T.g11 T.F11.kp T.B11 (takes_of rfl rfl rfl rfl) (sa_cons (se_ix (sb_var 4 (pv 4)) (sb_of se_int)) (sa_cons (sf_of (sf_slice (sb_var 3 (pv 3)) (sp_some (sb_of (se_neg (sb_var 6 (pv 6))))) sp_none)) sa_nil)) (evCons_len (evCons_len evNil_len))) sa_nil)))))))) (ss_cons (ss_do (m := false) (se_app 2 (pv 2) (se_tup (sa_cons (se_var 4 (pv 4)) (sa_cons se_bool sa_nil))) rfl (fun t h => pe_bm PySem.F.plainAttrs_list PySem.F.slot_list_append PySem.F.type_list_append mt_append (pv 2) h))) (ss_one (ss_do (m := false) (se_ext 2 (pv 2) (sf_of (sf_comp (tgN_sem (vs := [7]) (i := 7) (by decide)) (pe_lc (own := [("other", 7)]) rfl sc_is_shown.nd (si_tup (se_slice (sb_var 4 (pv 4)) (sp_some (sb_of se_int)) sp_none)) (blkOk_by (by show blkC ["formula", "words", "waiting", "found", "part", "is_ready", "many", "other"] (defScope s_is_shown) _ _ = true; decide +kernel)) (fun _ _ _ _ _ => (pg_name (i := 7) sc_is_shown.nd rfl (by first | exact Or.inl rfl | exact Or.inr rfl))) (fun _ _ _ _ _ => pts_yes) (fun _ _ _ _ _ => (se_tup (sa_cons (se_var 7 (pv 7)) (sa_cons se_bool sa_nil))))))) (fun t h => pe_bm PySem.F.plainAttrs_list PySem.F.slot_list_extend PySem.F.type_list_extend mt_extend (pv 2) h))))))))))))) (ss_one (ss_ret (m := false) (se_ix (sb_var 3 (pv 3)) (sb_of se_int))))))
/-! ### shows_it -/
def b_shows_it : Ex := (seqS (doS (evCall f_need_formula (evCons (evVar 0) evNil))) (seqS (ifS (evTnot (evT (evCall f_are_words (evCons (evVar 1) evNil)))) (raiseS 0 (evVar 1)) skipS) (retS (evCall f_is_shown (evCons (evVar 0) (evCons (evVar 1) evNil))))))
def f_shows_it : List D → Ro := runFn 2 b_shows_it
theorem sc_shows_it : FnScope ["formula", "words"] ["formula", "words"] (defScope s_shows_it) := ⟨rfl, rfl, rfl, by decide +kernel, rfl, by decide +kernel, by decide +kernel⟩
theorem ok_shows_it {P : Program} {w : World} {K : Fr} {mg : Str → Option Value} {base : Heap} {cl ad : Nat → Addr} {fd : Nat → FuncData} {fi : Nat → Addr} {za : Addr} (T : Txt K mg cl ad fd fi za) : FnOk P w K mg base (L2.CX P w) 8 (ad 14) (fd 14) ["formula", "words"] (spP K cl 2 f_shows_it) :=
  fn_pure (cl := cl) (k := 7) T.F14 sc_shows_it rfl (by decide) fun cdv A outer s H E hr => by exact (ss_cons (ss_do (m := false) (se_call (ok_need_formula T) (hr.mono (by decide)) rfl T.g10 T.F10.kp T.B10 (takes_of rfl rfl rfl rfl) (sa_cons (se_var 0 (pv 0)) sa_nil) (evCons_len evNil_len))) (ss_cons (ss_if (m := false) (st_not (st_val (se_call (ok_are_words T) (hr.mono (by decide)) rfl T.g7 T.F7.kp T.B7 (takes_of rfl rfl rfl rfl) (sa_cons (se_var 1 (pv 1)) sa_nil) (evCons_len evNil_len)))) (ss_one (ss_raise (m := false) 0 rfl T.e0 hr (takes_of rfl rfl rfl rfl) (se_var 1 (pv 1)) rfl)) ss_nil) (ss_one (ss_ret (m := false) (se_call (ok_is_shown T) (hr.mono (by decide)) rfl T.g12 T.F12.kp T.B12 (takes_of rfl rfl rfl rfl) (sa_cons (se_var 0 (pv 0)) (sa_cons (se_var 1 (pv 1)) sa_nil)) (evCons_len (evCons_len evNil_len)))))))
/-! ### _law_heard -/
def b_law_heard : Ex := (heardS 0 "formula" 3 (retS (evTup (evCons (evLit (.str "told")) (evCons (evIf (evT (evVar 2)) (evCallK f_shows_it [1, 0] (evCons (evVar 1) (evCons (evVar 0) evNil))) (evCall f_shows_it (evCons (evVar 0) (evCons (evVar 1) evNil)))) evNil)))))
def f_law_heard : List D → Ro := runFn 4 b_law_heard
theorem sc_law_heard : FnScope ["formula", "words", "by_name", "e"] ["formula", "words", "by_name"] (defScope s_law_heard) := ⟨rfl, rfl, rfl, by decide +kernel, rfl, by decide +kernel, by decide +kernel⟩
theorem ok_law_heard {P : Program} {w : World} {K : Fr} {mg : Str → Option Value} {base : Heap} {cl ad : Nat → Addr} {fd : Nat → FuncData} {fi : Nat → Addr} {za : Addr} (T : Txt K mg cl ad fd fi za) : FnOk P w K mg base (L2.CX P w) 9 (ad 21) (fd 21) ["formula", "words", "by_name"] (spP K cl 3 f_law_heard) :=
  fn_pure (cl := cl) (k := 8) T.F21 sc_law_heard rfl (by decide) fun cdv A outer s H E hr => by exact (ss_one (ss_heard (c := 0) (i := 3) (w := "formula") (n := "e") rfl rfl sc_law_heard.nd rfl rfl ⟨rfl, by decide, Or.inl T.e0.gC⟩ (takes_of rfl rfl rfl rfl) T.e0 T.i0 T.z0 T.gZ rfl rfl T.n_isinstance (Or.inl rfl) (Or.inl rfl) (fun W pn xe tk _ => (ss_one (ss_ret (m := false) (se_tup (sa_cons se_str (sa_cons (se_if (st_val (se_var 2 (pv 2))) (se_callK (ix := [1, 0]) (ok_shows_it T) (hr.mono (by decide)) rfl T.g14 T.F14.kp T.k14_words_formula (tk) (sk_cons (se_var 1 (pv 1)) (sk_cons (se_var 0 (pv 0)) sk_nil)) rfl (kw_len (ix := [1, 0]) (evCons_len (evCons_len evNil_len)) (by decide))) (se_call (ok_shows_it T) (hr.mono (by decide)) rfl T.g14 T.F14.kp T.B14 (tk) (sa_cons (se_var 0 (pv 0)) (sa_cons (se_var 1 (pv 1)) sa_nil)) (evCons_len (evCons_len evNil_len)))) sa_nil)))))) (fun _ _ _ _ => pv 3)))
/-! ### law -/
def b_law : Ex := (seqS (forS (evRng1 (evLit (.int 8))) (tgN 2) (seqS (setS 3 (evCallD 1 (f_law_formula 8) (evCons (evCallD 1 drawF (evCons (evLit (.int 6)) evNil)) evNil))) (seqS (setS 4 (ev1 tupD (lstOf (ev1L sortD (lstOf (evComp [5] (evItL (lstOf (evLst (evCons (evLit (.str "hot")) (evCons (evLit (.str "late")) (evCons (evLit (.str "done")) (evCons (evLit (.str "w1")) (evCons (evLit (.str "true")) (evCons (evLit (.str "not")) (evCons (evLit (.str "z9")) evNil)))))))))) (tgN 5) (evT (evBin eqD (evCallD 1 drawF (evCons (evLit (.int 2)) evNil)) (evLit (.int 0)))) (evVar 5))))))) (seqS (par2S 6 7 (evCall (f_law_is_so 8) (evCons (evVar 3) (evCons (evVar 4) evNil))) (ev1 reprD (evTup (evCons (evVar 3) (evCons (evVar 4) evNil))))) (seqS (setS 8 (evCallD 1 f_law_near (evCons (evVar 3) evNil))) (seqS (setS 9 (evCallD 1 f_law_pick (evCons (lstOf (evLst (evCons (evLit .none) (evCons (lstOf (evLst (evCons (evLit (.str "hot")) evNil))) (evCons (evLit (.str "hot")) (evCons (evTup (evCons (evLit (.str "late")) (evCons (evLit (.str "hot")) evNil))) (evCons (evTup (evCons (evLit (.str "hot")) (evCons (evLit (.str "hot")) evNil))) (evCons (evTup (evCons (evLit (.str "Hot")) evNil)) (evCons (evTup (evCons (evLit (.str "")) evNil)) (evCons (evTup (evCons (evLit (.int 7)) evNil)) (evCons (evTup (evCons (evLit (.str "hot")) (evCons (evLit .none) evNil))) (evCons (evTup (evCons (evTup (evCons (evLit (.str "hot")) evNil)) evNil)) (evCons (evLit (.dict [])) (evCons (evLit (.bool true)) evNil)))))))))))))) evNil))) (seqS (setS 10 (lstOf (evLst (evCons (evCall f_law_heard (evCons (evVar 3) (evCons (evVar 4) (evCons (evLit (.bool false)) evNil)))) (evCons (evCall f_law_heard (evCons (evVar 3) (evCons (evVar 4) (evCons (evLit (.bool true)) evNil)))) (evCons (evCall f_law_heard (evCons (evVar 8) (evCons (evVar 9) (evCons (evLit (.bool false)) evNil)))) (evCons (evCall f_law_heard (evCons (evVar 3) (evCons (evVar 9) (evCons (evLit (.bool true)) evNil)))) evNil))))))) (seqS (ifS (evTor (evT (evBin neSt (ev1 reprD (evVar 10)) (ev1 reprD (lstOf (evBinL addL (lstOf (evBinL repL (lstOf (evLst (evCons (evTup (evCons (evLit (.str "told")) (evCons (evVar 6) evNil))) evNil))) (evLit (.int 2)))) (lstOf (evLst (evCons (evTup (evCons (evLit (.str "formula")) (evCons (evVar 8) (evCons (evLit (.bool true)) evNil)))) (evCons (evTup (evCons (evLit (.str "formula")) (evCons (evVar 9) (evCons (evLit (.bool true)) evNil)))) evNil))))))))) (evT (evBin neSt (ev1 reprD (evTup (evCons (evVar 3) (evCons (evVar 4) evNil)))) (evVarB 7)))) (retS (evLit (.bool false))) skipS) (ifS (evT (evBin neSt (ev1 reprD (lstOf (evLst (evCons (evCall f_is_formula (evCons (evVar 3) evNil)) (evCons (evCallK f_is_formula [0] (evCons (evVar 3) evNil)) (evCons (evCall f_is_formula (evCons (evVar 8) evNil)) evNil)))))) (ev1 reprD (lstOf (evLst (evCons (evLit (.bool true)) (evCons (evLit (.bool true)) (evCons (evLit (.bool false)) evNil)))))))) (retS (evLit (.bool false))) skipS))))))))) (retS (evLit (.bool true))))
theorem sc_law : FnScope ["script", "deck", "turn", "formula", "words", "it", "due", "text", "none", "bad", "heard"] ["script"] (defScope s_law) := ⟨rfl, rfl, rfl, by decide +kernel, rfl, by decide +kernel, by decide +kernel⟩
theorem ok_law {P : Program} {w : World} {K : Fr} {mg : Str → Option Value} {base : Heap} {cl ad : Nat → Addr} {fd : Nat → FuncData} {fi : Nat → Addr} {za : Addr} (T : Txt K mg cl ad fd fi za) {s : Shared} {H : Hp} {cdv : Value} {a : Addr} {ns : List Int} (hrun : ∃ s', b_law (lawMs 9 (begun ns 95019)) = .ok (.rt (.bool true)) s') (sq : SqL K H a (ns.map V.int)) :
    ∃ t, PSs (cxOf (L2.CX P w) P w K mg base ["script", "deck", "turn", "formula", "words", "it", "due", "text", "none", "bad", "heard"] "law" (defScope s_law) (ad 22) cdv callerA [] s H (fun _ _ _ => False)) (defBody s_law) t ∧ t { nx := fun _ _ => False, rt := fun v _ => v = .bl true } (start ["script", "deck", "turn", "formula", "words", "it", "due", "text", "none", "bad", "heard"] [.ref a]) H := by
  have hr : Room 13 (callerA.deeper (envOfC "law" (defScope s_law) s.heap.objs.size (ad 22) cdv)) := Room.deeper (k := 13) ⟨rfl, by decide +kernel, by decide +kernel⟩ _
  have hgu : (callerA.deeper (envOfC "law" (defScope s_law) s.heap.objs.size (ad 22) cdv)).guards = some [] := rfl
  exact law_body (cl := cl) (n := 9) sq rfl (ps_set (i := 1) sc_law.nd rfl (by first | exact Or.inl rfl | exact Or.inr rfl) (pe_callS (ok_begun (k := 2) T.F15 T.n_list) (hr.mono (by decide)) rfl T.g15 T.F15.kp T.B15 (fun σ => passAt takes0 σ) (pa_cons (pv 0) (pa_cons pe_int pa_nil)))) (by exact (ss_cons (ss_for (m := false) (passes_of rfl) rfl (si_rng1 rfl T.n_range (sb_of se_int)) (pg_name (i := 2) sc_law.nd rfl (by first | exact Or.inl rfl | exact Or.inr rfl)) (tgN_sem (vs := [2]) (i := 2) (by decide)) (ss_cons (ss_set (m := false) (i := 3) sc_law.nd rfl (by first | exact Or.inl rfl | exact Or.inr rfl) (se_callD 1 (ok_law_formula T 8) (hr.mono (by decide)) rfl T.g18 T.F18.kp T.B18 (takes0) (pv 1) (sa_cons (se_callD 1 (ok_draw (k := 2) T.F16 T.n_max T.n_int) (hr.mono (by decide)) rfl T.g16 T.F16.kp T.B16 (takes0) (pv 1) (sa_cons se_int sa_nil) (evCons_len evNil_len)) sa_nil) (evCons_len evNil_len))) (ss_cons (ss_set (m := false) (i := 4) sc_law.nd rfl (by first | exact Or.inl rfl | exact Or.inr rfl) (se_ty L2.call_tuple_of sem_tuple rfl T.n_tuple bt_tuple (sb_of (sf_of (sf_b cr_sortedS sem_sorted rfl T.n_sorted bt_sorted (sb_of (sf_of (sf_comp (tgN_sem (vs := [5]) (i := 5) (by decide)) (pe_lc (own := [("it", 5)]) rfl sc_law.nd (si_list (sf_of (sf_lst (sa_cons se_str (sa_cons se_str (sa_cons se_str (sa_cons se_str (sa_cons se_str (sa_cons se_str (sa_cons se_str sa_nil)))))))))) (blkOk_by (by show blkC ["script", "deck", "turn", "formula", "words", "it", "due", "text", "none", "bad", "heard"] (defScope s_law) _ _ = true; decide +kernel)) (fun _ _ _ _ _ => (pg_name (i := 5) sc_law.nd rfl (by first | exact Or.inl rfl | exact Or.inr rfl))) (fun _ _ _ _ _ => (pts_one (st_cmp (op_eqD hr.units) sem_eqD (sb_of (se_callD 1 (ok_draw (k := 2) T.F16 T.n_max T.n_int) (hr.mono (by decide)) rfl T.g16 T.F16.kp T.B16 (takes0) (pv 1) (sa_cons se_int sa_nil) (evCons_len evNil_len))) (sb_of se_int) (nomark _)))) (fun _ _ _ _ _ => (se_var 5 (pv 5)))))))))))) (ss_cons (ss_par2 (m := false) (i := 6) (j := 7) rfl sc_law.nd rfl rfl (by decide) (se_call (ok_law_is_so T 8) (hr.mono (by decide)) rfl T.g19 T.F19.kp T.B19 (takes0) (sa_cons (se_var 3 (pv 3)) (sa_cons (se_var 4 (pv 4)) sa_nil)) (evCons_len (evCons_len evNil_len))) (se_repr hgu hr.units rfl T.n_repr (se_tup (sa_cons (se_var 3 (pv 3)) (sa_cons (se_var 4 (pv 4)) sa_nil)))) (fun ta h => ps_par rfl sc_law.nd rfl rfl (by decide) rfl rfl h rfl)) (ss_cons (ss_set (m := false) (i := 8) sc_law.nd rfl (by first | exact Or.inl rfl | exact Or.inr rfl) (se_callD 1 (ok_law_near T) (hr.mono (by decide)) rfl T.g20 T.F20.kp T.B20 (takes0) (pv 1) (sa_cons (se_var 3 (pv 3)) sa_nil) (evCons_len evNil_len))) (ss_cons (ss_set (m := false) (i := 9) sc_law.nd rfl (by first | exact Or.inl rfl | exact Or.inr rfl) (se_callD 1 (ok_law_pick T) (hr.mono (by decide)) rfl T.g17 T.F17.kp T.B17 (takes0) (pv 1) (sa_cons (sf_of (sf_lst (sa_cons se_none (sa_cons (sf_of (sf_lst (sa_cons se_str sa_nil))) (sa_cons se_str (sa_cons (se_tup (sa_cons se_str (sa_cons se_str sa_nil))) (sa_cons (se_tup (sa_cons se_str (sa_cons se_str sa_nil))) (sa_cons (se_tup (sa_cons se_str sa_nil)) (sa_cons (se_tup (sa_cons se_str sa_nil)) (sa_cons (se_tup (sa_cons se_int sa_nil)) (sa_cons (se_tup (sa_cons se_str (sa_cons se_none sa_nil))) (sa_cons (se_tup (sa_cons (se_tup (sa_cons se_str sa_nil)) sa_nil)) (sa_cons se_dict0 (sa_cons se_bool sa_nil)))))))))))))) sa_nil) (evCons_len evNil_len))) (ss_cons (ss_set (m := false) (i := 10) sc_law.nd rfl (by first | exact Or.inl rfl | exact Or.inr rfl) (sf_of (sf_lst (sa_cons (se_call (ok_law_heard T) (hr.mono (by decide)) rfl T.g21 T.F21.kp T.B21 (takes0) (sa_cons (se_var 3 (pv 3)) (sa_cons (se_var 4 (pv 4)) (sa_cons se_bool sa_nil))) (evCons_len (evCons_len (evCons_len evNil_len)))) (sa_cons (se_call (ok_law_heard T) (hr.mono (by decide)) rfl T.g21 T.F21.kp T.B21 (takes0) (sa_cons (se_var 3 (pv 3)) (sa_cons (se_var 4 (pv 4)) (sa_cons se_bool sa_nil))) (evCons_len (evCons_len (evCons_len evNil_len)))) (sa_cons (se_call (ok_law_heard T) (hr.mono (by decide)) rfl T.g21 T.F21.kp T.B21 (takes0) (sa_cons (se_var 8 (pv 8)) (sa_cons (se_var 9 (pv 9)) (sa_cons se_bool sa_nil))) (evCons_len (evCons_len (evCons_len evNil_len)))) (sa_cons (se_call (ok_law_heard T) (hr.mono (by decide)) rfl T.g21 T.F21.kp T.B21 (takes0) (sa_cons (se_var 3 (pv 3)) (sa_cons (se_var 9 (pv 9)) (sa_cons se_bool sa_nil))) (evCons_len (evCons_len (evCons_len evNil_len)))) sa_nil))))))) (ss_cons (ss_if (m := false) (st_pw (sw_or (st_cmp op_ne sem_neSt (sb_of (se_repr hgu hr.units rfl T.n_repr (se_var 10 (pv 10)))) (sb_of (se_repr hgu hr.units rfl T.n_repr (sf_of (sf_bin op_cat sem_addL (sb_of (sf_of (sf_bin op_rep sem_repL (sb_of (sf_of (sf_lst (sa_cons (se_tup (sa_cons se_str (sa_cons (se_var 6 (pv 6)) sa_nil))) sa_nil)))) (sb_of se_int)))) (sb_of (sf_of (sf_lst (sa_cons (se_tup (sa_cons se_str (sa_cons (se_var 8 (pv 8)) (sa_cons se_bool sa_nil)))) (sa_cons (se_tup (sa_cons se_str (sa_cons (se_var 9 (pv 9)) (sa_cons se_bool sa_nil)))) sa_nil))))))))) (nomark _)) (sw_or1 (st_cmp op_ne sem_neSt (sb_of (se_repr hgu hr.units rfl T.n_repr (se_tup (sa_cons (se_var 3 (pv 3)) (sa_cons (se_var 4 (pv 4)) sa_nil))))) (sb_var 7 (pv 7)) (nomark _))))) (ss_one (ss_ret (m := false) se_bool)) ss_nil) (ss_one (ss_if (m := false) (st_cmp op_ne sem_neSt (sb_of (se_repr hgu hr.units rfl T.n_repr (sf_of (sf_lst (sa_cons (se_call (ok_is_formula T) (hr.mono (by decide)) rfl T.g13 T.F13.kp T.B13 (takes0) (sa_cons (se_var 3 (pv 3)) sa_nil) (evCons_len evNil_len)) (sa_cons (se_callK (ix := [0]) (ok_is_formula T) (hr.mono (by decide)) rfl T.g13 T.F13.kp T.k13_thing (takes0) (sk_cons (se_var 3 (pv 3)) sk_nil) rfl (kw_len (ix := [0]) (evCons_len evNil_len) (by decide))) (sa_cons (se_call (ok_is_formula T) (hr.mono (by decide)) rfl T.g13 T.F13.kp T.B13 (takes0) (sa_cons (se_var 8 (pv 8)) sa_nil) (evCons_len evNil_len)) sa_nil))))))) (sb_of (se_repr hgu hr.units rfl T.n_repr (sf_of (sf_lst (sa_cons se_bool (sa_cons se_bool (sa_cons se_bool sa_nil))))))) (nomark _)) (ss_one (ss_ret (m := false) se_bool)) ss_nil)))))))))) (ss_one (ss_ret (m := false) se_bool)))) hrun
end
end Zo
namespace Zo
open PySem PySem.Spec PyProof.Rows L2
theorem sh_int (i : Int) : SeqAt.shaped (.int i) = true := by simp [SeqAt.shaped, PyData.canLay0, PyData.depth]
theorem sh_bool (i : Bool) : SeqAt.shaped (.bool i) = true := by simp [SeqAt.shaped, PyData.canLay0, PyData.depth]
theorem sh_str {i : Str} (h : PyData.strOk i = true) : SeqAt.shaped (.str i) = true := by simp [SeqAt.shaped, PyData.canLay0, PyData.depth, h]
theorem eqI (i j : Int) : eqD (.int i) (.int j) = some (.bool (i == j)) := by simp [eqD, sh_int, PyData.eqv]
theorem eqS {i j : Str} (h : PyData.strOk i = true) (k : PyData.strOk j = true) : eqD (.str i) (.str j) = some (.bool (i == j)) := by simp [eqD, sh_str h, sh_str k, PyData.eqv]
def isTup (m : Nat) : D → Bool
  | .tuple ds => decide (ds.length = m)
  | _ => false
theorem v_is_tuple_of (x : D) (m : Nat) : f_is_tuple_of [x, .int m] = .ok (.bool (isTup m x)) := by
  cases x with
  | tuple ds =>
    have e : ((ds.length : Int) == (m : Int)) = decide (ds.length = m) := by
      by_cases h : ds.length = m
      · simp [h]
      · simp [h]; omega
    simp [f_is_tuple_of, b_is_tuple_of, runFn, runFnD, roOf, rdOf, envOf0, seqS, skipS, setS, ownS, retS, ifS, doS, fixS, par2S, parOS, unpS, raiseS, evVar, evVarB, evLit, evNil, evCons, evTup, evLst, evBin, evBinL, ev1, ev1L, evAnd, evOr, evNot, evIf, evT, evTnot, evTand, evTor, evChain, evCall, evCallD, evCallK, ofRo, ofRd, lstOf, evSl, evSlL, ptOf, ptNo, asInt, asBool, toOut, Out.bind, evPop, evApp, evExt, evItL, evItT, evItS, evRng1, evZip, setMany, isiD, isT, lenD, eqI, isTup, e]
  | _ => simp [f_is_tuple_of, b_is_tuple_of, runFn, runFnD, roOf, rdOf, envOf0, seqS, skipS, setS, ownS, retS, ifS, doS, fixS, par2S, parOS, unpS, raiseS, evVar, evVarB, evLit, evNil, evCons, evTup, evLst, evBin, evBinL, ev1, ev1L, evAnd, evOr, evNot, evIf, evT, evTnot, evTand, evTor, evChain, evCall, evCallD, evCallK, ofRo, ofRd, lstOf, evSl, evSlL, ptOf, ptNo, asInt, asBool, toOut, Out.bind, evPop, evApp, evExt, evItL, evItT, evItS, evRng1, evZip, setMany, isiD, isT, isTup]
theorem ix0 (d : D) (ds : List D) : ixD (.tuple (d :: ds)) (.int 0) = some d := by simp [ixD, atI, ixN]
theorem ix1 (d e : D) (ds : List D) : ixD (.tuple (d :: e :: ds)) (.int 1) = some e := by
  have h : ixN (d :: e :: ds).length 1 = some 1 := by
    unfold ixN
    rw [if_pos (by decide), if_pos (by simp only [List.length_cons]; omega)]
    rfl
  simp only [ixD, atI, h]
  rfl
theorem ix2 (d e f : D) (ds : List D) : ixD (.tuple (d :: e :: f :: ds)) (.int 2) = some f := by
  have h : ixN (d :: e :: f :: ds).length 2 = some 2 := by
    unfold ixN
    rw [if_pos (by decide), if_pos (by simp only [List.length_cons]; omega)]
    rfl
  simp only [ixD, atI, h]
  rfl
theorem sl1 (d : D) (ds : List D) : slD (.tuple (d :: ds)) (some 1) none = some (.tuple ds) := by
  simp [slD, cutL, HT.sIx]
/-- a text, if one, is of proper signs -/
def txtOk : D → Bool
  | .str x => PyData.strOk x
  | _ => true
def isWd (w : Str) : D → Bool
  | .str x => x == w
  | _ => false
theorem v_is_word {x : D} {w : Str} (h : txtOk x = true) (k : PyData.strOk w = true) : f_is_word [x, .str w] = .ok (.bool (isWd w x)) := by
  cases x with
  | str x => simp [f_is_word, b_is_word, runFn, runFnD, roOf, rdOf, envOf0, seqS, skipS, setS, ownS, retS, ifS, doS, fixS, par2S, parOS, unpS, raiseS, evVar, evVarB, evLit, evNil, evCons, evTup, evLst, evBin, evBinL, ev1, ev1L, evAnd, evOr, evNot, evIf, evT, evTnot, evTand, evTor, evChain, evCall, evCallD, evCallK, ofRo, ofRd, lstOf, evSl, evSlL, ptOf, ptNo, asInt, asBool, toOut, Out.bind, evPop, evApp, evExt, evItL, evItT, evItS, evRng1, evZip, setMany, isiD, isT, eqS (show PyData.strOk x = true from h) k, isWd]
  | _ => simp [f_is_word, b_is_word, runFn, runFnD, roOf, rdOf, envOf0, seqS, skipS, setS, ownS, retS, ifS, doS, fixS, par2S, parOS, unpS, raiseS, evVar, evVarB, evLit, evNil, evCons, evTup, evLst, evBin, evBinL, ev1, ev1L, evAnd, evOr, evNot, evIf, evT, evTnot, evTand, evTor, evChain, evCall, evCallD, evCallK, ofRo, ofRd, lstOf, evSl, evSlL, ptOf, ptNo, asInt, asBool, toOut, Out.bind, evPop, evApp, evExt, evItL, evItT, evItS, evRng1, evZip, setMany, isiD, isT, isWd]
def isNm (w : Str) (m : Nat) : D → Bool
  | .tuple (d :: ds) => decide (ds.length + 1 = m) && isWd w d
  | _ => false
def headOk : D → Bool
  | .tuple (d :: _) => txtOk d
  | _ => true
theorem v_is_named {x : D} {w : Str} {m : Nat} (hm : 0 < m) (hx : headOk x = true) (k : PyData.strOk w = true) : f_is_named [x, .str w, .int m] = .ok (.bool (isNm w m x)) := by
  have h1 := v_is_tuple_of x m
  by_cases h : isTup m x = true
  · cases x with
    | tuple ds =>
      have hl : ds.length = m := by simpa [isTup] using h
      cases ds with
      | nil => simp at hl; omega
      | cons d ds =>
        have h2 := v_is_word (x := d) hx k
        rw [h] at h1
        have hl' : ds.length + 1 = m := by simpa using hl
        simp [f_is_named, b_is_named, runFn, runFnD, roOf, rdOf, envOf0, seqS, skipS, setS, ownS, retS, ifS, doS, fixS, par2S, parOS, unpS, raiseS, evVar, evVarB, evLit, evNil, evCons, evTup, evLst, evBin, evBinL, ev1, ev1L, evAnd, evOr, evNot, evIf, evT, evTnot, evTand, evTor, evChain, evCall, evCallD, evCallK, ofRo, ofRd, lstOf, evSl, evSlL, ptOf, ptNo, asInt, asBool, toOut, Out.bind, evPop, evApp, evExt, evItL, evItT, evItS, evRng1, evZip, setMany, h1, ix0, h2, isNm, hl']
    | _ => simp [isTup] at h
  · have h' : isTup m x = false := by simpa using h
    have : isNm w m x = false := by
      cases x with
      | tuple ds =>
        cases ds with
        | nil => rfl
        | cons d ds =>
          have : ¬ ds.length + 1 = m := by simpa [isTup] using h'
          simp [isNm, this]
      | _ => rfl
    rw [this]
    rw [h'] at h1
    simp [f_is_named, b_is_named, runFn, runFnD, roOf, rdOf, envOf0, seqS, skipS, setS, ownS, retS, ifS, doS, fixS, par2S, parOS, unpS, raiseS, evVar, evVarB, evLit, evNil, evCons, evTup, evLst, evBin, evBinL, ev1, ev1L, evAnd, evOr, evNot, evIf, evT, evTnot, evTand, evTor, evChain, evCall, evCallD, evCallK, ofRo, ofRd, lstOf, evSl, evSlL, ptOf, ptNo, asInt, asBool, toOut, Out.bind, evPop, evApp, evExt, evItL, evItT, evItS, evRng1, evZip, setMany, h1]
/-! ### the formulas -/
inductive F where
  | tr
  | sh (w : Str)
  | no (a : F)
  | an (a b : F)
  | or' (a b : F)
def F.d : F → D
  | .tr => .tuple [.str "true"]
  | .sh w => .tuple [.str "shown", .str w]
  | .no a => .tuple [.str "not", a.d]
  | .an a b => .tuple [.str "and", a.d, b.d]
  | .or' a b => .tuple [.str "or", a.d, b.d]
def W6 : List Str := ["hot", "late", "done", "w1", "true", "not"]
/-- its words are of the six -/
def F.ok : F → Prop
  | .tr => True
  | .sh w => w ∈ W6
  | .no a => a.ok
  | .an a b => a.ok ∧ b.ok
  | .or' a b => a.ok ∧ b.ok
theorem nm_w6 {w : Str} (h : w ∈ W6) : f_is_name [.str w] = .ok (.bool true) := by
  simp only [W6, List.mem_cons, List.not_mem_nil, or_false] at h
  rcases h with rfl | rfl | rfl | rfl | rfl | rfl <;> rfl
theorem ok_w6 {w : Str} (h : w ∈ W6) : PyData.strOk w = true := by
  simp only [W6, List.mem_cons, List.not_mem_nil, or_false] at h
  rcases h with rfl | rfl | rfl | rfl | rfl | rfl <;> decide +kernel
theorem ok_true : PyData.strOk "true" = true := by decide +kernel
theorem ok_shown : PyData.strOk "shown" = true := by decide +kernel
theorem ok_not : PyData.strOk "not" = true := by decide +kernel
theorem ok_and : PyData.strOk "and" = true := by decide +kernel
theorem ok_or : PyData.strOk "or" = true := by decide +kernel
theorem headF (a : F) : headOk a.d = true := by cases a <;> (simp only [F.d, headOk, txtOk]; decide +kernel)
def subs : F → List D
  | .tr => []
  | .sh _ => []
  | .no a => [a.d]
  | .an a b => [a.d, b.d]
  | .or' a b => [a.d, b.d]
theorem v_parts (a : F) (h : a.ok) : f_parts_of_formula [a.d] = .ok (.tuple (subs a)) := by
  have n1 : f_is_named [a.d, .str "true", .int 1] = .ok (.bool (isNm "true" 1 a.d)) := v_is_named (x := a.d) (w := "true") (m := 1) (by decide) (headF a) ok_true
  have n2 : f_is_named [a.d, .str "shown", .int 2] = .ok (.bool (isNm "shown" 2 a.d)) := v_is_named (x := a.d) (w := "shown") (m := 2) (by decide) (headF a) ok_shown
  have n3 : f_is_named [a.d, .str "not", .int 2] = .ok (.bool (isNm "not" 2 a.d)) := v_is_named (x := a.d) (w := "not") (m := 2) (by decide) (headF a) ok_not
  have n4 : f_is_named [a.d, .str "and", .int 3] = .ok (.bool (isNm "and" 3 a.d)) := v_is_named (x := a.d) (w := "and") (m := 3) (by decide) (headF a) ok_and
  have n5 : f_is_named [a.d, .str "or", .int 3] = .ok (.bool (isNm "or" 3 a.d)) := v_is_named (x := a.d) (w := "or") (m := 3) (by decide) (headF a) ok_or
  have e1 : ("true" : Str) == "true" := by decide +kernel
  cases a with
  | tr =>
    have q : isNm "true" 1 F.tr.d = true := by decide +kernel
    rw [q] at n1
    simp [f_parts_of_formula, b_parts_of_formula, runFn, runFnD, roOf, rdOf, envOf0, seqS, skipS, setS, ownS, retS, ifS, doS, fixS, par2S, parOS, unpS, raiseS, evVar, evVarB, evLit, evNil, evCons, evTup, evLst, evBin, evBinL, ev1, ev1L, evAnd, evOr, evNot, evIf, evT, evTnot, evTand, evTor, evChain, evCall, evCallD, evCallK, ofRo, ofRd, lstOf, evSl, evSlL, ptOf, ptNo, asInt, asBool, toOut, Out.bind, evPop, evApp, evExt, evItL, evItT, evItS, evRng1, evZip, setMany, n1, subs]
  | sh w =>
    have q1 : isNm "true" 1 (F.sh w).d = false := rfl
    have q2 : isNm "shown" 2 (F.sh w).d = true := rfl
    rw [q1] at n1
    rw [q2] at n2
    have k := nm_w6 h
    have i1 : ixD (F.sh w).d (.int 1) = some (.str w) := rfl
    simp [f_parts_of_formula, b_parts_of_formula, runFn, runFnD, roOf, rdOf, envOf0, seqS, skipS, setS, ownS, retS, ifS, doS, fixS, par2S, parOS, unpS, raiseS, evVar, evVarB, evLit, evNil, evCons, evTup, evLst, evBin, evBinL, ev1, ev1L, evAnd, evOr, evNot, evIf, evT, evTnot, evTand, evTor, evChain, evCall, evCallD, evCallK, ofRo, ofRd, lstOf, evSl, evSlL, ptOf, ptNo, asInt, asBool, toOut, Out.bind, evPop, evApp, evExt, evItL, evItT, evItS, evRng1, evZip, setMany, n1, n2, i1, k, subs]
  | no b =>
    have q1 : isNm "true" 1 (F.no b).d = false := rfl
    have q2 : isNm "shown" 2 (F.no b).d = false := by rfl
    have q3 : isNm "not" 2 (F.no b).d = true := by rfl
    rw [q1] at n1
    rw [q2] at n2
    rw [q3] at n3
    have i1 : slD (F.no b).d (some 1) none = some (.tuple [b.d]) := sl1 _ _
    simp [f_parts_of_formula, b_parts_of_formula, runFn, runFnD, roOf, rdOf, envOf0, seqS, skipS, setS, ownS, retS, ifS, doS, fixS, par2S, parOS, unpS, raiseS, evVar, evVarB, evLit, evNil, evCons, evTup, evLst, evBin, evBinL, ev1, ev1L, evAnd, evOr, evNot, evIf, evT, evTnot, evTand, evTor, evChain, evCall, evCallD, evCallK, ofRo, ofRd, lstOf, evSl, evSlL, ptOf, ptNo, asInt, asBool, toOut, Out.bind, evPop, evApp, evExt, evItL, evItT, evItS, evRng1, evZip, setMany, n1, n2, n3, i1, subs]
  | an b c =>
    have q1 : isNm "true" 1 (F.an b c).d = false := rfl
    have q2 : isNm "shown" 2 (F.an b c).d = false := by rfl
    have q3 : isNm "not" 2 (F.an b c).d = false := by rfl
    have q4 : isNm "and" 3 (F.an b c).d = true := by rfl
    rw [q1] at n1
    rw [q2] at n2
    rw [q3] at n3
    rw [q4] at n4
    have i1 : slD (F.an b c).d (some 1) none = some (.tuple [b.d, c.d]) := sl1 _ _
    simp [f_parts_of_formula, b_parts_of_formula, runFn, runFnD, roOf, rdOf, envOf0, seqS, skipS, setS, ownS, retS, ifS, doS, fixS, par2S, parOS, unpS, raiseS, evVar, evVarB, evLit, evNil, evCons, evTup, evLst, evBin, evBinL, ev1, ev1L, evAnd, evOr, evNot, evIf, evT, evTnot, evTand, evTor, evChain, evCall, evCallD, evCallK, ofRo, ofRd, lstOf, evSl, evSlL, ptOf, ptNo, asInt, asBool, toOut, Out.bind, evPop, evApp, evExt, evItL, evItT, evItS, evRng1, evZip, setMany, n1, n2, n3, n4, i1, subs]
  | or' b c =>
    have q1 : isNm "true" 1 (F.or' b c).d = false := rfl
    have q2 : isNm "shown" 2 (F.or' b c).d = false := by rfl
    have q3 : isNm "not" 2 (F.or' b c).d = false := by rfl
    have q4 : isNm "and" 3 (F.or' b c).d = false := by rfl
    have q5 : isNm "or" 3 (F.or' b c).d = true := by rfl
    rw [q1] at n1
    rw [q2] at n2
    rw [q3] at n3
    rw [q4] at n4
    rw [q5] at n5
    have i1 : slD (F.or' b c).d (some 1) none = some (.tuple [b.d, c.d]) := sl1 _ _
    simp [f_parts_of_formula, b_parts_of_formula, runFn, runFnD, roOf, rdOf, envOf0, seqS, skipS, setS, ownS, retS, ifS, doS, fixS, par2S, parOS, unpS, raiseS, evVar, evVarB, evLit, evNil, evCons, evTup, evLst, evBin, evBinL, ev1, ev1L, evAnd, evOr, evNot, evIf, evT, evTnot, evTand, evTor, evChain, evCall, evCallD, evCallK, ofRo, ofRd, lstOf, evSl, evSlL, ptOf, ptNo, asInt, asBool, toOut, Out.bind, evPop, evApp, evExt, evItL, evItT, evItS, evRng1, evZip, setMany, n1, n2, n3, n4, n5, i1, subs]
/-- what is no formula's form at once -/
def isNo (x : D) : Prop := f_parts_of_formula [x] = .ok .none
end Zo
namespace Zo
open PySem PySem.Spec PyProof.Rows L2
/-- flat enough to be compared -/
def Sm (d : D) : Prop := d.canLay0 = true ∧ d.depth ≤ 60
theorem canAll {ds : List D} (h : ∀ d ∈ ds, Sm d) : PyData.canLayAll0 ds = true ∧ PyData.depthAll ds ≤ 60 := by
  induction ds with
  | nil => simp [PyData.canLayAll0, PyData.depthAll]
  | cons d ds ih =>
    have h1 := h d List.mem_cons_self
    have h2 := ih fun e he => h e (List.mem_cons_of_mem _ he)
    simp only [PyData.canLayAll0, PyData.depthAll, h1.1, h2.1, Bool.and_self, true_and]
    exact Nat.max_le.mpr ⟨h1.2, h2.2⟩
theorem sh_list {ds : List D} (h : ∀ d ∈ ds, Sm d) : SeqAt.shaped (.list ds) = true := by
  obtain ⟨h1, h2⟩ := canAll h
  have h3 : (PyData.list ds).depth ≤ 64 := by simp only [PyData.depth]; omega
  have h4 : (PyData.list ds).canLay0 = true := by simpa [PyData.canLay0] using h1
  simp [SeqAt.shaped, h3, h4]
theorem neNil {ds : List D} (h : ∀ d ∈ ds, Sm d) : neD (.list ds) (.list []) = some (.bool (!ds.isEmpty)) := by
  have h0 : SeqAt.shaped (.list ([] : List D)) = true := sh_list (by simp)
  unfold neD
  rw [if_pos ⟨sh_list h, h0⟩]
  cases ds <;> rfl
def F.size : F → Nat
  | .tr => 1
  | .sh _ => 1
  | .no a => 1 + a.size
  | .an a b => 1 + a.size + b.size
  | .or' a b => 1 + a.size + b.size
def F.dep : F → Nat
  | .tr => 1
  | .sh _ => 1
  | .no a => 1 + a.dep
  | .an a b => 1 + max a.dep b.dep
  | .or' a b => 1 + max a.dep b.dep
theorem lay1 {x : Str} (h : PyData.strOk x = true) : (PyData.str x).canLay0 = true := by simp [PyData.canLay0, h]
theorem depF : ∀ a : F, a.ok → a.d.canLay0 = true ∧ a.d.depth ≤ a.dep + 1
  | .tr, _ => by simp [F.d, PyData.canLay0, PyData.canLayAll0, PyData.depth, PyData.depthAll, ok_true, F.dep]
  | .sh w, h => by simp [F.d, PyData.canLay0, PyData.canLayAll0, PyData.depth, PyData.depthAll, ok_shown, ok_w6 h, F.dep]
  | .no a, h => by
    obtain ⟨h1, h2⟩ := depF a h
    simp only [F.d, PyData.canLay0, PyData.canLayAll0, PyData.depth, PyData.depthAll, ok_not, h1, Bool.and_self, true_and, F.dep]
    omega
  | .an a b, h => by
    obtain ⟨h1, h2⟩ := depF a h.1
    obtain ⟨k1, k2⟩ := depF b h.2
    simp only [F.d, PyData.canLay0, PyData.canLayAll0, PyData.depth, PyData.depthAll, ok_and, h1, k1, Bool.and_self, true_and, F.dep]
    omega
  | .or' a b, h => by
    obtain ⟨h1, h2⟩ := depF a h.1
    obtain ⟨k1, k2⟩ := depF b h.2
    simp only [F.d, PyData.canLay0, PyData.canLayAll0, PyData.depth, PyData.depthAll, ok_or, h1, k1, Bool.and_self, true_and, F.dep]
    omega
theorem smF {a : F} (h : a.ok) (hd : a.dep ≤ 50) : Sm a.d := ⟨(depF a h).1, by have := (depF a h).2; omega⟩
/-! ### is_formula_value -/
def cV : Ms → Out Bool := evT (evBin neD (evVarB 1) (lstOf (evLst evNil)))
def bV : Ex := seqS (setS 2 (evCall f_parts_of_formula (evCons (evPop 1) evNil))) (seqS (ifS (evT (evBin isN (evVarB 2) (evLit .none))) (retS (evLit (.bool false))) skipS) (doS (evExt 1 (lstOf (ev1L listD (evVarB 2))))))
theorem whileS_succ (n : Nat) (c : Ms → Out Bool) (b : Ex) (s : Ms) : whileS (n + 1) c b s = (c s).bind fun k s1 => if k = true then stepS (b s1) (whileS n c b) else .ok .nx s1 := rfl
theorem cV_ev {x p : Sv} {st : List D} {k : Dk} {sm : Bool} (h : ∀ d ∈ st, Sm d) : cV ⟨[x, .own st, p], k, sm⟩ = .ok (!st.isEmpty) ⟨[x, .own st, p], k, sm⟩ := by
  simp [cV, runFn, runFnD, roOf, rdOf, envOf0, seqS, skipS, setS, ownS, retS, ifS, doS, fixS, par2S, parOS, unpS, raiseS, evVar, evVarB, evLit, evNil, evCons, evTup, evLst, evBin, evBinL, ev1, ev1L, evAnd, evOr, evNot, evIf, evT, evTnot, evTand, evTor, evChain, evCall, evCallD, evCallK, ofRo, ofRd, lstOf, evSl, evSlL, ptOf, ptNo, asInt, asBool, toOut, Out.bind, evPop, evApp, evExt, evItL, evItT, evItS, evRng1, evZip, setMany, neNil h]
theorem bV_F {x p : Sv} {l : List D} {k : Dk} {sm : Bool} {a : F} (h : a.ok) (hl : l.length + 2 < 1000000) : bV ⟨[x, .own (l ++ [a.d]), p], k, sm⟩ = .ok .nx ⟨[x, .own (l ++ subs a), .fz (.tuple (subs a))], k, sm⟩ := by
  have hs : (subs a).length ≤ 2 := by cases a <;> simp [subs]
  have hl' : l.length + (subs a).length < 1000000 := by omega
  have h1 : isN (.tuple (subs a)) .none = some (.bool false) := rfl
  simp [bV, runFn, runFnD, roOf, rdOf, envOf0, seqS, skipS, setS, ownS, retS, ifS, doS, fixS, par2S, parOS, unpS, raiseS, evVar, evVarB, evLit, evNil, evCons, evTup, evLst, evBin, evBinL, ev1, ev1L, evAnd, evOr, evNot, evIf, evT, evTnot, evTand, evTor, evChain, evCall, evCallD, evCallK, ofRo, ofRd, lstOf, evSl, evSlL, ptOf, ptNo, asInt, asBool, toOut, Out.bind, evPop, evApp, evExt, evItL, evItT, evItS, evRng1, evZip, setMany, v_parts a h, h1, ev1L, listD, hl']
theorem bV_no {x p : Sv} {l : List D} {k : Dk} {sm : Bool} {y : D} (h : isNo y) : ∃ s, bV ⟨[x, .own (l ++ [y]), p], k, sm⟩ = .ok (.rt (.bool false)) s := by
  have h1 : isN .none .none = some (.bool true) := rfl
  unfold isNo at h
  exact ⟨⟨[x, .own l, .fz .none], k, sm⟩, by simp [bV, runFn, runFnD, roOf, rdOf, envOf0, seqS, skipS, setS, ownS, retS, ifS, doS, fixS, par2S, parOS, unpS, raiseS, evVar, evVarB, evLit, evNil, evCons, evTup, evLst, evBin, evBinL, ev1, ev1L, evAnd, evOr, evNot, evIf, evT, evTnot, evTand, evTor, evChain, evCall, evCallD, evCallK, ofRo, ofRd, lstOf, evSl, evSlL, ptOf, ptNo, asInt, asBool, toOut, Out.bind, evPop, evApp, evExt, evItL, evItT, evItS, evRng1, evZip, setMany, h, h1, ev1L, listD]⟩
theorem loop_F {x : Sv} {k : Dk} {sm : Bool} : ∀ (a : F), a.ok → a.dep ≤ 50 → ∀ (l : List D), (∀ d ∈ l, Sm d) → l.length + a.size ≤ 100000 → ∀ (n : Nat) (p : Sv), ∃ p', whileS (n + a.size) cV bV ⟨[x, .own (l ++ [a.d]), p], k, sm⟩ = whileS n cV bV ⟨[x, .own l, p'], k, sm⟩ := by
  have step : ∀ (a : F), a.ok → a.dep ≤ 50 → ∀ (l : List D), (∀ d ∈ l, Sm d) → l.length ≤ 100000 → ∀ (n : Nat) (p : Sv), whileS (n + 1) cV bV ⟨[x, .own (l ++ [a.d]), p], k, sm⟩ = whileS n cV bV ⟨[x, .own (l ++ subs a), .fz (.tuple (subs a))], k, sm⟩ := by
    intro a h hd l hl hn n p
    have hs : ∀ d ∈ l ++ [a.d], Sm d := fun d hm => (List.mem_append.mp hm).elim (hl d) fun e => by rw [List.mem_singleton.mp e]; exact smF h hd
    rw [whileS_succ, cV_ev hs]
    simp only [Out.bind_ok]
    rw [if_pos (by simp), bV_F h (by omega)]
    rfl
  intro a
  induction a with
  | tr => intro h hd l hl hn n p; exact ⟨_, by rw [show F.tr.size = 1 from rfl, step _ h hd l hl (by omega)]; simp only [subs, List.append_nil]; rfl⟩
  | sh w => intro h hd l hl hn n p; exact ⟨_, by rw [show (F.sh w).size = 1 from rfl, step _ h hd l hl (by omega)]; simp only [subs, List.append_nil]; rfl⟩
  | no a ih =>
    intro h hd l hl hn n p
    simp only [F.size, F.dep] at hn hd
    obtain ⟨p', e⟩ := ih h (by omega) l hl (by omega) n (.fz (.tuple (subs (F.no a))))
    exact ⟨p', by rw [show (n + (F.no a).size) = (n + a.size) + 1 by simp only [F.size]; omega, step _ h (by simp only [F.dep]; omega) l hl (by omega)]; exact e⟩
  | an a b iha ihb =>
    intro h hd l hl hn n p
    simp only [F.size, F.dep] at hn hd
    have hla : ∀ d ∈ l ++ [a.d], Sm d := fun d hm => (List.mem_append.mp hm).elim (hl d) fun e => by rw [List.mem_singleton.mp e]; exact smF h.1 (by omega)
    obtain ⟨p1, e1⟩ := ihb h.2 (by omega) (l ++ [a.d]) hla (by simp; omega) (n + a.size) (.fz (.tuple (subs (F.an a b))))
    obtain ⟨p2, e2⟩ := iha h.1 (by omega) l hl (by omega) n p1
    refine ⟨p2, ?_⟩
    rw [show (n + (F.an a b).size) = (n + a.size + b.size) + 1 by simp only [F.size]; omega, step _ h (by simp only [F.dep]; omega) l hl (by omega), ← e2, ← e1]
    simp [subs]
  | or' a b iha ihb =>
    intro h hd l hl hn n p
    simp only [F.size, F.dep] at hn hd
    have hla : ∀ d ∈ l ++ [a.d], Sm d := fun d hm => (List.mem_append.mp hm).elim (hl d) fun e => by rw [List.mem_singleton.mp e]; exact smF h.1 (by omega)
    obtain ⟨p1, e1⟩ := ihb h.2 (by omega) (l ++ [a.d]) hla (by simp; omega) (n + a.size) (.fz (.tuple (subs (F.or' a b))))
    obtain ⟨p2, e2⟩ := iha h.1 (by omega) l hl (by omega) n p1
    refine ⟨p2, ?_⟩
    rw [show (n + (F.or' a b).size) = (n + a.size + b.size) + 1 by simp only [F.size]; omega, step _ h (by simp only [F.dep]; omega) l hl (by omega), ← e2, ← e1]
    simp [subs]
theorem loop_no {x p : Sv} {k : Dk} {sm : Bool} {l : List D} {y : D} {n : Nat} (hl : ∀ d ∈ l, Sm d) (hy : Sm y) (h : isNo y) : ∃ s, whileS (n + 1) cV bV ⟨[x, .own (l ++ [y]), p], k, sm⟩ = .ok (.rt (.bool false)) s := by
  have hs : ∀ d ∈ l ++ [y], Sm d := fun d hm => (List.mem_append.mp hm).elim (hl d) fun e => by rw [List.mem_singleton.mp e]; exact hy
  obtain ⟨s, e⟩ := bV_no (x := x) (p := p) (k := k) (sm := sm) (l := l) h
  refine ⟨s, ?_⟩
  rw [whileS_succ, cV_ev hs]
  simp only [Out.bind_ok]
  rw [if_pos (by simp), e]
  rfl
theorem loop_end {x p : Sv} {k : Dk} {sm : Bool} {n : Nat} : whileS (n + 1) cV bV ⟨[x, .own [], p], k, sm⟩ = .ok .nx ⟨[x, .own [], p], k, sm⟩ := by
  rw [whileS_succ, cV_ev (by simp)]
  rfl
theorem v_ifv (x : D) (hx : Sm x) : f_is_formula_value [x] = roOf ((whileS 100000 cV bV ⟨[.fz x, .own ([] ++ [x]), .un], dk0, false⟩).bind fun fl s1 => match fl with
  | .nx => .ok (.rt (.bool true)) s1
  | f => .ok f s1) := rfl
theorem v_F {a : F} (h : a.ok) (hd : a.dep ≤ 50) (hs : a.size ≤ 10000) : f_is_formula_value [a.d] = .ok (.bool true) := by
  rw [v_ifv _ (smF h hd)]
  obtain ⟨p, e⟩ := loop_F (x := .fz a.d) (k := dk0) (sm := false) a h hd [] (by simp) (by simp; omega) (100000 - a.size) .un
  rw [show 100000 - a.size + a.size = 100000 by omega] at e
  rw [e, show 100000 - a.size = (100000 - a.size - 1) + 1 by omega, loop_end]
  rfl
theorem v_no {x : D} (hx : Sm x) (h : isNo x) : f_is_formula_value [x] = .ok (.bool false) := by
  rw [v_ifv _ hx]
  obtain ⟨s, e⟩ := loop_no (x := .fz x) (p := .un) (k := dk0) (sm := false) (l := []) (n := 99999) (by simp) hx h
  rw [e]
  rfl
end Zo
namespace Zo
open PySem PySem.Spec PyProof.Rows L2
/-! ### near values -/
theorem no_of {x : D} (h0 : headOk x = true) (h1 : isNm "true" 1 x = false) (h2 : isNm "shown" 2 x = false) (h3 : isNm "not" 2 x = false) (h4 : isNm "and" 3 x = false) (h5 : isNm "or" 3 x = false) : isNo x := by
  have n1 : f_is_named [x, .str "true", .int 1] = .ok (.bool (isNm "true" 1 x)) := v_is_named (m := 1) (by decide) h0 ok_true
  have n2 : f_is_named [x, .str "shown", .int 2] = .ok (.bool (isNm "shown" 2 x)) := v_is_named (m := 2) (by decide) h0 ok_shown
  have n3 : f_is_named [x, .str "not", .int 2] = .ok (.bool (isNm "not" 2 x)) := v_is_named (m := 2) (by decide) h0 ok_not
  have n4 : f_is_named [x, .str "and", .int 3] = .ok (.bool (isNm "and" 3 x)) := v_is_named (m := 3) (by decide) h0 ok_and
  have n5 : f_is_named [x, .str "or", .int 3] = .ok (.bool (isNm "or" 3 x)) := v_is_named (m := 3) (by decide) h0 ok_or
  rw [h1] at n1
  rw [h2] at n2
  rw [h3] at n3
  rw [h4] at n4
  rw [h5] at n5
  unfold isNo
  simp [f_parts_of_formula, b_parts_of_formula, runFn, runFnD, roOf, rdOf, envOf0, seqS, skipS, setS, ownS, retS, ifS, doS, fixS, par2S, parOS, unpS, raiseS, evVar, evVarB, evLit, evNil, evCons, evTup, evLst, evBin, evBinL, ev1, ev1L, evAnd, evOr, evNot, evIf, evT, evTnot, evTand, evTor, evChain, evCall, evCallD, evCallK, ofRo, ofRd, lstOf, evSl, evSlL, ptOf, ptNo, asInt, asBool, toOut, Out.bind, evPop, evApp, evExt, evItL, evItT, evItS, evRng1, evZip, setMany, n1, n2, n3, n4, n5]
theorem no_sh {y : D} (h : f_is_name [y] = .ok (.bool false)) : isNo (.tuple [.str "shown", y]) := by
  have n1 : f_is_named [.tuple [.str "shown", y], .str "true", .int 1] = .ok (.bool false) := v_is_named (m := 1) (by decide) ok_shown ok_true
  have n2 : f_is_named [.tuple [.str "shown", y], .str "shown", .int 2] = .ok (.bool true) := v_is_named (m := 2) (by decide) ok_shown ok_shown
  unfold isNo
  simp [f_parts_of_formula, b_parts_of_formula, runFn, runFnD, roOf, rdOf, envOf0, seqS, skipS, setS, ownS, retS, ifS, doS, fixS, par2S, parOS, unpS, raiseS, evVar, evVarB, evLit, evNil, evCons, evTup, evLst, evBin, evBinL, ev1, ev1L, evAnd, evOr, evNot, evIf, evT, evTnot, evTand, evTor, evChain, evCall, evCallD, evCallK, ofRo, ofRd, lstOf, evSl, evSlL, ptOf, ptNo, asInt, asBool, toOut, Out.bind, evPop, evApp, evExt, evItL, evItT, evItS, evRng1, evZip, setMany, n1, n2, ix1, h]
theorem parts_not (y : D) : f_parts_of_formula [.tuple [.str "not", y]] = .ok (.tuple [y]) := by
  have n1 : f_is_named [.tuple [.str "not", y], .str "true", .int 1] = .ok (.bool false) := v_is_named (m := 1) (by decide) ok_not ok_true
  have n2 : f_is_named [.tuple [.str "not", y], .str "shown", .int 2] = .ok (.bool false) := v_is_named (m := 2) (by decide) ok_not ok_shown
  have n3 : f_is_named [.tuple [.str "not", y], .str "not", .int 2] = .ok (.bool true) := v_is_named (m := 2) (by decide) ok_not ok_not
  simp [f_parts_of_formula, b_parts_of_formula, runFn, runFnD, roOf, rdOf, envOf0, seqS, skipS, setS, ownS, retS, ifS, doS, fixS, par2S, parOS, unpS, raiseS, evVar, evVarB, evLit, evNil, evCons, evTup, evLst, evBin, evBinL, ev1, ev1L, evAnd, evOr, evNot, evIf, evT, evTnot, evTand, evTor, evChain, evCall, evCallD, evCallK, ofRo, ofRd, lstOf, evSl, evSlL, ptOf, ptNo, asInt, asBool, toOut, Out.bind, evPop, evApp, evExt, evItL, evItT, evItS, evRng1, evZip, setMany, n1, n2, n3, sl1]
theorem parts_and (y z : D) : f_parts_of_formula [.tuple [.str "and", y, z]] = .ok (.tuple [y, z]) := by
  have n1 : f_is_named [.tuple [.str "and", y, z], .str "true", .int 1] = .ok (.bool false) := v_is_named (m := 1) (by decide) ok_and ok_true
  have n2 : f_is_named [.tuple [.str "and", y, z], .str "shown", .int 2] = .ok (.bool false) := v_is_named (m := 2) (by decide) ok_and ok_shown
  have n3 : f_is_named [.tuple [.str "and", y, z], .str "not", .int 2] = .ok (.bool false) := v_is_named (m := 2) (by decide) ok_and ok_not
  have n4 : f_is_named [.tuple [.str "and", y, z], .str "and", .int 3] = .ok (.bool true) := v_is_named (m := 3) (by decide) ok_and ok_and
  simp [f_parts_of_formula, b_parts_of_formula, runFn, runFnD, roOf, rdOf, envOf0, seqS, skipS, setS, ownS, retS, ifS, doS, fixS, par2S, parOS, unpS, raiseS, evVar, evVarB, evLit, evNil, evCons, evTup, evLst, evBin, evBinL, ev1, ev1L, evAnd, evOr, evNot, evIf, evT, evTnot, evTand, evTor, evChain, evCall, evCallD, evCallK, ofRo, ofRd, lstOf, evSl, evSlL, ptOf, ptNo, asInt, asBool, toOut, Out.bind, evPop, evApp, evExt, evItL, evItT, evItS, evRng1, evZip, setMany, n1, n2, n3, n4, sl1]
theorem parts_or (y z : D) : f_parts_of_formula [.tuple [.str "or", y, z]] = .ok (.tuple [y, z]) := by
  have n1 : f_is_named [.tuple [.str "or", y, z], .str "true", .int 1] = .ok (.bool false) := v_is_named (m := 1) (by decide) ok_or ok_true
  have n2 : f_is_named [.tuple [.str "or", y, z], .str "shown", .int 2] = .ok (.bool false) := v_is_named (m := 2) (by decide) ok_or ok_shown
  have n3 : f_is_named [.tuple [.str "or", y, z], .str "not", .int 2] = .ok (.bool false) := v_is_named (m := 2) (by decide) ok_or ok_not
  have n4 : f_is_named [.tuple [.str "or", y, z], .str "and", .int 3] = .ok (.bool false) := v_is_named (m := 3) (by decide) ok_or ok_and
  have n5 : f_is_named [.tuple [.str "or", y, z], .str "or", .int 3] = .ok (.bool true) := v_is_named (m := 3) (by decide) ok_or ok_or
  simp [f_parts_of_formula, b_parts_of_formula, runFn, runFnD, roOf, rdOf, envOf0, seqS, skipS, setS, ownS, retS, ifS, doS, fixS, par2S, parOS, unpS, raiseS, evVar, evVarB, evLit, evNil, evCons, evTup, evLst, evBin, evBinL, ev1, ev1L, evAnd, evOr, evNot, evIf, evT, evTnot, evTand, evTor, evChain, evCall, evCallD, evCallK, ofRo, ofRd, lstOf, evSl, evSlL, ptOf, ptNo, asInt, asBool, toOut, Out.bind, evPop, evApp, evExt, evItL, evItT, evItS, evRng1, evZip, setMany, n1, n2, n3, n4, n5, sl1]
theorem step_T {x p : Sv} {k : Dk} {sm : Bool} {l ys : List D} {y : D} {n : Nat} (hp : f_parts_of_formula [y] = .ok (.tuple ys)) (hl : ∀ d ∈ l, Sm d) (hy : Sm y) (hn : l.length + ys.length ≤ 100000) :
    whileS (n + 1) cV bV ⟨[x, .own (l ++ [y]), p], k, sm⟩ = whileS n cV bV ⟨[x, .own (l ++ ys), .fz (.tuple ys)], k, sm⟩ := by
  have hs : ∀ d ∈ l ++ [y], Sm d := fun d hm => (List.mem_append.mp hm).elim (hl d) fun e => by rw [List.mem_singleton.mp e]; exact hy
  have hl' : l.length + ys.length < 1000000 := by omega
  have h1 : isN (.tuple ys) .none = some (.bool false) := rfl
  have hb : bV ⟨[x, .own (l ++ [y]), p], k, sm⟩ = .ok .nx ⟨[x, .own (l ++ ys), .fz (.tuple ys)], k, sm⟩ := by
    simp [bV, runFn, runFnD, roOf, rdOf, envOf0, seqS, skipS, setS, ownS, retS, ifS, doS, fixS, par2S, parOS, unpS, raiseS, evVar, evVarB, evLit, evNil, evCons, evTup, evLst, evBin, evBinL, ev1, ev1L, evAnd, evOr, evNot, evIf, evT, evTnot, evTand, evTor, evChain, evCall, evCallD, evCallK, ofRo, ofRd, lstOf, evSl, evSlL, ptOf, ptNo, asInt, asBool, toOut, Out.bind, evPop, evApp, evExt, evItL, evItT, evItS, evRng1, evZip, setMany, hp, h1, ev1L, listD, hl']
  rw [whileS_succ, cV_ev hs]
  simp only [Out.bind_ok]
  rw [if_pos (by simp), hb]
  rfl
def longW : Str := "averyverylongname"
def nearL (f : D) : List D := [.none, .bool true, .tuple [], .str "true", .tuple [.str "true", .int 1], .tuple [.str "shown"], .tuple [.str "shown", .str "Hot"], .tuple [.str "shown", .str ""], .tuple [.str "shown", .int 7], .tuple [.str "shown", .str "a", .str "b"], .tuple [.str "not"],
  .tuple [.str "not", f, f], .tuple [.str "and", f], .tuple [.str "or", f, f, f], .list [.str "not", f], .tuple [.str "Not", f], .tuple [.str "not", .list [f]], .tuple [.str "and", f, .tuple [.str "shown", .str longW]], .tuple [.str "or", .tuple [.str "not", .tuple []], f], .tuple [.str "xor", f, f], .tuple [.str "not", .str "true"], .tuple [f]]
theorem ok_a : PyData.strOk "a" = true := by decide +kernel
theorem ok_b : PyData.strOk "b" = true := by decide +kernel
theorem ok_Hot : PyData.strOk "Hot" = true := by decide +kernel
theorem ok_e : PyData.strOk "" = true := by decide +kernel
theorem ok_Not : PyData.strOk "Not" = true := by decide +kernel
theorem ok_xor : PyData.strOk "xor" = true := by decide +kernel
theorem ok_long : PyData.strOk longW = true := by decide +kernel
theorem sm_near {a : F} (h : a.ok) (hd : a.dep ≤ 20) : ∀ v ∈ nearL a.d, v.canLay0 = true ∧ v.depth ≤ 40 := by
  obtain ⟨h1, h2⟩ := depF a h
  have h2' : a.d.depth ≤ 21 := by omega
  intro v hv
  simp only [nearL, List.mem_cons, List.not_mem_nil, or_false] at hv
  rcases hv with rfl | rfl | rfl | rfl | rfl | rfl | rfl | rfl | rfl | rfl | rfl | rfl | rfl | rfl | rfl | rfl | rfl | rfl | rfl | rfl | rfl | rfl <;>
    (simp only [PyData.canLay0, PyData.canLayAll0, PyData.depth, PyData.depthAll, ok_true, ok_shown, ok_not, ok_and, ok_or, ok_a, ok_b, ok_Hot, ok_e, ok_Not, ok_xor, ok_long, h1, Bool.and_self, true_and]; try omega)
theorem nm_Hot : f_is_name [.str "Hot"] = .ok (.bool false) := by rfl
theorem nm_e : f_is_name [.str ""] = .ok (.bool false) := by rfl
theorem nm_7 : f_is_name [.int 7] = .ok (.bool false) := by rfl
theorem nm_long : f_is_name [.str longW] = .ok (.bool false) := by rfl
theorem txtF (a : F) : txtOk a.d = true := by cases a <;> rfl
theorem wdF (a : F) (w : Str) : isWd w a.d = false := by cases a <;> rfl
theorem v_near {a : F} (h : a.ok) (hd : a.dep ≤ 20) (hs : a.size ≤ 10000) : ∀ v ∈ nearL a.d, f_is_formula_value [v] = .ok (.bool false) := by
  intro v hv
  have sm : Sm v := ⟨(sm_near h hd v hv).1, by have := (sm_near h hd v hv).2; omega⟩
  have smA : Sm a.d := smF h (by omega)
  simp only [nearL, List.mem_cons, List.not_mem_nil, or_false] at hv
  rcases hv with rfl | rfl | rfl | rfl | rfl | rfl | rfl | rfl | rfl | rfl | rfl | rfl | rfl | rfl | rfl | rfl | rfl | rfl | rfl | rfl | rfl | rfl
  · exact v_no sm (no_of rfl rfl rfl rfl rfl rfl)
  · exact v_no sm (no_of rfl rfl rfl rfl rfl rfl)
  · exact v_no sm (no_of rfl rfl rfl rfl rfl rfl)
  · exact v_no sm (no_of rfl rfl rfl rfl rfl rfl)
  · exact v_no sm (no_of ok_true rfl rfl rfl rfl rfl)
  · exact v_no sm (no_of ok_shown rfl rfl rfl rfl rfl)
  · exact v_no sm (no_sh nm_Hot)
  · exact v_no sm (no_sh nm_e)
  · exact v_no sm (no_sh nm_7)
  · exact v_no sm (no_of ok_shown rfl rfl rfl rfl rfl)
  · exact v_no sm (no_of ok_not rfl rfl rfl rfl rfl)
  · exact v_no sm (no_of ok_not rfl rfl rfl rfl rfl)
  · exact v_no sm (no_of ok_and rfl rfl rfl rfl rfl)
  · exact v_no sm (no_of ok_or rfl rfl rfl rfl rfl)
  · exact v_no sm (no_of rfl rfl rfl rfl rfl rfl)
  · exact v_no sm (no_of ok_Not rfl rfl rfl rfl rfl)
  · -- not of a list
    have hN : isNo (.list [a.d]) := no_of rfl rfl rfl rfl rfl rfl
    have smL : Sm (.list [a.d]) := by
      obtain ⟨h1, h2⟩ := depF a h
      constructor
      · simp [PyData.canLay0, PyData.canLayAll0, h1]
      · simp only [PyData.depth, PyData.depthAll]; omega
    rw [v_ifv _ sm]
    obtain ⟨s, e⟩ := loop_no (x := .fz (.tuple [.str "not", .list [a.d]])) (p := .fz (.tuple [.list [a.d]])) (k := dk0) (sm := false) (l := []) (n := 99998) (by simp) smL hN
    rw [show (100000 : Nat) = 99999 + 1 from rfl, step_T (parts_not _) (by simp) sm (by simp)]
    rw [e]
    rfl
  · -- and, its second no name
    have hN : isNo (.tuple [.str "shown", .str longW]) := no_sh nm_long
    have smL : Sm (.tuple [.str "shown", .str longW]) := by
      constructor
      · simp [PyData.canLay0, PyData.canLayAll0, ok_shown, ok_long]
      · simp only [PyData.depth, PyData.depthAll]; omega
    rw [v_ifv _ sm]
    obtain ⟨s, e⟩ := loop_no (x := .fz (.tuple [.str "and", a.d, .tuple [.str "shown", .str longW]])) (p := .fz (.tuple [a.d, .tuple [.str "shown", .str longW]])) (k := dk0) (sm := false) (l := [a.d]) (n := 99998) (by simpa using smA) smL hN
    rw [show (100000 : Nat) = 99999 + 1 from rfl, step_T (parts_and _ _) (by simp) sm (by simp)]
    show roOf ((whileS (99998 + 1) cV bV ⟨[_, .own ([a.d] ++ [.tuple [.str "shown", .str longW]]), _], _, _⟩).bind _) = _
    rw [e]
    rfl
  · -- or, its first not of nothing
    have hN : isNo (.tuple []) := no_of rfl rfl rfl rfl rfl rfl
    have sm0 : Sm (.tuple ([] : List D)) := by
      constructor
      · simp [PyData.canLay0, PyData.canLayAll0]
      · simp only [PyData.depth, PyData.depthAll]; omega
    have sm1 : Sm (.tuple [.str "not", .tuple []]) := by
      constructor
      · simp [PyData.canLay0, PyData.canLayAll0, ok_not]
      · simp only [PyData.depth, PyData.depthAll]; omega
    rw [v_ifv _ sm]
    obtain ⟨p', e⟩ := loop_F (x := .fz (.tuple [.str "or", .tuple [.str "not", .tuple []], a.d])) (k := dk0) (sm := false) a h (by omega) [.tuple [.str "not", .tuple []]] (by simpa using sm1) (by simp; omega) (99999 - a.size) (.fz (.tuple [.tuple [.str "not", .tuple []], a.d]))
    rw [show (100000 : Nat) = 99999 + 1 from rfl, step_T (parts_or _ _) (by simp) sm (by simp)]
    rw [show 99999 - a.size + a.size = 99999 by omega] at e
    have e' : whileS 99999 cV bV ⟨[.fz (.tuple [.str "or", .tuple [.str "not", .tuple []], a.d]), .own ([] ++ [.tuple [.str "not", .tuple []], a.d]), .fz (.tuple [.tuple [.str "not", .tuple []], a.d])], dk0, false⟩ = _ := e
    rw [e', show 99999 - a.size = (99997 - a.size + 1) + 1 by omega]
    have st := step_T (x := .fz (.tuple [.str "or", .tuple [.str "not", .tuple []], a.d])) (p := p') (k := dk0) (sm := false) (l := []) (n := 99997 - a.size + 1) (parts_not (.tuple [])) (by simp) sm1 (by simp)
    have st' : whileS (99997 - a.size + 1 + 1) cV bV ⟨[.fz (.tuple [.str "or", .tuple [.str "not", .tuple []], a.d]), .own [.tuple [.str "not", .tuple []]], p'], dk0, false⟩ = _ := st
    rw [st']
    obtain ⟨s, e2⟩ := loop_no (x := .fz (.tuple [.str "or", .tuple [.str "not", .tuple []], a.d])) (p := .fz (.tuple [.tuple []])) (k := dk0) (sm := false) (l := []) (n := 99997 - a.size) (by simp) sm0 hN
    rw [e2]
    rfl
  · exact v_no sm (no_of ok_xor rfl rfl rfl rfl rfl)
  · -- not of a text
    have hN : isNo (.str "true") := no_of rfl rfl rfl rfl rfl rfl
    have smL : Sm (.str "true") := by
      constructor
      · simp [PyData.canLay0, ok_true]
      · simp only [PyData.depth]; omega
    rw [v_ifv _ sm]
    obtain ⟨s, e⟩ := loop_no (x := .fz (.tuple [.str "not", .str "true"])) (p := .fz (.tuple [.str "true"])) (k := dk0) (sm := false) (l := []) (n := 99998) (by simp) smL hN
    rw [show (100000 : Nat) = 99999 + 1 from rfl, step_T (parts_not _) (by simp) sm (by simp)]
    rw [e]
    rfl
  · refine v_no sm (no_of (txtF a) ?_ ?_ ?_ ?_ ?_) <;> simp [isNm, wdF]
end Zo
namespace Zo
open PySem PySem.Spec PyProof.Rows L2
/-! ### the truth at words -/
def memW (ws : List Str) (w : Str) : Bool := ws.any fun y => y == w
theorem in_ws (w : Str) (ws : List Str) : inSeq false (.str w) (.tuple (ws.map .str)) = some (.bool (memW ws w)) := by
  have h1 : (ws.map PyData.str).all flatD = true := by simp [flatD]
  have h2 : (ws.map PyData.str).any (fun y => eqFlat y (.str w)) = memW ws w := by
    rw [List.any_map]
    rfl
  simp [inSeq, inItems, flatD, h1, h2]
def F.ev (ws : List Str) : F → Bool
  | .tr => true
  | .sh w => memW ws w
  | .no a => !a.ev ws
  | .an a b => a.ev ws && b.ev ws
  | .or' a b => a.ev ws || b.ev ws
theorem v_so (ws : List Str) : ∀ (r : Nat) (a : F), a.ok → a.dep ≤ r → f_law_is_so r [a.d, .tuple (ws.map .str)] = .ok (.bool (a.ev ws))
  | 0, a, _, hd => by cases a <;> simp [F.dep] at hd <;> omega
  | r + 1, a, h, hd => by
    have e1 : ("true" : Str) == "true" := by decide +kernel
    have e2 : (("shown" : Str) == "true") = false := by decide +kernel
    have e3 : (("shown" : Str) == "shown") = true := by decide +kernel
    have e4 : (("not" : Str) == "true") = false := by decide +kernel
    have e5 : (("not" : Str) == "shown") = false := by decide +kernel
    have e6 : (("not" : Str) == "not") = true := by decide +kernel
    have e7 : (("and" : Str) == "true") = false := by decide +kernel
    have e8 : (("and" : Str) == "shown") = false := by decide +kernel
    have e9 : (("and" : Str) == "not") = false := by decide +kernel
    have e10 : (("and" : Str) == "and") = true := by decide +kernel
    have e11 : (("or" : Str) == "true") = false := by decide +kernel
    have e12 : (("or" : Str) == "shown") = false := by decide +kernel
    have e13 : (("or" : Str) == "not") = false := by decide +kernel
    have e14 : (("or" : Str) == "and") = false := by decide +kernel
    cases a with
    | tr => simp [f_law_is_so, b_law_is_so, runFn, runFnD, roOf, rdOf, envOf0, seqS, skipS, setS, ownS, retS, ifS, doS, fixS, par2S, parOS, unpS, raiseS, evVar, evVarB, evLit, evNil, evCons, evTup, evLst, evBin, evBinL, ev1, ev1L, evAnd, evOr, evNot, evIf, evT, evTnot, evTand, evTor, evChain, evCall, evCallD, evCallK, ofRo, ofRd, lstOf, evSl, evSlL, ptOf, ptNo, asInt, asBool, toOut, Out.bind, evPop, evApp, evExt, evItL, evItT, evItS, evRng1, evZip, setMany, F.d, ix0, eqS ok_true ok_true, e1, F.ev]
    | sh w => simp [f_law_is_so, b_law_is_so, runFn, runFnD, roOf, rdOf, envOf0, seqS, skipS, setS, ownS, retS, ifS, doS, fixS, par2S, parOS, unpS, raiseS, evVar, evVarB, evLit, evNil, evCons, evTup, evLst, evBin, evBinL, ev1, ev1L, evAnd, evOr, evNot, evIf, evT, evTnot, evTand, evTor, evChain, evCall, evCallD, evCallK, ofRo, ofRd, lstOf, evSl, evSlL, ptOf, ptNo, asInt, asBool, toOut, Out.bind, evPop, evApp, evExt, evItL, evItT, evItS, evRng1, evZip, setMany, F.d, ix0, ix1, eqS ok_shown ok_true, eqS ok_shown ok_shown, e2, e3, in_ws, F.ev]
    | no a =>
      simp only [F.dep] at hd
      have ih := v_so ws r a h (by omega)
      simp [f_law_is_so, b_law_is_so, runFn, runFnD, roOf, rdOf, envOf0, seqS, skipS, setS, ownS, retS, ifS, doS, fixS, par2S, parOS, unpS, raiseS, evVar, evVarB, evLit, evNil, evCons, evTup, evLst, evBin, evBinL, ev1, ev1L, evAnd, evOr, evNot, evIf, evT, evTnot, evTand, evTor, evChain, evCall, evCallD, evCallK, ofRo, ofRd, lstOf, evSl, evSlL, ptOf, ptNo, asInt, asBool, toOut, Out.bind, evPop, evApp, evExt, evItL, evItT, evItS, evRng1, evZip, setMany, F.d, ix0, ix1, eqS ok_not ok_true, eqS ok_not ok_shown, eqS ok_not ok_not, e4, e5, e6, ih, F.ev]
    | an a b =>
      simp only [F.dep] at hd
      have ih := v_so ws r a h.1 (by omega)
      have ih2 := v_so ws r b h.2 (by omega)
      have e : eqD (.list [.bool (a.ev ws), .bool (b.ev ws)]) (.list [.bool true, .bool true]) = some (.bool (a.ev ws && b.ev ws)) := by
        have s1 : ∀ x y : Bool, SeqAt.shaped (.list [.bool x, .bool y]) = true := fun x y => by cases x <;> cases y <;> decide +kernel
        unfold eqD
        rw [if_pos ⟨s1 _ _, s1 _ _⟩]
        cases a.ev ws <;> cases b.ev ws <;> rfl
      simp [f_law_is_so, b_law_is_so, runFn, runFnD, roOf, rdOf, envOf0, seqS, skipS, setS, ownS, retS, ifS, doS, fixS, par2S, parOS, unpS, raiseS, evVar, evVarB, evLit, evNil, evCons, evTup, evLst, evBin, evBinL, ev1, ev1L, evAnd, evOr, evNot, evIf, evT, evTnot, evTand, evTor, evChain, evCall, evCallD, evCallK, ofRo, ofRd, lstOf, evSl, evSlL, ptOf, ptNo, asInt, asBool, toOut, Out.bind, evPop, evApp, evExt, evItL, evItT, evItS, evRng1, evZip, setMany, F.d, ix0, ix1, ix2, eqS ok_and ok_true, eqS ok_and ok_shown, eqS ok_and ok_not, eqS ok_and ok_and, e7, e8, e9, e10, ih, ih2, e, F.ev]
    | or' a b =>
      simp only [F.dep] at hd
      have ih := v_so ws r a h.1 (by omega)
      have ih2 := v_so ws r b h.2 (by omega)
      have e : inSeq false (.bool true) (.list [.bool (a.ev ws), .bool (b.ev ws)]) = some (.bool (a.ev ws || b.ev ws)) := by
        cases a.ev ws <;> cases b.ev ws <;> rfl
      simp [f_law_is_so, b_law_is_so, runFn, runFnD, roOf, rdOf, envOf0, seqS, skipS, setS, ownS, retS, ifS, doS, fixS, par2S, parOS, unpS, raiseS, evVar, evVarB, evLit, evNil, evCons, evTup, evLst, evBin, evBinL, ev1, ev1L, evAnd, evOr, evNot, evIf, evT, evTnot, evTand, evTor, evChain, evCall, evCallD, evCallK, ofRo, ofRd, lstOf, evSl, evSlL, ptOf, ptNo, asInt, asBool, toOut, Out.bind, evPop, evApp, evExt, evItL, evItT, evItS, evRng1, evZip, setMany, F.d, ix0, ix1, ix2, eqS ok_or ok_true, eqS ok_or ok_shown, eqS ok_or ok_not, eqS ok_or ok_and, e11, e12, e13, e14, ih, ih2, e, F.ev]
/-! ### is_shown -/
def cS : Ms → Out Bool := evT (evBin neD (evVarB 2) (lstOf (evLst evNil)))
def bS : Ex := (seqS (unpS [4, 5] (evPop 2)) (ifS (evT (evBin eqD (evBin ixD (evVarB 4) (evLit (.int 0))) (evLit (.str "true")))) (doS (evApp 3 (evLit (.bool true)))) (ifS (evT (evBin eqD (evBin ixD (evVarB 4) (evLit (.int 0))) (evLit (.str "shown")))) (doS (evApp 3 (evBin (inSeq false) (evBin ixD (evVarB 4) (evLit (.int 1))) (evVarB 1)))) (ifS (evT (evVar 5)) (seqS (setS 6 (evBin subI (ev1 lenD (evVarB 4)) (evLit (.int 1)))) (ownS 3 (evBinL addL (lstOf (evSlL (evVarB 3) ptNo (ptOf (ev1 negD (evVarB 6))))) (lstOf (evLst (evCons (evCall f_joined_truth (evCons (evBin ixD (evVarB 4) (evLit (.int 0))) (evCons (lstOf (evSlL (evVarB 3) (ptOf (ev1 negD (evVarB 6))) ptNo)) evNil))) evNil)))))) (seqS (doS (evApp 2 (evTup (evCons (evVar 4) (evCons (evLit (.bool true)) evNil))))) (doS (evExt 2 (lstOf (evComp [7] (evItT (evSl (evVarB 4) (ptOf (evLit (.int 1))) ptNo)) (tgN 7) evYes (evTup (evCons (evVar 7) (evCons (evLit (.bool false)) evNil))))))))))))
def bo (fs : List Bool) : List D := fs.map .bool
theorem boolsOf_bo (fs : List Bool) : boolsOf (bo fs) = some fs := by
  induction fs with
  | nil => rfl
  | cons b fs ih =>
    unfold bo at ih ⊢
    simp [boolsOf, asBool, ih]
/-- a row of the pile: a part, whether its parts are done -/
def row (a : F) (r : Bool) : D := .tuple [a.d, .bool r]
theorem smR {a : F} (h : a.ok) (hd : a.dep ≤ 50) (r : Bool) : Sm (row a r) := by
  obtain ⟨h1, h2⟩ := depF a h
  constructor
  · simp [row, PyData.canLay0, PyData.canLayAll0, h1]
  · simp only [row, PyData.depth, PyData.depthAll]; omega
theorem cS_ev {x w p3 p4 p5 p6 p7 : Sv} {st : List D} {k : Dk} {sm : Bool} (h : ∀ d ∈ st, Sm d) : cS ⟨[x, w, .own st, p3, p4, p5, p6, p7], k, sm⟩ = .ok (!st.isEmpty) ⟨[x, w, .own st, p3, p4, p5, p6, p7], k, sm⟩ := by
  simp [cS, runFn, runFnD, roOf, rdOf, envOf0, seqS, skipS, setS, ownS, retS, ifS, doS, fixS, par2S, parOS, unpS, raiseS, evVar, evVarB, evLit, evNil, evCons, evTup, evLst, evBin, evBinL, ev1, ev1L, evAnd, evOr, evNot, evIf, evT, evTnot, evTand, evTor, evChain, evCall, evCallD, evCallK, ofRo, ofRd, lstOf, evSl, evSlL, ptOf, ptNo, asInt, asBool, toOut, Out.bind, evPop, evApp, evExt, evItL, evItT, evItS, evRng1, evZip, setMany, neNil h]
section
variable {x p4 p5 p6 p7 : Sv} {l : List D} {fs : List Bool} {ws : List Str} {k : Dk} {sm : Bool}
abbrev stS (x : Sv) (ws : List Str) (l : List D) (fs : List Bool) (p4 p5 p6 p7 : Sv) (k : Dk) (sm : Bool) : Ms := ⟨[x, .fz (.tuple (ws.map .str)), .own l, .own (bo fs), p4, p5, p6, p7], k, sm⟩
theorem bo_app (fs : List Bool) (b : Bool) : bo fs ++ [PyData.bool b] = bo (fs ++ [b]) := by simp [bo]
theorem bo_len (fs : List Bool) : (bo fs).length = fs.length := by simp [bo]
theorem bS_tr (hf : fs.length < 1000000) : ∃ q4 q5 q6, bS (stS x ws (l ++ [row .tr false]) fs p4 p5 p6 .un k sm) = .ok .nx (stS x ws l (fs ++ [true]) q4 q5 q6 .un k sm) := by
  have e1 : ("true" : Str) == "true" := by decide +kernel
  refine ⟨.fz F.tr.d, .fz (.bool false), p6, ?_⟩
  simp [bS, runFn, runFnD, roOf, rdOf, envOf0, seqS, skipS, setS, ownS, retS, ifS, doS, fixS, par2S, parOS, unpS, raiseS, evVar, evVarB, evLit, evNil, evCons, evTup, evLst, evBin, evBinL, ev1, ev1L, evAnd, evOr, evNot, evIf, evT, evTnot, evTand, evTor, evChain, evCall, evCallD, evCallK, ofRo, ofRd, lstOf, evSl, evSlL, ptOf, ptNo, asInt, asBool, toOut, Out.bind, evPop, evApp, evExt, evItL, evItT, evItS, evRng1, evZip, setMany, stS, row, F.d, ix0, eqS ok_true ok_true, e1, bo_len, hf, bo_app]
theorem bS_sh {w : Str} (hf : fs.length < 1000000) : ∃ q4 q5 q6, bS (stS x ws (l ++ [row (.sh w) false]) fs p4 p5 p6 .un k sm) = .ok .nx (stS x ws l (fs ++ [memW ws w]) q4 q5 q6 .un k sm) := by
  have e2 : (("shown" : Str) == "true") = false := by decide +kernel
  have e3 : (("shown" : Str) == "shown") = true := by decide +kernel
  refine ⟨.fz (F.sh w).d, .fz (.bool false), p6, ?_⟩
  simp [bS, runFn, runFnD, roOf, rdOf, envOf0, seqS, skipS, setS, ownS, retS, ifS, doS, fixS, par2S, parOS, unpS, raiseS, evVar, evVarB, evLit, evNil, evCons, evTup, evLst, evBin, evBinL, ev1, ev1L, evAnd, evOr, evNot, evIf, evT, evTnot, evTand, evTor, evChain, evCall, evCallD, evCallK, ofRo, ofRd, lstOf, evSl, evSlL, ptOf, ptNo, asInt, asBool, toOut, Out.bind, evPop, evApp, evExt, evItL, evItT, evItS, evRng1, evZip, setMany, stS, row, F.d, ix0, ix1, eqS ok_shown ok_true, eqS ok_shown ok_shown, e2, e3, in_ws, bo_len, hf, bo_app]
theorem eq_tr {a : F} (h : headOk a.d = true) : True := trivial
/-- which word stands ahead of a part -/
def F.hd : F → Str
  | .tr => "true"
  | .sh _ => "shown"
  | .no _ => "not"
  | .an _ _ => "and"
  | .or' _ _ => "or"
/-- a part that has parts -/
def F.big : F → Bool
  | .tr => false
  | .sh _ => false
  | _ => true
theorem hdOk (a : F) : PyData.strOk a.hd = true := by cases a <;> (simp only [F.hd]; decide +kernel)
theorem ixHd (a : F) : ixD a.d (.int 0) = some (.str a.hd) := by cases a <;> exact ix0 _ _
theorem hd_t {a : F} (h : a.big = true) : (a.hd == ("true" : Str)) = false ∧ (a.hd == ("shown" : Str)) = false := by cases a <;> first | (cases h; done) | (simp only [F.hd]; decide +kernel)
theorem slF (a : F) (h : a.big = true) : slD a.d (some 1) none = some (.tuple (subs a)) := by cases a <;> first | (cases h; done) | exact sl1 _ _
/-- the parts of a part, none of them done -/
def open_ (a : F) : List D := (subs a).map fun d => .tuple [d, .bool false]
theorem comp_open {s : Ms} (ds : List D) (hl : ds.length ≤ 2) (h8 : s.env.length = 8) (e7 : s.env[7]? = some .un) : compGo [7] (tgN 7) evYes (evTup (evCons (evVar 7) (evCons (evLit (.bool false)) evNil))) ds [] s = .ok (ds.map fun d => .tuple [d, .bool false]) s := by
  obtain ⟨env, k, sm⟩ := s
  match env, h8 with
  | [a0, a1, a2, a3, a4, a5, a6, a7], _ =>
    have e : a7 = .un := by simpa using e7
    subst e
    match ds, hl with
    | [], _ => rfl
    | [d], _ => simp [compGo, tgN, evYes, runFn, runFnD, roOf, rdOf, envOf0, seqS, skipS, setS, ownS, retS, ifS, doS, fixS, par2S, parOS, unpS, raiseS, evVar, evVarB, evLit, evNil, evCons, evTup, evLst, evBin, evBinL, ev1, ev1L, evAnd, evOr, evNot, evIf, evT, evTnot, evTand, evTor, evChain, evCall, evCallD, evCallK, ofRo, ofRd, lstOf, evSl, evSlL, ptOf, ptNo, asInt, asBool, toOut, Out.bind, evPop, evApp, evExt, evItL, evItT, evItS, evRng1, evZip, setMany, forgetS, forgetE]
    | [d, d2], _ => simp [compGo, tgN, evYes, runFn, runFnD, roOf, rdOf, envOf0, seqS, skipS, setS, ownS, retS, ifS, doS, fixS, par2S, parOS, unpS, raiseS, evVar, evVarB, evLit, evNil, evCons, evTup, evLst, evBin, evBinL, ev1, ev1L, evAnd, evOr, evNot, evIf, evT, evTnot, evTand, evTor, evChain, evCall, evCallD, evCallK, ofRo, ofRd, lstOf, evSl, evSlL, ptOf, ptNo, asInt, asBool, toOut, Out.bind, evPop, evApp, evExt, evItL, evItT, evItS, evRng1, evZip, setMany, forgetS, forgetE]
theorem bS_push {a : F} (hb : a.big = true) (hl : l.length + 3 < 1000000) : ∃ q4 q5 q6, bS (stS x ws (l ++ [row a false]) fs p4 p5 p6 .un k sm) = .ok .nx (stS x ws (l ++ [row a true] ++ open_ a) fs q4 q5 q6 .un k sm) := by
  obtain ⟨t1, t2⟩ := hd_t hb
  have hs : (subs a).length ≤ 2 := by cases a <;> simp [subs]
  have h1 : l.length < 1000000 := by omega
  have h2 : l.length + 1 + (subs a).length < 1000000 := by omega
  have c := comp_open (s := ⟨[x, .fz (.tuple (ws.map .str)), .own (l ++ [row a true]), .own (bo fs), .fz a.d, .fz (.bool false), p6, .un], k, sm⟩) (subs a) hs rfl rfl
  refine ⟨.fz a.d, .fz (.bool false), p6, ?_⟩
  simp only [row] at c ⊢
  simp [bS, runFn, runFnD, roOf, rdOf, envOf0, seqS, skipS, setS, ownS, retS, ifS, doS, fixS, par2S, parOS, unpS, raiseS, evVar, evVarB, evLit, evNil, evCons, evTup, evLst, evBin, evBinL, ev1, ev1L, evAnd, evOr, evNot, evIf, evT, evTnot, evTand, evTor, evChain, evCall, evCallD, evCallK, ofRo, ofRd, lstOf, evSl, evSlL, ptOf, ptNo, asInt, asBool, toOut, Out.bind, evPop, evApp, evExt, evItL, evItT, evItS, evRng1, evZip, setMany, stS, row, ixHd, eqS (hdOk a) ok_true, eqS (hdOk a) ok_shown, t1, t2, h1, slF a hb, evComp, forgetS, forgetE, c, open_, h2]
theorem cut1 (fs : List Bool) (b : Bool) : slL (.list (bo (fs ++ [b]))) none (some (-1)) = some (bo fs) ∧ slL (.list (bo (fs ++ [b]))) (some (-1)) none = some [.bool b] := by
  have hl : (bo (fs ++ [b])).length = fs.length + 1 := by simp [bo]
  have h1 : HT.sIx (bo (fs ++ [b])).length (bo (fs ++ [b])).length (some (-1)) = fs.length := by
    rw [hl]; unfold HT.sIx; simp; omega
  have h2 : HT.sIx (bo (fs ++ [b])).length 0 (some (-1)) = fs.length := by
    rw [hl]; unfold HT.sIx; simp; omega
  have h3 : HT.sIx (bo (fs ++ [b])).length 0 none = 0 := rfl
  have h4 : HT.sIx (bo (fs ++ [b])).length (bo (fs ++ [b])).length none = fs.length + 1 := hl
  have hf : (bo fs).length = fs.length := bo_len fs
  constructor
  · simp only [slL, cutL, h1, h3]
    simp [bo, hf]
  · simp only [slL, cutL, h2, h4]
    simp [bo, hf]
theorem cut2 (fs : List Bool) (b c : Bool) : slL (.list (bo (fs ++ [b, c]))) none (some (-2)) = some (bo fs) ∧ slL (.list (bo (fs ++ [b, c]))) (some (-2)) none = some [.bool b, .bool c] := by
  have hl : (bo (fs ++ [b, c])).length = fs.length + 2 := by simp [bo]
  have h1 : HT.sIx (bo (fs ++ [b, c])).length (bo (fs ++ [b, c])).length (some (-2)) = fs.length := by
    rw [hl]; unfold HT.sIx; simp; omega
  have h2 : HT.sIx (bo (fs ++ [b, c])).length 0 (some (-2)) = fs.length := by
    rw [hl]; unfold HT.sIx; simp; omega
  have h3 : HT.sIx (bo (fs ++ [b, c])).length 0 none = 0 := rfl
  have h4 : HT.sIx (bo (fs ++ [b, c])).length (bo (fs ++ [b, c])).length none = fs.length + 2 := hl
  have hf : (bo fs).length = fs.length := bo_len fs
  constructor
  · simp only [slL, cutL, h1, h3]
    simp [bo, hf]
  · simp only [slL, cutL, h2, h4]
    simp [bo, hf]
theorem jt_not (b : Bool) : f_joined_truth [.str "not", .list [.bool b]] = .ok (.bool (!b)) := by
  have e6 : (("not" : Str) == "not") = true := by decide +kernel
  have i0 : ixD (.list [.bool b]) (.int 0) = some (.bool b) := rfl
  simp [f_joined_truth, b_joined_truth, runFn, runFnD, roOf, rdOf, envOf0, seqS, skipS, setS, ownS, retS, ifS, doS, fixS, par2S, parOS, unpS, raiseS, evVar, evVarB, evLit, evNil, evCons, evTup, evLst, evBin, evBinL, ev1, ev1L, evAnd, evOr, evNot, evIf, evT, evTnot, evTand, evTor, evChain, evCall, evCallD, evCallK, ofRo, ofRd, lstOf, evSl, evSlL, ptOf, ptNo, asInt, asBool, toOut, Out.bind, evPop, evApp, evExt, evItL, evItT, evItS, evRng1, evZip, setMany, eqS ok_not ok_not, e6, i0]
theorem jt_and (b c : Bool) : f_joined_truth [.str "and", .list [.bool b, .bool c]] = .ok (.bool (c && b)) := by
  have e6 : (("and" : Str) == "not") = false := by decide +kernel
  have e7 : (("and" : Str) == "and") = true := by decide +kernel
  have i0 : allD (.list [.bool b, .bool c]) = some (.bool (c && b)) := by cases b <;> cases c <;> rfl
  simp [f_joined_truth, b_joined_truth, runFn, runFnD, roOf, rdOf, envOf0, seqS, skipS, setS, ownS, retS, ifS, doS, fixS, par2S, parOS, unpS, raiseS, evVar, evVarB, evLit, evNil, evCons, evTup, evLst, evBin, evBinL, ev1, ev1L, evAnd, evOr, evNot, evIf, evT, evTnot, evTand, evTor, evChain, evCall, evCallD, evCallK, ofRo, ofRd, lstOf, evSl, evSlL, ptOf, ptNo, asInt, asBool, toOut, Out.bind, evPop, evApp, evExt, evItL, evItT, evItS, evRng1, evZip, setMany, eqS ok_and ok_not, eqS ok_and ok_and, e6, e7, i0]
theorem jt_or (b c : Bool) : f_joined_truth [.str "or", .list [.bool b, .bool c]] = .ok (.bool (c || b)) := by
  have e6 : (("or" : Str) == "not") = false := by decide +kernel
  have e7 : (("or" : Str) == "and") = false := by decide +kernel
  have i0 : anyD (.list [.bool b, .bool c]) = some (.bool (c || b)) := by cases b <;> cases c <;> rfl
  simp [f_joined_truth, b_joined_truth, runFn, runFnD, roOf, rdOf, envOf0, seqS, skipS, setS, ownS, retS, ifS, doS, fixS, par2S, parOS, unpS, raiseS, evVar, evVarB, evLit, evNil, evCons, evTup, evLst, evBin, evBinL, ev1, ev1L, evAnd, evOr, evNot, evIf, evT, evTnot, evTand, evTor, evChain, evCall, evCallD, evCallK, ofRo, ofRd, lstOf, evSl, evSlL, ptOf, ptNo, asInt, asBool, toOut, Out.bind, evPop, evApp, evExt, evItL, evItT, evItS, evRng1, evZip, setMany, eqS ok_or ok_not, eqS ok_or ok_and, e6, e7, i0]
theorem add1 (fs : List Bool) (b : Bool) (h : fs.length < 1000000) : addL (.list (bo fs)) (.list [.bool b]) = some (bo (fs ++ [b])) := by
  have : (bo fs).length + [PyData.bool b].length ≤ sizeLine := by rw [bo_len, sizeLine_eq, List.length_singleton]; omega
  simp only [addL, if_pos this, bo_app]
theorem bS_no {a : F} {b : Bool} (hf : fs.length < 1000000) : ∃ q4 q5 q6, bS (stS x ws (l ++ [row (.no a) true]) (fs ++ [b]) p4 p5 p6 .un k sm) = .ok .nx (stS x ws l (fs ++ [!b]) q4 q5 q6 .un k sm) := by
  have e4 : (("not" : Str) == "true") = false := by decide +kernel
  have e5 : (("not" : Str) == "shown") = false := by decide +kernel
  obtain ⟨c1, c2⟩ := cut1 fs b
  have hn : lenD (F.no a).d = some (.int 2) := rfl
  have i0 := ixHd (.no a)
  refine ⟨.fz (F.no a).d, .fz (.bool true), .fz (.int 1), ?_⟩
  simp [bS, runFn, runFnD, roOf, rdOf, envOf0, seqS, skipS, setS, ownS, retS, ifS, doS, fixS, par2S, parOS, unpS, raiseS, evVar, evVarB, evLit, evNil, evCons, evTup, evLst, evBin, evBinL, ev1, ev1L, evAnd, evOr, evNot, evIf, evT, evTnot, evTand, evTor, evChain, evCall, evCallD, evCallK, ofRo, ofRd, lstOf, evSl, evSlL, ptOf, ptNo, asInt, asBool, toOut, Out.bind, evPop, evApp, evExt, evItL, evItT, evItS, evRng1, evZip, setMany, stS, row, i0, F.hd, eqS ok_not ok_true, eqS ok_not ok_shown, e4, e5, hn, subI, negD, c1, c2, jt_not, add1 _ _ hf]
theorem bS_an {a c : F} {b d : Bool} (hf : fs.length < 1000000) : ∃ q4 q5 q6, bS (stS x ws (l ++ [row (.an a c) true]) (fs ++ [b, d]) p4 p5 p6 .un k sm) = .ok .nx (stS x ws l (fs ++ [d && b]) q4 q5 q6 .un k sm) := by
  have e4 : (("and" : Str) == "true") = false := by decide +kernel
  have e5 : (("and" : Str) == "shown") = false := by decide +kernel
  obtain ⟨c1, c2⟩ := cut2 fs b d
  have hn : lenD (F.an a c).d = some (.int 3) := rfl
  have i0 := ixHd (.an a c)
  refine ⟨.fz (F.an a c).d, .fz (.bool true), .fz (.int 2), ?_⟩
  simp [bS, runFn, runFnD, roOf, rdOf, envOf0, seqS, skipS, setS, ownS, retS, ifS, doS, fixS, par2S, parOS, unpS, raiseS, evVar, evVarB, evLit, evNil, evCons, evTup, evLst, evBin, evBinL, ev1, ev1L, evAnd, evOr, evNot, evIf, evT, evTnot, evTand, evTor, evChain, evCall, evCallD, evCallK, ofRo, ofRd, lstOf, evSl, evSlL, ptOf, ptNo, asInt, asBool, toOut, Out.bind, evPop, evApp, evExt, evItL, evItT, evItS, evRng1, evZip, setMany, stS, row, i0, F.hd, eqS ok_and ok_true, eqS ok_and ok_shown, e4, e5, hn, subI, negD, c1, c2, jt_and, add1 _ _ hf]
theorem bS_or {a c : F} {b d : Bool} (hf : fs.length < 1000000) : ∃ q4 q5 q6, bS (stS x ws (l ++ [row (.or' a c) true]) (fs ++ [b, d]) p4 p5 p6 .un k sm) = .ok .nx (stS x ws l (fs ++ [d || b]) q4 q5 q6 .un k sm) := by
  have e4 : (("or" : Str) == "true") = false := by decide +kernel
  have e5 : (("or" : Str) == "shown") = false := by decide +kernel
  obtain ⟨c1, c2⟩ := cut2 fs b d
  have hn : lenD (F.or' a c).d = some (.int 3) := rfl
  have i0 := ixHd (.or' a c)
  refine ⟨.fz (F.or' a c).d, .fz (.bool true), .fz (.int 2), ?_⟩
  simp [bS, runFn, runFnD, roOf, rdOf, envOf0, seqS, skipS, setS, ownS, retS, ifS, doS, fixS, par2S, parOS, unpS, raiseS, evVar, evVarB, evLit, evNil, evCons, evTup, evLst, evBin, evBinL, ev1, ev1L, evAnd, evOr, evNot, evIf, evT, evTnot, evTand, evTor, evChain, evCall, evCallD, evCallK, ofRo, ofRd, lstOf, evSl, evSlL, ptOf, ptNo, asInt, asBool, toOut, Out.bind, evPop, evApp, evExt, evItL, evItT, evItS, evRng1, evZip, setMany, stS, row, i0, F.hd, eqS ok_or ok_true, eqS ok_or ok_shown, e4, e5, hn, subI, negD, c1, c2, jt_or, add1 _ _ hf]
/-- turns for a part -/
def F.turns : F → Nat
  | .tr => 1
  | .sh _ => 1
  | .no a => 2 + a.turns
  | .an a b => 2 + a.turns + b.turns
  | .or' a b => 2 + a.turns + b.turns
theorem one_turn {st st' : List D} {fs fs' : List Bool} {q4 q5 q6 : Sv} {n : Nat} (hs : ∀ d ∈ st, Sm d) (hne : st ≠ []) (hb : bS (stS x ws st fs p4 p5 p6 .un k sm) = .ok .nx (stS x ws st' fs' q4 q5 q6 .un k sm)) :
    whileS (n + 1) cS bS (stS x ws st fs p4 p5 p6 .un k sm) = whileS n cS bS (stS x ws st' fs' q4 q5 q6 .un k sm) := by
  rw [whileS_succ, cS_ev hs]
  simp only [Out.bind_ok]
  rw [if_pos (by simpa using hne), hb]
  rfl
theorem loop_S : ∀ (a : F), a.ok → a.dep ≤ 50 → ∀ (l : List D) (fs : List Bool), (∀ d ∈ l, Sm d) → l.length + fs.length + a.turns ≤ 100000 → ∀ (n : Nat) (p4 p5 p6 : Sv), ∃ q4 q5 q6, whileS (n + a.turns) cS bS (stS x ws (l ++ [row a false]) fs p4 p5 p6 .un k sm) = whileS n cS bS (stS x ws l (fs ++ [a.ev ws]) q4 q5 q6 .un k sm) := by
  have one : ∀ (l : List D) (d : D), (∀ e ∈ l, Sm e) → Sm d → ∀ e ∈ l ++ [d], Sm e := fun l d hl hd e hm => (List.mem_append.mp hm).elim (hl e) fun z => by rw [List.mem_singleton.mp z]; exact hd
  have two : ∀ (a b : F) (l : List D) (fs : List Bool) (n : Nat), a.ok → b.ok → a.dep ≤ 50 → b.dep ≤ 50 → (∀ d ∈ l, Sm d) → l.length + fs.length + (a.turns + b.turns) ≤ 99999 →
      (∀ (l : List D) (fs : List Bool), (∀ d ∈ l, Sm d) → l.length + fs.length + a.turns ≤ 100000 → ∀ (n : Nat) (p4 p5 p6 : Sv), ∃ q4 q5 q6, whileS (n + a.turns) cS bS (stS x ws (l ++ [row a false]) fs p4 p5 p6 .un k sm) = whileS n cS bS (stS x ws l (fs ++ [a.ev ws]) q4 q5 q6 .un k sm)) →
      (∀ (l : List D) (fs : List Bool), (∀ d ∈ l, Sm d) → l.length + fs.length + b.turns ≤ 100000 → ∀ (n : Nat) (p4 p5 p6 : Sv), ∃ q4 q5 q6, whileS (n + b.turns) cS bS (stS x ws (l ++ [row b false]) fs p4 p5 p6 .un k sm) = whileS n cS bS (stS x ws l (fs ++ [b.ev ws]) q4 q5 q6 .un k sm)) →
      ∀ p4 p5 p6, ∃ q4 q5 q6, whileS (n + (a.turns + b.turns)) cS bS (stS x ws (l ++ [row a false, row b false]) fs p4 p5 p6 .un k sm) = whileS n cS bS (stS x ws l (fs ++ [b.ev ws, a.ev ws]) q4 q5 q6 .un k sm) := by
    intro a b l fs n ha hb da db hl hn iha ihb p4 p5 p6
    have hp : 0 < a.turns := by cases a <;> simp [F.turns] <;> omega
    obtain ⟨q4, q5, q6, e1⟩ := ihb (l ++ [row a false]) fs (one l _ hl (smR ha da false)) (by simp; omega) (n + a.turns) p4 p5 p6
    obtain ⟨r4, r5, r6, e2⟩ := iha l (fs ++ [b.ev ws]) hl (by simp; omega) n q4 q5 q6
    refine ⟨r4, r5, r6, ?_⟩
    have ea : l ++ [row a false, row b false] = l ++ [row a false] ++ [row b false] := by simp
    have eb : fs ++ [b.ev ws, a.ev ws] = fs ++ [b.ev ws] ++ [a.ev ws] := by simp
    rw [show n + (a.turns + b.turns) = n + a.turns + b.turns by omega, ea, eb, e1, e2]
  intro a
  induction a with
  | tr =>
    intro h hd l fs hl hn n p4 p5 p6
    obtain ⟨q4, q5, q6, e⟩ := bS_tr (x := x) (p4 := p4) (p5 := p5) (p6 := p6) (l := l) (fs := fs) (ws := ws) (k := k) (sm := sm) (by omega)
    exact ⟨q4, q5, q6, one_turn (one l _ hl (smR h hd false)) (by simp) e⟩
  | sh w =>
    intro h hd l fs hl hn n p4 p5 p6
    obtain ⟨q4, q5, q6, e⟩ := bS_sh (x := x) (p4 := p4) (p5 := p5) (p6 := p6) (l := l) (fs := fs) (ws := ws) (k := k) (sm := sm) (w := w) (by omega)
    exact ⟨q4, q5, q6, one_turn (one l _ hl (smR h hd false)) (by simp) e⟩
  | no a ih =>
    intro h hd l fs hl hn n p4 p5 p6
    have hd' : a.dep ≤ 50 := by simp only [F.dep] at hd; omega
    simp only [F.turns] at hn
    obtain ⟨q4, q5, q6, e⟩ := bS_push (x := x) (p4 := p4) (p5 := p5) (p6 := p6) (l := l) (fs := fs) (ws := ws) (k := k) (sm := sm) (a := .no a) rfl (by omega)
    have t1 := one_turn (n := n + 1 + a.turns) (one l _ hl (smR h hd false)) (by simp) e
    obtain ⟨r4, r5, r6, e2⟩ := ih h hd' (l ++ [row (.no a) true]) fs (one l _ hl (smR h hd true)) (by simp; omega) (n + 1) q4 q5 q6
    obtain ⟨u4, u5, u6, e3⟩ := bS_no (x := x) (p4 := r4) (p5 := r5) (p6 := r6) (l := l) (fs := fs) (ws := ws) (k := k) (sm := sm) (a := a) (b := a.ev ws) (by omega)
    have t3 := one_turn (n := n) (one l _ hl (smR h hd true)) (by simp) e3
    refine ⟨u4, u5, u6, ?_⟩
    rw [show n + (F.no a).turns = n + 1 + a.turns + 1 by simp only [F.turns]; omega, t1]
    refine Eq.trans ?_ (e2.trans t3)
    rfl
  | an a b iha ihb =>
    intro h hd l fs hl hn n p4 p5 p6
    have hd1 : a.dep ≤ 50 := by simp only [F.dep] at hd; omega
    have hd2 : b.dep ≤ 50 := by simp only [F.dep] at hd; omega
    simp only [F.turns] at hn
    obtain ⟨q4, q5, q6, e⟩ := bS_push (x := x) (p4 := p4) (p5 := p5) (p6 := p6) (l := l) (fs := fs) (ws := ws) (k := k) (sm := sm) (a := .an a b) rfl (by omega)
    have t1 := one_turn (n := n + 1 + (a.turns + b.turns)) (one l _ hl (smR h hd false)) (by simp) e
    obtain ⟨r4, r5, r6, e2⟩ := two a b (l ++ [row (.an a b) true]) fs (n + 1) h.1 h.2 hd1 hd2 (one l _ hl (smR h hd true)) (by simp; omega) (iha h.1 hd1) (ihb h.2 hd2) q4 q5 q6
    obtain ⟨u4, u5, u6, e3⟩ := bS_an (x := x) (p4 := r4) (p5 := r5) (p6 := r6) (l := l) (fs := fs) (ws := ws) (k := k) (sm := sm) (a := a) (c := b) (b := b.ev ws) (d := a.ev ws) (by omega)
    have t3 := one_turn (n := n) (one l _ hl (smR h hd true)) (by simp) e3
    refine ⟨u4, u5, u6, ?_⟩
    rw [show n + (F.an a b).turns = n + 1 + (a.turns + b.turns) + 1 by simp only [F.turns]; omega, t1]
    refine Eq.trans ?_ (e2.trans t3)
    rfl
  | or' a b iha ihb =>
    intro h hd l fs hl hn n p4 p5 p6
    have hd1 : a.dep ≤ 50 := by simp only [F.dep] at hd; omega
    have hd2 : b.dep ≤ 50 := by simp only [F.dep] at hd; omega
    simp only [F.turns] at hn
    obtain ⟨q4, q5, q6, e⟩ := bS_push (x := x) (p4 := p4) (p5 := p5) (p6 := p6) (l := l) (fs := fs) (ws := ws) (k := k) (sm := sm) (a := .or' a b) rfl (by omega)
    have t1 := one_turn (n := n + 1 + (a.turns + b.turns)) (one l _ hl (smR h hd false)) (by simp) e
    obtain ⟨r4, r5, r6, e2⟩ := two a b (l ++ [row (.or' a b) true]) fs (n + 1) h.1 h.2 hd1 hd2 (one l _ hl (smR h hd true)) (by simp; omega) (iha h.1 hd1) (ihb h.2 hd2) q4 q5 q6
    obtain ⟨u4, u5, u6, e3⟩ := bS_or (x := x) (p4 := r4) (p5 := r5) (p6 := r6) (l := l) (fs := fs) (ws := ws) (k := k) (sm := sm) (a := a) (c := b) (b := b.ev ws) (d := a.ev ws) (by omega)
    have t3 := one_turn (n := n) (one l _ hl (smR h hd true)) (by simp) e3
    refine ⟨u4, u5, u6, ?_⟩
    rw [show n + (F.or' a b).turns = n + 1 + (a.turns + b.turns) + 1 by simp only [F.turns]; omega, t1]
    refine Eq.trans ?_ (e2.trans t3)
    rfl
theorem v_shown {a : F} (h : a.ok) (hd : a.dep ≤ 50) (ht : a.turns ≤ 90000) : f_is_shown [a.d, .tuple (ws.map .str)] = .ok (.bool (a.ev ws)) := by
  have e0 : f_is_shown [a.d, .tuple (ws.map .str)] = roOf ((whileS 100000 cS bS (stS (.fz a.d) ws ([] ++ [row a false]) [] .un .un .un .un dk0 false)).bind fun fl s1 => match fl with
    | .nx => (retS (evBin ixD (evVarB 3) (evLit (.int 0)))) s1
    | f => .ok f s1) := rfl
  obtain ⟨q4, q5, q6, e⟩ := loop_S (x := .fz a.d) (ws := ws) (k := dk0) (sm := false) a h hd [] [] (by simp) (by simp; omega) (100000 - a.turns) .un .un .un
  rw [show 100000 - a.turns + a.turns = 100000 by omega] at e
  rw [e0, e, show 100000 - a.turns = (99999 - a.turns) + 1 by omega, whileS_succ, cS_ev (by simp)]
  rfl
end
end Zo
namespace Zo
open PySem PySem.Spec PyProof.Rows L2
/-! ### words -/
theorem comp_map {vs : List Nat} {tgt : D → Ms → Option Ms} {elt : Ev} (g : D → D) {s0 : Ms} : ∀ (ds acc : List D), (∀ d ∈ ds, ∃ s1, tgt d s0 = some s1 ∧ elt s1 = .ok (g d) s1 ∧ forgetS vs s1 = s0) → acc.length + ds.length ≤ 1000000 → compGo vs tgt evYes elt ds acc s0 = .ok (acc ++ ds.map g) s0
  | [], acc, _, _ => by simp [compGo]
  | d :: ds, acc, h, hl => by
    obtain ⟨s1, h1, h2, h3⟩ := h d List.mem_cons_self
    simp only [List.length_cons] at hl
    have ih := comp_map g ds (acc ++ [g d]) (fun e he => h e (List.mem_cons_of_mem _ he)) (by simp; omega)
    unfold compGo
    rw [h1]
    simp only [evYes, if_true, h2]
    rw [if_pos (by omega), h3, ih]
    simp
def U7 : List Str := ["done", "hot", "late", "not", "true", "w1", "z9"]
theorem nm_u7 {w : Str} (h : w ∈ U7) : f_is_shown_word [.str w] = .ok (.bool true) := by
  simp only [U7, List.mem_cons, List.not_mem_nil, or_false] at h
  rcases h with rfl | rfl | rfl | rfl | rfl | rfl | rfl <;> rfl
theorem ok_u7 {w : Str} (h : w ∈ U7) : PyData.strOk w = true := by
  simp only [U7, List.mem_cons, List.not_mem_nil, or_false] at h
  rcases h with rfl | rfl | rfl | rfl | rfl | rfl | rfl <;> decide +kernel
def ltW (a b : Str) : Prop := a.cps.toList < b.cps.toList
instance (a b : Str) : Decidable (ltW a b) := inferInstanceAs (Decidable (a.cps.toList < b.cps.toList))
theorem u7_lt : U7.Pairwise ltW := by decide +kernel
theorem all_true {ds : List D} : allD (.list (ds.map fun _ => .bool true)) = some (.bool true) := by
  have h : boolsOf (ds.map fun _ => PyData.bool true) = some (ds.map fun _ => true) := by
    induction ds with
    | nil => rfl
    | cons d ds ih => simp [boolsOf, asBool, ih]
  simp [allD, h]
theorem zip_adj {α : Type} {R : α → α → Prop} : ∀ {l : List α}, l.Pairwise R → ∀ p ∈ l.zip l.tail, R p.1 p.2
  | [], _, p, h => by simp at h
  | [a], _, p, h => by simp at h
  | a :: b :: l, hp, p, h => by
    rw [List.tail_cons, List.zip_cons_cons] at h
    rcases List.mem_cons.mp h with e | h
    · rw [e]
      exact (List.pairwise_cons.mp hp).1 b List.mem_cons_self
    · exact zip_adj (l := b :: l) (List.pairwise_cons.mp hp).2 p h
theorem slAll (ws : List D) : slD (.tuple ws) (some 1) none = some (.tuple ws.tail) := by
  cases ws with
  | nil => rfl
  | cons d ds => exact sl1 d ds
theorem v_rising {ws : List Str} (h : ws.Pairwise ltW) (hl : ws.length ≤ 1000) : f_are_rising [.tuple (ws.map .str)] = .ok (.bool true) := by
  have c := comp_map (vs := [1, 2]) (tgt := tgT [1, 2]) (elt := evBin ltS (evVarB 1) (evVarB 2)) (fun _ => .bool true) (s0 := ⟨[.fz (.tuple (ws.map .str)), .un, .un], dk0, false⟩) (zipD (ws.map .str) (ws.map .str).tail) [] (fun d hd => by
    unfold zipD at hd
    obtain ⟨p, hp, e⟩ := List.mem_map.mp hd
    rw [← List.map_tail, List.zip_map] at hp
    obtain ⟨q, hq, e2⟩ := List.mem_map.mp hp
    have hlt : q.1.cps.toList < q.2.cps.toList := zip_adj h q hq
    subst e2
    subst e
    refine ⟨⟨[.fz (.tuple (ws.map .str)), .fz (.str q.1), .fz (.str q.2)], dk0, false⟩, rfl, ?_, rfl⟩
    have e : ltS (.str q.1) (.str q.2) = some (.bool true) := by
      simp only [ltS]
      rw [decide_eq_true hlt]
    simp [runFn, runFnD, roOf, rdOf, envOf0, seqS, skipS, setS, ownS, retS, ifS, doS, fixS, par2S, parOS, unpS, raiseS, evVar, evVarB, evLit, evNil, evCons, evTup, evLst, evBin, evBinL, ev1, ev1L, evAnd, evOr, evNot, evIf, evT, evTnot, evTand, evTor, evChain, evCall, evCallD, evCallK, ofRo, ofRd, lstOf, evSl, evSlL, ptOf, ptNo, asInt, asBool, toOut, Out.bind, evPop, evApp, evExt, evItL, evItT, evItS, evRng1, evZip, setMany, e]) (by rw [zipD_len]; simp; omega)
  simp [f_are_rising, b_are_rising, runFn, runFnD, roOf, rdOf, envOf0, seqS, skipS, setS, ownS, retS, ifS, doS, fixS, par2S, parOS, unpS, raiseS, evVar, evVarB, evLit, evNil, evCons, evTup, evLst, evBin, evBinL, ev1, ev1L, evAnd, evOr, evNot, evIf, evT, evTnot, evTand, evTor, evChain, evCall, evCallD, evCallK, ofRo, ofRd, lstOf, evSl, evSlL, ptOf, ptNo, asInt, asBool, toOut, Out.bind, evPop, evApp, evExt, evItL, evItT, evItS, evRng1, evZip, setMany, slAll, evComp, forgetS, forgetE, c, all_true]
theorem v_words {ws : List Str} (h : ws.Pairwise ltW) (hu : ∀ w ∈ ws, w ∈ U7) (hl : ws.length ≤ 1000) : f_are_words [.tuple (ws.map .str)] = .ok (.bool true) := by
  have c := comp_map (vs := [1]) (tgt := tgN 1) (elt := evCall f_is_shown_word (evCons (evVar 1) evNil)) (fun _ => .bool true) (s0 := ⟨[.fz (.tuple (ws.map .str)), .un], dk0, false⟩) (ws.map .str) [] (fun d hd => by
    obtain ⟨w, hw, e⟩ := List.mem_map.mp hd
    subst e
    refine ⟨⟨[.fz (.tuple (ws.map .str)), .fz (.str w)], dk0, false⟩, rfl, ?_, rfl⟩
    simp [runFn, runFnD, roOf, rdOf, envOf0, seqS, skipS, setS, ownS, retS, ifS, doS, fixS, par2S, parOS, unpS, raiseS, evVar, evVarB, evLit, evNil, evCons, evTup, evLst, evBin, evBinL, ev1, ev1L, evAnd, evOr, evNot, evIf, evT, evTnot, evTand, evTor, evChain, evCall, evCallD, evCallK, ofRo, ofRd, lstOf, evSl, evSlL, ptOf, ptNo, asInt, asBool, toOut, Out.bind, evPop, evApp, evExt, evItL, evItT, evItS, evRng1, evZip, setMany, nm_u7 (hu w hw)]) (by simp; omega)
  have r := v_rising h hl
  have h2 : allD (.list (List.map ((fun _ => PyData.bool true) ∘ PyData.str) ws)) = some (.bool true) := by
    rw [← List.map_map]
    exact all_true
  simp [f_are_words, b_are_words, runFn, runFnD, roOf, rdOf, envOf0, seqS, skipS, setS, ownS, retS, ifS, doS, fixS, par2S, parOS, unpS, raiseS, evVar, evVarB, evLit, evNil, evCons, evTup, evLst, evBin, evBinL, ev1, ev1L, evAnd, evOr, evNot, evIf, evT, evTnot, evTand, evTor, evChain, evCall, evCallD, evCallK, ofRo, ofRd, lstOf, evSl, evSlL, ptOf, ptNo, asInt, asBool, toOut, Out.bind, evPop, evApp, evExt, evItL, evItT, evItS, evRng1, evZip, setMany, isiD, isT, evComp, forgetS, forgetE, c, h2, r]
/-! ### shows_it -/
theorem v_need {x : D} (h : f_is_formula_value [x] = .ok (.bool true)) : f_need_formula [x] = .ok .none := by
  simp [f_need_formula, b_need_formula, runFn, runFnD, roOf, rdOf, envOf0, seqS, skipS, setS, ownS, retS, ifS, doS, fixS, par2S, parOS, unpS, raiseS, evVar, evVarB, evLit, evNil, evCons, evTup, evLst, evBin, evBinL, ev1, ev1L, evAnd, evOr, evNot, evIf, evT, evTnot, evTand, evTor, evChain, evCall, evCallD, evCallK, ofRo, ofRd, lstOf, evSl, evSlL, ptOf, ptNo, asInt, asBool, toOut, Out.bind, evPop, evApp, evExt, evItL, evItT, evItS, evRng1, evZip, setMany, h]
theorem v_need_no {x : D} (h : f_is_formula_value [x] = .ok (.bool false)) : f_need_formula [x] = .exc 0 x := by
  simp [f_need_formula, b_need_formula, runFn, runFnD, roOf, rdOf, envOf0, seqS, skipS, setS, ownS, retS, ifS, doS, fixS, par2S, parOS, unpS, raiseS, evVar, evVarB, evLit, evNil, evCons, evTup, evLst, evBin, evBinL, ev1, ev1L, evAnd, evOr, evNot, evIf, evT, evTnot, evTand, evTor, evChain, evCall, evCallD, evCallK, ofRo, ofRd, lstOf, evSl, evSlL, ptOf, ptNo, asInt, asBool, toOut, Out.bind, evPop, evApp, evExt, evItL, evItT, evItS, evRng1, evZip, setMany, h]
theorem shows_no {x y : D} (h : f_is_formula_value [x] = .ok (.bool false)) : f_shows_it [x, y] = .exc 0 x := by
  simp [f_shows_it, b_shows_it, runFn, runFnD, roOf, rdOf, envOf0, seqS, skipS, setS, ownS, retS, ifS, doS, fixS, par2S, parOS, unpS, raiseS, evVar, evVarB, evLit, evNil, evCons, evTup, evLst, evBin, evBinL, ev1, ev1L, evAnd, evOr, evNot, evIf, evT, evTnot, evTand, evTor, evChain, evCall, evCallD, evCallK, ofRo, ofRd, lstOf, evSl, evSlL, ptOf, ptNo, asInt, asBool, toOut, Out.bind, evPop, evApp, evExt, evItL, evItT, evItS, evRng1, evZip, setMany, v_need_no h]
theorem shows_bad {x y : D} (h : f_is_formula_value [x] = .ok (.bool true)) (k : f_are_words [y] = .ok (.bool false)) : f_shows_it [x, y] = .exc 0 y := by
  simp [f_shows_it, b_shows_it, runFn, runFnD, roOf, rdOf, envOf0, seqS, skipS, setS, ownS, retS, ifS, doS, fixS, par2S, parOS, unpS, raiseS, evVar, evVarB, evLit, evNil, evCons, evTup, evLst, evBin, evBinL, ev1, ev1L, evAnd, evOr, evNot, evIf, evT, evTnot, evTand, evTor, evChain, evCall, evCallD, evCallK, ofRo, ofRd, lstOf, evSl, evSlL, ptOf, ptNo, asInt, asBool, toOut, Out.bind, evPop, evApp, evExt, evItL, evItT, evItS, evRng1, evZip, setMany, v_need h, k]
theorem shows_ok {x y : D} {b : Bool} (h : f_is_formula_value [x] = .ok (.bool true)) (k : f_are_words [y] = .ok (.bool true)) (e : f_is_shown [x, y] = .ok (.bool b)) : f_shows_it [x, y] = .ok (.bool b) := by
  simp [f_shows_it, b_shows_it, runFn, runFnD, roOf, rdOf, envOf0, seqS, skipS, setS, ownS, retS, ifS, doS, fixS, par2S, parOS, unpS, raiseS, evVar, evVarB, evLit, evNil, evCons, evTup, evLst, evBin, evBinL, ev1, ev1L, evAnd, evOr, evNot, evIf, evT, evTnot, evTand, evTor, evChain, evCall, evCallD, evCallK, ofRo, ofRd, lstOf, evSl, evSlL, ptOf, ptNo, asInt, asBool, toOut, Out.bind, evPop, evApp, evExt, evItL, evItT, evItS, evRng1, evZip, setMany, v_need h, k, e]
theorem heard_ok {x y : D} {b c : Bool} (h : f_shows_it [x, y] = .ok (.bool b)) : f_law_heard [x, y, .bool c] = .ok (.tuple [.str "told", .bool b]) := by
  have p : pick [1, 0] [y, x] = [x, y] := rfl
  cases c <;> simp [f_law_heard, b_law_heard, runFn, runFnD, roOf, rdOf, envOf0, seqS, skipS, setS, ownS, retS, ifS, doS, fixS, par2S, parOS, unpS, raiseS, evVar, evVarB, evLit, evNil, evCons, evTup, evLst, evBin, evBinL, ev1, ev1L, evAnd, evOr, evNot, evIf, evT, evTnot, evTand, evTor, evChain, evCall, evCallD, evCallK, ofRo, ofRd, lstOf, evSl, evSlL, ptOf, ptNo, asInt, asBool, toOut, Out.bind, evPop, evApp, evExt, evItL, evItT, evItS, evRng1, evZip, setMany, heardS, p, h]
theorem heard_no {x y t : D} {c : Bool} (h : f_shows_it [x, y] = .exc 0 t) : f_law_heard [x, y, .bool c] = .ok (.tuple [.str "formula", t, .bool true]) := by
  have p : pick [1, 0] [y, x] = [x, y] := rfl
  cases c <;> simp [f_law_heard, b_law_heard, runFn, runFnD, roOf, rdOf, envOf0, seqS, skipS, setS, ownS, retS, ifS, doS, fixS, par2S, parOS, unpS, raiseS, evVar, evVarB, evLit, evNil, evCons, evTup, evLst, evBin, evBinL, ev1, ev1L, evAnd, evOr, evNot, evIf, evT, evTnot, evTand, evTor, evChain, evCall, evCallD, evCallK, ofRo, ofRd, lstOf, evSl, evSlL, ptOf, ptNo, asInt, asBool, toOut, Out.bind, evPop, evApp, evExt, evItL, evItT, evItS, evRng1, evZip, setMany, heardS, p, h]
def badL : List D := [.none, .list [.str "hot"], .str "hot", .tuple [.str "late", .str "hot"], .tuple [.str "hot", .str "hot"], .tuple [.str "Hot"], .tuple [.str ""], .tuple [.int 7], .tuple [.str "hot", .none], .tuple [.tuple [.str "hot"]], .dict [], .bool true]
theorem v_bad : ∀ v ∈ badL, f_are_words [v] = .ok (.bool false) := by
  intro v hv
  simp only [badL, List.mem_cons, List.not_mem_nil, or_false] at hv
  rcases hv with rfl | rfl | rfl | rfl | rfl | rfl | rfl | rfl | rfl | rfl | rfl | rfl <;> rfl
end Zo
namespace Zo
open PySem PySem.Spec PyProof.Rows L2
/-! ### texts of values: their lengths -/
def sl : List Str → Nat
  | [] => 0
  | t :: ts => t.length + 2 + sl ts
theorem from_le : ∀ (ts : List Str) (k : Nat) (acc : Str), (textFrom k acc ts).length ≤ acc.length + sl ts
  | [], k, acc => by simp [textFrom, sl]
  | t :: ts, k, acc => by
    have ih := from_le ts (k + 1) (acc ++ (if k > 0 then ", " else "" : String) ++ t)
    have e : (acc ++ (if k > 0 then ", " else "" : String) ++ t).length ≤ acc.length + 2 + t.length := by
      rw [strLen_append, strLen_append]
      split
      · have : ((", " : String) : Str).length = 2 := rfl
        omega
      · have : (("" : String) : Str).length = 0 := rfl
        omega
    simp only [textFrom, sl]
    omega
theorem join_le : ∀ ts : List Str, (Str.join ", " ts).length ≤ sl ts
  | [] => Nat.zero_le _
  | [x] => by show x.length ≤ _; simp only [sl]; omega
  | x :: y :: r => by
    have ih := join_le (y :: r)
    have e2 : ((", " : String) : Str).length = 2 := rfl
    show (x ++ ", " ++ Str.join ", " (y :: r)).length ≤ _
    rw [strLen_append, strLen_append, e2]
    simp only [sl] at ih ⊢
    omega
theorem list_le (ts : List Str) : (listText ts).length ≤ 2 + sl ts := by
  have h := from_le ts 0 "["
  have e1 : (("[" : String) : Str).length = 1 := rfl
  have e2 : (("]" : String) : Str).length = 1 := rfl
  unfold listText
  rw [strLen_append]
  omega
theorem tup_le (ts : List Str) : (tupleText ts).length ≤ 3 + sl ts := by
  have h := join_le ts
  have e1 : (("(" : String) : Str).length = 1 := rfl
  unfold tupleText
  rw [strLen_append, strLen_append]
  split
  · have e2 : ((",)" : String) : Str).length = 2 := rfl
    omega
  · have e2 : ((")" : String) : Str).length = 1 := rfl
    omega
/-- what repr asks of a value -/
structure Sh (n m : Nat) (d : D) : Prop where
  pl : plainD d = true
  sw : d.showable = true
  ln : d.shown.length ≤ n
  dp : d.depth ≤ m
theorem Sh.mono {n m n' m' : Nat} {d : D} (h : Sh n m d) (hn : n ≤ n') (hm : m ≤ m') : Sh n' m' d := ⟨h.pl, h.sw, Nat.le_trans h.ln hn, Nat.le_trans h.dp hm⟩
theorem sh_all {n m : Nat} : ∀ {ds : List D}, (∀ d ∈ ds, Sh n m d) → plainA ds = true ∧ PyData.showableAll ds = true ∧ sl (PyData.shownAll ds) ≤ ds.length * (n + 2) ∧ PyData.depthAll ds ≤ m
  | [], _ => by simp [plainA, PyData.showableAll, PyData.shownAll, sl, PyData.depthAll]
  | d :: ds, h => by
    obtain ⟨h1, h2, h3, h4⟩ := h d List.mem_cons_self
    obtain ⟨k1, k2, k3, k4⟩ := sh_all (ds := ds) fun e he => h e (List.mem_cons_of_mem _ he)
    simp only [plainA, PyData.showableAll, PyData.shownAll, sl, PyData.depthAll, h1, h2, k1, k2, Bool.and_self, true_and, List.length_cons, Nat.add_mul, Nat.one_mul]
    omega
theorem sh_tuple {n m : Nat} {ds : List D} (h : ∀ d ∈ ds, Sh n m d) : Sh (3 + ds.length * (n + 2)) (m + 1) (.tuple ds) := by
  obtain ⟨k1, k2, k3, k4⟩ := sh_all h
  refine ⟨by simpa [plainD] using k1, by simpa [PyData.showable] using k2, ?_, by simp only [PyData.depth]; omega⟩
  simp only [PyData.shown]
  exact Nat.le_trans (tup_le _) (by omega)
theorem sh_lst {n m : Nat} {ds : List D} (h : ∀ d ∈ ds, Sh n m d) : Sh (3 + ds.length * (n + 2)) (m + 1) (.list ds) := by
  obtain ⟨k1, k2, k3, k4⟩ := sh_all h
  refine ⟨by simpa [plainD] using k1, by simpa [PyData.showable] using k2, ?_, by simp only [PyData.depth]; omega⟩
  simp only [PyData.shown]
  exact Nat.le_trans (list_le _) (by omega)
theorem repr_list {n m : Nat} {ds : List D} (h : Sh n m (.list ds)) (hn : n ≤ 16000000) (hm : m ≤ 60) : reprD (.list ds) = some (.str (PyData.list ds).shown) := by
  unfold reprD
  rw [if_pos ⟨rfl, h.pl, h.sw, by have := h.ln; rw [sizeLine_eq]; omega, by have := h.dp; omega⟩]
theorem repr_tuple {n m : Nat} {ds : List D} (h : Sh n m (.tuple ds)) (hn : n ≤ 16000000) (hm : m ≤ 60) : reprD (.tuple ds) = some (.str (PyData.tuple ds).shown) := by
  unfold reprD
  rw [if_pos ⟨rfl, h.pl, h.sw, by have := h.ln; rw [sizeLine_eq]; omega, by have := h.dp; omega⟩]
theorem shw_str {w : Str} {n : Nat} (h : (reprText w).length ≤ n) : Sh n 1 (.str w) := ⟨rfl, rfl, by simpa only [PyData.shown] using h, by simp only [PyData.depth]; omega⟩
theorem sh_boo (b : Bool) : Sh 5 1 (.bool b) := ⟨rfl, rfl, by cases b <;> decide +kernel, by simp only [PyData.depth]; omega⟩
theorem sh_non : Sh 5 1 .none := ⟨rfl, rfl, by decide +kernel, by simp only [PyData.depth]; omega⟩
theorem sh_i7 : Sh 5 1 (.int 7) := ⟨rfl, by decide +kernel, by decide +kernel, by simp only [PyData.depth]; omega⟩
theorem sh_i1 : Sh 5 1 (.int 1) := ⟨rfl, by decide +kernel, by decide +kernel, by simp only [PyData.depth]; omega⟩
theorem sh_di : Sh 5 2 (.dict []) := ⟨rfl, by decide +kernel, by decide +kernel, by decide +kernel⟩
theorem q_w6 {w : Str} (h : w ∈ W6) : (reprText w).length ≤ 10 := by
  simp only [W6, List.mem_cons, List.not_mem_nil, or_false] at h
  rcases h with rfl | rfl | rfl | rfl | rfl | rfl <;> decide +kernel
theorem q_u7 {w : Str} (h : w ∈ U7) : (reprText w).length ≤ 10 := by
  simp only [U7, List.mem_cons, List.not_mem_nil, or_false] at h
  rcases h with rfl | rfl | rfl | rfl | rfl | rfl | rfl <;> decide +kernel
theorem q_true : (reprText "true").length ≤ 10 := by decide +kernel
theorem q_shown : (reprText "shown").length ≤ 10 := by decide +kernel
theorem q_not : (reprText "not").length ≤ 10 := by decide +kernel
theorem q_and : (reprText "and").length ≤ 10 := by decide +kernel
theorem q_or : (reprText "or").length ≤ 10 := by decide +kernel
theorem q_told : (reprText "told").length ≤ 10 := by decide +kernel
theorem q_formula : (reprText "formula").length ≤ 10 := by decide +kernel
theorem all1 {P : D → Prop} {a : D} (h : P a) : ∀ d ∈ [a], P d := fun d hd => by rw [List.mem_singleton.mp hd]; exact h
theorem all2 {P : D → Prop} {a b : D} (h : P a) (k : P b) : ∀ d ∈ [a, b], P d := fun d hd => by
  rcases List.mem_cons.mp hd with rfl | hd
  · exact h
  · exact all1 k d hd
theorem all3 {P : D → Prop} {a b c : D} (h : P a) (k : P b) (l : P c) : ∀ d ∈ [a, b, c], P d := fun d hd => by
  rcases List.mem_cons.mp hd with rfl | hd
  · exact h
  · exact all2 k l d hd
theorem all4 {P : D → Prop} {a b c e : D} (h : P a) (k : P b) (l : P c) (m : P e) : ∀ d ∈ [a, b, c, e], P d := fun d hd => by
  rcases List.mem_cons.mp hd with rfl | hd
  · exact h
  · exact all3 k l m d hd
/-- a bound of a formula's text -/
def fB : Nat → Nat
  | 0 => 60
  | n + 1 => 3 * fB n + 60
theorem fB_mono : ∀ {i j : Nat}, i ≤ j → fB i ≤ fB j
  | i, 0, h => by rw [Nat.le_zero.mp h]; exact Nat.le_refl _
  | i, j + 1, h => by
    by_cases e : i = j + 1
    · rw [e]; exact Nat.le_refl _
    · have := fB_mono (i := i) (j := j) (by omega)
      simp only [fB]
      omega
theorem sh_F : ∀ a : F, a.ok → Sh (fB a.dep) (a.dep + 1) a.d
  | .tr, _ => (sh_tuple (all1 (shw_str q_true))).mono (by simp [F.dep, fB]) (by simp [F.dep])
  | .sh w, h => (sh_tuple (all2 (shw_str q_shown) (shw_str (q_w6 h)))).mono (by simp [F.dep, fB]) (by simp [F.dep])
  | .no a, h => by
    have ih := sh_F a h
    have hb : 60 ≤ fB a.dep := fB_mono (i := 0) (Nat.zero_le _)
    refine (sh_tuple (all2 ((shw_str (n := fB a.dep) (Nat.le_trans q_not (by omega))).mono (Nat.le_refl _) (by omega)) ih)).mono ?_ ?_
    · simp only [F.dep, Nat.add_comm 1, fB, List.length_cons, List.length_nil]; omega
    · simp only [F.dep]; omega
  | .an a b, h => by
    have ih := sh_F a h.1
    have ih2 := sh_F b h.2
    have ha := fB_mono (show a.dep ≤ max a.dep b.dep by omega)
    have hb := fB_mono (show b.dep ≤ max a.dep b.dep by omega)
    have hc : 60 ≤ fB (max a.dep b.dep) := fB_mono (i := 0) (Nat.zero_le _)
    refine (sh_tuple (all3 ((shw_str (n := fB (max a.dep b.dep)) (Nat.le_trans q_and (by omega))).mono (Nat.le_refl _) (by omega)) (ih.mono ha (Nat.le_refl _) |>.mono (Nat.le_refl _) (show a.dep + 1 ≤ max a.dep b.dep + 1 by omega)) (ih2.mono hb (show b.dep + 1 ≤ max a.dep b.dep + 1 by omega)))).mono ?_ ?_
    · simp only [F.dep, Nat.add_comm 1, fB, List.length_cons, List.length_nil]; omega
    · simp only [F.dep]; omega
  | .or' a b, h => by
    have ih := sh_F a h.1
    have ih2 := sh_F b h.2
    have ha := fB_mono (show a.dep ≤ max a.dep b.dep by omega)
    have hb := fB_mono (show b.dep ≤ max a.dep b.dep by omega)
    have hc : 60 ≤ fB (max a.dep b.dep) := fB_mono (i := 0) (Nat.zero_le _)
    refine (sh_tuple (all3 ((shw_str (n := fB (max a.dep b.dep)) (Nat.le_trans q_or (by omega))).mono (Nat.le_refl _) (by omega)) (ih.mono ha (Nat.le_refl _) |>.mono (Nat.le_refl _) (show a.dep + 1 ≤ max a.dep b.dep + 1 by omega)) (ih2.mono hb (show b.dep + 1 ≤ max a.dep b.dep + 1 by omega)))).mono ?_ ?_
    · simp only [F.dep, Nat.add_comm 1, fB, List.length_cons, List.length_nil]; omega
    · simp only [F.dep]; omega
theorem sh_F8 {a : F} (h : a.ok) (hd : a.dep ≤ 6) : Sh 70000 8 a.d := (sh_F a h).mono (Nat.le_trans (fB_mono hd) (by decide)) (by omega)
/-- short constants -/
theorem cs {w : Str} (h : (reprText w).length ≤ 70000) : Sh 70000 8 (.str w) := (shw_str h).mono (Nat.le_refl _) (by omega)
theorem sh_near {a : F} (h : a.ok) (hd : a.dep ≤ 6) : ∀ v ∈ nearL a.d, Sh 900000 10 v := by
  have f := sh_F8 h hd
  have cn := cs (w := "not") (Nat.le_trans q_not (by decide))
  have ca := cs (w := "and") (Nat.le_trans q_and (by decide))
  have co := cs (w := "or") (Nat.le_trans q_or (by decide))
  have csh := cs (w := "shown") (Nat.le_trans q_shown (by decide))
  have ct := cs (w := "true") (Nat.le_trans q_true (by decide))
  have c1 := cs (w := "Hot") (show (reprText "Hot").length ≤ 70000 by decide +kernel)
  have c2 := cs (w := "") (show (reprText "").length ≤ 70000 by decide +kernel)
  have c3 := cs (w := "a") (show (reprText "a").length ≤ 70000 by decide +kernel)
  have c4 := cs (w := "b") (show (reprText "b").length ≤ 70000 by decide +kernel)
  have c5 := cs (w := "Not") (show (reprText "Not").length ≤ 70000 by decide +kernel)
  have c6 := cs (w := longW) (show (reprText longW).length ≤ 70000 by decide +kernel)
  have c7 := cs (w := "xor") (show (reprText "xor").length ≤ 70000 by decide +kernel)
  have i7 : Sh 70000 8 (.int 7) := sh_i7.mono (by simp) (by simp)
  have i1 : Sh 70000 8 (.int 1) := sh_i1.mono (by simp) (by simp)
  intro v hv
  simp only [nearL, List.mem_cons, List.not_mem_nil, or_false] at hv
  rcases hv with rfl | rfl | rfl | rfl | rfl | rfl | rfl | rfl | rfl | rfl | rfl | rfl | rfl | rfl | rfl | rfl | rfl | rfl | rfl | rfl | rfl | rfl
  · exact sh_non.mono (by simp) (by simp)
  · exact (sh_boo true).mono (by simp) (by simp)
  · exact (sh_tuple (n := 0) (m := 0) (ds := []) (by simp)).mono (by simp) (by simp)
  · exact ct.mono (by simp) (by simp)
  · exact (sh_tuple (all2 ct i1)).mono (by simp) (by simp)
  · exact (sh_tuple (all1 csh)).mono (by simp) (by simp)
  · exact (sh_tuple (all2 csh c1)).mono (by simp) (by simp)
  · exact (sh_tuple (all2 csh c2)).mono (by simp) (by simp)
  · exact (sh_tuple (all2 csh i7)).mono (by simp) (by simp)
  · exact (sh_tuple (all3 csh c3 c4)).mono (by simp) (by simp)
  · exact (sh_tuple (all1 cn)).mono (by simp) (by simp)
  · exact (sh_tuple (all3 cn f f)).mono (by simp) (by simp)
  · exact (sh_tuple (all2 ca f)).mono (by simp) (by simp)
  · exact (sh_tuple (all4 co f f f)).mono (by simp) (by simp)
  · exact (sh_lst (all2 cn f)).mono (by simp) (by simp)
  · exact (sh_tuple (all2 c5 f)).mono (by simp) (by simp)
  · exact (sh_tuple (all2 (cn.mono (show 70000 ≤ 80000 by decide) (show 8 ≤ 9 by decide)) ((sh_lst (all1 f)).mono (by simp) (by simp)))).mono (by simp) (by simp)
  · exact (sh_tuple (all3 (ca.mono (show 70000 ≤ 150000 by decide) (show 8 ≤ 9 by decide)) (f.mono (by simp) (by simp)) ((sh_tuple (all2 csh c6)).mono (by simp) (by simp)))).mono (by simp) (by simp)
  · exact (sh_tuple (all3 (co.mono (show 70000 ≤ 150000 by decide) (show 8 ≤ 9 by decide)) ((sh_tuple (all2 (cn.mono (show 70000 ≤ 70000 by decide) (show 8 ≤ 8 by decide)) ((sh_tuple (n := 0) (m := 0) (ds := []) (by simp)).mono (by simp) (by simp)))).mono (by simp) (by simp)) (f.mono (by simp) (by simp)))).mono (by simp) (by simp)
  · exact (sh_tuple (all3 c7 f f)).mono (by simp) (by simp)
  · exact (sh_tuple (all2 cn ct)).mono (by simp) (by simp)
  · exact (sh_tuple (all1 f)).mono (by simp) (by simp)
theorem sh_bad : ∀ v ∈ badL, Sh 900000 10 v := by
  have ch := cs (w := "hot") (show (reprText "hot").length ≤ 70000 by decide +kernel)
  have c1 := cs (w := "Hot") (show (reprText "Hot").length ≤ 70000 by decide +kernel)
  have c2 := cs (w := "") (show (reprText "").length ≤ 70000 by decide +kernel)
  have cl := cs (w := "late") (show (reprText "late").length ≤ 70000 by decide +kernel)
  have i7 : Sh 70000 8 (.int 7) := sh_i7.mono (by simp) (by simp)
  have n0 : Sh 70000 8 .none := sh_non.mono (by simp) (by simp)
  intro v hv
  simp only [badL, List.mem_cons, List.not_mem_nil, or_false] at hv
  rcases hv with rfl | rfl | rfl | rfl | rfl | rfl | rfl | rfl | rfl | rfl | rfl | rfl
  · exact n0.mono (by simp) (by simp)
  · exact (sh_lst (all1 ch)).mono (by simp) (by simp)
  · exact ch.mono (by simp) (by simp)
  · exact (sh_tuple (all2 cl ch)).mono (by simp) (by simp)
  · exact (sh_tuple (all2 ch ch)).mono (by simp) (by simp)
  · exact (sh_tuple (all1 c1)).mono (by simp) (by simp)
  · exact (sh_tuple (all1 c2)).mono (by simp) (by simp)
  · exact (sh_tuple (all1 i7)).mono (by simp) (by simp)
  · exact (sh_tuple (all2 ch n0)).mono (by simp) (by simp)
  · exact (sh_tuple (all1 ((sh_tuple (all1 ch)).mono (show _ ≤ 80000 by simp) (show _ ≤ 9 by simp)))).mono (by simp) (by simp)
  · exact sh_di.mono (by simp) (by simp)
  · exact (sh_boo true).mono (by simp) (by simp)
theorem sh_words {ws : List Str} (hu : ∀ w ∈ ws, w ∈ U7) (hl : ws.length ≤ 7) : Sh 900000 10 (.tuple (ws.map .str)) := by
  refine (sh_tuple (n := 10) (m := 1) fun d hd => ?_).mono ?_ (by decide)
  · obtain ⟨w, hw, e⟩ := List.mem_map.mp hd
    subst e
    exact shw_str (q_u7 (hu w hw))
  · rw [List.length_map]; omega
end Zo
namespace Zo
open PySem PySem.Spec PyProof.Rows L2
/-! ### draws -/
/-- the deck's turn is told -/
def Dn (n : Int) (k : Dk) : Prop := 0 ≤ k.turn ∧ k.turn ≤ n
theorem draw_ok {b n : Int} {k : Dk} (hb : 0 < b) (hb2 : b < 1000000000) (h : Dn n k) (hn : n < 1000000000) : ∃ i k', drawF [.int b] k = .ok (.int i) k' ∧ 0 ≤ i ∧ i < b ∧ Dn (n + 1) k' := by
  obtain ⟨h1, h2⟩ := h
  have c : 0 < b ∧ b < 1000000000 ∧ 0 ≤ k.turn ∧ k.turn < 1000000000000 := ⟨hb, hb2, h1, by omega⟩
  show ∃ i k', drawK b k = .ok (.int i) k' ∧ 0 ≤ i ∧ i < b ∧ Dn (n + 1) k'
  unfold drawK
  rw [if_pos c]
  cases k.cells.getLast? with
  | none => exact ⟨_, _, rfl, (mod_lt0 _ hb).1, (mod_lt0 _ hb).2, by constructor <;> (show _ ≤ _; simp only []; omega)⟩
  | some x =>
    dsimp only
    by_cases hx : 10 ^ 18 ≤ x
    · rw [if_pos hx]
      exact ⟨_, _, rfl, (mod_lt0 _ hb).1, (mod_lt0 _ hb).2, by constructor <;> (show _ ≤ _; simp only []; omega)⟩
    · rw [if_neg hx]
      exact ⟨_, _, rfl, (mod_lt0 _ hb).1, (mod_lt0 _ hb).2, by constructor <;> (show _ ≤ _; simp only []; omega)⟩
theorem ixList {xs : List D} {i : Int} (h0 : 0 ≤ i) (h1 : i < xs.length) : ∃ d, ixD (.list xs) (.int i) = some d ∧ d ∈ xs := by
  have hn : i.toNat < xs.length := by omega
  refine ⟨xs[i.toNat], ?_, List.getElem_mem _⟩
  have h : ixN xs.length i = some i.toNat := by
    unfold ixN
    rw [if_pos h0, if_pos h1]
  simp only [ixD, atI, h, Option.bind_some]
  exact List.getElem?_eq_getElem hn
theorem pick_ok {xs : List D} {n : Int} {k : Dk} (h0 : xs ≠ []) (hl : xs.length < 1000) (h : Dn n k) (hn : n < 1000000000) : ∃ d k', f_law_pick [.list xs] k = .ok d k' ∧ d ∈ xs ∧ Dn (n + 1) k' := by
  have hp : 0 < xs.length := List.length_pos_iff.mpr h0
  obtain ⟨i, k', e, i0, i1, hk⟩ := draw_ok (b := xs.length) (by omega) (by omega) h hn
  obtain ⟨d, e2, hm⟩ := ixList i0 i1
  refine ⟨d, k', ?_, hm, hk⟩
  simp [f_law_pick, b_law_pick, runFn, runFnD, roOf, rdOf, envOf0, seqS, skipS, setS, ownS, retS, ifS, doS, fixS, par2S, parOS, unpS, raiseS, evVar, evVarB, evLit, evNil, evCons, evTup, evLst, evBin, evBinL, ev1, ev1L, evAnd, evOr, evNot, evIf, evT, evTnot, evTand, evTor, evChain, evCall, evCallD, evCallK, ofRo, ofRd, lstOf, evSl, evSlL, ptOf, ptNo, asInt, asBool, toOut, Out.bind, evPop, evApp, evExt, evItL, evItT, evItS, evRng1, evZip, setMany, lenD, e, e2]
theorem seqS_nx {a b : Ex} {s s1 : Ms} (h : a s = .ok .nx s1) : seqS a b s = b s1 := by simp [seqS, h]
theorem setS_ok {i : Nat} {a : Ev} {s s1 : Ms} {d : D} (h : a s = .ok d s1) : setS i a s = .ok .nx { s1 with env := s1.env.set i (.fz d) } := by simp [setS, h]
def cF : Nat → Int
  | 0 => 2
  | n + 1 => 2 + 2 * cF n
theorem cF_pos : ∀ n, 0 < cF n
  | 0 => by decide
  | n + 1 => by have := cF_pos n; simp only [cF]; omega
def W6l : List D := [.str "hot", .str "late", .str "done", .str "w1", .str "true", .str "not"]
theorem w6l {d : D} (h : d ∈ W6l) : ∃ w ∈ W6, d = .str w := by
  simp only [W6l, List.mem_cons, List.not_mem_nil, or_false] at h
  rcases h with rfl | rfl | rfl | rfl | rfl | rfl <;> exact ⟨_, by decide +kernel, rfl⟩
theorem formula_ok : ∀ (n r : Nat), n < r → ∀ (m : Int) (k : Dk), Dn m k → m + cF n < 1000000000 → ∃ (a : F) (k' : Dk), f_law_formula r [.int n] k = .ok a.d k' ∧ a.ok ∧ a.dep ≤ n + 1 ∧ Dn (m + cF n) k'
  | n, 0, h, _, _, _, _ => by omega
  | n, r + 1, h, m, k, hk, hm => by
    have hc := cF_pos n
    -- which way
    have way : ∃ i k1, (evIf (evT (evBin (cmpI (fun i j => decide (j < i))) (evVarB 1) (evLit (.int 0)))) (evCallD 0 drawF (evCons (evLit (.int 6)) evNil)) (evCallD 0 drawF (evCons (evLit (.int 3)) evNil))) ⟨[.deck, .fz (.int n), .un], k, false⟩ = .ok (.int i) ⟨[.deck, .fz (.int n), .un], k1, false⟩ ∧ 0 ≤ i ∧ (i < 3 ∨ 0 < n) ∧ i < 6 ∧ Dn (m + 1) k1 := by
      by_cases h0 : 0 < n
      · obtain ⟨i, k1, e, i0, i1, hk1⟩ := draw_ok (b := 6) (by decide) (by decide) hk (by omega)
        have hd : decide ((0 : Int) < (n : Int)) = true := decide_eq_true (by omega)
        exact ⟨i, k1, by simp [runFn, runFnD, roOf, rdOf, envOf0, seqS, skipS, setS, ownS, retS, ifS, doS, fixS, par2S, parOS, unpS, raiseS, evVar, evVarB, evLit, evNil, evCons, evTup, evLst, evBin, evBinL, ev1, ev1L, evAnd, evOr, evNot, evIf, evT, evTnot, evTand, evTor, evChain, evCall, evCallD, evCallK, ofRo, ofRd, lstOf, evSl, evSlL, ptOf, ptNo, asInt, asBool, toOut, Out.bind, evPop, evApp, evExt, evItL, evItT, evItS, evRng1, evZip, setMany, cmpI, hd, e, h0], i0, .inr h0, i1, hk1⟩
      · obtain ⟨i, k1, e, i0, i1, hk1⟩ := draw_ok (b := 3) (by decide) (by decide) hk (by omega)
        have hn : n = 0 := by omega
        subst hn
        exact ⟨i, k1, by simp [runFn, runFnD, roOf, rdOf, envOf0, seqS, skipS, setS, ownS, retS, ifS, doS, fixS, par2S, parOS, unpS, raiseS, evVar, evVarB, evLit, evNil, evCons, evTup, evLst, evBin, evBinL, ev1, ev1L, evAnd, evOr, evNot, evIf, evT, evTnot, evTand, evTor, evChain, evCall, evCallD, evCallK, ofRo, ofRd, lstOf, evSl, evSlL, ptOf, ptNo, asInt, asBool, toOut, Out.bind, evPop, evApp, evExt, evItL, evItT, evItS, evRng1, evZip, setMany, cmpI, e], i0, .inl i1, by omega, hk1⟩
    obtain ⟨i, k1, e1, i0, i3, i6, hk1⟩ := way
    have run : f_law_formula (r + 1) [.int n] k = rdOf (b_law_formula (f_law_formula r) ⟨[.deck, .fz (.int n), .un], k, false⟩) := rfl
    rw [run]
    unfold b_law_formula
    rw [seqS_nx (setS_ok e1)]
    clear e1 run
    by_cases c0 : i = 0
    · subst c0
      have z : ((0 : Int) == 0) = true := rfl
      refine ⟨.tr, k1, ?_, trivial, by simp only [F.dep]; omega, hk1.1, by have := hk1.2; omega⟩
      simp [runFn, runFnD, roOf, rdOf, envOf0, seqS, skipS, setS, ownS, retS, ifS, doS, fixS, par2S, parOS, unpS, raiseS, evVar, evVarB, evLit, evNil, evCons, evTup, evLst, evBin, evBinL, ev1, ev1L, evAnd, evOr, evNot, evIf, evT, evTnot, evTand, evTor, evChain, evCall, evCallD, evCallK, ofRo, ofRd, lstOf, evSl, evSlL, ptOf, ptNo, asInt, asBool, toOut, Out.bind, evPop, evApp, evExt, evItL, evItT, evItS, evRng1, evZip, setMany, eqI, F.d]
    · by_cases c3 : i < 3
      · have z : (i == 0) = false := by simpa using c0
        have z3 : decide (i < 3) = true := decide_eq_true c3
        obtain ⟨d, k2, e2, hd, hk2⟩ := pick_ok (xs := W6l) (by simp [W6l]) (by simp [W6l]) hk1 (by omega)
        obtain ⟨w, hw, ed⟩ := w6l hd
        subst ed
        refine ⟨.sh w, k2, ?_, hw, by simp only [F.dep]; omega, hk2.1, ?_⟩
        · simp only [W6l] at e2
          simp [runFn, runFnD, roOf, rdOf, envOf0, seqS, skipS, setS, ownS, retS, ifS, doS, fixS, par2S, parOS, unpS, raiseS, evVar, evVarB, evLit, evNil, evCons, evTup, evLst, evBin, evBinL, ev1, ev1L, evAnd, evOr, evNot, evIf, evT, evTnot, evTand, evTor, evChain, evCall, evCallD, evCallK, ofRo, ofRd, lstOf, evSl, evSlL, ptOf, ptNo, asInt, asBool, toOut, Out.bind, evPop, evApp, evExt, evItL, evItT, evItS, evRng1, evZip, setMany, eqI, F.d, c0, cmpI, c3, e2]
        · have := hk2.2
          have : 2 ≤ cF n := by
            cases n with
            | zero => decide
            | succ n => have := cF_pos n; simp only [cF]; omega
          omega
      · have hn : 0 < n := by rcases i3 with h | h <;> omega
        obtain ⟨n', en⟩ : ∃ n', n = n' + 1 := ⟨n - 1, by omega⟩
        subst en
        have hcn : cF (n' + 1) = 2 + 2 * cF n' := rfl
        have hp := cF_pos n'
        have hsub : ((n' + 1 : Nat) : Int) - 1 = (n' : Int) := by omega
        generalize ((n' + 1 : Nat) : Int) = N at hsub ⊢
        by_cases c4 : i = 3
        · subst c4
          obtain ⟨a, k2, e2, ha, hd, hk2⟩ := formula_ok n' r (by omega) (m + 1) k1 hk1 (by omega)
          refine ⟨.no a, k2, ?_, ha, by simp only [F.dep]; omega, hk2.1, by have := hk2.2; omega⟩
          simp [runFn, runFnD, roOf, rdOf, envOf0, seqS, skipS, setS, ownS, retS, ifS, doS, fixS, par2S, parOS, unpS, raiseS, evVar, evVarB, evLit, evNil, evCons, evTup, evLst, evBin, evBinL, ev1, ev1L, evAnd, evOr, evNot, evIf, evT, evTnot, evTand, evTor, evChain, evCall, evCallD, evCallK, ofRo, ofRd, lstOf, evSl, evSlL, ptOf, ptNo, asInt, asBool, toOut, Out.bind, evPop, evApp, evExt, evItL, evItT, evItS, evRng1, evZip, setMany, eqI, F.d, cmpI, subI, hsub, e2]
        · have z : (i == 0) = false := by simpa using c0
          have z4 : (i == 3) = false := by simpa using c4
          obtain ⟨d, k2, e2, hd, hk2⟩ := pick_ok (xs := [.str "and", .str "or"]) (by simp) (by simp) hk1 (by omega)
          obtain ⟨a, k3, e3, ha, da, hk3⟩ := formula_ok n' r (by omega) (m + 1 + 1) k2 hk2 (by omega)
          obtain ⟨b, k4, e4, hb, db, hk4⟩ := formula_ok n' r (by omega) (m + 1 + 1 + cF n') k3 hk3 (by omega)
          simp only [List.mem_cons, List.not_mem_nil, or_false] at hd
          rcases hd with rfl | rfl
          · refine ⟨.an a b, k4, ?_, ⟨ha, hb⟩, by simp only [F.dep]; omega, hk4.1, by have := hk4.2; omega⟩
            simp [runFn, runFnD, roOf, rdOf, envOf0, seqS, skipS, setS, ownS, retS, ifS, doS, fixS, par2S, parOS, unpS, raiseS, evVar, evVarB, evLit, evNil, evCons, evTup, evLst, evBin, evBinL, ev1, ev1L, evAnd, evOr, evNot, evIf, evT, evTnot, evTand, evTor, evChain, evCall, evCallD, evCallK, ofRo, ofRd, lstOf, evSl, evSlL, ptOf, ptNo, asInt, asBool, toOut, Out.bind, evPop, evApp, evExt, evItL, evItT, evItS, evRng1, evZip, setMany, eqI, F.d, cmpI, subI, hsub, c0, c3, c4, e2, e3, e4]
          · refine ⟨.or' a b, k4, ?_, ⟨ha, hb⟩, by simp only [F.dep]; omega, hk4.1, by have := hk4.2; omega⟩
            simp [runFn, runFnD, roOf, rdOf, envOf0, seqS, skipS, setS, ownS, retS, ifS, doS, fixS, par2S, parOS, unpS, raiseS, evVar, evVarB, evLit, evNil, evCons, evTup, evLst, evBin, evBinL, ev1, ev1L, evAnd, evOr, evNot, evIf, evT, evTnot, evTand, evTor, evChain, evCall, evCallD, evCallK, ofRo, ofRd, lstOf, evSl, evSlL, ptOf, ptNo, asInt, asBool, toOut, Out.bind, evPop, evApp, evExt, evItL, evItT, evItS, evRng1, evZip, setMany, eqI, F.d, cmpI, subI, hsub, c0, c3, c4, e2, e3, e4]
theorem near_ok {a : D} {n : Int} {k : Dk} (h : Dn n k) (hn : n < 1000000000) : ∃ d k', f_law_near [a] k = .ok d k' ∧ d ∈ nearL a ∧ Dn (n + 1) k' := by
  obtain ⟨d, k', e, hd, hk⟩ := pick_ok (xs := nearL a) (by simp [nearL]) (by simp [nearL]) h hn
  refine ⟨d, k', ?_, hd, hk⟩
  simp only [nearL, longW] at e
  simp [f_law_near, b_law_near, runFn, runFnD, roOf, rdOf, envOf0, seqS, skipS, setS, ownS, retS, ifS, doS, fixS, par2S, parOS, unpS, raiseS, evVar, evVarB, evLit, evNil, evCons, evTup, evLst, evBin, evBinL, ev1, ev1L, evAnd, evOr, evNot, evIf, evT, evTnot, evTand, evTor, evChain, evCall, evCallD, evCallK, ofRo, ofRd, lstOf, evSl, evSlL, ptOf, ptNo, asInt, asBool, toOut, Out.bind, evPop, evApp, evExt, evItL, evItT, evItS, evRng1, evZip, setMany, e]
end Zo
namespace Zo
open PySem PySem.Spec PyProof.Rows L2
/-! ### the law's rows -/
def S1 : Ex := (setS 3 (evCallD 1 (f_law_formula 8) (evCons (evCallD 1 drawF (evCons (evLit (.int 6)) evNil)) evNil)))
def S2 : Ex := (setS 4 (ev1 tupD (lstOf (ev1L sortD (lstOf (evComp [5] (evItL (lstOf (evLst (evCons (evLit (.str "hot")) (evCons (evLit (.str "late")) (evCons (evLit (.str "done")) (evCons (evLit (.str "w1")) (evCons (evLit (.str "true")) (evCons (evLit (.str "not")) (evCons (evLit (.str "z9")) evNil)))))))))) (tgN 5) (evT (evBin eqD (evCallD 1 drawF (evCons (evLit (.int 2)) evNil)) (evLit (.int 0)))) (evVar 5)))))))
def S3 : Ex := (par2S 6 7 (evCall (f_law_is_so 8) (evCons (evVar 3) (evCons (evVar 4) evNil))) (ev1 reprD (evTup (evCons (evVar 3) (evCons (evVar 4) evNil)))))
def S4 : Ex := (setS 8 (evCallD 1 f_law_near (evCons (evVar 3) evNil)))
def S5 : Ex := (setS 9 (evCallD 1 f_law_pick (evCons (lstOf (evLst (evCons (evLit .none) (evCons (lstOf (evLst (evCons (evLit (.str "hot")) evNil))) (evCons (evLit (.str "hot")) (evCons (evTup (evCons (evLit (.str "late")) (evCons (evLit (.str "hot")) evNil))) (evCons (evTup (evCons (evLit (.str "hot")) (evCons (evLit (.str "hot")) evNil))) (evCons (evTup (evCons (evLit (.str "Hot")) evNil)) (evCons (evTup (evCons (evLit (.str "")) evNil)) (evCons (evTup (evCons (evLit (.int 7)) evNil)) (evCons (evTup (evCons (evLit (.str "hot")) (evCons (evLit .none) evNil))) (evCons (evTup (evCons (evTup (evCons (evLit (.str "hot")) evNil)) evNil)) (evCons (evLit (.dict [])) (evCons (evLit (.bool true)) evNil)))))))))))))) evNil)))
def S6 : Ex := (setS 10 (lstOf (evLst (evCons (evCall f_law_heard (evCons (evVar 3) (evCons (evVar 4) (evCons (evLit (.bool false)) evNil)))) (evCons (evCall f_law_heard (evCons (evVar 3) (evCons (evVar 4) (evCons (evLit (.bool true)) evNil)))) (evCons (evCall f_law_heard (evCons (evVar 8) (evCons (evVar 9) (evCons (evLit (.bool false)) evNil)))) (evCons (evCall f_law_heard (evCons (evVar 3) (evCons (evVar 9) (evCons (evLit (.bool true)) evNil)))) evNil)))))))
def S7 : Ex := (ifS (evTor (evT (evBin neSt (ev1 reprD (evVar 10)) (ev1 reprD (lstOf (evBinL addL (lstOf (evBinL repL (lstOf (evLst (evCons (evTup (evCons (evLit (.str "told")) (evCons (evVar 6) evNil))) evNil))) (evLit (.int 2)))) (lstOf (evLst (evCons (evTup (evCons (evLit (.str "formula")) (evCons (evVar 8) (evCons (evLit (.bool true)) evNil)))) (evCons (evTup (evCons (evLit (.str "formula")) (evCons (evVar 9) (evCons (evLit (.bool true)) evNil)))) evNil))))))))) (evT (evBin neSt (ev1 reprD (evTup (evCons (evVar 3) (evCons (evVar 4) evNil)))) (evVarB 7)))) (retS (evLit (.bool false))) skipS)
def S8 : Ex := (ifS (evT (evBin neSt (ev1 reprD (lstOf (evLst (evCons (evCall f_is_formula (evCons (evVar 3) evNil)) (evCons (evCallK f_is_formula [0] (evCons (evVar 3) evNil)) (evCons (evCall f_is_formula (evCons (evVar 8) evNil)) evNil)))))) (ev1 reprD (lstOf (evLst (evCons (evLit (.bool true)) (evCons (evLit (.bool true)) (evCons (evLit (.bool false)) evNil)))))))) (retS (evLit (.bool false))) skipS)
def bodyL : Ex := (seqS S1 (seqS S2 (seqS S3 (seqS S4 (seqS S5 (seqS S6 (seqS S7 S8)))))))
abbrev stL (e0 e2 e3 e4 e6 e7 e8 e9 e10 : Sv) (k : Dk) (sm : Bool) : Ms := ⟨[e0, .deck, e2, e3, e4, .un, e6, e7, e8, e9, e10], k, sm⟩
def I7 : List Str := ["hot", "late", "done", "w1", "true", "not", "z9"]
section
variable {e0 e2 e3 e4 e6 e7 e8 e9 e10 : Sv} {k : Dk} {sm : Bool}
theorem S1_ok {n : Int} (h : Dn n k) (hn : n + 200 < 1000000000) : ∃ (a : F) (k' : Dk), S1 (stL e0 e2 e3 e4 e6 e7 e8 e9 e10 k sm) = .ok .nx (stL e0 e2 (.fz a.d) e4 e6 e7 e8 e9 e10 k' sm) ∧ a.ok ∧ a.dep ≤ 6 ∧ Dn (n + 127) k' := by
  obtain ⟨i, k1, h1, i0, i6, hk1⟩ := draw_ok (b := 6) (by decide) (by decide) h (by omega)
  obtain ⟨m, hm⟩ : ∃ m : Nat, i = m := ⟨i.toNat, by omega⟩
  subst hm
  have hc : cF m ≤ 126 := by
    have : m ≤ 5 := by omega
    match m, this with
    | 0, _ => decide
    | 1, _ => decide
    | 2, _ => decide
    | 3, _ => decide
    | 4, _ => decide
    | 5, _ => decide
  obtain ⟨a, k2, h2, ha, hd, hk2⟩ := formula_ok m 8 (by omega) (n + 1) k1 hk1 (by omega)
  refine ⟨a, k2, ?_, ha, by omega, hk2.1, by have := hk2.2; omega⟩
  simp [S1, runFn, runFnD, roOf, rdOf, envOf0, seqS, skipS, setS, ownS, retS, ifS, doS, fixS, par2S, parOS, unpS, raiseS, evVar, evVarB, evLit, evNil, evCons, evTup, evLst, evBin, evBinL, ev1, ev1L, evAnd, evOr, evNot, evIf, evT, evTnot, evTand, evTor, evChain, evCall, evCallD, evCallK, ofRo, ofRd, lstOf, evSl, evSlL, ptOf, ptNo, asInt, asBool, toOut, Out.bind, evPop, evApp, evExt, evItL, evItT, evItS, evRng1, evZip, setMany, stL, h1, h2]
theorem words_comp (items : List Str) : ∀ (acc : List D) (n : Int) (k : Dk), Dn n k → n + items.length < 1000000000 → acc.length + items.length < 1000 →
    ∃ (ys : List Str) (k' : Dk), compGo [5] (tgN 5) (evT (evBin eqD (evCallD 1 drawF (evCons (evLit (.int 2)) evNil)) (evLit (.int 0)))) (evVar 5) (items.map .str) acc (stL e0 e2 e3 e4 e6 e7 e8 e9 e10 k sm) = .ok (acc ++ ys.map .str) (stL e0 e2 e3 e4 e6 e7 e8 e9 e10 k' sm) ∧ ys.Sublist items ∧ Dn (n + items.length) k' := by
  induction items with
  | nil => intro acc n k h _ _; exact ⟨[], k, by simp [compGo], List.Sublist.refl _, by simpa using h⟩
  | cons w ws ih =>
    intro acc n k h hn hl
    simp only [List.length_cons] at hn hl
    obtain ⟨i, k1, h1, i0, i2, hk1⟩ := draw_ok (b := 2) (by decide) (by decide) h (by omega)
    by_cases c : i = 0
    · subst c
      obtain ⟨ys, k2, e, hs, hk2⟩ := ih (acc ++ [.str w]) (n + 1) k1 hk1 (by omega) (by simp; omega)
      refine ⟨w :: ys, k2, ?_, hs.cons_cons w, hk2.1, by have := hk2.2; simp only [List.length_cons]; omega⟩
      have hl' : acc.length < 1000000 := by omega
      simp only [stL] at e
      simp [compGo, tgN, runFn, runFnD, roOf, rdOf, envOf0, seqS, skipS, setS, ownS, retS, ifS, doS, fixS, par2S, parOS, unpS, raiseS, evVar, evVarB, evLit, evNil, evCons, evTup, evLst, evBin, evBinL, ev1, ev1L, evAnd, evOr, evNot, evIf, evT, evTnot, evTand, evTor, evChain, evCall, evCallD, evCallK, ofRo, ofRd, lstOf, evSl, evSlL, ptOf, ptNo, asInt, asBool, toOut, Out.bind, evPop, evApp, evExt, evItL, evItT, evItS, evRng1, evZip, setMany, stL, h1, eqI, hl', forgetS, forgetE, e]
    · obtain ⟨ys, k2, e, hs, hk2⟩ := ih acc (n + 1) k1 hk1 (by omega) (by omega)
      refine ⟨ys, k2, ?_, hs.cons w, hk2.1, by have := hk2.2; simp only [List.length_cons]; omega⟩
      simp only [stL] at e
      simp [compGo, tgN, runFn, runFnD, roOf, rdOf, envOf0, seqS, skipS, setS, ownS, retS, ifS, doS, fixS, par2S, parOS, unpS, raiseS, evVar, evVarB, evLit, evNil, evCons, evTup, evLst, evBin, evBinL, ev1, ev1L, evAnd, evOr, evNot, evIf, evT, evTnot, evTand, evTor, evChain, evCall, evCallD, evCallK, ofRo, ofRd, lstOf, evSl, evSlL, ptOf, ptNo, asInt, asBool, toOut, Out.bind, evPop, evApp, evExt, evItL, evItT, evItS, evRng1, evZip, setMany, stL, h1, eqI, c, forgetS, forgetE, e]
theorem strsOf_map (ys : List Str) : strsOf (ys.map .str) = some ys := by
  induction ys with
  | nil => rfl
  | cons y ys ih => simp [strsOf, ih]
theorem lt_of_le_ne {a b : Str} (h : leS a b = true) (hne : a ≠ b) : ltW a b := by
  by_cases c : a.cps.toList < b.cps.toList
  · exact c
  · exact absurd (leS_anti a b h (by simp only [leS, decide_eq_false c]; rfl)) hne
theorem words_ok {ys : List Str} (h : ys.Sublist I7) : sortD (.list (ys.map .str)) = some ((ys.mergeSort leS).map .str) ∧ (ys.mergeSort leS).Pairwise ltW ∧ (∀ w ∈ ys.mergeSort leS, w ∈ U7) ∧ (ys.mergeSort leS).length ≤ 7 := by
  have hl : ys.length ≤ 7 := h.length_le
  have hp := List.mergeSort_perm ys leS
  have nd : I7.Nodup := by decide +kernel
  have sub : ∀ w ∈ I7, w ∈ U7 := by decide +kernel
  refine ⟨?_, ?_, fun w hw => sub w (h.mem (hp.mem_iff.mp hw)), by rw [hp.length_eq]; exact hl⟩
  · simp only [sortD, strsOf_map]
    rw [if_pos (by omega)]
  · have h1 := List.pairwise_mergeSort (le := leS) leS_trans leS_total ys
    have h2 : (ys.mergeSort leS).Nodup := hp.nodup_iff.mpr (h.nodup nd)
    exact (h1.and h2).imp fun ⟨x, y⟩ => lt_of_le_ne x y
theorem S2_ok {n : Int} (h : Dn n k) (hn : n + 200 < 1000000000) : ∃ (ws : List Str) (k' : Dk), S2 (stL e0 e2 e3 e4 e6 e7 e8 e9 e10 k sm) = .ok .nx (stL e0 e2 e3 (.fz (.tuple (ws.map .str))) e6 e7 e8 e9 e10 k' sm) ∧ ws.Pairwise ltW ∧ (∀ w ∈ ws, w ∈ U7) ∧ ws.length ≤ 7 ∧ Dn (n + 7) k' := by
  obtain ⟨ys, k', e, hs, hk⟩ := words_comp (e0 := e0) (e2 := e2) (e3 := e3) (e4 := e4) (e6 := e6) (e7 := e7) (e8 := e8) (e9 := e9) (e10 := e10) (sm := sm) I7 [] n k h (by simp [I7]; omega) (by simp [I7])
  obtain ⟨w1, w2, w3, w4⟩ := words_ok hs
  refine ⟨ys.mergeSort leS, k', ?_, w2, w3, w4, by simpa [I7] using hk⟩
  simp only [stL, I7, List.map_cons, List.map_nil, List.nil_append] at e
  simp [S2, runFn, runFnD, roOf, rdOf, envOf0, seqS, skipS, setS, ownS, retS, ifS, doS, fixS, par2S, parOS, unpS, raiseS, evVar, evVarB, evLit, evNil, evCons, evTup, evLst, evBin, evBinL, ev1, ev1L, evAnd, evOr, evNot, evIf, evT, evTnot, evTand, evTor, evChain, evCall, evCallD, evCallK, ofRo, ofRd, lstOf, evSl, evSlL, ptOf, ptNo, asInt, asBool, toOut, Out.bind, evPop, evApp, evExt, evItL, evItT, evItS, evRng1, evZip, setMany, stL, evComp, forgetS, forgetE, e, ev1L, w1, tupD]
theorem S3_ok {a : F} {ws : List Str} (h : a.ok) (hd : a.dep ≤ 6) (hu : ∀ w ∈ ws, w ∈ U7) (hl : ws.length ≤ 7) : S3 (stL e0 e2 (.fz a.d) (.fz (.tuple (ws.map .str))) e6 e7 e8 e9 e10 k sm) = .ok .nx (stL e0 e2 (.fz a.d) (.fz (.tuple (ws.map .str))) (.fz (.bool (a.ev ws))) (.fz (.str (PyData.tuple [a.d, .tuple (ws.map .str)]).shown)) e8 e9 e10 k sm) := by
  have h1 := v_so ws 8 a h (by omega)
  have h2 : reprD (.tuple [a.d, .tuple (ws.map .str)]) = _ := repr_tuple (sh_tuple (all2 ((sh_F8 h hd).mono (show 70000 ≤ 900000 by decide) (show 8 ≤ 10 by decide)) (sh_words hu hl))) (by simp) (by simp)
  simp [S3, runFn, runFnD, roOf, rdOf, envOf0, seqS, skipS, setS, ownS, retS, ifS, doS, fixS, par2S, parOS, unpS, raiseS, evVar, evVarB, evLit, evNil, evCons, evTup, evLst, evBin, evBinL, ev1, ev1L, evAnd, evOr, evNot, evIf, evT, evTnot, evTand, evTor, evChain, evCall, evCallD, evCallK, ofRo, ofRd, lstOf, evSl, evSlL, ptOf, ptNo, asInt, asBool, toOut, Out.bind, evPop, evApp, evExt, evItL, evItT, evItS, evRng1, evZip, setMany, stL, h1, h2]
theorem S4_ok {a : D} {n : Int} (h : Dn n k) (hn : n < 1000000000) : ∃ v k', S4 (stL e0 e2 (.fz a) e4 e6 e7 e8 e9 e10 k sm) = .ok .nx (stL e0 e2 (.fz a) e4 e6 e7 (.fz v) e9 e10 k' sm) ∧ v ∈ nearL a ∧ Dn (n + 1) k' := by
  obtain ⟨v, k', e, hv, hk⟩ := near_ok (a := a) h hn
  exact ⟨v, k', by simp [S4, runFn, runFnD, roOf, rdOf, envOf0, seqS, skipS, setS, ownS, retS, ifS, doS, fixS, par2S, parOS, unpS, raiseS, evVar, evVarB, evLit, evNil, evCons, evTup, evLst, evBin, evBinL, ev1, ev1L, evAnd, evOr, evNot, evIf, evT, evTnot, evTand, evTor, evChain, evCall, evCallD, evCallK, ofRo, ofRd, lstOf, evSl, evSlL, ptOf, ptNo, asInt, asBool, toOut, Out.bind, evPop, evApp, evExt, evItL, evItT, evItS, evRng1, evZip, setMany, stL, e], hv, hk⟩
theorem S5_ok {n : Int} (h : Dn n k) (hn : n < 1000000000) : ∃ v k', S5 (stL e0 e2 e3 e4 e6 e7 e8 e9 e10 k sm) = .ok .nx (stL e0 e2 e3 e4 e6 e7 e8 (.fz v) e10 k' sm) ∧ v ∈ badL ∧ Dn (n + 1) k' := by
  obtain ⟨v, k', e, hv, hk⟩ := pick_ok (xs := badL) (by simp [badL]) (by simp [badL]) h hn
  refine ⟨v, k', ?_, hv, hk⟩
  simp only [badL] at e
  simp [S5, runFn, runFnD, roOf, rdOf, envOf0, seqS, skipS, setS, ownS, retS, ifS, doS, fixS, par2S, parOS, unpS, raiseS, evVar, evVarB, evLit, evNil, evCons, evTup, evLst, evBin, evBinL, ev1, ev1L, evAnd, evOr, evNot, evIf, evT, evTnot, evTand, evTor, evChain, evCall, evCallD, evCallK, ofRo, ofRd, lstOf, evSl, evSlL, ptOf, ptNo, asInt, asBool, toOut, Out.bind, evPop, evApp, evExt, evItL, evItT, evItS, evRng1, evZip, setMany, stL, e]
theorem fturns : ∀ a : F, a.turns + 2 ≤ 4 * 2 ^ a.dep ∧ a.size ≤ a.turns
  | .tr => by simp [F.turns, F.dep, F.size]
  | .sh _ => by simp [F.turns, F.dep, F.size]
  | .no a => by
    obtain ⟨h1, h2⟩ := fturns a
    have : 0 < 2 ^ a.dep := Nat.pos_of_ne_zero (by simp)
    simp only [F.turns, F.dep, F.size, Nat.pow_add]
    omega
  | .an a b => by
    obtain ⟨h1, h2⟩ := fturns a
    obtain ⟨k1, k2⟩ := fturns b
    have ha : 2 ^ a.dep ≤ 2 ^ max a.dep b.dep := Nat.pow_le_pow_right (by decide) (by omega)
    have hb : 2 ^ b.dep ≤ 2 ^ max a.dep b.dep := Nat.pow_le_pow_right (by decide) (by omega)
    simp only [F.turns, F.dep, F.size, Nat.pow_add]
    omega
  | .or' a b => by
    obtain ⟨h1, h2⟩ := fturns a
    obtain ⟨k1, k2⟩ := fturns b
    have ha : 2 ^ a.dep ≤ 2 ^ max a.dep b.dep := Nat.pow_le_pow_right (by decide) (by omega)
    have hb : 2 ^ b.dep ≤ 2 ^ max a.dep b.dep := Nat.pow_le_pow_right (by decide) (by omega)
    simp only [F.turns, F.dep, F.size, Nat.pow_add]
    omega
theorem small6 {a : F} (hd : a.dep ≤ 6) : a.turns ≤ 300 ∧ a.size ≤ 300 := by
  obtain ⟨h1, h2⟩ := fturns a
  have : 2 ^ a.dep ≤ 2 ^ 6 := Nat.pow_le_pow_right (by decide) hd
  omega
def told (b : Bool) : D := .tuple [.str "told", .bool b]
def wrong (v : D) : D := .tuple [.str "formula", v, .bool true]
theorem S6_ok {a : F} {ws : List Str} {v b : D} (h : a.ok) (hd : a.dep ≤ 6) (hw : ws.Pairwise ltW) (hu : ∀ w ∈ ws, w ∈ U7) (hl : ws.length ≤ 7) (hv : v ∈ nearL a.d) (hb : b ∈ badL) :
    S6 (stL e0 e2 (.fz a.d) (.fz (.tuple (ws.map .str))) e6 e7 (.fz v) (.fz b) e10 k sm) = .ok .nx (stL e0 e2 (.fz a.d) (.fz (.tuple (ws.map .str))) e6 e7 (.fz v) (.fz b) (.fz (.list [told (a.ev ws), told (a.ev ws), wrong v, wrong b])) k sm) := by
  obtain ⟨t1, t2⟩ := small6 hd
  have f1 := v_F h (by omega) (by omega)
  have f2 := v_words hw hu (by omega)
  have f3 := v_shown (ws := ws) h (by omega) (by omega)
  have s1 := shows_ok f1 f2 f3
  have s2 := shows_no (y := b) (v_near h (by omega) (by omega) v hv)
  have s3 := shows_bad (y := b) f1 (v_bad b hb)
  have g1 := heard_ok (c := false) s1
  have g2 := heard_ok (c := true) s1
  have g3 := heard_no (c := false) s2
  have g4 := heard_no (c := true) s3
  simp [S6, runFn, runFnD, roOf, rdOf, envOf0, seqS, skipS, setS, ownS, retS, ifS, doS, fixS, par2S, parOS, unpS, raiseS, evVar, evVarB, evLit, evNil, evCons, evTup, evLst, evBin, evBinL, ev1, ev1L, evAnd, evOr, evNot, evIf, evT, evTnot, evTand, evTor, evChain, evCall, evCallD, evCallK, ofRo, ofRd, lstOf, evSl, evSlL, ptOf, ptNo, asInt, asBool, toOut, Out.bind, evPop, evApp, evExt, evItL, evItT, evItS, evRng1, evZip, setMany, stL, g1, g2, g3, g4, told, wrong]
theorem S7_ok {a : F} {ws : List Str} {v b : D} (h : a.ok) (hd : a.dep ≤ 6) (hu : ∀ w ∈ ws, w ∈ U7) (hl : ws.length ≤ 7) (hv : v ∈ nearL a.d) (hb : b ∈ badL) {t : Bool} :
    S7 (stL e0 e2 (.fz a.d) (.fz (.tuple (ws.map .str))) (.fz (.bool t)) (.fz (.str (PyData.tuple [a.d, .tuple (ws.map .str)]).shown)) (.fz v) (.fz b) (.fz (.list [told t, told t, wrong v, wrong b])) k sm) =
      .ok .nx (stL e0 e2 (.fz a.d) (.fz (.tuple (ws.map .str))) (.fz (.bool t)) (.fz (.str (PyData.tuple [a.d, .tuple (ws.map .str)]).shown)) (.fz v) (.fz b) (.fz (.list [told t, told t, wrong v, wrong b])) k sm) := by
  have h2 : reprD (.tuple [a.d, .tuple (ws.map .str)]) = _ := repr_tuple (sh_tuple (all2 ((sh_F8 h hd).mono (show 70000 ≤ 900000 by decide) (show 8 ≤ 10 by decide)) (sh_words hu hl))) (by simp) (by simp)
  have c1 : Sh 900000 10 (.str "formula") := (shw_str q_formula).mono (by decide) (by decide)
  have bt : Sh 900000 10 (.bool true) := (sh_boo true).mono (by decide) (by decide)
  have w1 : ∀ x, Sh 900000 10 x → Sh 3000000 11 (wrong x) := fun x hx => (sh_tuple (all3 c1 hx bt)).mono (by simp) (by simp)
  have t1 : Sh 3000000 11 (told t) := (sh_tuple (all2 ((shw_str q_told).mono (show 10 ≤ 900000 by decide) (show 1 ≤ 10 by decide)) ((sh_boo t).mono (by decide) (by decide)))).mono (by simp) (by simp)
  have h3 : reprD (.list [told t, told t, wrong v, wrong b]) = _ := repr_list (sh_lst (all4 t1 t1 (w1 v (sh_near h hd v hv)) (w1 b (sh_bad b hb)))) (by simp) (by simp)
  have r1 : repL (.list [told t]) (.int 2) = some [told t, told t] := by
    simp [repL, sizeLine_eq]
  have r2 : addL (.list [told t, told t]) (.list [wrong v, wrong b]) = some [told t, told t, wrong v, wrong b] := by
    have : [told t, told t].length + [wrong v, wrong b].length ≤ sizeLine := by rw [sizeLine_eq]; exact (show 4 ≤ 16777216 by decide)
    simp only [addL, if_pos this]
    rfl
  have r1' := r1
  have r2' := r2
  simp only [told, wrong] at h3 r1' r2' ⊢
  simp [S7, runFn, runFnD, roOf, rdOf, envOf0, seqS, skipS, setS, ownS, retS, ifS, doS, fixS, par2S, parOS, unpS, raiseS, evVar, evVarB, evLit, evNil, evCons, evTup, evLst, evBin, evBinL, ev1, ev1L, evAnd, evOr, evNot, evIf, evT, evTnot, evTand, evTor, evChain, evCall, evCallD, evCallK, ofRo, ofRd, lstOf, evSl, evSlL, ptOf, ptNo, asInt, asBool, toOut, Out.bind, evPop, evApp, evExt, evItL, evItT, evItS, evRng1, evZip, setMany, stL, r1', r2', h3, h2, neSt]
theorem S8_ok {a : F} {v : D} (h : a.ok) (hd : a.dep ≤ 6) (hv : v ∈ nearL a.d) : S8 (stL e0 e2 (.fz a.d) e4 e6 e7 (.fz v) e9 e10 k sm) = .ok .nx (stL e0 e2 (.fz a.d) e4 e6 e7 (.fz v) e9 e10 k sm) := by
  obtain ⟨t1, t2⟩ := small6 hd
  have f1 := v_F h (by omega) (by omega)
  have f2 := v_near h (by omega) (by omega) v hv
  have g1 : f_is_formula [a.d] = .ok (.bool true) := by simp [f_is_formula, b_is_formula, runFn, runFnD, roOf, rdOf, envOf0, seqS, skipS, setS, ownS, retS, ifS, doS, fixS, par2S, parOS, unpS, raiseS, evVar, evVarB, evLit, evNil, evCons, evTup, evLst, evBin, evBinL, ev1, ev1L, evAnd, evOr, evNot, evIf, evT, evTnot, evTand, evTor, evChain, evCall, evCallD, evCallK, ofRo, ofRd, lstOf, evSl, evSlL, ptOf, ptNo, asInt, asBool, toOut, Out.bind, evPop, evApp, evExt, evItL, evItT, evItS, evRng1, evZip, setMany, f1]
  have g2 : f_is_formula [v] = .ok (.bool false) := by simp [f_is_formula, b_is_formula, runFn, runFnD, roOf, rdOf, envOf0, seqS, skipS, setS, ownS, retS, ifS, doS, fixS, par2S, parOS, unpS, raiseS, evVar, evVarB, evLit, evNil, evCons, evTup, evLst, evBin, evBinL, ev1, ev1L, evAnd, evOr, evNot, evIf, evT, evTnot, evTand, evTor, evChain, evCall, evCallD, evCallK, ofRo, ofRd, lstOf, evSl, evSlL, ptOf, ptNo, asInt, asBool, toOut, Out.bind, evPop, evApp, evExt, evItL, evItT, evItS, evRng1, evZip, setMany, f2]
  have p : pick [0] [a.d] = [a.d] := rfl
  have h3 : reprD (.list [.bool true, .bool true, .bool false]) = _ := repr_list (sh_lst (all3 (sh_boo true) (sh_boo true) (sh_boo false))) (by simp) (by simp)
  simp [S8, runFn, runFnD, roOf, rdOf, envOf0, seqS, skipS, setS, ownS, retS, ifS, doS, fixS, par2S, parOS, unpS, raiseS, evVar, evVarB, evLit, evNil, evCons, evTup, evLst, evBin, evBinL, ev1, ev1L, evAnd, evOr, evNot, evIf, evT, evTnot, evTand, evTor, evChain, evCall, evCallD, evCallK, ofRo, ofRd, lstOf, evSl, evSlL, ptOf, ptNo, asInt, asBool, toOut, Out.bind, evPop, evApp, evExt, evItL, evItT, evItS, evRng1, evZip, setMany, stL, g1, g2, p, h3, neSt]
theorem body_ok {n : Int} (h : Dn n k) (hn : n + 400 < 1000000000) : ∃ q3 q4 q6 q7 q8 q9 q10 k', bodyL (stL e0 e2 e3 e4 e6 e7 e8 e9 e10 k sm) = .ok .nx (stL e0 e2 q3 q4 q6 q7 q8 q9 q10 k' sm) ∧ Dn (n + 150) k' := by
  obtain ⟨a, k1, h1, ha, hd, hk1⟩ := S1_ok (e0 := e0) (e2 := e2) (e3 := e3) (e4 := e4) (e6 := e6) (e7 := e7) (e8 := e8) (e9 := e9) (e10 := e10) (sm := sm) h (by omega)
  obtain ⟨ws, k2, h2, hw, hu, hl, hk2⟩ := S2_ok (e0 := e0) (e2 := e2) (e3 := .fz a.d) (e4 := e4) (e6 := e6) (e7 := e7) (e8 := e8) (e9 := e9) (e10 := e10) (sm := sm) hk1 (by omega)
  have h3 := S3_ok (e0 := e0) (e2 := e2) (e6 := e6) (e7 := e7) (e8 := e8) (e9 := e9) (e10 := e10) (k := k2) (sm := sm) ha hd hu hl
  obtain ⟨v, k4, h4, hv, hk4⟩ := S4_ok (a := a.d) (e0 := e0) (e2 := e2) (e4 := .fz (.tuple (ws.map .str))) (e6 := .fz (.bool (a.ev ws))) (e7 := .fz (.str (PyData.tuple [a.d, .tuple (ws.map .str)]).shown)) (e8 := e8) (e9 := e9) (e10 := e10) (sm := sm) hk2 (by omega)
  obtain ⟨b, k5, h5, hb, hk5⟩ := S5_ok (e0 := e0) (e2 := e2) (e3 := .fz a.d) (e4 := .fz (.tuple (ws.map .str))) (e6 := .fz (.bool (a.ev ws))) (e7 := .fz (.str (PyData.tuple [a.d, .tuple (ws.map .str)]).shown)) (e8 := .fz v) (e9 := e9) (e10 := e10) (sm := sm) hk4 (by omega)
  have h6 := S6_ok (e0 := e0) (e2 := e2) (e6 := .fz (.bool (a.ev ws))) (e7 := .fz (.str (PyData.tuple [a.d, .tuple (ws.map .str)]).shown)) (e10 := e10) (k := k5) (sm := sm) ha hd hw hu hl hv hb
  have h7 := S7_ok (e0 := e0) (e2 := e2) (k := k5) (sm := sm) (t := a.ev ws) ha hd hu hl hv hb
  have h8 := S8_ok (e0 := e0) (e2 := e2) (e4 := .fz (.tuple (ws.map .str))) (e6 := .fz (.bool (a.ev ws))) (e7 := .fz (.str (PyData.tuple [a.d, .tuple (ws.map .str)]).shown)) (e9 := .fz b) (e10 := .fz (.list [told (a.ev ws), told (a.ev ws), wrong v, wrong b])) (k := k5) (sm := sm) ha hd hv
  have run : bodyL (stL e0 e2 e3 e4 e6 e7 e8 e9 e10 k sm) = .ok .nx (stL e0 e2 (.fz a.d) (.fz (.tuple (ws.map .str))) (.fz (.bool (a.ev ws))) (.fz (.str (PyData.tuple [a.d, .tuple (ws.map .str)]).shown)) (.fz v) (.fz b) (.fz (.list [told (a.ev ws), told (a.ev ws), wrong v, wrong b])) k5 sm) := by
    unfold bodyL
    rw [seqS_nx h1, seqS_nx h2, seqS_nx h3, seqS_nx h4, seqS_nx h5, seqS_nx h6, seqS_nx h7]
    exact h8
  exact ⟨_, _, _, _, _, _, _, k5, run, hk5.1, by have := hk5.2; omega⟩
end
theorem loop_L {e0 : Sv} {sm : Bool} : ∀ (ds : List D) (e2 e3 e4 e6 e7 e8 e9 e10 : Sv) (k : Dk) (n : Int), Dn n k → n + 400 * (ds.length + 1) < 1000000000 → ∃ s, forGo (tgN 2) bodyL ds (stL e0 e2 e3 e4 e6 e7 e8 e9 e10 k sm) = .ok .nx s
  | [], _, _, _, _, _, _, _, _, _, _, _, _ => ⟨_, rfl⟩
  | d :: ds, e2, e3, e4, e6, e7, e8, e9, e10, k, n, h, hn => by
    simp only [List.length_cons] at hn
    obtain ⟨q3, q4, q6, q7, q8, q9, q10, k', e, hk⟩ := body_ok (e0 := e0) (e2 := .fz d) (e3 := e3) (e4 := e4) (e6 := e6) (e7 := e7) (e8 := e8) (e9 := e9) (e10 := e10) (sm := sm) h (by omega)
    obtain ⟨s, e'⟩ := loop_L ds (.fz d) q3 q4 q6 q7 q8 q9 q10 k' (n + 150) hk (by omega)
    refine ⟨s, ?_⟩
    have hb : forGo (tgN 2) bodyL (d :: ds) (stL e0 e2 e3 e4 e6 e7 e8 e9 e10 k sm) = stepS (bodyL (stL e0 (.fz d) e3 e4 e6 e7 e8 e9 e10 k sm)) (forGo (tgN 2) bodyL ds) := rfl
    rw [hb, e]
    exact e'
theorem law_pure (ns : List Int) (h : ns.length ≤ 63) : ∃ s', b_law (lawMs 9 (begun ns 95019)) = .ok (.rt (.bool true)) s' := by
  obtain ⟨s, e⟩ := loop_L (e0 := .un) (sm := false) (intsD 0 8) .un .un .un .un .un .un .un .un (begun ns 95019) 0 ⟨Int.le_refl 0, Int.le_refl 0⟩ (by decide)
  have eb : b_law = seqS (forS (evRng1 (evLit (.int 8))) (tgN 2) bodyL) (retS (evLit (.bool true))) := rfl
  have ef : forS (evRng1 (evLit (.int 8))) (tgN 2) bodyL (lawMs 9 (begun ns 95019)) = .ok .nx s := e
  rw [eb, seqS_nx ef]
  exact ⟨_, rfl⟩
end Zo
namespace Zo
open PySem PySem.Spec PyProof.Rows L2
theorem all_mk {l : PySem.W.OpenLaw} {w : World} {K : Fr} {h : Heap} {mg : Str → Option Value} {fa : Addr} (X : K.In h) (G : h.Ns mainGlobals mg) (hfa : mg "law" = some (.ref fa))
    {f0 f1 f3 f4 f8 f9 f13 f15 f16 f17 f18 f19 f20 f5 f2 f6 f7 f10 f11 f12 f14 f21 f22 : Addr} {od0 an0 od1 an1 od3 an3 od4 an4 od8 an8 od9 an9 od13 an13 od15 an15 od16 an16 od17 an17 od18 an18 od19 an19 od20 an20 od5 an5 od2 an2 od6 an6 od7 an7 od10 an10 od11 an11 od12 an12 od14 an14 od21 an21 od22 an22 : Option Addr} {sl0 sl1 sl3 sl4 sl8 sl9 sl13 sl15 sl16 sl17 sl18 sl19 sl20 sl5 sl2 sl6 sl7 sl10 sl11 sl12 sl14 sl21 sl22 : Array (Option Value)} {oc0 kV0 dc0 pm0 cd0 ct0 oc1 kV1 dc1 pm1 cd1 ct1 oc3 kV3 dc3 pm3 cd3 ct3 oc4 kV4 dc4 pm4 cd4 ct4 oc8 kV8 dc8 pm8 cd8 ct8 oc9 kV9 dc9 pm9 cd9 ct9 oc13 kV13 dc13 pm13 cd13 ct13 oc15 kV15 dc15 pm15 cd15 ct15 oc16 kV16 dc16 pm16 cd16 ct16 oc17 kV17 dc17 pm17 cd17 ct17 oc18 kV18 dc18 pm18 cd18 ct18 oc19 kV19 dc19 pm19 cd19 ct19 oc20 kV20 dc20 pm20 cd20 ct20 oc5 kV5 dc5 pm5 cd5 ct5 oc2 kV2 dc2 pm2 cd2 ct2 oc6 kV6 dc6 pm6 cd6 ct6 oc7 kV7 dc7 pm7 cd7 ct7 oc10 kV10 dc10 pm10 cd10 ct10 oc11 kV11 dc11 pm11 cd11 ct11 oc12 kV12 dc12 pm12 cd12 ct12 oc14 kV14 dc14 pm14 cd14 ct14 oc21 kV21 dc21 pm21 cd21 ct21 oc22 kV22 dc22 pm22 cd22 ct22 : Value}
    {tk_FIGURES : Tok} {tk_MARK_WORDS_0 tk_MARK_WORDS_1 tk_MARK_WORDS_2 tk_MARK_WORDS_3 : Tok} {q_MARK_WORDSa : Addr} {q_MARK_WORDSd : Option Addr} {q_MARK_WORDSn : Nat} {q_MARK_WORDSs : Array (Option Value)} {tk_MOST_SIGNS : Tok} {tk_SMALL : Tok} {za : Addr} {e0C e0N e0f : Addr} {e0nm e0q : Str} {e0bs : List Value} {e0sn : List Str} {e0sub : List Value} {e0ab : Bool} {e0col : Option Bool} {e0dd e0od e0an : Option Addr} {e0m0 e0m1 e0m2 e0m3 e0m5 : Option Value} {e0sl : Array (Option Value)} {e0oc e0dc e0pm e0cd e0ct : Value}
    (a0 : PySem.W.nsIn K mainGlobals "is_tuple_of" = some (some (.ref f0)))
    (l0 : K.lookup f0 = some ⟨oc0, od0, .func (PySem.W.fnOf "is_tuple_of" "is_tuple_of" (defArgs s_is_tuple_of) (defBody s_is_tuple_of) (defScope s_is_tuple_of) .none kV0 dc0 pm0 an0 cd0 ct0), sl0⟩)
    (c0 : PySem.W.codeIn K cd0 "is_tuple_of" = true)
    (k0 : PySem.W.keepIn K (.ref f0) = true)
    (a1 : PySem.W.nsIn K mainGlobals "is_word" = some (some (.ref f1)))
    (l1 : K.lookup f1 = some ⟨oc1, od1, .func (PySem.W.fnOf "is_word" "is_word" (defArgs s_is_word) (defBody s_is_word) (defScope s_is_word) .none kV1 dc1 pm1 an1 cd1 ct1), sl1⟩)
    (c1 : PySem.W.codeIn K cd1 "is_word" = true)
    (k1 : PySem.W.keepIn K (.ref f1) = true)
    (a3 : PySem.W.nsIn K mainGlobals "is_named" = some (some (.ref f3)))
    (l3 : K.lookup f3 = some ⟨oc3, od3, .func (PySem.W.fnOf "is_named" "is_named" (defArgs s_is_named) (defBody s_is_named) (defScope s_is_named) .none kV3 dc3 pm3 an3 cd3 ct3), sl3⟩)
    (c3 : PySem.W.codeIn K cd3 "is_named" = true)
    (k3 : PySem.W.keepIn K (.ref f3) = true)
    (a4 : PySem.W.nsIn K mainGlobals "is_name" = some (some (.ref f4)))
    (l4 : K.lookup f4 = some ⟨oc4, od4, .func (PySem.W.fnOf "is_name" "is_name" (defArgs s_is_name) (defBody s_is_name) (defScope s_is_name) .none kV4 dc4 pm4 an4 cd4 ct4), sl4⟩)
    (c4 : PySem.W.codeIn K cd4 "is_name" = true)
    (k4 : PySem.W.keepIn K (.ref f4) = true)
    (a8 : PySem.W.nsIn K mainGlobals "parts_of_formula" = some (some (.ref f8)))
    (l8 : K.lookup f8 = some ⟨oc8, od8, .func (PySem.W.fnOf "parts_of_formula" "parts_of_formula" (defArgs s_parts_of_formula) (defBody s_parts_of_formula) (defScope s_parts_of_formula) .none kV8 dc8 pm8 an8 cd8 ct8), sl8⟩)
    (c8 : PySem.W.codeIn K cd8 "parts_of_formula" = true)
    (k8 : PySem.W.keepIn K (.ref f8) = true)
    (a9 : PySem.W.nsIn K mainGlobals "is_formula_value" = some (some (.ref f9)))
    (l9 : K.lookup f9 = some ⟨oc9, od9, .func (PySem.W.fnOf "is_formula_value" "is_formula_value" (defArgs s_is_formula_value) (defBody s_is_formula_value) (defScope s_is_formula_value) .none kV9 dc9 pm9 an9 cd9 ct9), sl9⟩)
    (c9 : PySem.W.codeIn K cd9 "is_formula_value" = true)
    (k9 : PySem.W.keepIn K (.ref f9) = true)
    (a13 : PySem.W.nsIn K mainGlobals "is_formula" = some (some (.ref f13)))
    (l13 : K.lookup f13 = some ⟨oc13, od13, .func (PySem.W.fnOf "is_formula" "is_formula" (defArgs s_is_formula) (defBody s_is_formula) (defScope s_is_formula) .none kV13 dc13 pm13 an13 cd13 ct13), sl13⟩)
    (c13 : PySem.W.codeIn K cd13 "is_formula" = true)
    (k13 : PySem.W.keepIn K (.ref f13) = true)
    (a15 : PySem.W.nsIn K mainGlobals "_law_begun" = some (some (.ref f15)))
    (l15 : K.lookup f15 = some ⟨oc15, od15, .func (PySem.W.fnOf "_law_begun" "_law_begun" (defArgs s_law_begun) (defBody s_law_begun) (defScope s_law_begun) .none kV15 dc15 pm15 an15 cd15 ct15), sl15⟩)
    (c15 : PySem.W.codeIn K cd15 "_law_begun" = true)
    (k15 : PySem.W.keepIn K (.ref f15) = true)
    (a16 : PySem.W.nsIn K mainGlobals "_law_draw" = some (some (.ref f16)))
    (l16 : K.lookup f16 = some ⟨oc16, od16, .func (PySem.W.fnOf "_law_draw" "_law_draw" (defArgs s_law_draw) (defBody s_law_draw) (defScope s_law_draw) .none kV16 dc16 pm16 an16 cd16 ct16), sl16⟩)
    (c16 : PySem.W.codeIn K cd16 "_law_draw" = true)
    (k16 : PySem.W.keepIn K (.ref f16) = true)
    (a17 : PySem.W.nsIn K mainGlobals "_law_pick" = some (some (.ref f17)))
    (l17 : K.lookup f17 = some ⟨oc17, od17, .func (PySem.W.fnOf "_law_pick" "_law_pick" (defArgs s_law_pick) (defBody s_law_pick) (defScope s_law_pick) .none kV17 dc17 pm17 an17 cd17 ct17), sl17⟩)
    (c17 : PySem.W.codeIn K cd17 "_law_pick" = true)
    (k17 : PySem.W.keepIn K (.ref f17) = true)
    (a18 : PySem.W.nsIn K mainGlobals "_law_formula" = some (some (.ref f18)))
    (l18 : K.lookup f18 = some ⟨oc18, od18, .func (PySem.W.fnOf "_law_formula" "_law_formula" (defArgs s_law_formula) (defBody s_law_formula) (defScope s_law_formula) .none kV18 dc18 pm18 an18 cd18 ct18), sl18⟩)
    (c18 : PySem.W.codeIn K cd18 "_law_formula" = true)
    (k18 : PySem.W.keepIn K (.ref f18) = true)
    (a19 : PySem.W.nsIn K mainGlobals "_law_is_so" = some (some (.ref f19)))
    (l19 : K.lookup f19 = some ⟨oc19, od19, .func (PySem.W.fnOf "_law_is_so" "_law_is_so" (defArgs s_law_is_so) (defBody s_law_is_so) (defScope s_law_is_so) .none kV19 dc19 pm19 an19 cd19 ct19), sl19⟩)
    (c19 : PySem.W.codeIn K cd19 "_law_is_so" = true)
    (k19 : PySem.W.keepIn K (.ref f19) = true)
    (a20 : PySem.W.nsIn K mainGlobals "_law_near" = some (some (.ref f20)))
    (l20 : K.lookup f20 = some ⟨oc20, od20, .func (PySem.W.fnOf "_law_near" "_law_near" (defArgs s_law_near) (defBody s_law_near) (defScope s_law_near) .none kV20 dc20 pm20 an20 cd20 ct20), sl20⟩)
    (c20 : PySem.W.codeIn K cd20 "_law_near" = true)
    (k20 : PySem.W.keepIn K (.ref f20) = true)
    (a5 : PySem.W.nsIn K mainGlobals "are_rising" = some (some (.ref f5)))
    (l5 : K.lookup f5 = some ⟨oc5, od5, .func (PySem.W.fnOf "are_rising" "are_rising" (defArgs s_are_rising) (defBody s_are_rising) (defScope s_are_rising) .none kV5 dc5 pm5 an5 cd5 ct5), sl5⟩)
    (c5 : PySem.W.codeIn K cd5 "are_rising" = true)
    (k5 : PySem.W.keepIn K (.ref f5) = true)
    (a2 : PySem.W.nsIn K mainGlobals "is_one_of" = some (some (.ref f2)))
    (l2 : K.lookup f2 = some ⟨oc2, od2, .func (PySem.W.fnOf "is_one_of" "is_one_of" (defArgs s_is_one_of) (defBody s_is_one_of) (defScope s_is_one_of) .none kV2 dc2 pm2 an2 cd2 ct2), sl2⟩)
    (c2 : PySem.W.codeIn K cd2 "is_one_of" = true)
    (k2 : PySem.W.keepIn K (.ref f2) = true)
    (a6 : PySem.W.nsIn K mainGlobals "is_shown_word" = some (some (.ref f6)))
    (l6 : K.lookup f6 = some ⟨oc6, od6, .func (PySem.W.fnOf "is_shown_word" "is_shown_word" (defArgs s_is_shown_word) (defBody s_is_shown_word) (defScope s_is_shown_word) .none kV6 dc6 pm6 an6 cd6 ct6), sl6⟩)
    (c6 : PySem.W.codeIn K cd6 "is_shown_word" = true)
    (k6 : PySem.W.keepIn K (.ref f6) = true)
    (a7 : PySem.W.nsIn K mainGlobals "are_words" = some (some (.ref f7)))
    (l7 : K.lookup f7 = some ⟨oc7, od7, .func (PySem.W.fnOf "are_words" "are_words" (defArgs s_are_words) (defBody s_are_words) (defScope s_are_words) .none kV7 dc7 pm7 an7 cd7 ct7), sl7⟩)
    (c7 : PySem.W.codeIn K cd7 "are_words" = true)
    (k7 : PySem.W.keepIn K (.ref f7) = true)
    (a10 : PySem.W.nsIn K mainGlobals "need_formula" = some (some (.ref f10)))
    (l10 : K.lookup f10 = some ⟨oc10, od10, .func (PySem.W.fnOf "need_formula" "need_formula" (defArgs s_need_formula) (defBody s_need_formula) (defScope s_need_formula) .none kV10 dc10 pm10 an10 cd10 ct10), sl10⟩)
    (c10 : PySem.W.codeIn K cd10 "need_formula" = true)
    (k10 : PySem.W.keepIn K (.ref f10) = true)
    (a11 : PySem.W.nsIn K mainGlobals "joined_truth" = some (some (.ref f11)))
    (l11 : K.lookup f11 = some ⟨oc11, od11, .func (PySem.W.fnOf "joined_truth" "joined_truth" (defArgs s_joined_truth) (defBody s_joined_truth) (defScope s_joined_truth) .none kV11 dc11 pm11 an11 cd11 ct11), sl11⟩)
    (c11 : PySem.W.codeIn K cd11 "joined_truth" = true)
    (k11 : PySem.W.keepIn K (.ref f11) = true)
    (a12 : PySem.W.nsIn K mainGlobals "is_shown" = some (some (.ref f12)))
    (l12 : K.lookup f12 = some ⟨oc12, od12, .func (PySem.W.fnOf "is_shown" "is_shown" (defArgs s_is_shown) (defBody s_is_shown) (defScope s_is_shown) .none kV12 dc12 pm12 an12 cd12 ct12), sl12⟩)
    (c12 : PySem.W.codeIn K cd12 "is_shown" = true)
    (k12 : PySem.W.keepIn K (.ref f12) = true)
    (a14 : PySem.W.nsIn K mainGlobals "shows_it" = some (some (.ref f14)))
    (l14 : K.lookup f14 = some ⟨oc14, od14, .func (PySem.W.fnOf "shows_it" "shows_it" (defArgs s_shows_it) (defBody s_shows_it) (defScope s_shows_it) .none kV14 dc14 pm14 an14 cd14 ct14), sl14⟩)
    (c14 : PySem.W.codeIn K cd14 "shows_it" = true)
    (k14 : PySem.W.keepIn K (.ref f14) = true)
    (a21 : PySem.W.nsIn K mainGlobals "_law_heard" = some (some (.ref f21)))
    (l21 : K.lookup f21 = some ⟨oc21, od21, .func (PySem.W.fnOf "_law_heard" "_law_heard" (defArgs s_law_heard) (defBody s_law_heard) (defScope s_law_heard) .none kV21 dc21 pm21 an21 cd21 ct21), sl21⟩)
    (c21 : PySem.W.codeIn K cd21 "_law_heard" = true)
    (k21 : PySem.W.keepIn K (.ref f21) = true)
    (a22 : PySem.W.nsIn K mainGlobals "law" = some (some (.ref f22)))
    (l22 : K.lookup f22 = some ⟨oc22, od22, .func (PySem.W.fnOf "law" "law" (defArgs s_law) (defBody s_law) (defScope s_law) .none kV22 dc22 pm22 an22 cd22 ct22), sl22⟩)
    (c22 : PySem.W.codeIn K cd22 "law" = true)
    (k22 : PySem.W.keepIn K (.ref f22) = true)
    (z_all : PySem.W.nsIn K mainGlobals "all" = some none)
    (z_any : PySem.W.nsIn K mainGlobals "any" = some none)
    (z_int : PySem.W.nsIn K mainGlobals "int" = some none)
    (z_isinstance : PySem.W.nsIn K mainGlobals "isinstance" = some none)
    (z_len : PySem.W.nsIn K mainGlobals "len" = some none)
    (z_list : PySem.W.nsIn K mainGlobals "list" = some none)
    (z_max : PySem.W.nsIn K mainGlobals "max" = some none)
    (z_range : PySem.W.nsIn K mainGlobals "range" = some none)
    (z_repr : PySem.W.nsIn K mainGlobals "repr" = some none)
    (z_sorted : PySem.W.nsIn K mainGlobals "sorted" = some none)
    (z_str : PySem.W.nsIn K mainGlobals "str" = some none)
    (z_tuple : PySem.W.nsIn K mainGlobals "tuple" = some none)
    (z_zip : PySem.W.nsIn K mainGlobals "zip" = some none)
    (q_FIGURES : PySem.W.nsIn K mainGlobals "FIGURES" = some (some (.str "0123456789" tk_FIGURES)))
    (q_MARK_WORDS : PySem.W.nsIn K mainGlobals "MARK_WORDS" = some (some (.ref q_MARK_WORDSa)))
    (r_MARK_WORDS : K.lookup q_MARK_WORDSa = some ⟨.type "tuple", q_MARK_WORDSd, .seq ([Value.str "time!" tk_MARK_WORDS_0, Value.str "urgent!" tk_MARK_WORDS_1, Value.str "committed!" tk_MARK_WORDS_2, Value.str "reply!" tk_MARK_WORDS_3] : List Value).toArray q_MARK_WORDSn, q_MARK_WORDSs⟩)
    (q_MOST_SIGNS : PySem.W.nsIn K mainGlobals "MOST_SIGNS" = some (some (.int 12 tk_MOST_SIGNS)))
    (q_SMALL : PySem.W.nsIn K mainGlobals "SMALL" = some (some (.str "abcdefghijklmnopqrstuvwxyz" tk_SMALL)))
    (gZ : PySem.W.nsIn K mainGlobals "ZonesError" = some (some (.ref za)))
    (eg0 : PySem.W.nsIn K mainGlobals "BadFormula" = some (some (.ref e0C)))
    (ex0 : K.lookup e0C = some (excClassObj e0nm e0q e0C e0N e0bs (PySem.Zx.behind za) true e0sn e0sub e0ab e0col e0dd e0m0 e0m1 e0m2 e0m3 e0m5 "Exception.__new__"))
    (esa0 : PySem.W.findIn K (.ref e0C) "__setattr__" = some (some (.builtin "object.__setattr__")))
    (ega0 : PySem.W.findIn K (.ref e0C) "__getattribute__" = some (some (.builtin "BaseException.__getattribute__")))
    (egg0 : PySem.W.findIn K (.ref e0C) "__getattr__" = some none)
    (enb0 : PySem.W.findIn K (.ref e0C) "thing" = some none)
    (ein0 : PySem.W.findIn K (.ref e0C) "__init__" = some (some (.ref e0f)))
    (ecl0 : PySem.W.findIn K (.ref e0C) "__class__" = some (some (.builtin "object.__class__")))
    (et0 : PySem.W.typeIn K (.ref e0f) = some (.type "function"))
    (el0 : K.lookup e0f = some ⟨e0oc, e0od, .func (PySem.W.fnOf "__init__" "BadFormula.__init__" (PySem.Zx.iA ⟨6, 17, 6, 21⟩ ⟨6, 23, 6, 28⟩) (PySem.Zx.iB ⟨7, 8, 7, 12⟩ ⟨7, 8, 7, 18⟩ ⟨7, 21, 7, 26⟩ ⟨7, 8, 7, 26⟩) PySem.Zx.iS .none .none e0dc e0pm e0an e0cd e0ct), e0sl⟩)
    (ec0 : PySem.W.codeIn K e0cd "BadFormula.__init__" = true)
    (ek0 : PySem.W.keepIn K (.ref e0C) = true)
    (eb0 : PySem.W.subIn K (.ref e0C) (.type "BaseException") = some true)
    (ey0 : PySem.W.typeIn K (.ref e0C) = some (.type "type"))
    (eh0 : PySem.W.hasDictIn K e0C = true)
    (es0 : PySem.W.subIn K (.ref e0C) (.ref e0C) = some true)
    (ep0 : PySem.W.specialIn K (.builtin "object.__class__") "__get__" = some (some (.builtin "getset_descriptor.__get__")))
    (ew0 : PySem.W.takesIn K (.builtin "object.__class__") = some true)
    (em0 : PySem.W.mroIn K e0C (.type "object") = some true)
    (ez0 : PySem.W.kitOne K (.ref e0C) (.ref za) = some true) :
    ∃ fd : FuncData, Fun K "law" "law" s_law fa fd ∧ (∀ (s : Shared) (u : Value), BindsTo s fd ⟨[u], []⟩ [("script", u)]) ∧
      ∀ (base : Heap) (s : Shared) (H : Hp) (cdv : Value) (a : Addr) (ns : List Int), ns.length ≤ 63 → K.In base → base.Ns mainGlobals mg → SqL K H a (ns.map V.int) →
        ∃ t, PSs (cxOf (L2.CX l.prog w) l.prog w K mg base ["script", "deck", "turn", "formula", "words", "it", "due", "text", "none", "bad", "heard"] "law" (defScope s_law) fa cdv callerA [] s H (fun _ _ _ => False)) (defBody s_law) t ∧ t { nx := fun _ _ => False, rt := fun v _ => v = .bl true } (start ["script", "deck", "turn", "formula", "words", "it", "due", "text", "none", "bad", "heard"] [.ref a]) H := by
  have e := hfa.symm.trans (PySem.W.mg_of X G a22)
  cases e
  have F0 := fun_mk (st := s_is_tuple_of) l0 c0 k0
  have F1 := fun_mk (st := s_is_word) l1 c1 k1
  have F3 := fun_mk (st := s_is_named) l3 c3 k3
  have F4 := fun_mk (st := s_is_name) l4 c4 k4
  have F8 := fun_mk (st := s_parts_of_formula) l8 c8 k8
  have F9 := fun_mk (st := s_is_formula_value) l9 c9 k9
  have F13 := fun_mk (st := s_is_formula) l13 c13 k13
  have F15 := fun_mk (st := s_law_begun) l15 c15 k15
  have F16 := fun_mk (st := s_law_draw) l16 c16 k16
  have F17 := fun_mk (st := s_law_pick) l17 c17 k17
  have F18 := fun_mk (st := s_law_formula) l18 c18 k18
  have F19 := fun_mk (st := s_law_is_so) l19 c19 k19
  have F20 := fun_mk (st := s_law_near) l20 c20 k20
  have F5 := fun_mk (st := s_are_rising) l5 c5 k5
  have F2 := fun_mk (st := s_is_one_of) l2 c2 k2
  have F6 := fun_mk (st := s_is_shown_word) l6 c6 k6
  have F7 := fun_mk (st := s_are_words) l7 c7 k7
  have F10 := fun_mk (st := s_need_formula) l10 c10 k10
  have F11 := fun_mk (st := s_joined_truth) l11 c11 k11
  have F12 := fun_mk (st := s_is_shown) l12 c12 k12
  have F14 := fun_mk (st := s_shows_it) l14 c14 k14
  have F21 := fun_mk (st := s_law_heard) l21 c21 k21
  have F22 := fun_mk (st := s_law) l22 c22 k22
  let ad : Nat → Addr := fun i => match i with
      | 0 => f0
      | 1 => f1
      | 2 => f2
      | 3 => f3
      | 4 => f4
      | 5 => f5
      | 6 => f6
      | 7 => f7
      | 8 => f8
      | 9 => f9
      | 10 => f10
      | 11 => f11
      | 12 => f12
      | 13 => f13
      | 14 => f14
      | 15 => f15
      | 16 => f16
      | 17 => f17
      | 18 => f18
      | 19 => f19
      | 20 => f20
      | 21 => f21
      | _ => fa
  let fd : Nat → FuncData := fun i => match i with
      | 0 => (PySem.W.fnOf "is_tuple_of" "is_tuple_of" (defArgs s_is_tuple_of) (defBody s_is_tuple_of) (defScope s_is_tuple_of) .none kV0 dc0 pm0 an0 cd0 ct0)
      | 1 => (PySem.W.fnOf "is_word" "is_word" (defArgs s_is_word) (defBody s_is_word) (defScope s_is_word) .none kV1 dc1 pm1 an1 cd1 ct1)
      | 2 => (PySem.W.fnOf "is_one_of" "is_one_of" (defArgs s_is_one_of) (defBody s_is_one_of) (defScope s_is_one_of) .none kV2 dc2 pm2 an2 cd2 ct2)
      | 3 => (PySem.W.fnOf "is_named" "is_named" (defArgs s_is_named) (defBody s_is_named) (defScope s_is_named) .none kV3 dc3 pm3 an3 cd3 ct3)
      | 4 => (PySem.W.fnOf "is_name" "is_name" (defArgs s_is_name) (defBody s_is_name) (defScope s_is_name) .none kV4 dc4 pm4 an4 cd4 ct4)
      | 5 => (PySem.W.fnOf "are_rising" "are_rising" (defArgs s_are_rising) (defBody s_are_rising) (defScope s_are_rising) .none kV5 dc5 pm5 an5 cd5 ct5)
      | 6 => (PySem.W.fnOf "is_shown_word" "is_shown_word" (defArgs s_is_shown_word) (defBody s_is_shown_word) (defScope s_is_shown_word) .none kV6 dc6 pm6 an6 cd6 ct6)
      | 7 => (PySem.W.fnOf "are_words" "are_words" (defArgs s_are_words) (defBody s_are_words) (defScope s_are_words) .none kV7 dc7 pm7 an7 cd7 ct7)
      | 8 => (PySem.W.fnOf "parts_of_formula" "parts_of_formula" (defArgs s_parts_of_formula) (defBody s_parts_of_formula) (defScope s_parts_of_formula) .none kV8 dc8 pm8 an8 cd8 ct8)
      | 9 => (PySem.W.fnOf "is_formula_value" "is_formula_value" (defArgs s_is_formula_value) (defBody s_is_formula_value) (defScope s_is_formula_value) .none kV9 dc9 pm9 an9 cd9 ct9)
      | 10 => (PySem.W.fnOf "need_formula" "need_formula" (defArgs s_need_formula) (defBody s_need_formula) (defScope s_need_formula) .none kV10 dc10 pm10 an10 cd10 ct10)
      | 11 => (PySem.W.fnOf "joined_truth" "joined_truth" (defArgs s_joined_truth) (defBody s_joined_truth) (defScope s_joined_truth) .none kV11 dc11 pm11 an11 cd11 ct11)
      | 12 => (PySem.W.fnOf "is_shown" "is_shown" (defArgs s_is_shown) (defBody s_is_shown) (defScope s_is_shown) .none kV12 dc12 pm12 an12 cd12 ct12)
      | 13 => (PySem.W.fnOf "is_formula" "is_formula" (defArgs s_is_formula) (defBody s_is_formula) (defScope s_is_formula) .none kV13 dc13 pm13 an13 cd13 ct13)
      | 14 => (PySem.W.fnOf "shows_it" "shows_it" (defArgs s_shows_it) (defBody s_shows_it) (defScope s_shows_it) .none kV14 dc14 pm14 an14 cd14 ct14)
      | 15 => (PySem.W.fnOf "_law_begun" "_law_begun" (defArgs s_law_begun) (defBody s_law_begun) (defScope s_law_begun) .none kV15 dc15 pm15 an15 cd15 ct15)
      | 16 => (PySem.W.fnOf "_law_draw" "_law_draw" (defArgs s_law_draw) (defBody s_law_draw) (defScope s_law_draw) .none kV16 dc16 pm16 an16 cd16 ct16)
      | 17 => (PySem.W.fnOf "_law_pick" "_law_pick" (defArgs s_law_pick) (defBody s_law_pick) (defScope s_law_pick) .none kV17 dc17 pm17 an17 cd17 ct17)
      | 18 => (PySem.W.fnOf "_law_formula" "_law_formula" (defArgs s_law_formula) (defBody s_law_formula) (defScope s_law_formula) .none kV18 dc18 pm18 an18 cd18 ct18)
      | 19 => (PySem.W.fnOf "_law_is_so" "_law_is_so" (defArgs s_law_is_so) (defBody s_law_is_so) (defScope s_law_is_so) .none kV19 dc19 pm19 an19 cd19 ct19)
      | 20 => (PySem.W.fnOf "_law_near" "_law_near" (defArgs s_law_near) (defBody s_law_near) (defScope s_law_near) .none kV20 dc20 pm20 an20 cd20 ct20)
      | 21 => (PySem.W.fnOf "_law_heard" "_law_heard" (defArgs s_law_heard) (defBody s_law_heard) (defScope s_law_heard) .none kV21 dc21 pm21 an21 cd21 ct21)
      | _ => (PySem.W.fnOf "law" "law" (defArgs s_law) (defBody s_law) (defScope s_law) .none kV22 dc22 pm22 an22 cd22 ct22)
  have T : Txt K mg (fun i => ([e0C] : List Addr).getD i 0) ad fd (fun i => ([e0f] : List Addr).getD i 0) za := {
      g0 := PySem.W.mg_of X G a0
      F0 := F0
      B0 := F0.binds (ps := ["thing", "many"]) fun _ _ _ _ _ _ us hl => match us, hl with | [_, _], _ => rfl
      g1 := PySem.W.mg_of X G a1
      F1 := F1
      B1 := F1.binds (ps := ["thing", "word"]) fun _ _ _ _ _ _ us hl => match us, hl with | [_, _], _ => rfl
      g3 := PySem.W.mg_of X G a3
      F3 := F3
      B3 := F3.binds (ps := ["thing", "word", "many"]) fun _ _ _ _ _ _ us hl => match us, hl with | [_, _, _], _ => rfl
      g4 := PySem.W.mg_of X G a4
      F4 := F4
      B4 := F4.binds (ps := ["thing"]) fun _ _ _ _ _ _ us hl => match us, hl with | [_], _ => rfl
      g8 := PySem.W.mg_of X G a8
      F8 := F8
      B8 := F8.binds (ps := ["thing"]) fun _ _ _ _ _ _ us hl => match us, hl with | [_], _ => rfl
      g9 := PySem.W.mg_of X G a9
      F9 := F9
      B9 := F9.binds (ps := ["thing"]) fun _ _ _ _ _ _ us hl => match us, hl with | [_], _ => rfl
      g13 := PySem.W.mg_of X G a13
      F13 := F13
      B13 := F13.binds (ps := ["thing"]) fun _ _ _ _ _ _ us hl => match us, hl with | [_], _ => rfl
      k13_thing := kwB_of F13 fun _ _ _ _ _ _ ws hl => match ws, hl with | [_], _ => rfl
      g15 := PySem.W.mg_of X G a15
      F15 := F15
      B15 := F15.binds (ps := ["script", "salt"]) fun _ _ _ _ _ _ us hl => match us, hl with | [_, _], _ => rfl
      g16 := PySem.W.mg_of X G a16
      F16 := F16
      B16 := F16.binds (ps := ["deck", "below"]) fun _ _ _ _ _ _ us hl => match us, hl with | [_, _], _ => rfl
      g17 := PySem.W.mg_of X G a17
      F17 := F17
      B17 := F17.binds (ps := ["deck", "some"]) fun _ _ _ _ _ _ us hl => match us, hl with | [_, _], _ => rfl
      g18 := PySem.W.mg_of X G a18
      F18 := F18
      B18 := F18.binds (ps := ["deck", "deep"]) fun _ _ _ _ _ _ us hl => match us, hl with | [_, _], _ => rfl
      g19 := PySem.W.mg_of X G a19
      F19 := F19
      B19 := F19.binds (ps := ["formula", "words"]) fun _ _ _ _ _ _ us hl => match us, hl with | [_, _], _ => rfl
      g20 := PySem.W.mg_of X G a20
      F20 := F20
      B20 := F20.binds (ps := ["deck", "formula"]) fun _ _ _ _ _ _ us hl => match us, hl with | [_, _], _ => rfl
      g5 := PySem.W.mg_of X G a5
      F5 := F5
      B5 := F5.binds (ps := ["things"]) fun _ _ _ _ _ _ us hl => match us, hl with | [_], _ => rfl
      g2 := PySem.W.mg_of X G a2
      F2 := F2
      B2 := F2.binds (ps := ["thing", "words"]) fun _ _ _ _ _ _ us hl => match us, hl with | [_, _], _ => rfl
      g6 := PySem.W.mg_of X G a6
      F6 := F6
      B6 := F6.binds (ps := ["thing"]) fun _ _ _ _ _ _ us hl => match us, hl with | [_], _ => rfl
      g7 := PySem.W.mg_of X G a7
      F7 := F7
      B7 := F7.binds (ps := ["thing"]) fun _ _ _ _ _ _ us hl => match us, hl with | [_], _ => rfl
      g10 := PySem.W.mg_of X G a10
      F10 := F10
      B10 := F10.binds (ps := ["formula"]) fun _ _ _ _ _ _ us hl => match us, hl with | [_], _ => rfl
      g11 := PySem.W.mg_of X G a11
      F11 := F11
      B11 := F11.binds (ps := ["word", "truths"]) fun _ _ _ _ _ _ us hl => match us, hl with | [_, _], _ => rfl
      g12 := PySem.W.mg_of X G a12
      F12 := F12
      B12 := F12.binds (ps := ["formula", "words"]) fun _ _ _ _ _ _ us hl => match us, hl with | [_, _], _ => rfl
      g14 := PySem.W.mg_of X G a14
      F14 := F14
      B14 := F14.binds (ps := ["formula", "words"]) fun _ _ _ _ _ _ us hl => match us, hl with | [_, _], _ => rfl
      k14_words_formula := kwB_of F14 fun _ _ _ _ _ _ ws hl => match ws, hl with | [_, _], _ => rfl
      g21 := PySem.W.mg_of X G a21
      F21 := F21
      B21 := F21.binds (ps := ["formula", "words", "by_name"]) fun _ _ _ _ _ _ us hl => match us, hl with | [_, _, _], _ => rfl
      g22 := PySem.W.mg_of X G a22
      F22 := F22
      B22 := F22.binds (ps := ["script"]) fun _ _ _ _ _ _ us hl => match us, hl with | [_], _ => rfl
      n_all := PySem.W.mg_none_of X G z_all
      n_any := PySem.W.mg_none_of X G z_any
      n_int := PySem.W.mg_none_of X G z_int
      n_isinstance := PySem.W.mg_none_of X G z_isinstance
      n_len := PySem.W.mg_none_of X G z_len
      n_list := PySem.W.mg_none_of X G z_list
      n_max := PySem.W.mg_none_of X G z_max
      n_range := PySem.W.mg_none_of X G z_range
      n_repr := PySem.W.mg_none_of X G z_repr
      n_sorted := PySem.W.mg_none_of X G z_sorted
      n_str := PySem.W.mg_none_of X G z_str
      n_tuple := PySem.W.mg_none_of X G z_tuple
      n_zip := PySem.W.mg_none_of X G z_zip
      c_FIGURES := gcon_str (PySem.W.mg_of X G q_FIGURES)
      c_MARK_WORDS := gcon_strs (PySem.W.mg_of X G q_MARK_WORDS) r_MARK_WORDS (.cons "time!" tk_MARK_WORDS_0 (.cons "urgent!" tk_MARK_WORDS_1 (.cons "committed!" tk_MARK_WORDS_2 (.cons "reply!" tk_MARK_WORDS_3 .nil)))) (show 4 ≤ 1000 by decide)
      c_MOST_SIGNS := gcon_int (PySem.W.mg_of X G q_MOST_SIGNS)
      c_SMALL := gcon_str (PySem.W.mg_of X G q_SMALL)
      e0 := { gC := PySem.W.mg_of X G eg0, cls := ⟨_, _, _, _, _, _, _, _, _, _, _, _, _, _, ex0⟩, sa := esa0, ga := ega0, gg := egg0, noN := enb0, iC := ein0, tC := et0, kC := ek0, exC := eb0, tyC := ey0, hdC := eh0, te := PySem.W.exm_ref eb0 eh0 ey0 es0, fn := ⟨_, _, _, _, _, _, _, _, _, _, _, _, _, _, el0, ec0⟩ }
      i0 := ⟨ecl0, ep0, ew0, em0⟩
      z0 := ez0
      gZ := PySem.W.mg_of X G gZ }
  refine ⟨_, F22, fun s v => .of_eq rfl, fun base s H cdv a ns hl _ _ sq => ?_⟩
  exact ok_law T (law_pure ns hl) sq

end Zo
open PySem PySem.W PyProof.Rows
set_option maxRecDepth 100000 in
set_option maxHeartbeats 0 in
theorem PySem.Challenge.cw_zonestold_k19_formulas_at_words_holds : PySem.Challenge.rw_zonestold_k19_formulas_at_words.Holds := by
  w_on; o_law; k_head; (case hw => w_witness2)
  k_fill
  refine Zo.law_walk (l := PySem.Challenge.rw_zonestold_k19_formulas_at_words) (n := 63) (k := 13) (x := "law") (qual := "law") (st := Zo.s_law) rfl (by decide) rfl ⟨rfl, by decide +kernel, by decide +kernel⟩ Zo.sc_law (fun w h Y => PySem.W.kIn_of Y) ?F
  case F =>
    intro w mg fa h KX G hmg
    refine' Zo.all_mk KX G hmg ?a0 ?l0 ?c0 ?k0 ?a1 ?l1 ?c1 ?k1 ?a3 ?l3 ?c3 ?k3 ?a4 ?l4 ?c4 ?k4 ?a8 ?l8 ?c8 ?k8 ?a9 ?l9 ?c9 ?k9 ?a13 ?l13 ?c13 ?k13 ?a15 ?l15 ?c15 ?k15 ?a16 ?l16 ?c16 ?k16 ?a17 ?l17 ?c17 ?k17 ?a18 ?l18 ?c18 ?k18 ?a19 ?l19 ?c19 ?k19 ?a20 ?l20 ?c20 ?k20 ?a5 ?l5 ?c5 ?k5 ?a2 ?l2 ?c2 ?k2 ?a6 ?l6 ?c6 ?k6 ?a7 ?l7 ?c7 ?k7 ?a10 ?l10 ?c10 ?k10 ?a11 ?l11 ?c11 ?k11 ?a12 ?l12 ?c12 ?k12 ?a14 ?l14 ?c14 ?k14 ?a21 ?l21 ?c21 ?k21 ?a22 ?l22 ?c22 ?k22 ?z_all ?z_any ?z_int ?z_isinstance ?z_len ?z_list ?z_max ?z_range ?z_repr ?z_sorted ?z_str ?z_tuple ?z_zip ?q_FIGURES ?q_MARK_WORDS ?r_MARK_WORDS ?q_MOST_SIGNS ?q_SMALL ?gZ ?eg0 ?ex0 ?esa0 ?ega0 ?egg0 ?enb0 ?ein0 ?ecl0 ?et0 ?el0 ?ec0 ?ek0 ?eb0 ?ey0 ?eh0 ?es0 ?ep0 ?ew0 ?em0 ?ez0
    (case a0 => k_is)
    (case l0 => k_is)
    (case c0 => k_is)
    (case k0 => k_is)
    (case a1 => k_is)
    (case l1 => k_is)
    (case c1 => k_is)
    (case k1 => k_is)
    (case a3 => k_is)
    (case l3 => k_is)
    (case c3 => k_is)
    (case k3 => k_is)
    (case a4 => k_is)
    (case l4 => k_is)
    (case c4 => k_is)
    (case k4 => k_is)
    (case a8 => k_is)
    (case l8 => k_is)
    (case c8 => k_is)
    (case k8 => k_is)
    (case a9 => k_is)
    (case l9 => k_is)
    (case c9 => k_is)
    (case k9 => k_is)
    (case a13 => k_is)
    (case l13 => k_is)
    (case c13 => k_is)
    (case k13 => k_is)
    (case a15 => k_is)
    (case l15 => k_is)
    (case c15 => k_is)
    (case k15 => k_is)
    (case a16 => k_is)
    (case l16 => k_is)
    (case c16 => k_is)
    (case k16 => k_is)
    (case a17 => k_is)
    (case l17 => k_is)
    (case c17 => k_is)
    (case k17 => k_is)
    (case a18 => k_is)
    (case l18 => k_is)
    (case c18 => k_is)
    (case k18 => k_is)
    (case a19 => k_is)
    (case l19 => k_is)
    (case c19 => k_is)
    (case k19 => k_is)
    (case a20 => k_is)
    (case l20 => k_is)
    (case c20 => k_is)
    (case k20 => k_is)
    (case a5 => k_is)
    (case l5 => k_is)
    (case c5 => k_is)
    (case k5 => k_is)
    (case a2 => k_is)
    (case l2 => k_is)
    (case c2 => k_is)
    (case k2 => k_is)
    (case a6 => k_is)
    (case l6 => k_is)
    (case c6 => k_is)
    (case k6 => k_is)
    (case a7 => k_is)
    (case l7 => k_is)
    (case c7 => k_is)
    (case k7 => k_is)
    (case a10 => k_is)
    (case l10 => k_is)
    (case c10 => k_is)
    (case k10 => k_is)
    (case a11 => k_is)
    (case l11 => k_is)
    (case c11 => k_is)
    (case k11 => k_is)
    (case a12 => k_is)
    (case l12 => k_is)
    (case c12 => k_is)
    (case k12 => k_is)
    (case a14 => k_is)
    (case l14 => k_is)
    (case c14 => k_is)
    (case k14 => k_is)
    (case a21 => k_is)
    (case l21 => k_is)
    (case c21 => k_is)
    (case k21 => k_is)
    (case a22 => k_is)
    (case l22 => k_is)
    (case c22 => k_is)
    (case k22 => k_is)
    (case z_all => k_is)
    (case z_any => k_is)
    (case z_int => k_is)
    (case z_isinstance => k_is)
    (case z_len => k_is)
    (case z_list => k_is)
    (case z_max => k_is)
    (case z_range => k_is)
    (case z_repr => k_is)
    (case z_sorted => k_is)
    (case z_str => k_is)
    (case z_tuple => k_is)
    (case z_zip => k_is)
    (case q_FIGURES => k_is)
    (case q_MARK_WORDS => k_is)
    (case r_MARK_WORDS => k_is)
    (case q_MOST_SIGNS => k_is)
    (case q_SMALL => k_is)
    (case gZ => k_is)
    (case eg0 => k_is)
    (case ex0 => k_is)
    (case esa0 => k_is)
    (case ega0 => k_is)
    (case egg0 => k_is)
    (case enb0 => k_is)
    (case ein0 => k_is)
    (case ecl0 => k_is)
    (case et0 => k_is)
    (case el0 => k_is)
    (case ec0 => k_is)
    (case ek0 => k_is)
    (case eb0 => k_is)
    (case ey0 => k_is)
    (case eh0 => k_is)
    (case es0 => first | rfl | k_is)
    (case ep0 => k_is)
    (case ew0 => k_is)
    (case em0 => k_is)
    (case ez0 => first | k_is | rfl | decide +kernel)
#print axioms PySem.Challenge.cw_zonestold_k19_formulas_at_words_holds
