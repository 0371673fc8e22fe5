import PyProof.Rows.All
import Wide.All
import OpenK.AllK
import Wide.FinOn
import HandS.ForMost
import HandS.Exc
import HandS.ExcOwn
import HandS.WordsExc
import HandS.Flow
import HandS.TupAny
import HandS.TupMul
import HandS.IsInst
import HandS.NoneIn
import HandS.Style
import HandS.Zip
import HandS.Rev
import KE.KExcIs
import HandS.Wide
import HandS.Dict
import PySem.Challenge.RW_zonestold_k14_the_rule_of_differences
import HandS.Ends
import HandS.TryMany
import KE.KDictPairs
import PyProof.ReprBulk
import KE.DataCmp
import KE.GoesEnum
import HandS.DictComp
import HandS.Iter
import KE.KDictKeyed
import KE.KeyNested
import HandS.DictTup
import KE.SortData
import KE.KDictSum
import HandS.ExcIs
set_option Elab.async false
set_option linter.all false
set_option maxRecDepth 100000
set_option maxHeartbeats 4000000
/-! ZA: values by value (PyData), the machine's state of a small semantics, and how it stands in the abstract heap. -/
namespace Zo
open PySem PySem.Spec PyProof.Rows L2
abbrev D := PyData
abbrev Fr := PySem.W.Frag
/-- the deck of a law: its cells, what they mix to, the turn -/
structure Dk where
  cells : List Int
  mixed : Int
  turn : Int
/-- what a slot holds: nothing told; a value that nobody changes any more; a list of this frame's own; the deck -/
inductive Sv where
  | un
  | fz (d : D)
  | own (ds : List D)
  /-- the object of an own class that __init__ is making: its address, its class, its attributes up to now -/
  | obj (a : Addr) (c : Str) (es : List (D × D))
  | deck
structure Ms where
  env : List Sv
  dk : Dk
  sm : Bool
inductive Out (α : Type) where
  | ok (a : α) (s : Ms)
  | exc (c : Nat) (t : D) (s : Ms)
  | no
def Out.bind {α β : Type} : Out α → (α → Ms → Out β) → Out β
  | .ok a s, f => f a s
  | .exc c t s, _ => .exc c t s
  | .no, _ => .no
@[simp] theorem Out.bind_ok {α β : Type} (a : α) (s : Ms) (f : α → Ms → Out β) : (Out.ok a s).bind f = f a s := rfl
@[simp] theorem Out.bind_exc {α β : Type} (c : Nat) (t : D) (s : Ms) (f : α → Ms → Out β) : (Out.exc c t s).bind f = .exc c t s := rfl
@[simp] theorem Out.bind_no {α β : Type} (f : α → Ms → Out β) : (Out.no).bind f = .no := rfl
inductive Fl where
  | nx
  | rt (d : D)
  | bk
  | ct
abbrev Ev := Ms → Out D
abbrev Evs := Ms → Out (List D)
abbrev Ex := Ms → Out Fl
/-- what a def without the deck answers -/
inductive Ro where
  | ok (d : D)
  | exc (c : Nat) (t : D)
  | no
/-- what a def with the deck answers -/
inductive Rd where
  | ok (d : D) (k : Dk)
  | no
def keyD : Key → D
  | .inl i => .int i
  | .inr x => .str x

/-! ### a value in the abstract heap; Xs: addresses that it does not use -/
def FL (H : Hp) (Xs : List Addr) (a : Addr) (vs : List V) : Prop := H a = some (.lst vs) ∧ a ∉ Xs
/-- a tuple of which it is known that it has no dict -/
def TupD (H : Hp) (a : Addr) (vs : List V) : Prop := ∃ o : Obj, H a = some (.frz o (.tup vs)) ∧ o.dict = none
/-- a tuple of the module's own -/
def KTup (K : Fr) (a : Addr) (vs : List V) : Prop := ∃ (o : Obj) (its : Array Value) (n : Nat), K.lookup a = some o ∧ o.cls = .type "tuple" ∧ o.dict = none ∧ o.data = .seq its n ∧ its.size ≤ sizeLine ∧ Vals vs its.toList
def FT (K : Fr) (H : Hp) (Xs : List Addr) (a : Addr) (vs : List V) : Prop := (TupD H a vs ∧ a ∉ Xs) ∨ KTup K a vs
/-- the text that stands ahead of an object's attributes, ahead of a def's name -/
def mkC : Str := "@class"
def mkF : Str := "@def"
/-- a plain dict -/
def unm : List (D × D) → Bool
  | (.str t, .str _) :: _ => !(decide (t = mkC)) && !(decide (t = mkF))
  | _ => true
/-- what stands at a: a dict; an object of a class of the text; a def of the text -/
def DK (K : Fr) (H : Hp) (Xs : List Addr) (a : Addr) (es : List (D × D)) (kvs : List (Key × V)) : Prop :=
  (unm es = true ∧ H a = some (.dK kvs) ∧ a ∉ Xs) ∨
  (∃ (c : Str) (r : List (D × D)) (C dx : Addr) (fs : List (Str × V)), es = (.str mkC, .str c) :: r ∧ PySem.W.nsIn K mainGlobals c = some (some (.ref C)) ∧ H a = some (.ins C dx fs) ∧ a ∉ Xs ∧ kvs = (.inr mkC, .str c) :: fs.map fun p => (.inr p.1, p.2)) ∨
  (∃ x : Str, es = [(.str mkF, .str x)] ∧ PySem.W.nsIn K mainGlobals x = some (some (.ref a)))
mutual
def Rp (K : Fr) (H : Hp) (Xs : List Addr) : D → V → Prop
  | .none, v => v = .non
  | .bool b, v => v = .bl b
  | .int i, v => v = .int i
  | .str x, v => v = .str x
  | .list ds, v => ∃ a vs, v = .ref a ∧ FL H Xs a vs ∧ RpA K H Xs ds vs
  | .tuple ds, v => ∃ a vs, v = .ref a ∧ FT K H Xs a vs ∧ RpA K H Xs ds vs
  | .dict es, v => ∃ a kvs, v = .ref a ∧ DK K H Xs a es kvs ∧ RpK K H Xs es kvs
def RpA (K : Fr) (H : Hp) (Xs : List Addr) : List D → List V → Prop
  | [], vs => vs = []
  | d :: ds, vs => ∃ v r, vs = v :: r ∧ Rp K H Xs d v ∧ RpA K H Xs ds r
def RpK (K : Fr) (H : Hp) (Xs : List Addr) : List (D × D) → List (Key × V) → Prop
  | [], kvs => kvs = []
  | (k, d) :: es, kvs => ∃ kk v r, kvs = (kk, v) :: r ∧ k = keyD kk ∧ Rp K H Xs d v ∧ RpK K H Xs es r
end
/-- all that stood, but at M, stands -/
def Stay (M : List Addr) (H H' : Hp) : Prop := ∀ a o, H a = some o → a ∉ M → H' a = some o
theorem Stay.refl (M : List Addr) (H : Hp) : Stay M H H := fun _ _ h _ => h
theorem Stay.trans {M : List Addr} {H H1 H2 : Hp} (a : Stay M H H1) (b : Stay M H1 H2) : Stay M H H2 := fun x o h n => b x o (a x o h n) n
theorem Stay.more {M N : List Addr} {H H' : Hp} (a : Stay M H H') (s : ∀ x ∈ M, x ∈ N) : Stay N H H' := fun x o h n => a x o h fun z => n (s x z)
theorem Stay.laid {M : List Addr} {H : Hp} {p : Addr} {o : HO} (h : H p = none) : Stay M H (upd H p o) := fun x u q _ => by rw [upd_ne (ne_of_none q h)]; exact q
theorem Stay.put {M : List Addr} {H : Hp} {p : Addr} {o : HO} (h : p ∈ M) : Stay M H (upd H p o) := fun x u q n => by
  have z : x ≠ p := fun e => n (e ▸ h)
  rw [upd_ne z]; exact q
theorem rd_stay {M Xs : List Addr} {H H' : Hp} {a : Addr} {u : HO} (r : L2.Rd H a u) (n : a ∉ Xs) (s : Stay M H H') (hm : ∀ x ∈ M, x ∈ Xs) : L2.Rd H' a u := by
  have nm : a ∉ M := fun z => n (hm a z)
  rcases r with r | ⟨o, r⟩
  · exact .inl (s _ _ r nm)
  · exact .inr ⟨o, s _ _ r nm⟩
theorem TupD.stay {M Xs : List Addr} {H H' : Hp} {a : Addr} {vs : List V} (r : TupD H a vs) (n : a ∉ Xs) (s : Stay M H H') (hm : ∀ x ∈ M, x ∈ Xs) : TupD H' a vs := by
  obtain ⟨o, e, d⟩ := r
  exact ⟨o, s _ _ e fun z => n (hm a z), d⟩
theorem FL.stay {M Xs : List Addr} {H H' : Hp} {a : Addr} {vs : List V} (r : FL H Xs a vs) (s : Stay M H H') (hm : ∀ x ∈ M, x ∈ Xs) : FL H' Xs a vs :=
  ⟨s _ _ r.1 fun z => r.2 (hm a z), r.2⟩
theorem FT.stay {K : Fr} {M Xs : List Addr} {H H' : Hp} {a : Addr} {vs : List V} (r : FT K H Xs a vs) (s : Stay M H H') (hm : ∀ x ∈ M, x ∈ Xs) : FT K H' Xs a vs :=
  r.elim (fun ⟨h, n⟩ => .inl ⟨h.stay n s hm, n⟩) .inr
theorem DK.stay {K : Fr} {M Xs : List Addr} {H H' : Hp} {a : Addr} {es : List (D × D)} {kvs : List (Key × V)} (r : DK K H Xs a es kvs) (s : Stay M H H') (hm : ∀ x ∈ M, x ∈ Xs) : DK K H' Xs a es kvs := by
  rcases r with ⟨u, e, n⟩ | ⟨c, r, C, dx, fs, e1, e2, e, n, e4⟩ | r
  · exact .inl ⟨u, s _ _ e fun z => n (hm a z), n⟩
  · exact .inr (.inl ⟨c, r, C, dx, fs, e1, e2, s _ _ e fun z => n (hm a z), n, e4⟩)
  · exact .inr (.inr r)
theorem DK.sub {K : Fr} {Xs Ys : List Addr} {H : Hp} {a : Addr} {es : List (D × D)} {kvs : List (Key × V)} (r : DK K H Xs a es kvs) (hs : ∀ o, H a = some o → a ∉ Xs → a ∉ Ys) : DK K H Ys a es kvs := by
  rcases r with ⟨u, e, n⟩ | ⟨c, r, C, dx, fs, e1, e2, e, n, e4⟩ | r
  · exact .inl ⟨u, e, hs _ e n⟩
  · exact .inr (.inl ⟨c, r, C, dx, fs, e1, e2, e, hs _ e n, e4⟩)
  · exact .inr (.inr r)
section
variable {K : Fr} {M Xs Ys : List Addr} {H H' : Hp}
mutual
theorem Rp.stay (s : Stay M H H') (hm : ∀ x ∈ M, x ∈ Xs) : ∀ (d : D) (v : V), Rp K H Xs d v → Rp K H' Xs d v
  | .none, _, h => h
  | .bool _, _, h => h
  | .int _, _, h => h
  | .str _, _, h => h
  | .list ds, v, h => by
    obtain ⟨a, vs, e, f, r⟩ := h
    exact ⟨a, vs, e, f.stay s hm, RpA.stay s hm ds vs r⟩
  | .tuple ds, v, h => by
    obtain ⟨a, vs, e, f, r⟩ := h
    exact ⟨a, vs, e, f.stay s hm, RpA.stay s hm ds vs r⟩
  | .dict es, v, h => by
    obtain ⟨a, kvs, e, f, r⟩ := h
    exact ⟨a, kvs, e, f.stay s hm, RpK.stay s hm es kvs r⟩
theorem RpA.stay (s : Stay M H H') (hm : ∀ x ∈ M, x ∈ Xs) : ∀ (ds : List D) (vs : List V), RpA K H Xs ds vs → RpA K H' Xs ds vs
  | [], _, h => h
  | d :: ds, _, h => by
    obtain ⟨v, r, e, p, q⟩ := h
    exact ⟨v, r, e, Rp.stay s hm d v p, RpA.stay s hm ds r q⟩
theorem RpK.stay (s : Stay M H H') (hm : ∀ x ∈ M, x ∈ Xs) : ∀ (es : List (D × D)) (kvs : List (Key × V)), RpK K H Xs es kvs → RpK K H' Xs es kvs
  | [], _, h => h
  | (k, d) :: es, _, h => by
    obtain ⟨kk, v, r, e, ek, p, q⟩ := h
    exact ⟨kk, v, r, e, ek, Rp.stay s hm d v p, RpK.stay s hm es r q⟩
end
theorem FL.less {a : Addr} {vs : List V} (r : FL H Xs a vs) (hs : ∀ x ∈ Ys, x ∈ Xs) : FL H Ys a vs := ⟨r.1, fun z => r.2 (hs a z)⟩
theorem FT.less {a : Addr} {vs : List V} (r : FT K H Xs a vs) (hs : ∀ x ∈ Ys, x ∈ Xs) : FT K H Ys a vs := r.elim (fun ⟨h, n⟩ => .inl ⟨h, fun z => n (hs a z)⟩) .inr
mutual
/-- fewer addresses to be left alone -/
theorem Rp.less (hs : ∀ x ∈ Ys, x ∈ Xs) : ∀ (d : D) (v : V), Rp K H Xs d v → Rp K H Ys d v
  | .none, _, h => h
  | .bool _, _, h => h
  | .int _, _, h => h
  | .str _, _, h => h
  | .list ds, v, h => by
    obtain ⟨a, vs, e, f, r⟩ := h
    exact ⟨a, vs, e, f.less hs, RpA.less hs ds vs r⟩
  | .tuple ds, v, h => by
    obtain ⟨a, vs, e, f, r⟩ := h
    exact ⟨a, vs, e, f.less hs, RpA.less hs ds vs r⟩
  | .dict es, v, h => by
    obtain ⟨a, kvs, e, f, r⟩ := h
    exact ⟨a, kvs, e, f.sub fun _ _ n z => n (hs a z), RpK.less hs es kvs r⟩
theorem RpA.less (hs : ∀ x ∈ Ys, x ∈ Xs) : ∀ (ds : List D) (vs : List V), RpA K H Xs ds vs → RpA K H Ys ds vs
  | [], _, h => h
  | d :: ds, _, h => by
    obtain ⟨v, r, e, p, q⟩ := h
    exact ⟨v, r, e, Rp.less hs d v p, RpA.less hs ds r q⟩
theorem RpK.less (hs : ∀ x ∈ Ys, x ∈ Xs) : ∀ (es : List (D × D)) (kvs : List (Key × V)), RpK K H Xs es kvs → RpK K H Ys es kvs
  | [], _, h => h
  | (k, d) :: es, _, h => by
    obtain ⟨kk, v, r, e, ek, p, q⟩ := h
    exact ⟨kk, v, r, e, ek, Rp.less hs d v p, RpK.less hs es r q⟩
end
theorem rd_ne {p a : Addr} {u : HO} (r : L2.Rd H a u) (h : H p = none) : a ≠ p := by
  rcases r with r | ⟨o, r⟩
  · exact ne_of_none r h
  · exact ne_of_none r h
theorem notMem_cons {p a : Addr} (h : a ≠ p) (n : a ∉ Xs) : a ∉ p :: Xs := fun z => (List.mem_cons.mp z).elim h n
theorem FL.fresh {p a : Addr} {vs : List V} (h : H p = none) (r : FL H Xs a vs) : FL H (p :: Xs) a vs := ⟨r.1, notMem_cons (ne_of_none r.1 h) r.2⟩
theorem FT.fresh {p a : Addr} {vs : List V} (h : H p = none) (r : FT K H Xs a vs) : FT K H (p :: Xs) a vs := r.elim (fun ⟨q, n⟩ => .inl ⟨q, notMem_cons (by obtain ⟨o, e, _⟩ := q; exact ne_of_none e h) n⟩) .inr
mutual
/-- what stands uses no free address -/
theorem Rp.fresh {p : Addr} (hp : H p = none) : ∀ (d : D) (v : V), Rp K H Xs d v → Rp K H (p :: Xs) d v
  | .none, _, h => h
  | .bool _, _, h => h
  | .int _, _, h => h
  | .str _, _, h => h
  | .list ds, v, h => by
    obtain ⟨a, vs, e, f, r⟩ := h
    exact ⟨a, vs, e, f.fresh hp, RpA.fresh hp ds vs r⟩
  | .tuple ds, v, h => by
    obtain ⟨a, vs, e, f, r⟩ := h
    exact ⟨a, vs, e, f.fresh hp, RpA.fresh hp ds vs r⟩
  | .dict es, v, h => by
    obtain ⟨a, kvs, e, f, r⟩ := h
    exact ⟨a, kvs, e, f.sub fun _ q n => notMem_cons (ne_of_none q hp) n, RpK.fresh hp es kvs r⟩
theorem RpA.fresh {p : Addr} (hp : H p = none) : ∀ (ds : List D) (vs : List V), RpA K H Xs ds vs → RpA K H (p :: Xs) ds vs
  | [], _, h => h
  | d :: ds, _, h => by
    obtain ⟨v, r, e, q, t⟩ := h
    exact ⟨v, r, e, Rp.fresh hp d v q, RpA.fresh hp ds r t⟩
theorem RpK.fresh {p : Addr} (hp : H p = none) : ∀ (es : List (D × D)) (kvs : List (Key × V)), RpK K H Xs es kvs → RpK K H (p :: Xs) es kvs
  | [], _, h => h
  | (k, d) :: es, _, h => by
    obtain ⟨kk, v, r, e, ek, q, t⟩ := h
    exact ⟨kk, v, r, e, ek, Rp.fresh hp d v q, RpK.fresh hp es r t⟩
end
theorem RpA.len : ∀ {ds : List D} {vs : List V}, RpA K H Xs ds vs → vs.length = ds.length
  | [], _, h => by cases h; rfl
  | d :: ds, _, h => by
    obtain ⟨v, r, e, q, t⟩ := h
    subst e
    simp [RpA.len t]
theorem RpA.app : ∀ {ds es : List D} {vs ws : List V}, RpA K H Xs ds vs → RpA K H Xs es ws → RpA K H Xs (ds ++ es) (vs ++ ws)
  | [], _, _, _, h, k => by cases h; exact k
  | d :: ds, _, _, _, h, k => by
    obtain ⟨v, r, e, q, t⟩ := h
    subst e
    exact ⟨v, _, rfl, q, RpA.app t k⟩
theorem RpA.one {d : D} {v : V} (h : Rp K H Xs d v) : RpA K H Xs [d] [v] := ⟨v, [], rfl, h, rfl⟩
theorem RpA.take : ∀ {ds : List D} {vs : List V} (n : Nat), RpA K H Xs ds vs → RpA K H Xs (ds.take n) (vs.take n)
  | [], _, n, h => by cases h; simp [RpA]
  | d :: ds, _, 0, h => by simp [RpA]
  | d :: ds, _, n + 1, h => by
    obtain ⟨v, r, e, q, t⟩ := h
    subst e
    exact ⟨v, _, rfl, q, RpA.take n t⟩
theorem RpA.drop : ∀ {ds : List D} {vs : List V} (n : Nat), RpA K H Xs ds vs → RpA K H Xs (ds.drop n) (vs.drop n)
  | [], _, n, h => by cases h; simp [RpA]
  | d :: ds, _, 0, h => h
  | d :: ds, _, n + 1, h => by
    obtain ⟨v, r, e, q, t⟩ := h
    subst e
    exact RpA.drop n t
theorem RpA.get : ∀ {ds : List D} {vs : List V} {n : Nat} {d : D}, RpA K H Xs ds vs → ds[n]? = some d → ∃ v, vs[n]? = some v ∧ Rp K H Xs d v
  | [], _, n, _, h, e => by simp at e
  | d :: ds, _, 0, _, h, e => by
    obtain ⟨v, r, q, p, t⟩ := h
    subst q
    simp at e
    subst e
    exact ⟨v, rfl, p⟩
  | d :: ds, _, n + 1, _, h, e => by
    obtain ⟨v, r, q, p, t⟩ := h
    subst q
    exact RpA.get (n := n) t (by simpa using e)
theorem RpA.getV {ds : List D} {vs : List V} {n : Nat} {v : V} (h : RpA K H Xs ds vs) (e : vs[n]? = some v) : ∃ d, ds[n]? = some d ∧ Rp K H Xs d v := by
  have hl := h.len
  have hn : n < ds.length := by
    have := (List.getElem?_eq_some_iff.mp e).1
    omega
  obtain ⟨w, e', p⟩ := h.get (List.getElem?_eq_getElem hn)
  rw [e] at e'
  cases e'
  exact ⟨_, List.getElem?_eq_getElem hn, p⟩
theorem FT.sq {a : Addr} {vs : List V} (h : FT K H Xs a vs) : SqT K H a vs := by
  rcases h with ⟨⟨o, h, _⟩, _⟩ | ⟨o, its, n, h1, h2, _, h3, h4, h5⟩
  · exact .inl (.inr ⟨o, h⟩)
  · exact .inr ⟨o, its, n, h1, h2, h3, h4, h5⟩
end

/-! ### the frame's facts and the state -/
def dkl : Option (Addr × Addr) → List Addr
  | none => []
  | some (a, b) => [a, b]
def DkAt (H : Hp) (kd kc : Addr) (k : Dk) : Prop :=
  kd ≠ kc ∧ H kd = some (.dK [(.inr "cells", .ref kc), (.inr "mixed", .int k.mixed), (.inr "turn", .int k.turn)]) ∧ H kc = some (.lst (k.cells.map V.int)) ∧ k.cells.length ≤ 1000
/-- what does not change in a body: the heap at its entry, what its arguments leave alone, where the deck stands -/
structure Fm where
  H0 : Hp
  X0 : List Addr
  dka : Option (Addr × Addr)
  /-- values that are held besides (what a loop walks) -/
  tmp : List (D × V)
def SlotOk (K : Fr) (H : Hp) (X : List Addr) (os : List (Nat × Addr)) (dka : Option (Addr × Addr)) (i : Nat) (o : Option V) : Sv → Prop
  | .un => True
  | .fz d => ∃ v, o = some v ∧ Rp K H X d v
  | .own ds => ∃ a vs, o = some (.ref a) ∧ (i, a) ∈ os ∧ H a = some (.lst vs) ∧ RpA K H X ds vs
  | .obj a c es => ∃ C dx fs, o = some (.ref a) ∧ (i, a) ∈ os ∧ PySem.W.nsIn K mainGlobals c = some (some (.ref C)) ∧ H a = some (.ins C dx fs) ∧ RpK K H X es (fs.map fun p => (.inr p.1, p.2))
  | .deck => ∃ kd kc, dka = some (kd, kc) ∧ o = some (.ref kd)
def NoFz : HO → Prop
  | .frz _ _ => False
  | _ => True
structure Rel (K : Fr) (fm : Fm) (X : List Addr) (os : List (Nat × Addr)) (s : Ms) (σ : L2.St) (H : Hp) : Prop where
  len : s.env.length = σ.length
  slot : ∀ i sv, s.env[i]? = some sv → SlotOk K H X os fm.dka i (σ[i]?.join) sv
  nd : (os.map (·.2)).Nodup
  sub : ∀ p ∈ os, p.2 ∈ X ∧ p.2 ∉ dkl fm.dka ∧ fm.H0 p.2 = none
  lv : ∀ p ∈ os, ∃ u, H p.2 = some u ∧ NoFz u
  x0 : ∀ a ∈ fm.X0, a ∈ X
  x1 : ∀ a ∈ fm.X0, fm.H0 a ≠ none
  xt : ∀ a ∈ X, H a ≠ none
  dks : ∀ a ∈ dkl fm.dka, a ∈ X
  dk : ∀ kd kc, fm.dka = some (kd, kc) → DkAt H kd kc s.dk
  ent : Stay (dkl fm.dka) fm.H0 H
  one : s.sm = true → ∃ o u, H sysModules = some (.frz o u)
  tm : ∀ p ∈ fm.tmp, Rp K H X p.1 p.2
/-- what may change: the deck, and (unless still) the frame's own lists -/
def Mu (dka : Option (Addr × Addr)) (os : List (Nat × Addr)) (m : Bool) : List Addr := dkl dka ++ (if m then [] else os.map (·.2))
theorem Mu.sub {K : Fr} {fm : Fm} {X : List Addr} {os : List (Nat × Addr)} {s : Ms} {σ : L2.St} {H : Hp} (r : Rel K fm X os s σ H) (m : Bool) : ∀ a ∈ Mu fm.dka os m, a ∈ X := fun a ha => by
  unfold Mu at ha
  rcases List.mem_append.mp ha with h | h
  · exact r.dks a h
  · cases m with
    | true => simp at h
    | false =>
      simp only [Bool.false_eq_true, if_false] at h
      obtain ⟨p, hp, e⟩ := List.mem_map.mp h
      rw [← e]
      exact (r.sub p hp).1
theorem Mu.still {dka : Option (Addr × Addr)} {os : List (Nat × Addr)} {m : Bool} : ∀ a ∈ Mu dka os true, a ∈ Mu dka os m := fun a ha => by
  unfold Mu at ha ⊢
  rcases List.mem_append.mp ha with h | h
  · exact List.mem_append_left _ h
  · simp at h
end Zo
/-! ZB: how the state's standing goes on behind a change. -/
namespace Zo
open PySem PySem.Spec PyProof.Rows L2
section
variable {K : Fr} {fm : Fm} {X : List Addr} {os : List (Nat × Addr)} {s : Ms} {σ : L2.St} {H H' : Hp}
theorem Stay.some {H H' : Hp} (st : Stay [] H H') {a : Addr} (h : H a ≠ none) : H' a ≠ none := by
  cases e : H a with
  | none => exact absurd e h
  | some o => rw [st a o e (by simp)]; simp
/-- nothing that stood was changed -/
theorem Rel.stay (r : Rel K fm X os s σ H) (st : Stay [] H H') : Rel K fm X os s σ H' where
  len := r.len
  slot := fun i sv e => by
    have q := r.slot i sv e
    cases sv with
    | un => exact q
    | fz d =>
      obtain ⟨v, e1, p⟩ := q
      exact ⟨v, e1, Rp.stay st (fun a h => absurd h (by simp)) d v p⟩
    | own ds =>
      obtain ⟨a, vs, e1, e2, e3, p⟩ := q
      exact ⟨a, vs, e1, e2, st _ _ e3 (by simp), RpA.stay st (fun a h => absurd h (by simp)) ds vs p⟩
    | obj oa oc oe =>
      obtain ⟨C, dx, fs, e1, e2, e0, e3, p⟩ := q
      exact ⟨C, dx, fs, e1, e2, e0, st _ _ e3 (by simp), RpK.stay st (fun a h => absurd h (by simp)) oe _ p⟩
    | deck => exact q
  nd := r.nd
  sub := r.sub
  lv := fun p hp => by
    obtain ⟨u, e, n⟩ := r.lv p hp
    exact ⟨u, st _ _ e (by simp), n⟩
  x0 := r.x0
  x1 := r.x1
  xt := fun a h => st.some (r.xt a h)
  dks := r.dks
  dk := fun kd kc e => by
    obtain ⟨h1, h2, h3, h4⟩ := r.dk kd kc e
    exact ⟨h1, st _ _ h2 (by simp), st _ _ h3 (by simp), h4⟩
  ent := r.ent.trans (st.more fun a h => absurd h (by simp))
  one := fun e => by
    obtain ⟨o, u, q⟩ := r.one e
    exact ⟨o, u, st _ _ q (by simp)⟩
  tm := fun p hp => Rp.stay st (fun a h => absurd h (by simp)) p.1 p.2 (r.tm p hp)
theorem Rel.laid (r : Rel K fm X os s σ H) {p : Addr} {o : HO} (h : H p = none) : Rel K fm X os s σ (upd H p o) := r.stay (Stay.laid h)
theorem Rel.nx (r : Rel K fm X os s σ H) {p : Addr} (h : H p = none) : p ∉ X := fun z => r.xt p z h
/-- the deck was changed -/
theorem Rel.dput (r : Rel K fm X os s σ H) {k : Dk} (st : Stay (dkl fm.dka) H H') (h : ∀ kd kc, fm.dka = some (kd, kc) → DkAt H' kd kc k) : Rel K fm X os { s with dk := k } σ H' where
  len := r.len
  slot := fun i sv e => by
    have q := r.slot i sv e
    cases sv with
    | un => exact q
    | fz d =>
      obtain ⟨v, e1, p⟩ := q
      exact ⟨v, e1, Rp.stay st r.dks d v p⟩
    | own ds =>
      obtain ⟨a, vs, e1, e2, e3, p⟩ := q
      exact ⟨a, vs, e1, e2, st _ _ e3 (r.sub _ e2).2.1, RpA.stay st r.dks ds vs p⟩
    | obj oa oc oe =>
      obtain ⟨C, dx, fs, e1, e2, e0, e3, p⟩ := q
      exact ⟨C, dx, fs, e1, e2, e0, st _ _ e3 (r.sub _ e2).2.1, RpK.stay st r.dks oe _ p⟩
    | deck => exact q
  nd := r.nd
  sub := r.sub
  lv := fun p hp => by
    obtain ⟨u, e, n⟩ := r.lv p hp
    exact ⟨u, st _ _ e (r.sub p hp).2.1, n⟩
  x0 := r.x0
  x1 := r.x1
  xt := fun a ha => by
    by_cases hd : a ∈ dkl fm.dka
    · cases e : fm.dka with
      | none => rw [e] at hd; simp [dkl] at hd
      | some p =>
        obtain ⟨kd, kc⟩ := p
        obtain ⟨_, h2, h3, _⟩ := h kd kc e
        rw [e] at hd
        simp only [dkl, List.mem_cons, List.not_mem_nil, or_false] at hd
        rcases hd with rfl | rfl
        · rw [h2]; simp
        · rw [h3]; simp
    · cases e : H a with
      | none => exact absurd e (r.xt a ha)
      | some o => rw [st a o e hd]; simp
  dks := r.dks
  dk := h
  ent := r.ent.trans st
  one := fun e => by
    obtain ⟨o, u, q⟩ := r.one e
    refine ⟨o, u, st _ _ q fun z => ?_⟩
    cases e2 : fm.dka with
    | none => rw [e2] at z; simp [dkl] at z
    | some p =>
      obtain ⟨kd, kc⟩ := p
      obtain ⟨_, h2, h3, _⟩ := r.dk kd kc e2
      rw [e2] at z
      simp only [dkl, List.mem_cons, List.not_mem_nil, or_false] at z
      rcases z with z | z
      · rw [← z, q] at h2; cases h2
      · rw [← z, q] at h3; cases h3
  tm := fun p hp => Rp.stay st r.dks p.1 p.2 (r.tm p hp)
def rid (os : List (Nat × Addr)) (i : Nat) : List (Nat × Addr) := os.filter fun p => decide (p.1 ≠ i)
theorem rid_mem {os : List (Nat × Addr)} {i : Nat} {p : Nat × Addr} : p ∈ rid os i ↔ p ∈ os ∧ p.1 ≠ i := by simp [rid]
theorem rid_nd {os : List (Nat × Addr)} (h : (os.map (·.2)).Nodup) (i : Nat) : ((rid os i).map (·.2)).Nodup := h.sublist ((List.filter_sublist).map _)
theorem getD_set_self {σ : L2.St} {i : Nat} {v : V} (h : i < σ.length) : ((σ.set i (some v))[i]?).join = some v := by simp [h]
theorem getD_set_ne {σ : L2.St} {i j : Nat} {o : Option V} (h : i ≠ j) : ((σ.set i o)[j]?) = σ[j]? := by simp [h]
/-- a slot is given a value -/
theorem Rel.setfz (r : Rel K fm X os s σ H) {i : Nat} {d : D} {v : V} (p : Rp K H X d v) : Rel K fm X (rid os i) { s with env := s.env.set i (.fz d) } (σ.set i (some v)) H where
  len := by simp [r.len]
  slot := fun j sv e => by
    by_cases hij : i = j
    · subst hij
      by_cases hl : i < s.env.length
      · simp [hl] at e
        subst e
        exact ⟨v, getD_set_self (by rw [← r.len]; exact hl), p⟩
      · exact absurd (by simpa using (List.getElem?_eq_some_iff.mp e).1) hl
    · have e' : s.env[j]? = some sv := by simpa [hij] using e
      have q := r.slot j sv e'
      rw [getD_set_ne hij]
      cases sv with
      | un => exact q
      | fz d => exact q
      | own ds =>
        obtain ⟨a, vs, e1, e2, e3⟩ := q
        exact ⟨a, vs, e1, rid_mem.mpr ⟨e2, fun z => hij z.symm⟩, e3⟩
      | obj oa oc oe =>
        obtain ⟨C, dx, fs, e1, e2, e3⟩ := q
        exact ⟨C, dx, fs, e1, rid_mem.mpr ⟨e2, fun z => hij z.symm⟩, e3⟩
      | deck => exact q
  nd := rid_nd r.nd i
  sub := fun p hp => r.sub p (rid_mem.mp hp).1
  lv := fun p hp => r.lv p (rid_mem.mp hp).1
  x0 := r.x0
  x1 := r.x1
  xt := r.xt
  dks := r.dks
  dk := r.dk
  ent := r.ent
  one := r.one
  tm := r.tm
theorem Rel.ent0 (r : Rel K fm X os s σ H) {p : Addr} (h : H p = none) : fm.H0 p = none := by
  cases e : fm.H0 p with
  | none => rfl
  | some o =>
    have hd : p ∉ dkl fm.dka := fun z => r.nx h (r.dks p z)
    rw [r.ent p o e hd] at h
    cases h
/-- a new thing, told -/
theorem Rel.laidO (r : Rel K fm X os s σ H) {p : Addr} {o : HO} (h : H p = none) : Rel K fm (p :: X) os s σ (upd H p o) where
  len := r.len
  slot := fun i sv e => by
    have q := (r.laid (o := o) h).slot i sv e
    have q0 := r.slot i sv e
    have st : Stay [] H (upd H p o) := Stay.laid h
    cases sv with
    | un => exact q
    | fz d =>
      obtain ⟨v, e1, z⟩ := q0
      exact ⟨v, e1, Rp.stay st (fun a h => absurd h (by simp)) d v (Rp.fresh h d v z)⟩
    | own ds =>
      obtain ⟨a, ws, e1, e2, e3, z⟩ := q0
      exact ⟨a, ws, e1, e2, st _ _ e3 (by simp), RpA.stay st (fun a h => absurd h (by simp)) ds ws (RpA.fresh h ds ws z)⟩
    | obj oa oc oe =>
      obtain ⟨C, dx, fs, e1, e2, e0, e3, z⟩ := q0
      exact ⟨C, dx, fs, e1, e2, e0, st _ _ e3 (by simp), RpK.stay st (fun a h => absurd h (by simp)) oe _ (RpK.fresh h oe _ z)⟩
    | deck => exact q
  nd := r.nd
  sub := fun q hq => ⟨List.mem_cons_of_mem _ (r.sub q hq).1, (r.sub q hq).2⟩
  lv := (r.laid (o := o) h).lv
  x0 := fun a ha => List.mem_cons_of_mem _ (r.x0 a ha)
  x1 := r.x1
  xt := fun a ha => by
    rcases List.mem_cons.mp ha with rfl | ha
    · rw [upd_same]; simp
    · exact (r.laid (o := o) h).xt a ha
  dks := fun a ha => List.mem_cons_of_mem _ (r.dks a ha)
  dk := (r.laid (o := o) h).dk
  ent := (r.laid (o := o) h).ent
  one := (r.laid (o := o) h).one
  tm := fun q hq => Rp.stay (M := []) (Stay.laid h) (fun a h => absurd h (by simp)) q.1 q.2 (Rp.fresh h q.1 q.2 (r.tm q hq))
theorem Rel.laidL (r : Rel K fm X os s σ H) {p : Addr} {vs : List V} (h : H p = none) : Rel K fm (p :: X) os s σ (upd H p (.lst vs)) := r.laidO h
/-- a slot is given a new list, its own -/
theorem Rel.setown {p : Addr} (r : Rel K fm X os s σ H) {i : Nat} {ds : List D} {vs : List V} (hx : p ∈ X) (hp : H p = some (.lst vs)) (hn : p ∉ os.map (·.2)) (hd : p ∉ dkl fm.dka) (h0 : fm.H0 p = none) (ha : RpA K H X ds vs) :
    Rel K fm X ((i, p) :: rid os i) { s with env := s.env.set i (.own ds) } (σ.set i (some (.ref p))) H where
  len := by simp [r.len]
  slot := fun j sv e => by
    by_cases hij : i = j
    · subst hij
      by_cases hl : i < s.env.length
      · simp [hl] at e
        subst e
        exact ⟨p, vs, getD_set_self (by rw [← r.len]; exact hl), List.mem_cons_self, hp, ha⟩
      · have := (List.getElem?_eq_some_iff.mp e).1
        simp at this
        omega
    · have e' : s.env[j]? = some sv := by simpa [hij] using e
      have q := r.slot j sv e'
      rw [getD_set_ne hij]
      cases sv with
      | un => exact q
      | fz d => exact q
      | own ds =>
        obtain ⟨a, ws, e1, e2, e3⟩ := q
        exact ⟨a, ws, e1, List.mem_cons_of_mem _ (rid_mem.mpr ⟨e2, fun z => hij z.symm⟩), e3⟩
      | obj oa oc oe =>
        obtain ⟨C, dx, fs, e1, e2, e3⟩ := q
        exact ⟨C, dx, fs, e1, List.mem_cons_of_mem _ (rid_mem.mpr ⟨e2, fun z => hij z.symm⟩), e3⟩
      | deck => exact q
  nd := by
    rw [List.map_cons, List.nodup_cons]
    refine ⟨fun z => ?_, rid_nd r.nd i⟩
    obtain ⟨q, hq, e⟩ := List.mem_map.mp z
    exact hn (List.mem_map.mpr ⟨q, (rid_mem.mp hq).1, e⟩)
  sub := fun q hq => by
    rcases List.mem_cons.mp hq with rfl | hq
    · exact ⟨hx, hd, h0⟩
    · exact r.sub q (rid_mem.mp hq).1
  lv := fun q hq => by
    rcases List.mem_cons.mp hq with rfl | hq
    · exact ⟨_, hp, trivial⟩
    · exact r.lv q (rid_mem.mp hq).1
  x0 := r.x0
  x1 := r.x1
  xt := r.xt
  dks := r.dks
  dk := r.dk
  ent := r.ent
  one := r.one
  tm := r.tm
/-- a frame's own thing is changed in its place -/
theorem Rel.putG (r : Rel K fm X os s σ H) {i : Nat} {a : Addr} {sv' : Sv} {o' : HO} (hm : (i, a) ∈ os) (hno : NoFz o') (hsv : SlotOk K (upd H a o') X os fm.dka i (σ[i]?.join) sv') :
    Rel K fm X os { s with env := s.env.set i sv' } σ (upd H a o') ∧ Stay [a] H (upd H a o') := by
  have ax := (r.sub _ hm).1
  have st : Stay [a] H (upd H a o') := Stay.put List.mem_cons_self
  have sx : ∀ x ∈ [a], x ∈ X := fun x hx => by
    rw [List.mem_singleton.mp hx]; exact ax
  have hd := (r.sub _ hm).2.1
  have nda : ∀ {j b}, (j, b) ∈ os → b = a → j = i := fun {j b} h1 h2 => by
    subst h2
    have nd := r.nd
    have key : ∀ (l : List (Nat × Addr)), (l.map (·.2)).Nodup → (j, b) ∈ l → (i, b) ∈ l → j = i := by
      intro l
      induction l with
      | nil => intro _ h; cases h
      | cons q l ih =>
        intro nd h1 h2
        rw [List.map_cons, List.nodup_cons] at nd
        rcases List.mem_cons.mp h1 with e1 | h1
        · rcases List.mem_cons.mp h2 with e2 | h2
          · rw [← e2] at e1
            exact (Prod.mk.inj e1).1
          · exact absurd (List.mem_map.mpr ⟨_, h2, by rw [← e1]⟩) nd.1
        · rcases List.mem_cons.mp h2 with e2 | h2
          · exact absurd (List.mem_map.mpr ⟨_, h1, by rw [← e2]⟩) nd.1
          · exact ih nd.2 h1 h2
    exact key os nd h1 hm
  refine ⟨?_, st⟩
  exact {
    len := by simp [r.len]
    slot := fun j sv e => by
      by_cases hij : i = j
      · subst hij
        by_cases hl : i < s.env.length
        · simp [hl] at e
          subst e
          exact hsv
        · exact absurd (by simpa using (List.getElem?_eq_some_iff.mp e).1) hl
      · have e' : s.env[j]? = some sv := by simpa [hij] using e
        have q := r.slot j sv e'
        cases sv with
        | un => exact q
        | fz d =>
          obtain ⟨v, e1, p⟩ := q
          exact ⟨v, e1, Rp.stay st sx d v p⟩
        | own ds =>
          obtain ⟨b, ws, e1, e2, e3, p⟩ := q
          have hb : b ≠ a := fun z => hij (nda e2 z).symm
          exact ⟨b, ws, e1, e2, by rw [upd_ne hb]; exact e3, RpA.stay st sx ds ws p⟩
        | obj oa oc oe =>
          obtain ⟨C, dx, fs, e1, e2, e0, e3, p⟩ := q
          have hb : oa ≠ a := fun z => hij (nda e2 z).symm
          exact ⟨C, dx, fs, e1, e2, e0, by rw [upd_ne hb]; exact e3, RpK.stay st sx oe _ p⟩
        | deck => exact q
    nd := r.nd
    sub := r.sub
    lv := fun p hp => by
      by_cases hb : p.2 = a
      · exact ⟨_, by rw [hb, upd_same], hno⟩
      · obtain ⟨ws, e, n⟩ := r.lv p hp
        exact ⟨ws, by rw [upd_ne hb]; exact e, n⟩
    x0 := r.x0
    x1 := r.x1
    xt := fun b hb => by
      by_cases hba : b = a
      · rw [hba, upd_same]; simp
      · rw [upd_ne hba]; exact r.xt b hb
    dks := r.dks
    dk := fun kd kc e => by
      obtain ⟨h1, h2, h3, h4⟩ := r.dk kd kc e
      have n1 : kd ≠ a := fun z => hd (by rw [e]; simp [dkl, z])
      have n2 : kc ≠ a := fun z => hd (by rw [e]; simp [dkl, z])
      exact ⟨h1, by rw [upd_ne n1]; exact h2, by rw [upd_ne n2]; exact h3, h4⟩
    ent := fun b o e n => by
      have hb : b ≠ a := fun z => by
        rw [z, (r.sub _ hm).2.2] at e
        cases e
      rw [upd_ne hb]
      exact r.ent b o e n
    one := fun e => by
      obtain ⟨o, u, q⟩ := r.one e
      obtain ⟨ws, z, nz⟩ := r.lv _ hm
      refine ⟨o, u, ?_⟩
      have hb : sysModules ≠ a := fun e2 => by
        rw [← e2, q] at z
        cases z
        exact nz
      rw [upd_ne hb]
      exact q
    tm := fun p hp => Rp.stay st sx p.1 p.2 (r.tm p hp) }
/-- a frame's own list is changed in its place -/
theorem Rel.put (r : Rel K fm X os s σ H) {i : Nat} {a : Addr} {ds ds' : List D} {vs' : List V} (he : s.env[i]? = some (.own ds)) (hs : σ[i]?.join = some (.ref a)) (hm : (i, a) ∈ os) (hr : RpA K H X ds' vs') :
    Rel K fm X os { s with env := s.env.set i (.own ds') } σ (upd H a (.lst vs')) ∧ Stay [a] H (upd H a (.lst vs')) := by
  have sx : ∀ x ∈ [a], x ∈ X := fun x hx => by rw [List.mem_singleton.mp hx]; exact (r.sub _ hm).1
  exact r.putG hm trivial ⟨a, vs', hs, hm, upd_same, RpA.stay (Stay.put List.mem_cons_self) sx ds' vs' hr⟩
/-- a frame's own list is left as it is for ever -/
theorem Rel.freeze (r : Rel K fm X os s σ H) {i : Nat} {ds : List D} (he : s.env[i]? = some (.own ds)) : ∃ X', Rel K fm X' (rid os i) { s with env := s.env.set i (.fz (.list ds)) } σ H := by
  obtain ⟨a, vs, hs, hm, hv, hr⟩ := r.slot i _ he
  have sub : ∀ x ∈ X.filter (fun x => decide (x ≠ a)), x ∈ X := fun x h => (List.mem_filter.mp h).1
  have na : a ∉ X.filter (fun x => decide (x ≠ a)) := fun h => by simpa using (List.mem_filter.mp h).2
  have keep : ∀ {x}, x ∈ X → x ≠ a → x ∈ X.filter (fun x => decide (x ≠ a)) := fun h n => List.mem_filter.mpr ⟨h, by simpa using n⟩
  have ha0 : fm.H0 a = none := (r.sub _ hm).2.2
  have nd := r.nd
  have other : ∀ {p : Nat × Addr}, p ∈ os → p.1 ≠ i → p.2 ≠ a := fun {p} h1 h2 z => by
    have key : ∀ (l : List (Nat × Addr)), (l.map (·.2)).Nodup → p ∈ l → (i, a) ∈ l → p.1 = i := by
      intro l
      induction l with
      | nil => intro _ h; cases h
      | cons q l ih =>
        intro nd h1 h2
        rw [List.map_cons, List.nodup_cons] at nd
        rcases List.mem_cons.mp h1 with e1 | h1
        · rcases List.mem_cons.mp h2 with e2 | h2
          · rw [e1, ← e2]
          · exact absurd (List.mem_map.mpr ⟨_, h2, by rw [← e1, z]⟩) nd.1
        · rcases List.mem_cons.mp h2 with e2 | h2
          · exact absurd (List.mem_map.mpr ⟨_, h1, by rw [← e2, z]⟩) nd.1
          · exact ih nd.2 h1 h2
    exact h2 (key os nd h1 hm)
  refine ⟨X.filter (fun x => decide (x ≠ a)), ?_⟩
  exact {
    len := by simp [r.len]
    slot := fun j sv e => by
      by_cases hij : i = j
      · subst hij
        have hl := (List.getElem?_eq_some_iff.mp he).1
        simp [hl] at e
        subst e
        exact ⟨.ref a, hs, a, vs, rfl, ⟨hv, na⟩, RpA.less sub ds vs hr⟩
      · have e' : s.env[j]? = some sv := by simpa [hij] using e
        have q := r.slot j sv e'
        cases sv with
        | un => exact q
        | fz d =>
          obtain ⟨v, e1, p⟩ := q
          exact ⟨v, e1, Rp.less sub d v p⟩
        | own ds =>
          obtain ⟨b, ws, e1, e2, e3, p⟩ := q
          exact ⟨b, ws, e1, rid_mem.mpr ⟨e2, fun z => hij z.symm⟩, e3, RpA.less sub ds ws p⟩
        | obj oa oc oe =>
          obtain ⟨C, dx, fs, e1, e2, e0, e3, p⟩ := q
          exact ⟨C, dx, fs, e1, rid_mem.mpr ⟨e2, fun z => hij z.symm⟩, e0, e3, RpK.less sub oe _ p⟩
        | deck => exact q
    nd := rid_nd r.nd i
    sub := fun p hp => by
      obtain ⟨h1, h2⟩ := rid_mem.mp hp
      exact ⟨keep (r.sub p h1).1 (other h1 h2), (r.sub p h1).2⟩
    lv := fun p hp => r.lv p (rid_mem.mp hp).1
    x0 := fun b hb => keep (r.x0 b hb) fun z => r.x1 b hb (by rw [z]; exact ha0)
    x1 := r.x1
    xt := fun b hb => r.xt b (sub b hb)
    dks := fun b hb => keep (r.dks b hb) fun z => (r.sub _ hm).2.1 (by rw [← z]; exact hb)
    dk := r.dk
    ent := r.ent
    one := r.one
    tm := fun p hp => Rp.less sub p.1 p.2 (r.tm p hp) }
/-- a smaller set to be left alone -/
theorem Rel.lessX {p : Addr} (r : Rel K fm (p :: X) os s σ H) (hn : p ∉ os.map (·.2)) (hd : p ∉ dkl fm.dka) (h0 : fm.H0 p = none) (hx : p ∉ X) : Rel K fm X os s σ H := by
  have sub : ∀ x ∈ X, x ∈ p :: X := fun x h => List.mem_cons_of_mem _ h
  exact {
    len := r.len
    slot := fun j sv e => by
      have q := r.slot j sv e
      cases sv with
      | un => exact q
      | fz d =>
        obtain ⟨v, e1, p⟩ := q
        exact ⟨v, e1, Rp.less sub d v p⟩
      | own ds =>
        obtain ⟨b, ws, e1, e2, e3, p⟩ := q
        exact ⟨b, ws, e1, e2, e3, RpA.less sub ds ws p⟩
      | obj oa oc oe =>
        obtain ⟨C, dx, fs, e1, e2, e0, e3, p⟩ := q
        exact ⟨C, dx, fs, e1, e2, e0, e3, RpK.less sub oe _ p⟩
      | deck => exact q
    nd := r.nd
    sub := fun q hq => by
      refine ⟨(List.mem_cons.mp (r.sub q hq).1).resolve_left fun z => ?_, (r.sub q hq).2⟩
      exact hn (List.mem_map.mpr ⟨q, hq, z⟩)
    lv := r.lv
    x0 := fun b hb => (List.mem_cons.mp (r.x0 b hb)).resolve_left fun z => r.x1 b hb (by rw [z]; exact h0)
    x1 := r.x1
    xt := fun b hb => r.xt b (sub b hb)
    dks := fun b hb => (List.mem_cons.mp (r.dks b hb)).resolve_left fun z => hd (by rw [← z]; exact hb)
    dk := r.dk
    ent := r.ent
    one := r.one
    tm := fun q hq => Rp.less sub q.1 q.2 (r.tm q hq) }
/-- what is held besides -/
theorem Rel.hold (r : Rel K fm X os s σ H) {p : D × V} (h : Rp K H X p.1 p.2) : Rel K { fm with tmp := p :: fm.tmp } X os s σ H :=
  { len := r.len, slot := r.slot, nd := r.nd, sub := r.sub, lv := r.lv, x0 := r.x0, x1 := r.x1, xt := r.xt, dks := r.dks, dk := r.dk, ent := r.ent, one := r.one,
    tm := fun q hq => (List.mem_cons.mp hq).elim (fun e => by rw [e]; exact h) (r.tm q) }
theorem Rel.holds (r : Rel K fm X os s σ H) : ∀ (t : List (D × V)), (∀ p ∈ t, Rp K H X p.1 p.2) → Rel K { fm with tmp := t ++ fm.tmp } X os s σ H := fun t h =>
  { len := r.len, slot := r.slot, nd := r.nd, sub := r.sub, lv := r.lv, x0 := r.x0, x1 := r.x1, xt := r.xt, dks := r.dks, dk := r.dk, ent := r.ent, one := r.one,
    tm := fun q hq => (List.mem_append.mp hq).elim (h q) (r.tm q) }
theorem Rel.drops {t : List (D × V)} (r : Rel K { fm with tmp := t ++ fm.tmp } X os s σ H) : Rel K fm X os s σ H :=
  { len := r.len, slot := r.slot, nd := r.nd, sub := r.sub, lv := r.lv, x0 := r.x0, x1 := r.x1, xt := r.xt, dks := r.dks, dk := r.dk, ent := r.ent, one := r.one,
    tm := fun q hq => r.tm q (List.mem_append_right _ hq) }
/-- slots that nothing is told of may hold anything -/
theorem Rel.resig {σ' : L2.St} (r : Rel K fm X os s σ H) (hl : σ'.length = σ.length) (h : ∀ i : Nat, s.env[i]? = some Sv.un ∨ σ'[i]? = σ[i]?) : Rel K fm X os s σ' H where
  len := by rw [hl]; exact r.len
  slot := fun i sv e => by
    rcases h i with q | q
    · rw [q] at e
      cases e
      trivial
    · rw [q]; exact r.slot i sv e
  nd := r.nd
  sub := r.sub
  lv := r.lv
  x0 := r.x0
  x1 := r.x1
  xt := r.xt
  dks := r.dks
  dk := r.dk
  ent := r.ent
  one := r.one
  tm := r.tm
/-- a slot is forgotten -/
theorem Rel.forget (r : Rel K fm X os s σ H) (i : Nat) : Rel K fm X os { s with env := s.env.set i .un } σ H where
  len := by simp [r.len]
  slot := fun j sv e => by
    by_cases hij : i = j
    · subst hij
      by_cases hl : i < s.env.length
      · simp [hl] at e
        subst e
        trivial
      · exact absurd (by simpa using (List.getElem?_eq_some_iff.mp e).1) hl
    · exact r.slot j sv (by simpa [hij] using e)
  nd := r.nd
  sub := r.sub
  lv := r.lv
  x0 := r.x0
  x1 := r.x1
  xt := r.xt
  dks := r.dks
  dk := r.dk
  ent := r.ent
  one := r.one
  tm := r.tm
end
end Zo
/-! ZC: the judgements (an expression, its value by value), and the rules that do not hang on an operator. -/
namespace Zo
open PySem PySem.Spec PyProof.Rows L2
/-- what may be read: what nobody changes any more, or a list of the frame's own -/
def RpB (K : Fr) (H : Hp) (X : List Addr) (os : List (Nat × Addr)) (d : D) (v : V) : Prop :=
  Rp K H X d v ∨ ∃ i a vs ds, d = .list ds ∧ v = .ref a ∧ (i, a) ∈ os ∧ H a = some (.lst vs) ∧ RpA K H X ds vs
section
variable (K : Fr) (cl : Nat → Addr) (W : WX) (m : Bool)
def Wish (fm : Fm) (X : List Addr) (os : List (Nat × Addr)) (σ : L2.St) (c : Nat) (t : D) (s' : Ms) : Prop :=
  ∀ v dd H', Rel K fm X os s' σ H' → Rp K H' X t v → H' dd = some (.xd [(("thing" : Str), v)]) → W (.ref (cl c)) (some dd) σ H'
def GoodE (fm : Fm) (X : List Addr) (os : List (Nat × Addr)) (σ : L2.St) (H : Hp) (Q : VK) : Out D → Prop
  | .ok d s' => ∀ v H', Rel K fm X os s' σ H' → Stay (Mu fm.dka os m) H H' → Rp K H' X d v → Q v H'
  | .exc c t s' => Wish K cl W fm X os σ c t s'
  | .no => False
def GoodB (fm : Fm) (X : List Addr) (os : List (Nat × Addr)) (σ : L2.St) (H : Hp) (Q : VK) : Out D → Prop
  | .ok d s' => ∀ v H', Rel K fm X os s' σ H' → Stay (Mu fm.dka os m) H H' → RpB K H' X os d v → Q v H'
  | .exc c t s' => Wish K cl W fm X os σ c t s'
  | .no => False
/-- p is nobody's yet -/
structure Frsh (fm : Fm) (X : List Addr) (os : List (Nat × Addr)) (p : Addr) : Prop where
  nx : p ∉ X
  no : p ∉ os.map (·.2)
  nd : p ∉ dkl fm.dka
  n0 : fm.H0 p = none
/-- a new list -/
def GoodF (fm : Fm) (X : List Addr) (os : List (Nat × Addr)) (σ : L2.St) (H : Hp) (Q : VK) : Out (List D) → Prop
  | .ok ds s' => ∀ p vs H1, Rel K fm (p :: X) os s' σ H1 → Stay (Mu fm.dka os m) H H1 → Frsh fm X os p → H1 p = some (.lst vs) → RpA K H1 (p :: X) ds vs → Q (.ref p) H1
  | .exc c t s' => Wish K cl W fm X os σ c t s'
  | .no => False
def GoodA (fm : Fm) (X : List Addr) (os : List (Nat × Addr)) (σ : L2.St) (H : Hp) (Q : List V → Hp → Prop) : Out (List D) → Prop
  | .ok ds s' => ∀ vs H', Rel K fm X os s' σ H' → Stay (Mu fm.dka os m) H H' → RpA K H' X ds vs → Q vs H'
  | .exc c t s' => Wish K cl W fm X os σ c t s'
  | .no => False
def GoodT (fm : Fm) (X : List Addr) (os : List (Nat × Addr)) (σ : L2.St) (H : Hp) (Q : Bool → Hp → Prop) : Out Bool → Prop
  | .ok b s' => ∀ H', Rel K fm X os s' σ H' → Stay (Mu fm.dka os m) H H' → Q b H'
  | .exc c t s' => Wish K cl W fm X os σ c t s'
  | .no => False
def tE (ev : Ev) : TE := fun σ H Q => ∃ fm X os s, Rel K fm X os s σ H ∧ GoodE K cl W m fm X os σ H Q (ev s)
def tB (ev : Ev) : TE := fun σ H Q => ∃ fm X os s, Rel K fm X os s σ H ∧ GoodB K cl W m fm X os σ H Q (ev s)
def tF (ev : Evs) : TE := fun σ H Q => ∃ fm X os s, Rel K fm X os s σ H ∧ GoodF K cl W m fm X os σ H Q (ev s)
def tA (ev : Evs) : TA := fun σ H Q => ∃ fm X os s, Rel K fm X os s σ H ∧ GoodA K cl W m fm X os σ H Q (ev s)
def tT (ev : Ms → Out Bool) : TT := fun σ H Q => ∃ fm X os s, Rel K fm X os s σ H ∧ GoodT K cl W m fm X os σ H Q (ev s)
end
abbrev SE (cl : Nat → Addr) (X : Cx) (W : WX) (m : Bool) (e : Expr) (ev : Ev) : Prop := PE X e (tE X.K cl W m ev)
abbrev SB (cl : Nat → Addr) (X : Cx) (W : WX) (m : Bool) (e : Expr) (ev : Ev) : Prop := PE X e (tB X.K cl W m ev)
abbrev SF (cl : Nat → Addr) (X : Cx) (W : WX) (m : Bool) (e : Expr) (ev : Evs) : Prop := PE X e (tF X.K cl W m ev)
abbrev SA (cl : Nat → Addr) (X : Cx) (W : WX) (m : Bool) (es : List Expr) (ev : Evs) : Prop := PA X es (tA X.K cl W m ev)
abbrev STt (cl : Nat → Addr) (X : Cx) (W : WX) (m : Bool) (e : Expr) (ev : Ms → Out Bool) : Prop := PT X e (tT X.K cl W m ev)
abbrev SW (cl : Nat → Addr) (X : Cx) (W : WX) (m : Bool) (e : Expr) (ev : Ms → Out Bool) : Prop := PW X e (tT X.K cl W m ev)
section
variable {X : Cx} {e : Expr} {es : List Expr}
theorem pe_imp {t t' : TE} (h : PE X e t) (i : ∀ σ H Q, t' σ H Q → t σ H Q) : PE X e t' := ⟨fun pins s σ H Q I q => h.run pins s σ H Q I (i σ H Q q)⟩
theorem pa_imp {t t' : TA} (h : PA X es t) (i : ∀ σ H Q, t' σ H Q → t σ H Q) : PA X es t' := ⟨fun pos pins s σ H Q I q => h.run pos pins s σ H Q I (i σ H Q q)⟩
theorem pt_imp {t t' : TT} (h : PT X e t) (i : ∀ σ H Q, t' σ H Q → t σ H Q) : PT X e t' := ⟨fun pins s σ H Q I q => h.run pins s σ H Q I (i σ H Q q)⟩
theorem pw_imp {t t' : TT} (h : PW X e t) (i : ∀ σ H Q, t' σ H Q → t σ H Q) : PW X e t' := ⟨fun w pins s σ H Q I q => h.run w pins s σ H Q I (i σ H Q q)⟩
theorem ps_imp {st : Stmt} {t t' : TS} (h : PS X st t) (i : ∀ D σ H, t' D σ H → t D σ H) : PS X st t' := ⟨fun pins s σ H D I q => h.run pins s σ H D I (i D σ H q)⟩
theorem pss_imp {st : List Stmt} {t t' : TS} (h : PSs X st t) (i : ∀ D σ H, t' D σ H → t D σ H) : PSs X st t' := ⟨fun pins s σ H D I q => h.run pins s σ H D I (i D σ H q)⟩
end
section
variable {K : Fr} {fm : Fm} {X : List Addr} {os : List (Nat × Addr)} {s : Ms} {σ : L2.St} {H H' : Hp}
theorem RpB.list {ds : List D} {v : V} (h : RpB K H X os (.list ds) v) : ∃ a vs, v = .ref a ∧ H a = some (.lst vs) ∧ RpA K H X ds vs := by
  rcases h with ⟨a, vs, e, f, r⟩ | ⟨i, a, vs, ds', e, ev, hm, ha, r⟩
  · exact ⟨a, vs, e, f.1, r⟩
  · cases e
    exact ⟨a, vs, ev, ha, r⟩
theorem RpB.tuple {ds : List D} {v : V} (h : RpB K H X os (.tuple ds) v) : ∃ a vs, v = .ref a ∧ SqT K H a vs ∧ RpA K H X ds vs := by
  rcases h with ⟨a, vs, e, f, r⟩ | ⟨i, a, vs, ds', e, ev, hm, ha, r⟩
  · exact ⟨a, vs, e, f.sq, r⟩
  · cases e
theorem RpB.int {i : Int} {v : V} (h : RpB K H X os (.int i) v) : v = .int i := by
  rcases h with h | ⟨_, _, _, _, e, _⟩
  · exact h
  · cases e
theorem RpB.str {x : Str} {v : V} (h : RpB K H X os (.str x) v) : v = .str x := by
  rcases h with h | ⟨_, _, _, _, e, _⟩
  · exact h
  · cases e
theorem RpB.bool {b : Bool} {v : V} (h : RpB K H X os (.bool b) v) : v = .bl b := by
  rcases h with h | ⟨_, _, _, _, e, _⟩
  · exact h
  · cases e
theorem RpB.none {v : V} (h : RpB K H X os .none v) : v = .non := by
  rcases h with h | ⟨_, _, _, _, e, _⟩
  · exact h
  · cases e
theorem DK.plain {K : Fr} {H : Hp} {Xs : List Addr} {a : Addr} {es : List (D × D)} {kvs : List (Key × V)} (r : DK K H Xs a es kvs) (u : unm es = true) : H a = some (.dK kvs) ∧ a ∉ Xs := by
  rcases r with ⟨_, e, n⟩ | ⟨c, r, C, dx, fs, rfl, _⟩ | ⟨x, rfl, _⟩
  · exact ⟨e, n⟩
  · simp [unm] at u
  · simp [unm] at u
theorem Rp.dict {es : List (D × D)} {v : V} (h : Rp K H X (.dict es) v) (u : unm es = true) : ∃ a kvs, v = .ref a ∧ H a = some (.dK kvs) ∧ a ∉ X ∧ RpK K H X es kvs := by
  obtain ⟨a, kvs, e, r, q⟩ := h
  obtain ⟨r1, r2⟩ := r.plain u
  exact ⟨a, kvs, e, r1, r2, q⟩
theorem RpB.dict {es : List (D × D)} {v : V} (h : RpB K H X os (.dict es) v) (u : unm es = true) : ∃ a kvs, v = .ref a ∧ H a = some (.dK kvs) ∧ a ∉ X ∧ RpK K H X es kvs := by
  rcases h with h | ⟨_, _, _, _, e, _⟩
  · exact Rp.dict h u
  · cases e
theorem Rel.sx (r : Rel K fm X os s σ H) {m : Bool} : ∀ a ∈ Mu fm.dka os m, a ∈ X := Mu.sub r m
theorem RpB.still (r : Rel K fm X os s σ H) {d : D} {v : V} (h : RpB K H X os d v) (st : Stay (Mu fm.dka os true) H H') : RpB K H' X os d v := by
  rcases h with h | ⟨i, a, vs, ds, e, ev, hm, ha, q⟩
  · exact .inl (Rp.stay st r.sx d v h)
  · have na : a ∉ Mu fm.dka os true := fun z => by
      unfold Mu at z
      rcases List.mem_append.mp z with z | z
      · exact (r.sub _ hm).2.1 z
      · simp at z
    exact .inr ⟨i, a, vs, ds, e, ev, hm, st _ _ ha na, RpA.stay st r.sx ds vs q⟩
theorem Stay.any {M : List Addr} {H H' : Hp} (st : Stay [] H H') : Stay M H H' := st.more fun a h => absurd h (by simp)
end
/-! ### weakening -/
section
variable {cl : Nat → Addr} {X : Cx} {W : WX} {m : Bool} {e : Expr} {ev : Ev}
theorem sb_of (h : SE cl X W m e ev) : SB cl X W m e ev := pe_imp h fun σ H Q ⟨fm, Xs, os, s, r, g⟩ => ⟨fm, Xs, os, s, r, by
  cases q : ev s with
  | ok d s' =>
    rw [q] at g
    exact fun v H' r' st p => g v H' r' st (.inl p)
  | exc c t s' => rw [q] at g; exact g
  | no => rw [q] at g; exact g⟩
theorem Rel.nos {K : Fr} {fm : Fm} {Xs : List Addr} {os : List (Nat × Addr)} {s : Ms} {σ : L2.St} {H : Hp} (r : Rel K fm Xs os s σ H) {p : Addr} (h : H p = none) : p ∉ os.map (·.2) := fun z => by
  obtain ⟨q, hq, e⟩ := List.mem_map.mp z
  exact r.nx h (by rw [← e]; exact (r.sub q hq).1)
theorem Rel.frsh {K : Fr} {fm : Fm} {Xs : List Addr} {os : List (Nat × Addr)} {s : Ms} {σ : L2.St} {H : Hp} (r : Rel K fm Xs os s σ H) {p : Addr} (h : H p = none) : Frsh fm Xs os p := ⟨r.nx h, r.nos h, fun z => r.nx h (r.dks p z), r.ent0 h⟩
theorem useF {K : Fr} {fm : Fm} {Xs : List Addr} {os : List (Nat × Addr)} {s' : Ms} {σ : L2.St} {H H1 : Hp} {Q : VK} {ds : List D} {vs : List V} {p : Addr}
    (g : ∀ p vs H1, Rel K fm (p :: Xs) os s' σ H1 → Stay (Mu fm.dka os m) H H1 → Frsh fm Xs os p → H1 p = some (.lst vs) → RpA K H1 (p :: Xs) ds vs → Q (.ref p) H1)
    (r1 : Rel K fm Xs os s' σ H1) (st : Stay (Mu fm.dka os m) H H1) (hp : H1 p = none) (ra : RpA K H1 Xs ds vs) : Q (.ref p) (upd H1 p (.lst vs)) :=
  g p vs _ (r1.laidL hp) (st.trans (Stay.laid hp)) (r1.frsh hp) upd_same (RpA.stay (M := []) (Stay.laid hp) (fun a h => absurd h (by simp)) ds vs (RpA.fresh hp ds vs ra))
def lstOf (ev : Evs) : Ev := fun s => (ev s).bind fun ds s' => .ok (.list ds) s'
theorem sf_of {ev : Evs} (h : SF cl X W m e ev) : SE cl X W m e (lstOf ev) := pe_imp h fun σ H Q ⟨fm, Xs, os, s, r, g⟩ => ⟨fm, Xs, os, s, r, by
  unfold lstOf at g
  cases q : ev s with
  | ok ds s' =>
    rw [q] at g
    refine fun p vs H1 r1 st fp hp ra => g (.ref p) _ (r1.lessX fp.no fp.nd fp.n0 fp.nx) st ?_
    exact ⟨p, vs, rfl, ⟨hp, fp.nx⟩, RpA.less (fun x h => List.mem_cons_of_mem _ h) ds vs ra⟩
  | exc c t s' => rw [q] at g; exact g
  | no => rw [q] at g; exact g⟩
/-! ### names, constants -/
def evVar (i : Nat) : Ev := fun s => match s.env[i]? with
  | some (.fz d) => .ok d s
  | _ => .no
def evVarB (i : Nat) : Ev := fun s => match s.env[i]? with
  | some (.fz d) => .ok d s
  | some (.own ds) => .ok (.list ds) s
  | _ => .no
theorem join_some {σ : L2.St} {i : Nat} {v : V} (h : σ[i]?.join = some v) : σ[i]? = some (some v) := by
  cases e : σ[i]? with
  | none => rw [e] at h; cases h
  | some o => rw [e] at h; cases o <;> cases h; rfl
theorem se_var (i : Nat) (h : PE X e (tVar i)) : SE cl X W m e (evVar i) := pe_imp h fun σ H Q ⟨fm, Xs, os, s, r, g⟩ => by
  unfold evVar at g
  cases q : s.env[i]? with
  | none => rw [q] at g; exact g.elim
  | some sv =>
    rw [q] at g
    cases sv with
    | fz d =>
      obtain ⟨v, e1, p⟩ := r.slot i _ q
      exact ⟨v, join_some e1, g v H r (Stay.refl _ _) p⟩
    | _ => exact g.elim
theorem sb_var (i : Nat) (h : PE X e (tVar i)) : SB cl X W m e (evVarB i) := pe_imp h fun σ H Q ⟨fm, Xs, os, s, r, g⟩ => by
  unfold evVarB at g
  cases q : s.env[i]? with
  | none => rw [q] at g; exact g.elim
  | some sv =>
    rw [q] at g
    cases sv with
    | fz d =>
      obtain ⟨v, e1, p⟩ := r.slot i _ q
      exact ⟨v, join_some e1, g v H r (Stay.refl _ _) (.inl p)⟩
    | own ds =>
      obtain ⟨a, vs, e1, e2, e3, p⟩ := r.slot i _ q
      exact ⟨.ref a, join_some e1, g (.ref a) H r (Stay.refl _ _) (.inr ⟨i, a, vs, ds, rfl, rfl, e2, e3, p⟩)⟩
    | _ => exact g.elim
def evLit (d : D) : Ev := fun s => .ok d s
/-- a constant, written or of the module -/
theorem se_const {d : D} {v : V} (h : PE X e (tC v)) (p : ∀ H Xs, Rp X.K H Xs d v) : SE cl X W m e (evLit d) := pe_imp h fun σ H Q ⟨fm, Xs, os, s, r, g⟩ => g v H r (Stay.refl _ _) (p H Xs)
theorem se_int {i : Int} {j pos} : SE cl X W m (.Constant (.int i) j pos) (evLit (.int i)) := se_const pe_int fun _ _ => rfl
theorem se_str {x : Str} {j pos} : SE cl X W m (.Constant (.str x) j pos) (evLit (.str x)) := se_const pe_str fun _ _ => rfl
theorem se_bool {b : Bool} {j pos} : SE cl X W m (.Constant (.bool b) j pos) (evLit (.bool b)) := se_const pe_bl fun _ _ => rfl
theorem se_none {j pos} : SE cl X W m (.Constant .none j pos) (evLit .none) := se_const pe_non fun _ _ => rfl
/-! ### argument lists, displays -/
def evNil : Evs := fun s => .ok [] s
def evCons (a : Ev) (b : Evs) : Evs := fun s => (a s).bind fun d s1 => (b s1).bind fun ds s2 => .ok (d :: ds) s2
theorem sa_nil : SA cl X W m [] evNil := pa_imp pa_nil fun σ H Q ⟨fm, Xs, os, s, r, g⟩ => g [] H r (Stay.refl _ _) rfl
theorem sa_cons {es : List Expr} {evs : Evs} (h : SE cl X W m e ev) (hs : SA cl X W m es evs) (he : starEach (e :: es) X.env = (false, eval e X.env) :: starEach es X.env := by rfl) : SA cl X W m (e :: es) (evCons ev evs) :=
  pa_imp (pa_cons h hs he) fun σ H Q ⟨fm, Xs, os, s, r, g⟩ => by
    unfold evCons at g
    refine ⟨fm, Xs, os, s, r, ?_⟩
    cases q : ev s with
    | ok d s1 =>
      rw [q] at g
      simp only [Out.bind_ok] at g
      refine fun v H1 r1 st1 p1 => ⟨fm, Xs, os, s1, r1, ?_⟩
      cases q2 : evs s1 with
      | ok ds s2 =>
        rw [q2] at g
        refine fun vs H2 r2 st2 p2 => g (v :: vs) H2 r2 (st1.trans st2) ⟨v, vs, rfl, Rp.stay st2 r1.sx d v p1, p2⟩
      | exc c t s2 => rw [q2] at g; exact g
      | no => rw [q2] at g; exact g.elim
    | exc c t s1 => rw [q] at g; exact g
    | no => rw [q] at g; exact g.elim
def evTup (b : Evs) : Ev := fun s => (b s).bind fun ds s1 => if ds.length ≤ 1000 then .ok (.tuple ds) s1 else .no
def evLst (b : Evs) : Evs := fun s => (b s).bind fun ds s1 => if ds.length ≤ 1000 then .ok ds s1 else .no
theorem size1000 {n : Nat} (h : n ≤ 1000) : n ≤ sizeLine := Nat.le_of_lt (small1000 h)
/-- (e, ..): a new tuple without a dict -/
def tTupF (t : TA) : TE := fun σ H Q => t σ H fun xs H1 => xs.length ≤ sizeLine ∧ ∀ p o, H1 p = none → o.dict = none → Q (.ref p) (upd H1 p (.frz o (.tup xs)))
abbrev tupO (us : List Value) : Obj := { cls := .type "tuple", data := .seq us.toArray }
theorem pe_tupF {X : Cx} {es : List Expr} {t : TA} {pos : Pos} {x1} (h : PA X es t) : PE X (.Tuple es x1 pos) (tTupF t) := by
  refine ⟨fun pins s σ H Q I hq => ?_⟩
  refine wpAny_Tuple_spliced (thn (h.run pos pins s σ H _ I hq) fun us s1 ⟨xs, H1, I1, r, z, q⟩ => ⟨by rw [← r.length]; exact z, ?_⟩)
  have new := I1.hok.fresh (Nat.le_refl s1.heap.objs.size)
  refine ⟨.ref s1.heap.objs.size, upd H1 s1.heap.objs.size (.frz (tupO us) (.tup xs)), I1.laid (t' := s1.toks) (fun b u e => Heap.get?_push_of_some _ e) (Nat.le_refl _) ?_, rfl, q _ _ new rfl⟩
  exact ⟨Heap.get?_push_size _ rfl, z, us, r, ⟨_, Heap.get?_push_size _ rfl, rfl, _, rfl⟩⟩
theorem rp_newF {K : Fr} {H : Hp} {Xs : List Addr} {p : Addr} {o : Obj} {ds : List D} {vs : List V} (hp : H p = none) (nx : p ∉ Xs) (hd : o.dict = none) (h : RpA K H Xs ds vs) : Rp K (upd H p (.frz o (.tup vs))) Xs (.tuple ds) (.ref p) :=
  ⟨p, vs, rfl, .inl ⟨⟨o, upd_same, hd⟩, nx⟩, RpA.stay (M := []) (Stay.laid hp) (fun a h => absurd h (by simp)) ds vs h⟩
theorem se_tup {es : List Expr} {evs : Evs} {x1 pos} (h : SA cl X W m es evs) : SE cl X W m (.Tuple es x1 pos) (evTup evs) := pe_imp (pe_tupF h) fun σ H Q ⟨fm, Xs, os, s, r, g⟩ => by
  unfold evTup at g
  refine ⟨fm, Xs, os, s, r, ?_⟩
  cases q : evs s with
  | ok ds s1 =>
    rw [q] at g
    simp only [Out.bind_ok] at g
    refine fun vs H1 r1 st1 p1 => ?_
    split at g
    · rename_i hl
      exact ⟨by rw [p1.len]; exact size1000 hl, fun p o hp hd => g (.ref p) _ (r1.laid hp) (st1.trans (Stay.laid hp)) (rp_newF hp (r1.nx hp) hd p1)⟩
    · exact g.elim
  | exc c t s1 => rw [q] at g; exact g
  | no => rw [q] at g; exact g.elim
theorem sf_lst {es : List Expr} {evs : Evs} {pos} (h : SA cl X W m es evs) : SF cl X W m (.List es pos) (evLst evs) := pe_imp (pe_lst h) fun σ H Q ⟨fm, Xs, os, s, r, g⟩ => by
  unfold evLst at g
  refine ⟨fm, Xs, os, s, r, ?_⟩
  cases q : evs s with
  | ok ds s1 =>
    rw [q] at g
    simp only [Out.bind_ok] at g
    refine fun vs H1 r1 st1 p1 => ?_
    split at g
    · rename_i hl
      exact ⟨by rw [p1.len]; exact size1000 hl, fun p hp => useF g r1 st1 hp p1⟩
    · exact g.elim
  | exc c t s1 => rw [q] at g; exact g
  | no => rw [q] at g; exact g.elim
/-! ### operators by what they do on values -/
/-- from two values that may be read: what the operator's reading asks -/
def OpSem (X : Cx) (r : R2) (f : D → D → Option D) : Prop :=
  ∀ (fm : Fm) (Xs : List Addr) (os : List (Nat × Addr)) (s : Ms) (σ : L2.St) (H : Hp) (d1 d2 d : D) (v1 v2 : V) (Q : VK), Rel X.K fm Xs os s σ H → RpB X.K H Xs os d1 v1 → RpB X.K H Xs os d2 v2 → f d1 d2 = some d →
    (∀ v H', Rel X.K fm Xs os s σ H' → Stay [] H H' → Rp X.K H' Xs d v → Q v H') → r v1 v2 H Q
def orF (f g : D → D → Option D) : D → D → Option D := fun a b => match f a b with
  | some d => some d
  | none => g a b
theorem OpSem.or {r r' : R2} {f g : D → D → Option D} (h : OpSem X r f) (h' : OpSem X r' g) : OpSem X (fun x y H Q => r x y H Q ∨ r' x y H Q) (orF f g) := by
  intro fm Xs os s σ H d1 d2 d v1 v2 Q R p1 p2 e q
  unfold orF at e
  cases e1 : f d1 d2 with
  | some d' =>
    rw [e1] at e
    cases e
    exact .inl (h fm Xs os s σ H d1 d2 _ v1 v2 Q R p1 p2 e1 q)
  | none =>
    rw [e1] at e
    exact .inr (h' fm Xs os s σ H d1 d2 d v1 v2 Q R p1 p2 e q)
def toOut {α : Type} (o : Option α) (s : Ms) : Out α := match o with
  | some d => .ok d s
  | none => .no
@[simp] theorem toOut_some {α : Type} (d : α) (s : Ms) : toOut (some d) s = .ok d s := rfl
@[simp] theorem toOut_none {α : Type} (s : Ms) : (toOut none s : Out α) = .no := rfl
def evBin (f : D → D → Option D) (a b : Ev) : Ev := fun s => (a s).bind fun x s1 => (b s1).bind fun y s2 => toOut (f x y) s2
theorem tOp_sem {K : Fr} {r : R2} {f : D → D → Option D} {a b : Ev} (hK : K = X.K) (hs : OpSem X r f) {σ : L2.St} {H : Hp} {Q : VK} (h : tE X.K cl W m (evBin f a b) σ H Q) : tOp r (tB X.K cl W m a) (tB X.K cl W true b) σ H Q := by
  obtain ⟨fm, Xs, os, s, R, g⟩ := h
  unfold evBin at g
  refine ⟨fm, Xs, os, s, R, ?_⟩
  cases q : a s with
  | ok x s1 =>
    rw [q] at g
    simp only [Out.bind_ok] at g
    refine fun v1 H1 r1 st1 p1 => ⟨fm, Xs, os, s1, r1, ?_⟩
    cases q2 : b s1 with
    | ok y s2 =>
      rw [q2] at g
      simp only [Out.bind_ok] at g
      refine fun v2 H2 r2 st2 p2 => ?_
      cases q3 : f x y with
      | some d =>
        rw [q3] at g
        exact hs fm Xs os s2 σ H2 x y d v1 v2 Q r2 (p1.still r1 st2) p2 q3 fun v H3 r3 st3 p3 => g v H3 r3 (st1.trans ((st2.more Mu.still).trans st3.any)) p3
      | none => rw [q3] at g; exact g.elim
    | exc c t s2 => rw [q2] at g; exact g
    | no => rw [q2] at g; exact g.elim
  | exc c t s1 => rw [q] at g; exact g
  | no => rw [q] at g; exact g.elim
theorem se_bin {op : Operator} {r : R2} {f : D → D → Option D} {ea eb : Expr} {a b : Ev} {pos} (ho : OpR X (binaryOp op) r) (hs : OpSem X r f) (ha : SB cl X W m ea a) (hb : SB cl X W true eb b) : SE cl X W m (.BinOp ea op eb pos) (evBin f a b) :=
  pe_imp (pe_op ho ha hb) fun _ _ _ h => tOp_sem rfl hs h
theorem se_cmp {op : CmpOp} {r : R2} {f : D → D → Option D} {ea eb : Expr} {a b : Ev} {pos} (ho : OpR X (compareOp op) r) (hs : OpSem X r f) (ha : SB cl X W m ea a) (hb : SB cl X W true eb b) (hm : behindInMarks op eb = false) : SE cl X W m (.Compare ea [op] [eb] pos) (evBin f a b) :=
  pe_imp (pe_cmpR ho ha hb hm) fun _ _ _ h => tOp_sem rfl hs h
/-! ### tests -/
def asBool : D → Option Bool
  | .bool b => some b
  | _ => none
def evT (a : Ev) : Ms → Out Bool := fun s => (a s).bind fun d s1 => toOut (asBool d) s1
theorem asBool_some {d : D} {b : Bool} (h : asBool d = some b) : d = .bool b := by
  cases d <;> simp [asBool] at h
  rw [h]
theorem tT_of {a : Ev} {σ : L2.St} {H : Hp} {Q : Bool → Hp → Prop} (h : tT X.K cl W m (evT a) σ H Q) : tE X.K cl W m a σ H (fun x H1 => ∃ k, x = .bl k ∧ Q k H1) := by
  obtain ⟨fm, Xs, os, s, R, g⟩ := h
  unfold evT at g
  refine ⟨fm, Xs, os, s, R, ?_⟩
  cases q : a s with
  | ok x s1 =>
    rw [q] at g
    simp only [Out.bind_ok] at g
    cases q3 : asBool x with
    | some b =>
      rw [q3] at g
      have e := asBool_some q3
      subst e
      exact fun v H1 r1 st1 p1 => ⟨b, p1, g H1 r1 st1⟩
    | none => rw [q3] at g; exact g.elim
  | exc c t s1 => rw [q] at g; exact g
  | no => rw [q] at g; exact g.elim
theorem st_val {a : Ev} (h : SE cl X W m e a) (he : ∀ whole, isTrue e X.env whole = (do let v ← whole; standAt e.pos; holding [v] (truthy v)) := by intro _; rfl) : STt cl X W m e (evT a) :=
  pt_imp (pt_val h he) fun _ _ _ h => tT_of h
theorem st_cmp {op : CmpOp} {r : R2} {f : D → D → Option D} {ea eb : Expr} {a b : Ev} {pos} (ho : OpR X (compareOp op) r) (hs : OpSem X r f) (ha : SB cl X W m ea a) (hb : SB cl X W true eb b) (hm : behindInMarks op eb = false) : STt cl X W m (.Compare ea [op] [eb] pos) (evT (evBin f a b)) :=
  pt_imp (pt_cmpR ho ha hb hm) fun _ _ _ h => tOp_sem rfl hs (tT_of h)
def evTnot (a : Ms → Out Bool) : Ms → Out Bool := fun s => (a s).bind fun b s1 => .ok (!b) s1
def evTand (a b : Ms → Out Bool) : Ms → Out Bool := fun s => (a s).bind fun c s1 => if c = true then b s1 else .ok false s1
def evTor (a b : Ms → Out Bool) : Ms → Out Bool := fun s => (a s).bind fun c s1 => if c = true then .ok true s1 else b s1
theorem st_not {a : Ms → Out Bool} {pos} (h : STt cl X W m e a) : STt cl X W m (.UnaryOp .Not e pos) (evTnot a) := pt_imp (pt_not h) fun σ H Q ⟨fm, Xs, os, s, R, g⟩ => by
  unfold evTnot at g
  refine ⟨fm, Xs, os, s, R, ?_⟩
  cases q : a s with
  | ok x s1 => rw [q] at g; exact g
  | exc c t s1 => rw [q] at g; exact g
  | no => rw [q] at g; exact g.elim
theorem GoodT.imp {K : Fr} {fm : Fm} {Xs : List Addr} {os : List (Nat × Addr)} {s : Ms} {σ : L2.St} {H H1 : Hp} {Q : Bool → Hp → Prop} {o : Out Bool} (st : Stay (Mu fm.dka os m) H H1) (g : GoodT K cl W m fm Xs os σ H Q o) : GoodT K cl W m fm Xs os σ H1 Q o := by
  cases o with
  | ok b s => exact fun H' r st' => g H' r (st.trans st')
  | exc c t s => exact g
  | no => exact g
theorem sw_and1 {a : Ms → Out Bool} {pos} (h : STt cl X W m e a) : SW cl X W m (.BoolOp .And [e] pos) a := pw_and1 h
theorem sw_or1 {a : Ms → Out Bool} {pos} (h : STt cl X W m e a) : SW cl X W m (.BoolOp .Or [e] pos) a := pw_or1 h
theorem sw_and {a b : Ms → Out Bool} {e2 : Expr} {rest : List Expr} {pos} (h : STt cl X W m e a) (hb : SW cl X W m (.BoolOp .And (e2 :: rest) pos) b) : SW cl X W m (.BoolOp .And (e :: e2 :: rest) pos) (evTand a b) :=
  pw_imp (pw_and h hb) fun σ H Q ⟨fm, Xs, os, s, R, g⟩ => by
    unfold evTand at g
    refine ⟨fm, Xs, os, s, R, ?_⟩
    cases q : a s with
    | ok x s1 =>
      rw [q] at g
      simp only [Out.bind_ok] at g
      cases x with
      | true => exact fun H1 r1 st1 => ⟨fm, Xs, os, s1, r1, GoodT.imp (s := s1) st1 g⟩
      | false => exact fun H1 r1 st1 => g H1 r1 st1
    | exc c t s1 => rw [q] at g; exact g
    | no => rw [q] at g; exact g.elim
theorem sw_or {a b : Ms → Out Bool} {e2 : Expr} {rest : List Expr} {pos} (h : STt cl X W m e a) (hb : SW cl X W m (.BoolOp .Or (e2 :: rest) pos) b) : SW cl X W m (.BoolOp .Or (e :: e2 :: rest) pos) (evTor a b) :=
  pw_imp (pw_or h hb) fun σ H Q ⟨fm, Xs, os, s, R, g⟩ => by
    unfold evTor at g
    refine ⟨fm, Xs, os, s, R, ?_⟩
    cases q : a s with
    | ok x s1 =>
      rw [q] at g
      simp only [Out.bind_ok] at g
      cases x with
      | false => exact fun H1 r1 st1 => ⟨fm, Xs, os, s1, r1, GoodT.imp (s := s1) st1 g⟩
      | true => exact fun H1 r1 st1 => g H1 r1 st1
    | exc c t s1 => rw [q] at g; exact g
    | no => rw [q] at g; exact g.elim
theorem st_pw {a : Ms → Out Bool} (h : SW cl X W m e a) : STt cl X W m e a := h.pt
theorem GoodE.imp {K : Fr} {fm : Fm} {Xs : List Addr} {os : List (Nat × Addr)} {σ : L2.St} {H H1 : Hp} {Q : VK} {o : Out D} (st : Stay (Mu fm.dka os m) H H1) (g : GoodE K cl W m fm Xs os σ H Q o) : GoodE K cl W m fm Xs os σ H1 Q o := by
  cases o with
  | ok b s => exact fun v H' r st' => g v H' r (st.trans st')
  | exc c t s => exact g
  | no => exact g
/-! ### and, or, not, if as values -/
def evAnd (a b : Ev) : Ev := fun s => (a s).bind fun d s1 => match asBool d with
  | some true => b s1
  | some false => .ok (.bool false) s1
  | none => .no
def evOr (a b : Ev) : Ev := fun s => (a s).bind fun d s1 => match asBool d with
  | some true => .ok (.bool true) s1
  | some false => b s1
  | none => .no
def evNot (a : Ev) : Ev := fun s => (a s).bind fun d s1 => match asBool d with
  | some c => .ok (.bool (!c)) s1
  | none => .no
theorem se_one {op} {pos} (h : SE cl X W m e ev) : SE cl X W m (.BoolOp op [e] pos) ev := pe_one h
theorem se_and {a b : Ev} {e2 : Expr} {rest : List Expr} {pos} (h : SE cl X W m e a) (hb : SE cl X W m (.BoolOp .And (e2 :: rest) pos) b) : SE cl X W m (.BoolOp .And (e :: e2 :: rest) pos) (evAnd a b) :=
  pe_imp (pe_and h hb) fun σ H Q ⟨fm, Xs, os, s, R, g⟩ => by
    unfold evAnd at g
    refine ⟨fm, Xs, os, s, R, ?_⟩
    cases q : a s with
    | ok x s1 =>
      rw [q] at g
      simp only [Out.bind_ok] at g
      cases q3 : asBool x with
      | some c =>
        rw [q3] at g
        have e3 := asBool_some q3
        subst e3
        cases c with
        | true => exact fun v H1 r1 st1 p1 => ⟨true, p1, ⟨fm, Xs, os, s1, r1, GoodE.imp st1 g⟩⟩
        | false => exact fun v H1 r1 st1 p1 => ⟨false, p1, g _ H1 r1 st1 rfl⟩
      | none => rw [q3] at g; exact g.elim
    | exc c t s1 => rw [q] at g; exact g
    | no => rw [q] at g; exact g.elim
theorem se_or {a b : Ev} {e2 : Expr} {rest : List Expr} {pos} (h : SE cl X W m e a) (hb : SE cl X W m (.BoolOp .Or (e2 :: rest) pos) b) : SE cl X W m (.BoolOp .Or (e :: e2 :: rest) pos) (evOr a b) :=
  pe_imp (pe_or h hb) fun σ H Q ⟨fm, Xs, os, s, R, g⟩ => by
    unfold evOr at g
    refine ⟨fm, Xs, os, s, R, ?_⟩
    cases q : a s with
    | ok x s1 =>
      rw [q] at g
      simp only [Out.bind_ok] at g
      cases q3 : asBool x with
      | some c =>
        rw [q3] at g
        have e3 := asBool_some q3
        subst e3
        cases c with
        | true => exact fun v H1 r1 st1 p1 => ⟨true, p1, g _ H1 r1 st1 rfl⟩
        | false => exact fun v H1 r1 st1 p1 => ⟨false, p1, ⟨fm, Xs, os, s1, r1, GoodE.imp st1 g⟩⟩
      | none => rw [q3] at g; exact g.elim
    | exc c t s1 => rw [q] at g; exact g
    | no => rw [q] at g; exact g.elim
theorem se_not {a : Ev} {pos} (h : SE cl X W m e a) : SE cl X W m (.UnaryOp .Not e pos) (evNot a) := pe_imp (pe_not h) fun σ H Q ⟨fm, Xs, os, s, R, g⟩ => by
  unfold evNot at g
  refine ⟨fm, Xs, os, s, R, ?_⟩
  cases q : a s with
  | ok x s1 =>
    rw [q] at g
    simp only [Out.bind_ok] at g
    cases q3 : asBool x with
    | some c =>
      rw [q3] at g
      have e3 := asBool_some q3
      subst e3
      exact fun v H1 r1 st1 p1 => ⟨c, p1, g _ H1 r1 st1 rfl⟩
    | none => rw [q3] at g; exact g.elim
  | exc c t s1 => rw [q] at g; exact g
  | no => rw [q] at g; exact g.elim
def evIf (c : Ms → Out Bool) (a b : Ev) : Ev := fun s => (c s).bind fun k s1 => if k = true then a s1 else b s1
theorem se_if {c : Ms → Out Bool} {a b : Ev} {ec ea eb : Expr} {pos} (hc : STt cl X W m ec c) (ha : SE cl X W m ea a) (hb : SE cl X W m eb b) : SE cl X W m (.IfExp ec ea eb pos) (evIf c a b) :=
  pe_imp (pe_ifExp hc ha hb) fun σ H Q ⟨fm, Xs, os, s, R, g⟩ => by
    unfold evIf at g
    refine ⟨fm, Xs, os, s, R, ?_⟩
    cases q : c s with
    | ok k s1 =>
      rw [q] at g
      simp only [Out.bind_ok] at g
      cases k with
      | true => exact fun H1 r1 st1 => ⟨fm, Xs, os, s1, r1, GoodE.imp st1 g⟩
      | false => exact fun H1 r1 st1 => ⟨fm, Xs, os, s1, r1, GoodE.imp st1 g⟩
    | exc c t s1 => rw [q] at g; exact g
    | no => rw [q] at g; exact g.elim
/-! ### chains: a < b < c -/
def evChain (f f' : D → D → Option D) (a b c : Ev) : Ev := fun s => (a s).bind fun x s1 => (b s1).bind fun y s2 => match f x y with
  | some (.bool true) => (c s2).bind fun z s3 => toOut (f' y z) s3
  | some (.bool false) => .ok (.bool false) s2
  | _ => .no
theorem tChain_sem {r r' : R2} {f f' : D → D → Option D} {a b c : Ev} (hs : OpSem X r f) (hs' : OpSem X r' f') {σ : L2.St} {H : Hp} {Q : VK} (h : tE X.K cl W m (evChain f f' a b c) σ H Q) :
    tChain r r' (tB X.K cl W m a) (tB X.K cl W true b) (tB X.K cl W true c) σ H Q := by
  obtain ⟨fm, Xs, os, s, R, g⟩ := h
  unfold evChain at g
  refine ⟨fm, Xs, os, s, R, ?_⟩
  cases q : a s with
  | ok x s1 =>
    rw [q] at g
    simp only [Out.bind_ok] at g
    refine fun v1 H1 r1 st1 p1 => ⟨fm, Xs, os, s1, r1, ?_⟩
    cases q2 : b s1 with
    | ok y s2 =>
      rw [q2] at g
      simp only [Out.bind_ok] at g
      refine fun v2 H2 r2 st2 p2 => ?_
      cases q3 : f x y with
      | none => rw [q3] at g; exact g.elim
      | some d =>
        rw [q3] at g
        have step := hs fm Xs os s2 σ H2 x y d v1 v2
        cases d with
        | bool k =>
          refine step _ r2 (p1.still r1 st2) p2 q3 fun v H3 r3 st3 p3 => ⟨k, p3, ?_⟩
          cases k with
          | true =>
            rw [if_pos rfl]
            refine ⟨fm, Xs, os, s2, r3, ?_⟩
            cases q4 : c s2 with
            | ok z s3 =>
              rw [q4] at g
              simp only [Out.bind_ok] at g
              refine fun v4 H4 r4 st4 p4 => ?_
              cases q5 : f' y z with
              | none => rw [q5] at g; exact g.elim
              | some d5 =>
                rw [q5] at g
                refine hs' fm Xs os s3 σ H4 y z d5 v2 v4 Q r4 ?_ p4 q5 fun v H5 r5 st5 p5 => g v H5 r5 (st1.trans ((st2.more Mu.still).trans (st3.any.trans ((st4.more Mu.still).trans st5.any)))) p5
                exact (p2.still r2 st3.any).still r3 st4
            | exc cc t s3 => rw [q4] at g; exact g
            | no => rw [q4] at g; exact g.elim
          | false =>
            rw [if_neg Bool.false_ne_true]
            exact g _ H3 r3 (st1.trans ((st2.more Mu.still).trans st3.any)) rfl
        | _ => exact g.elim
    | exc cc t s2 => rw [q2] at g; exact g
    | no => rw [q2] at g; exact g.elim
  | exc cc t s1 => rw [q] at g; exact g
  | no => rw [q] at g; exact g.elim
end
end Zo
/-! ZD: operators, indices, slices, built-ins: what they do on values, and that they do it. -/
namespace Zo
open PySem PySem.Spec PyProof.Rows L2
section
variable {X : Cx}
/-! ### results -/
theorem RpA.laid {K : Fr} {H : Hp} {Xs : List Addr} {p : Addr} {o : HO} {ds : List D} {vs : List V} (hp : H p = none) (h : RpA K H Xs ds vs) : RpA K (upd H p o) Xs ds vs := RpA.stay (M := []) (Stay.laid hp) (fun a h => absurd h (by simp)) ds vs h
theorem rp_newL {K : Fr} {H : Hp} {Xs : List Addr} {p : Addr} {ds : List D} {vs : List V} (hp : H p = none) (nx : p ∉ Xs) (h : RpA K H Xs ds vs) : Rp K (upd H p (.lst vs)) Xs (.list ds) (.ref p) := ⟨p, vs, rfl, ⟨upd_same, nx⟩, h.laid hp⟩
theorem Rp.back {K : Fr} {H H' : Hp} {Xs : List Addr} {d : D} {v : V} (h : Rp K H Xs d v) (st : Stay [] H H') : Rp K H' Xs d v := Rp.stay st (fun a h => absurd h (by simp)) d v h
theorem RpB.tup {K : Fr} {H : Hp} {Xs : List Addr} {os : List (Nat × Addr)} {ds : List D} {v : V} (h : RpB K H Xs os (.tuple ds) v) : Rp K H Xs (.tuple ds) v := by
  rcases h with h | ⟨_, _, _, _, e, _⟩
  · exact h
  · cases e
/-! ### + -/
def addI : D → D → Option D
  | .int a, .int b => some (.int (a + b))
  | _, _ => none
def addS : D → D → Option D
  | .str a, .str b => if a.length + b.length ≤ sizeLine then some (.str (a ++ b)) else none
  | _, _ => none
def addL : D → D → Option (List D)
  | .list a, .list b => if a.length + b.length ≤ sizeLine then some (a ++ b) else none
  | _, _ => none
def addT : D → D → Option D
  | .tuple a, .tuple b => if a.length + b.length ≤ sizeLine then some (.tuple (a ++ b)) else none
  | _, _ => none
theorem addI_eq {a b d : D} (h : addI a b = some d) : ∃ i j, a = .int i ∧ b = .int j ∧ d = .int (i + j) := by
  cases a <;> cases b <;> simp [addI] at h
  exact ⟨_, _, rfl, rfl, h.symm⟩
theorem sem_addI : OpSem X (rI0 fun i j => .int (i + j)) addI := by
  intro fm Xs os s σ H d1 d2 d v1 v2 Q R p1 p2 e q
  obtain ⟨i, j, rfl, rfl, rfl⟩ := addI_eq e
  exact ⟨i, j, p1.int, p2.int, q _ H R (Stay.refl _ _) rfl⟩
theorem sem_addS : OpSem X (fun x y H Q => ∃ i j, x = .str i ∧ y = .str j ∧ i.length + j.length ≤ sizeLine ∧ Q (.str (i ++ j)) H) addS := by
  intro fm Xs os s σ H d1 d2 d v1 v2 Q R p1 p2 e q
  cases d1 <;> cases d2 <;> simp [addS] at e
  rename_i a b
  obtain ⟨hl, e⟩ := e
  subst e
  exact ⟨a, b, p1.str, p2.str, hl, q _ H R (Stay.refl _ _) rfl⟩
/-- t + u -/
def rCatF (K : Fr) : R2 := fun x y H Q => ∃ a b xs ys, x = .ref a ∧ y = .ref b ∧ SqT K H a xs ∧ SqT K H b ys ∧ xs.length + ys.length ≤ sizeLine ∧
  (xs = [] → Q (.ref b) H) ∧ (xs ≠ [] → ys = [] → Q (.ref a) H) ∧ (xs ≠ [] → ys ≠ [] → ∀ p o, H p = none → o.dict = none → Q (.ref p) (upd H p (.frz o (.tup (xs ++ ys)))))
theorem op_catF : OpR X (binaryOp .Add) (rCatF X.K) := by
  intro pins s σ H x y v u Q I rx ry h
  obtain ⟨a, b, xs, ys, rfl, rfl, ha, hb, hz, q0, q1, q2⟩ := h
  by_cases hx : xs = []
  · subst hx
    exact op_catA pins s σ H _ _ v u Q I rx ry ⟨a, b, [], ys, rfl, rfl, ha, hb, hz, q0, fun z => absurd rfl z, fun z => absurd rfl z⟩
  cases rx
  cases ry
  obtain ⟨ua, ra, pa, _⟩ := I.tuple ha
  obtain ⟨ub, rb, pb, _⟩ := I.tuple hb
  refine HT.cat_tup pa pb (fun z => hx (ra.nil_iff.mp z)) (fun z => ⟨.ref a, H, I, rfl, q1 hx (rb.nil_iff.mp z)⟩) (fun z => ?_) (by rw [← ra.length, ← rb.length]; exact hz)
  have new := I.hok.fresh (Nat.le_refl s.heap.objs.size)
  refine ⟨.ref s.heap.objs.size, _, I.laid (t' := s.toks) (o := .frz _ (.tup (xs ++ ys))) (fun b ob q => Heap.get?_push_of_some _ q) (Nat.le_refl _) ⟨Heap.get?_push_size _ rfl, ?_⟩, rfl, q2 hx (fun w => z (rb.nil_iff.mpr w)) _ _ new rfl⟩
  exact ⟨by rw [List.length_append]; exact hz, _, ra.append rb, IsTup.new _ _⟩
theorem sem_addT : OpSem X (rCatF X.K) addT := by
  intro fm Xs os s σ H d1 d2 d v1 v2 Q R p1 p2 e q
  cases d1 <;> cases d2 <;> simp [addT] at e
  rename_i a b
  obtain ⟨hl, e⟩ := e
  subst e
  obtain ⟨x, xs, e1, t1, r1⟩ := p1.tuple
  obtain ⟨y, ys, e2, t2, r2⟩ := p2.tuple
  subst e1 e2
  refine ⟨x, y, xs, ys, rfl, rfl, t1, t2, by rw [r1.len, r2.len]; exact hl, fun h => ?_, fun h h' => ?_, fun _ _ p o hp hd => ?_⟩
  · subst h
    have ea : a = [] := List.eq_nil_of_length_eq_zero r1.len.symm
    subst ea
    exact q _ H R (Stay.refl _ _) p2.tup
  · subst h'
    have eb : b = [] := List.eq_nil_of_length_eq_zero r2.len.symm
    subst eb
    rw [List.append_nil] at q
    exact q _ H R (Stay.refl _ _) p1.tup
  · exact q _ _ (R.laid hp) (Stay.laid hp) (rp_newF hp (R.nx hp) hd (r1.app r2))
/-! ### new lists by an operator -/
def OpSemL (X : Cx) (r : R2) (f : D → D → Option (List D)) : Prop :=
  ∀ (fm : Fm) (Xs : List Addr) (os : List (Nat × Addr)) (s : Ms) (σ : L2.St) (H : Hp) (d1 d2 : D) (ds : List D) (v1 v2 : V) (Q : VK), Rel X.K fm Xs os s σ H → RpB X.K H Xs os d1 v1 → RpB X.K H Xs os d2 v2 → f d1 d2 = some ds →
    (∀ p vs, H p = none → RpA X.K H Xs ds vs → Q (.ref p) (upd H p (.lst vs))) → r v1 v2 H Q
theorem sem_addL : OpSemL X rCat addL := by
  intro fm Xs os s σ H d1 d2 ds v1 v2 Q R p1 p2 e q
  cases d1 <;> cases d2 <;> simp [addL] at e
  obtain ⟨hl, e⟩ := e
  subst e
  obtain ⟨x, xs, e1, t1, r1⟩ := p1.list
  obtain ⟨y, ys, e2, t2, r2⟩ := p2.list
  subst e1 e2
  exact ⟨x, y, xs, ys, rfl, rfl, t1, t2, by rw [r1.len, r2.len]; exact hl, fun p hp => q p _ hp (r1.app r2)⟩
def repL : D → D → Option (List D)
  | .list a, .int k => if 0 ≤ k ∧ k ≤ 1000 ∧ a.length * k.toNat ≤ sizeLine then some (List.replicate k.toNat a).flatten else none
  | _, _ => none
theorem RpA.rep {K : Fr} {H : Hp} {Xs : List Addr} {ds : List D} {vs : List V} (h : RpA K H Xs ds vs) : ∀ n : Nat, RpA K H Xs (List.replicate n ds).flatten (List.replicate n vs).flatten
  | 0 => by simp [RpA]
  | n + 1 => by
    rw [List.replicate_succ, List.replicate_succ, List.flatten_cons, List.flatten_cons]
    exact h.app (RpA.rep h n)
theorem sem_repL : OpSemL X rRep repL := by
  intro fm Xs os s σ H d1 d2 ds v1 v2 Q R p1 p2 e q
  cases d1 <;> cases d2 <;> simp [repL] at e
  obtain ⟨⟨h0, h1, hl⟩, e⟩ := e
  subst e
  obtain ⟨x, xs, e1, t1, r1⟩ := p1.list
  have e2 := p2.int
  subst e1 e2
  exact ⟨x, _, xs, rfl, rfl, t1, by omega, by omega, by rw [r1.len]; exact hl, fun p hp => q p _ hp (r1.rep _)⟩
def evBinL (f : D → D → Option (List D)) (a b : Ev) : Evs := fun s => (a s).bind fun x s1 => (b s1).bind fun y s2 => toOut (f x y) s2
theorem sf_bin {cl : Nat → Addr} {W : WX} {m : Bool} {op : Operator} {r : R2} {f : D → D → Option (List D)} {ea eb : Expr} {a b : Ev} {pos} (ho : OpR X (binaryOp op) r) (hs : OpSemL X r f) (ha : SB cl X W m ea a) (hb : SB cl X W true eb b) : SF cl X W m (.BinOp ea op eb pos) (evBinL f a b) :=
  pe_imp (pe_op ho ha hb) fun σ H Q ⟨fm, Xs, os, s, R, g⟩ => by
    unfold evBinL at g
    refine ⟨fm, Xs, os, s, R, ?_⟩
    cases q : a s with
    | ok x s1 =>
      rw [q] at g
      simp only [Out.bind_ok] at g
      refine fun v1 H1 r1 st1 p1 => ⟨fm, Xs, os, s1, r1, ?_⟩
      cases q2 : b s1 with
      | ok y s2 =>
        rw [q2] at g
        simp only [Out.bind_ok] at g
        refine fun v2 H2 r2 st2 p2 => ?_
        cases q3 : f x y with
        | some d =>
          rw [q3] at g
          exact hs fm Xs os s2 σ H2 x y d v1 v2 Q r2 (p1.still r1 st2) p2 q3 fun p vs hp ra => useF g r2 (st1.trans (st2.more Mu.still)) hp ra
        | none => rw [q3] at g; exact g.elim
      | exc c t s2 => rw [q2] at g; exact g
      | no => rw [q2] at g; exact g.elim
    | exc c t s1 => rw [q] at g; exact g
    | no => rw [q] at g; exact g.elim
/-! ### the other operators of whole numbers -/
def subI : D → D → Option D
  | .int a, .int b => some (.int (a - b))
  | _, _ => none
def mulI : D → D → Option D
  | .int a, .int b => if (-(2 ^ 64) < a ∧ a < 2 ^ 64) ∨ (-(2 ^ 64) < b ∧ b < 2 ^ 64) then some (.int (a * b)) else none
  | _, _ => none
def modI : D → D → Option D
  | .int a, .int b => if 0 < b then some (.int (a % b)) else none
  | _, _ => none
def fdivI : D → D → Option D
  | .int a, .int b => if 0 < b ∧ b < 1073741824 then some (.int (a / b)) else none
  | _, _ => none
def powI : D → D → Option D
  | .int a, .int b => if 0 ≤ b ∧ b ≤ 1000000 ∧ a.natAbs < 2 ^ 64 then some (.int (a ^ b.toNat)) else none
  | _, _ => none
theorem sem_subI : OpSem X (rI0 fun i j => .int (i - j)) subI := by
  intro fm Xs os s σ H d1 d2 d v1 v2 Q R p1 p2 e q
  cases d1 <;> cases d2 <;> simp [subI] at e
  subst e
  exact ⟨_, _, p1.int, p2.int, q _ H R (Stay.refl _ _) rfl⟩
theorem sem_mulI : OpSem X (rI CMul fun i j => .int (i * j)) mulI := by
  intro fm Xs os s σ H d1 d2 d v1 v2 Q R p1 p2 e q
  cases d1 <;> cases d2 <;> simp only [mulI] at e <;> try cases e
  split at e <;> cases e
  rename_i h
  exact ⟨_, _, p1.int, p2.int, h, q _ H R (Stay.refl _ _) rfl⟩
theorem sem_modI : OpSem X (rI (fun _ j => 0 < j) fun i j => .int (i % j)) modI := by
  intro fm Xs os s σ H d1 d2 d v1 v2 Q R p1 p2 e q
  cases d1 <;> cases d2 <;> simp only [modI] at e <;> try cases e
  split at e <;> cases e
  rename_i h
  exact ⟨_, _, p1.int, p2.int, h, q _ H R (Stay.refl _ _) rfl⟩
theorem sem_fdivI : OpSem X (rI CDiv fun i j => .int (i / j)) fdivI := by
  intro fm Xs os s σ H d1 d2 d v1 v2 Q R p1 p2 e q
  cases d1 <;> cases d2 <;> simp only [fdivI] at e <;> try cases e
  split at e <;> cases e
  rename_i h
  exact ⟨_, _, p1.int, p2.int, h, q _ H R (Stay.refl _ _) rfl⟩
theorem sem_powI : OpSem X (rI CPow fun i j => .int (i ^ j.toNat)) powI := by
  intro fm Xs os s σ H d1 d2 d v1 v2 Q R p1 p2 e q
  cases d1 <;> cases d2 <;> simp only [powI] at e <;> try cases e
  split at e <;> cases e
  rename_i h
  exact ⟨_, _, p1.int, p2.int, h, q _ H R (Stay.refl _ _) rfl⟩
/-! ### comparisons -/
def cmpI (f : Int → Int → Bool) : D → D → Option D
  | .int a, .int b => some (.bool (f a b))
  | _, _ => none
theorem sem_cmpI (f : Int → Int → Bool) : OpSem X (rI0 fun i j => .bl (f i j)) (cmpI f) := by
  intro fm Xs os s σ H d1 d2 d v1 v2 Q R p1 p2 e q
  cases d1 <;> cases d2 <;> simp [cmpI] at e
  subst e
  exact ⟨_, _, p1.int, p2.int, q _ H R (Stay.refl _ _) rfl⟩
def ltS : D → D → Option D
  | .str a, .str b => some (.bool (decide (a.cps.toList < b.cps.toList)))
  | _, _ => none
theorem sem_ltS : OpSem X (fun x y H Q => ∃ i j, x = .str i ∧ y = .str j ∧ Q (.bl (decide (i.cps.toList < j.cps.toList))) H) ltS := by
  intro fm Xs os s σ H d1 d2 d v1 v2 Q R p1 p2 e q
  cases d1 <;> cases d2 <;> simp only [ltS] at e <;> cases e
  exact ⟨_, _, p1.str, p2.str, q _ H R (Stay.refl _ _) rfl⟩
mutual
theorem Rp.dp {K : Fr} {H : Hp} {Xs : List Addr} : ∀ (d : D) (v : V), Rp K H Xs d v → d.canLay0 = true → Dp K H v d
  | .none, _, h, _ => by cases h; exact .non
  | .bool b, _, h, _ => by cases h; exact .bl b
  | .int i, _, h, _ => by cases h; exact .int i
  | .str x, _, h, _ => by cases h; exact .str x
  | .list ds, _, h, c => by
    obtain ⟨a, vs, e, f, r⟩ := h
    subst e
    exact .lst (SqL.of f.1) (RpA.dp ds vs r (by simpa [PyData.canLay0] using c))
  | .tuple ds, _, h, c => by
    obtain ⟨a, vs, e, f, r⟩ := h
    subst e
    exact .tup f.sq (RpA.dp ds vs r (by simpa [PyData.canLay0] using c))
  | .dict es, _, h, c => by simp [PyData.canLay0] at c
theorem RpA.dp {K : Fr} {H : Hp} {Xs : List Addr} : ∀ (ds : List D) (vs : List V), RpA K H Xs ds vs → PyData.canLayAll0 ds = true → DpAll K H vs ds
  | [], _, h, _ => by cases h; exact .nil
  | d :: ds, _, h, c => by
    obtain ⟨v, r, e, p, q⟩ := h
    subst e
    simp only [PyData.canLayAll0, Bool.and_eq_true] at c
    exact .cons (Rp.dp d v p c.1) (RpA.dp ds r q c.2)
end
theorem RpB.dp {K : Fr} {H : Hp} {Xs : List Addr} {os : List (Nat × Addr)} {d : D} {v : V} (h : RpB K H Xs os d v) (c : d.canLay0 = true) : Dp K H v d := by
  rcases h with h | ⟨i, a, vs, ds, e, ev, _, ha, r⟩
  · exact Rp.dp d v h c
  · subst e ev
    exact .lst (SqL.of ha) (RpA.dp ds vs r (by simpa [PyData.canLay0] using c))
def eqD (a b : D) : Option D := if SeqAt.shaped a = true ∧ SeqAt.shaped b = true then some (.bool (PyData.eqv a b)) else none
def neD (a b : D) : Option D := if SeqAt.shaped a = true ∧ SeqAt.shaped b = true then some (.bool (!PyData.eqv a b)) else none
theorem sem_eqD : OpSem X (rEqD X.K) eqD := by
  intro fm Xs os s σ H d1 d2 d v1 v2 Q R p1 p2 e q
  unfold eqD at e
  split at e <;> cases e
  rename_i h
  exact ⟨d1, d2, p1.dp (SeqAt.canLay_of_shaped h.1), p2.dp (SeqAt.canLay_of_shaped h.2), h.1, h.2, q _ H R (Stay.refl _ _) rfl⟩
theorem sem_neD : OpSem X (rNeD X.K) neD := by
  intro fm Xs os s σ H d1 d2 d v1 v2 Q R p1 p2 e q
  unfold neD at e
  split at e <;> cases e
  rename_i h
  exact ⟨d1, d2, p1.dp (SeqAt.canLay_of_shaped h.1), p2.dp (SeqAt.canLay_of_shaped h.2), h.1, h.2, q _ H R (Stay.refl _ _) rfl⟩
def isNone : D → Bool
  | .none => true
  | _ => false
def isN : D → D → Option D
  | a, .none => some (.bool (isNone a))
  | _, _ => none
def isNotN : D → D → Option D
  | a, .none => some (.bool (!isNone a))
  | _, _ => none
theorem rp_none_iff {K : Fr} {H : Hp} {Xs : List Addr} {os : List (Nat × Addr)} {d : D} {v : V} (h : RpB K H Xs os d v) : decide (v = .non) = isNone d := by
  rcases h with h | ⟨i, a, vs, ds, e, ev, _, ha, r⟩
  · cases d with
    | none => cases h; rfl
    | bool b => cases h; rfl
    | int b => cases h; rfl
    | str b => cases h; rfl
    | list b => obtain ⟨a, vs, e, _⟩ := h; subst e; rfl
    | tuple b => obtain ⟨a, vs, e, _⟩ := h; subst e; rfl
    | dict b => obtain ⟨a, vs, e, _⟩ := h; subst e; rfl
  · subst e ev; rfl
theorem sem_isN : OpSem X (fun x y H Q => y = .non ∧ Q (.bl (decide (x = .non))) H) isN := by
  intro fm Xs os s σ H d1 d2 d v1 v2 Q R p1 p2 e q
  cases d2 <;> simp only [isN] at e <;> cases e
  refine ⟨p2.none, ?_⟩
  rw [rp_none_iff p1]
  exact q _ H R (Stay.refl _ _) rfl
theorem sem_isNotN : OpSem X (fun x y H Q => y = .non ∧ Q (.bl (!decide (x = .non))) H) isNotN := by
  intro fm Xs os s σ H d1 d2 d v1 v2 Q R p1 p2 e q
  cases d2 <;> simp only [isNotN] at e <;> cases e
  refine ⟨p2.none, ?_⟩
  rw [rp_none_iff p1]
  exact q _ H R (Stay.refl _ _) rfl
/-! ### in -/
def flatD : D → Bool
  | .none | .bool _ | .int _ | .str _ => true
  | _ => false
def eqFlat : D → D → Bool
  | .none, .none => true
  | .bool a, .bool b => a == b
  | .bool a, .int b => (if a then 1 else 0) == b
  | .int a, .bool b => a == (if b then 1 else 0)
  | .int a, .int b => a == b
  | .str a, .str b => a == b
  | _, _ => false
def inItems (x : D) (ys : List D) : Option Bool := if flatD x = true ∧ ys.all flatD = true then some (ys.any fun y => eqFlat y x) else none
def inSeq (neg : Bool) : D → D → Option D
  | x, .list ys => (inItems x ys).map fun b => .bool (if neg then !b else b)
  | x, .tuple ys => (inItems x ys).map fun b => .bool (if neg then !b else b)
  | _, _ => none
theorem flat_rp {K : Fr} {H : Hp} {Xs : List Addr} {d : D} {v : V} (h : Rp K H Xs d v) (f : flatD d = true) : flatV v = true := by
  cases d <;> simp [flatD] at f <;> cases h <;> rfl
theorem eqFlat_rp {K : Fr} {H : Hp} {Xs : List Addr} {d e : D} {v w : V} (h : Rp K H Xs d v) (k : Rp K H Xs e w) (f : flatD d = true) (g : flatD e = true) : eqV v w = eqFlat d e := by
  cases d <;> simp [flatD] at f <;> cases h <;> cases e <;> simp [flatD] at g <;> cases k <;> rfl
theorem flatAll_rp {K : Fr} {H : Hp} {Xs : List Addr} : ∀ {ds : List D} {vs : List V}, RpA K H Xs ds vs → ds.all flatD = true → vs.all flatV = true
  | [], _, h, _ => by cases h; rfl
  | d :: ds, _, h, f => by
    obtain ⟨v, r, e, p, q⟩ := h
    subst e
    simp only [List.all_cons, Bool.and_eq_true] at f ⊢
    exact ⟨flat_rp p f.1, flatAll_rp q f.2⟩
theorem inV_rp {K : Fr} {H : Hp} {Xs : List Addr} {x : D} {w : V} (hx : Rp K H Xs x w) (fx : flatD x = true) : ∀ {ds : List D} {vs : List V}, RpA K H Xs ds vs → ds.all flatD = true → inV w vs = ds.any fun y => eqFlat y x
  | [], _, h, _ => by cases h; rfl
  | d :: ds, _, h, f => by
    obtain ⟨v, r, e, p, q⟩ := h
    subst e
    simp only [List.all_cons, Bool.and_eq_true] at f
    have ih := inV_rp hx fx q f.2
    unfold inV at ih ⊢
    rw [List.any_cons, List.any_cons, ih, eqFlat_rp p hx f.1 fx]
theorem RpB.flat {K : Fr} {H : Hp} {Xs : List Addr} {os : List (Nat × Addr)} {d : D} {v : V} (h : RpB K H Xs os d v) (f : flatD d = true) : Rp K H Xs d v := by
  rcases h with h | ⟨_, _, _, _, e, _⟩
  · exact h
  · subst e; simp [flatD] at f
theorem sem_inSeq (neg : Bool) : OpSem X (rIn X.K neg) (inSeq neg) := by
  intro fm Xs os s σ H d1 d2 d v1 v2 Q R p1 p2 e q
  have key : ∀ (p : Addr) (vs : List V) (ys : List D), v2 = .ref p → (SqL X.K H p vs ∨ SqT X.K H p vs) → RpA X.K H Xs ys vs → (inItems d1 ys).map (fun b => PyData.bool (if neg then !b else b)) = some d → rIn X.K neg v1 v2 H Q := fun p vs ys ev sq r e => by
    obtain ⟨b, e1, e2⟩ := Option.map_eq_some_iff.mp e
    unfold inItems at e1
    split at e1
    · rename_i h
      cases e1
      subst e2
      refine ⟨p, vs, ev, sq, flat_rp (p1.flat h.1) h.1, flatAll_rp r h.2, ?_⟩
      rw [inV_rp (p1.flat h.1) h.1 r h.2]
      refine q _ H R (Stay.refl _ _) ?_
      cases neg <;> rfl
    · cases e1
  cases d2 with
  | list ys =>
    obtain ⟨p, vs, ev, ha, r⟩ := p2.list
    exact key p vs ys ev (.inl (SqL.of ha)) r e
  | tuple ys =>
    obtain ⟨p, vs, ev, ha, r⟩ := p2.tuple
    exact key p vs ys ev (.inr ha) r e
  | _ => simp [inSeq] at e
/-- one sign in a text -/
def inSign (neg : Bool) : D → D → Option D
  | .str x, .str z => match x.cps.toList with
    | [c] => some (.bool (if neg then !decide (c ∈ z.cps.toList) else decide (c ∈ z.cps.toList)))
    | _ => none
  | _, _ => none
theorem str_one {x : Str} {c : Nat} (h : x.cps.toList = [c]) : x = ⟨#[c]⟩ := by
  obtain ⟨a⟩ := x
  congr 1
  exact Array.ext' h
theorem sem_inSign : OpSem X (fun x y H Q => ∃ (c : Nat) (z : Str), x = .str ⟨#[c]⟩ ∧ y = .str z ∧ Q (.bl (decide (c ∈ z.cps.toList))) H) (inSign false) := by
  intro fm Xs os s σ H d1 d2 d v1 v2 Q R p1 p2 e q
  cases d1 <;> cases d2 <;> simp only [inSign] at e <;> try cases e
  split at e
  · rename_i c hc
    cases e
    refine ⟨c, _, ?_, p2.str, q _ H R (Stay.refl _ _) rfl⟩
    rw [← str_one hc]; exact p1.str
  · cases e
theorem sem_notInSign : OpSem X (fun x y H Q => ∃ (c : Nat) (z : Str), x = .str ⟨#[c]⟩ ∧ y = .str z ∧ Q (.bl (!decide (c ∈ z.cps.toList))) H) (inSign true) := by
  intro fm Xs os s σ H d1 d2 d v1 v2 Q R p1 p2 e q
  cases d1 <;> cases d2 <;> simp only [inSign] at e <;> try cases e
  split at e
  · rename_i c hc
    cases e
    refine ⟨c, _, ?_, p2.str, q _ H R (Stay.refl _ _) rfl⟩
    rw [← str_one hc]; exact p1.str
  · cases e
/-! ### a[i] -/
def ixD : D → D → Option D
  | .list xs, .int i => atI xs i
  | .tuple xs, .int i => atI xs i
  | .str z, .int i => if z.length ≤ sizeLine then (atI z.cps.toList i).map fun c => .str ⟨#[c]⟩ else none
  | _, _ => none
theorem RpA.at {K : Fr} {H : Hp} {Xs : List Addr} {ds : List D} {vs : List V} {i : Int} {d : D} (h : RpA K H Xs ds vs) (e : atI ds i = some d) : ∃ v, atI vs i = some v ∧ Rp K H Xs d v := by
  unfold atI at e ⊢
  rw [h.len]
  cases q : ixN ds.length i with
  | none => rw [q] at e; cases e
  | some j =>
    rw [q] at e
    exact h.get e
theorem sem_ix : OpSem X (rIx X.K) ixD := by
  intro fm Xs os s σ H d1 d2 d v1 v2 Q R p1 p2 e q
  cases d2 with
  | int i =>
    cases d1 with
    | list ds =>
      simp only [ixD] at e
      obtain ⟨x, xs, e1, t1, r1⟩ := p1.list
      obtain ⟨v, ev, rv⟩ := r1.at e
      exact .inl ⟨x, xs, _, v, e1, p2.int, SqL.of t1, ev, q v H R (Stay.refl _ _) rv⟩
    | tuple ds =>
      simp only [ixD] at e
      obtain ⟨x, xs, e1, t1, r1⟩ := p1.tuple
      obtain ⟨v, ev, rv⟩ := r1.at e
      exact .inr (.inl ⟨x, xs, _, v, e1, p2.int, t1, ev, q v H R (Stay.refl _ _) rv⟩)
    | str z =>
      simp only [ixD] at e
      split at e
      · rename_i hl
        obtain ⟨c, e1, e2⟩ := Option.map_eq_some_iff.mp e
        subst e2
        exact .inr (.inr ⟨z, i, c, p1.str, p2.int, hl, e1, q _ H R (Stay.refl _ _) rfl⟩)
      · cases e
    | _ => simp [ixD] at e
  | _ => cases d1 <;> simp [ixD] at e
theorem se_ix {cl : Nat → Addr} {W : WX} {m : Bool} {ea eb : Expr} {a b : Ev} {pos} (ha : SB cl X W m ea a) (hb : SB cl X W true eb b) (hs : PlainIx eb := by exact fun _ _ => rfl) : SE cl X W m (.Subscript ea eb pos) (evBin ixD a b) :=
  pe_imp (pe_ix ix_seq ha hb hs) fun _ _ _ h => tOp_sem rfl sem_ix h
end
end Zo
/-! ZE: slices, built-ins by name, calls of defs. -/
namespace Zo
open PySem PySem.Spec PyProof.Rows L2
/-! ### slices -/
def cutL {α : Type} (xs : List α) (lo hi : Option Int) : List α := (xs.drop (HT.sIx xs.length 0 lo)).take (HT.sIx xs.length xs.length hi - HT.sIx xs.length 0 lo)
theorem RpA.cut {K : Fr} {H : Hp} {Xs : List Addr} {ds : List D} {vs : List V} (h : RpA K H Xs ds vs) (lo hi : Option Int) : RpA K H Xs (cutL ds lo hi) (cutV vs lo hi) := by
  unfold cutL cutV
  rw [h.len]
  exact (h.drop _).take _
abbrev Pt := Ms → Out (Option Int)
def ptNo : Pt := fun s => .ok none s
def asInt : D → Option Int
  | .int i => some i
  | _ => none
theorem asInt_some {d : D} {i : Int} (h : asInt d = some i) : d = .int i := by
  cases d <;> simp [asInt] at h
  rw [h]
def ptOf (a : Ev) : Pt := fun s => (a s).bind fun d s1 => match asInt d with
  | some i => .ok (some i) s1
  | none => .no
section
variable (K : Fr) (cl : Nat → Addr) (W : WX) (m : Bool)
def GoodP (fm : Fm) (X : List Addr) (os : List (Nat × Addr)) (σ : L2.St) (H : Hp) (Q : Option Int → Hp → Prop) : Out (Option Int) → Prop
  | .ok b s' => ∀ H', Rel K fm X os s' σ H' → Stay (Mu fm.dka os m) H H' → Q b H'
  | .exc c t s' => Wish K cl W fm X os σ c t s'
  | .no => False
def tP (ev : Pt) : TO := fun σ H Q => ∃ fm X os s, Rel K fm X os s σ H ∧ GoodP K cl W m fm X os σ H Q (ev s)
end
abbrev SP (cl : Nat → Addr) (X : Cx) (W : WX) (m : Bool) (e : Option Expr) (ev : Pt) : Prop := PO X e (tP X.K cl W m ev)
section
variable {cl : Nat → Addr} {X : Cx} {W : WX} {m : Bool} {e : Expr} {ev : Ev}
theorem po_imp {eo : Option Expr} {t t' : TO} (h : PO X eo t) (i : ∀ σ H Q, t' σ H Q → t σ H Q) : PO X eo t' := ⟨fun pins s σ H Q I q => h.run pins s σ H Q I (i σ H Q q)⟩
theorem sp_none : SP cl X W m none ptNo := po_imp po_none fun σ H Q ⟨fm, Xs, os, s, r, g⟩ => g H r (Stay.refl _ _)
theorem sp_some (h : SB cl X W m e ev) : SP cl X W m (some e) (ptOf ev) := po_imp (po_some h) fun σ H Q ⟨fm, Xs, os, s, r, g⟩ => by
  unfold ptOf at g
  refine ⟨fm, Xs, os, s, r, ?_⟩
  cases q : ev s with
  | ok d s1 =>
    rw [q] at g
    simp only [Out.bind_ok] at g
    cases q2 : asInt d with
    | some i =>
      rw [q2] at g
      have e2 := asInt_some q2
      subst e2
      exact fun v H1 r1 st1 p1 => ⟨i, p1.int, g H1 r1 st1⟩
    | none => rw [q2] at g; exact g.elim
  | exc c t s1 => rw [q] at g; exact g
  | no => rw [q] at g; exact g.elim
/-- what a slice of a tuple or a text is -/
def slD : D → Option Int → Option Int → Option D
  | .tuple xs, lo, hi => some (.tuple (cutL xs lo hi))
  | .str z, lo, hi => if z.length ≤ sizeLine then some (.str (cutS z lo hi)) else none
  | _, _, _ => none
def slL : D → Option Int → Option Int → Option (List D)
  | .list xs, lo, hi => some (cutL xs lo hi)
  | _, _, _ => none
def evSl (a : Ev) (lo hi : Pt) : Ev := fun s => (a s).bind fun x s1 => (lo s1).bind fun l s2 => (hi s2).bind fun u s3 => toOut (slD x l u) s3
def evSlL (a : Ev) (lo hi : Pt) : Evs := fun s => (a s).bind fun x s1 => (lo s1).bind fun l s2 => (hi s2).bind fun u s3 => toOut (slL x l u) s3
/-- t[lo:hi] -/
def rSlF (K : Fr) : V → Option Int → Option Int → Hp → VK → Prop := fun x lo hi H Q => ∃ a xs, x = .ref a ∧ SqT K H a xs ∧
  (HT.sIx xs.length 0 lo = 0 ∧ HT.sIx xs.length xs.length hi = xs.length → Q (.ref a) H) ∧ (¬ (HT.sIx xs.length 0 lo = 0 ∧ HT.sIx xs.length xs.length hi = xs.length) → ∀ p o, H p = none → o.dict = none → Q (.ref p) (upd H p (.frz o (.tup (cutV xs lo hi)))))
theorem sl_tupF : SlR X (rSlF X.K) := by
  intro pins s σ H x v vl vu lo hi sl Q I rx hs pl pu h
  obtain ⟨a, xs, rfl, hx, q1, q2⟩ := h
  by_cases hw : HT.sIx xs.length 0 lo = 0 ∧ HT.sIx xs.length xs.length hi = xs.length
  · exact sl_tupA pins s σ H _ v vl vu lo hi sl Q I rx hs pl pu ⟨a, xs, rfl, hx, q1, fun z => absurd hw z⟩
  cases rx
  obtain ⟨its, r, ht, hz⟩ := I.tuple hx
  have hlen : its.toArray.size = xs.length := by rw [List.size_toArray]; exact r.length.symm
  refine ⟨"tuple", _, PyProof.Rows.slot_tuple_getitem.lookup, ht.typeIs, ?_⟩
  refine HT.getItem_tuple_cut ht hs pl pu (by rw [hlen]; exact hw) ?_ (by rw [hlen]; exact hz)
  rw [hlen]
  have new := I.hok.fresh (Nat.le_refl s.heap.objs.size)
  refine ⟨.ref s.heap.objs.size, _, I.laid (t' := s.toks) (o := .frz _ (.tup (cutV xs lo hi))) (fun b ob q => Heap.get?_push_of_some _ q) (Nat.le_refl _) ⟨Heap.get?_push_size _ rfl, ?_⟩, rfl, q2 hw _ _ new rfl⟩
  exact ⟨Nat.le_trans (cutV_length xs lo hi) hz, _, (r.drop (HT.sIx xs.length 0 lo)).take (HT.sIx xs.length xs.length hi - HT.sIx xs.length 0 lo), IsTup.new _ _⟩
theorem se_slice {lo hi : Option Expr} {pl pu : Pt} {p2 pos} (h : SB cl X W m e ev) (hl : SP cl X W true lo pl) (hu : SP cl X W true hi pu) : SE cl X W m (.Subscript e (.Slice lo hi none p2) pos) (evSl ev pl pu) :=
  pe_imp (pe_slice (sl_tupF.or sl_str) h hl hu) fun σ H Q ⟨fm, Xs, os, s, R, g⟩ => by
    unfold evSl at g
    refine ⟨fm, Xs, os, s, R, ?_⟩
    cases q : ev s with
    | ok x s1 =>
      rw [q] at g
      simp only [Out.bind_ok] at g
      refine fun v1 H1 r1 st1 p1 => ⟨fm, Xs, os, s1, r1, ?_⟩
      cases q2 : pl s1 with
      | ok l s2 =>
        rw [q2] at g
        simp only [Out.bind_ok] at g
        refine fun H2 r2 st2 => ⟨fm, Xs, os, s2, r2, ?_⟩
        cases q3 : pu s2 with
        | ok u s3 =>
          rw [q3] at g
          simp only [Out.bind_ok] at g
          refine fun H3 r3 st3 => ?_
          have p3 := (p1.still r1 st2).still r2 st3
          have st := st1.trans ((st2.more Mu.still).trans (st3.more Mu.still))
          cases x with
          | tuple xs =>
            simp only [slD, toOut_some] at g
            obtain ⟨a, vs, ev, ha, ra⟩ := p3.tuple
            subst ev
            refine .inl ⟨a, vs, rfl, ha, fun hw => ?_, fun hw p o hp hd => ?_⟩
            · have e0 : cutL xs l u = xs := by
                obtain ⟨h1, h2⟩ := hw
                rw [ra.len] at h1 h2
                unfold cutL
                rw [h1, h2]
                simp
              rw [e0] at g
              exact g _ H3 r3 st p3.tup
            · exact g _ _ (r3.laid hp) (st.trans (Stay.laid hp)) (rp_newF hp (r3.nx hp) hd (ra.cut l u))
          | str z =>
            simp only [slD] at g
            split at g
            · rename_i hz
              exact .inr ⟨z, p3.str, hz, g _ H3 r3 st rfl⟩
            · exact g.elim
          | _ => exact g.elim
        | exc c t s3 => rw [q3] at g; exact g
        | no => rw [q3] at g; exact g.elim
      | exc c t s2 => rw [q2] at g; exact g
      | no => rw [q2] at g; exact g.elim
    | exc c t s1 => rw [q] at g; exact g
    | no => rw [q] at g; exact g.elim
theorem sf_slice {lo hi : Option Expr} {pl pu : Pt} {p2 pos} (h : SB cl X W m e ev) (hl : SP cl X W true lo pl) (hu : SP cl X W true hi pu) : SF cl X W m (.Subscript e (.Slice lo hi none p2) pos) (evSlL ev pl pu) :=
  pe_imp (pe_slice sl_list h hl hu) fun σ H Q ⟨fm, Xs, os, s, R, g⟩ => by
    unfold evSlL at g
    refine ⟨fm, Xs, os, s, R, ?_⟩
    cases q : ev s with
    | ok x s1 =>
      rw [q] at g
      simp only [Out.bind_ok] at g
      refine fun v1 H1 r1 st1 p1 => ⟨fm, Xs, os, s1, r1, ?_⟩
      cases q2 : pl s1 with
      | ok l s2 =>
        rw [q2] at g
        simp only [Out.bind_ok] at g
        refine fun H2 r2 st2 => ⟨fm, Xs, os, s2, r2, ?_⟩
        cases q3 : pu s2 with
        | ok u s3 =>
          rw [q3] at g
          simp only [Out.bind_ok] at g
          refine fun H3 r3 st3 => ?_
          have p3 := (p1.still r1 st2).still r2 st3
          have st := st1.trans ((st2.more Mu.still).trans (st3.more Mu.still))
          cases x with
          | list xs =>
            simp only [slL, toOut_some] at g
            obtain ⟨a, vs, ev, ha, ra⟩ := p3.list
            subst ev
            exact ⟨a, vs, rfl, SqL.of ha, fun p hp => useF g r3 st hp (ra.cut l u)⟩
          | _ => exact g.elim
        | exc c t s3 => rw [q3] at g; exact g
        | no => rw [q3] at g; exact g.elim
      | exc c t s2 => rw [q2] at g; exact g
      | no => rw [q2] at g; exact g.elim
    | exc c t s1 => rw [q] at g; exact g
    | no => rw [q] at g; exact g.elim
/-! ### a built-in of one value -/
def CallSem (X : Cx) (r : List V → Hp → VK → Prop) (f : D → Option D) : Prop :=
  ∀ (fm : Fm) (Xs : List Addr) (os : List (Nat × Addr)) (s : Ms) (σ : L2.St) (H : Hp) (d d' : D) (v : V) (Q : VK), Rel X.K fm Xs os s σ H → RpB X.K H Xs os d v → f d = some d' →
    (∀ v' H', Rel X.K fm Xs os s σ H' → Stay [] H H' → Rp X.K H' Xs d' v' → Q v' H') → r [v] H Q
def CallSemL (X : Cx) (r : List V → Hp → VK → Prop) (f : D → Option (List D)) : Prop :=
  ∀ (fm : Fm) (Xs : List Addr) (os : List (Nat × Addr)) (s : Ms) (σ : L2.St) (H : Hp) (d : D) (ds : List D) (v : V) (Q : VK), Rel X.K fm Xs os s σ H → RpB X.K H Xs os d v → f d = some ds →
    (∀ p vs, H p = none → RpA X.K H Xs ds vs → Q (.ref p) (upd H p (.lst vs))) → r [v] H Q
def ev1 (f : D → Option D) (a : Ev) : Ev := fun s => (a s).bind fun x s1 => toOut (f x) s1
def ev1L (f : D → Option (List D)) (a : Ev) : Evs := fun s => (a s).bind fun x s1 => toOut (f x) s1
theorem tCB_sem {r : List V → Hp → VK → Prop} {f : D → Option D} {a : Ev} (hs : CallSem X r f) {σ : L2.St} {H : Hp} {Q : VK} (h : tE X.K cl W m (ev1 f a) σ H Q) : tCB r (tCons (tB X.K cl W m a) tNil) σ H Q := by
  obtain ⟨fm, Xs, os, s, R, g⟩ := h
  unfold ev1 at g
  refine ⟨fm, Xs, os, s, R, ?_⟩
  cases q : a s with
  | ok x s1 =>
    rw [q] at g
    simp only [Out.bind_ok] at g
    cases q3 : f x with
    | some d => rw [q3] at g; exact fun v1 H1 r1 st1 p1 => hs fm Xs os s1 σ H1 x d v1 Q r1 p1 q3 fun v H3 r3 st3 p3 => g v H3 r3 (st1.trans st3.any) p3
    | none => rw [q3] at g; exact g.elim
  | exc c t s1 => rw [q] at g; exact g
  | no => rw [q] at g; exact g.elim
theorem tCB_semL {r : List V → Hp → VK → Prop} {f : D → Option (List D)} {a : Ev} (hs : CallSemL X r f) {σ : L2.St} {H : Hp} {Q : VK} (h : tF X.K cl W m (ev1L f a) σ H Q) : tCB r (tCons (tB X.K cl W m a) tNil) σ H Q := by
  obtain ⟨fm, Xs, os, s, R, g⟩ := h
  unfold ev1L at g
  refine ⟨fm, Xs, os, s, R, ?_⟩
  cases q : a s with
  | ok x s1 =>
    rw [q] at g
    simp only [Out.bind_ok] at g
    cases q3 : f x with
    | some d => rw [q3] at g; exact fun v1 H1 r1 st1 p1 => hs fm Xs os s1 σ H1 x d v1 Q r1 p1 q3 fun p vs hp ra => useF g r1 st1 hp ra
    | none => rw [q3] at g; exact g.elim
  | exc c t s1 => rw [q] at g; exact g
  | no => rw [q] at g; exact g.elim
theorem se_b {r : List V → Hp → VK → Prop} {f : D → Option D} {x : Str} {id : String} {p pos} (hc : CallR X (.builtin id) r) (hs : CallSem X r f) (hg : Gl X x) (hm : X.mg x = none) (hv : bootBuiltins x = some (.builtin id)) (ha : SB cl X W m e ev)
    (hn : x ≠ "__name__" := by decide) (hdb : (x == ("__debug__" : Str)) = false := by decide) (he : starEach [e] X.env = (false, eval e X.env) :: starEach [] X.env := by rfl) : SE cl X W m (.Call (.Name x p) [e] [] pos) (ev1 f ev) :=
  pe_imp (pe_callB hc hg hm hv (pa_cons ha pa_nil he) hn hdb he) fun _ _ _ h => tCB_sem hs h
theorem se_ty {r : List V → Hp → VK → Prop} {f : D → Option D} {x : Str} {T : String} {p pos} (hc : CallR X (.type T) r) (hs : CallSem X r f) (hg : Gl X x) (hm : X.mg x = none) (hv : bootBuiltins x = some (.type T)) (ha : SB cl X W m e ev)
    (hn : x ≠ "__name__" := by decide) (hdb : (x == ("__debug__" : Str)) = false := by decide) (he : starEach [e] X.env = (false, eval e X.env) :: starEach [] X.env := by rfl) : SE cl X W m (.Call (.Name x p) [e] [] pos) (ev1 f ev) :=
  pe_imp (pe_callTy hc hg hm hv (pa_cons ha pa_nil he) hn hdb he) fun _ _ _ h => tCB_sem hs h
theorem sf_b {r : List V → Hp → VK → Prop} {f : D → Option (List D)} {x : Str} {id : String} {p pos} (hc : CallR X (.builtin id) r) (hs : CallSemL X r f) (hg : Gl X x) (hm : X.mg x = none) (hv : bootBuiltins x = some (.builtin id)) (ha : SB cl X W m e ev)
    (hn : x ≠ "__name__" := by decide) (hdb : (x == ("__debug__" : Str)) = false := by decide) (he : starEach [e] X.env = (false, eval e X.env) :: starEach [] X.env := by rfl) : SF cl X W m (.Call (.Name x p) [e] [] pos) (ev1L f ev) :=
  pe_imp (pe_callB hc hg hm hv (pa_cons ha pa_nil he) hn hdb he) fun _ _ _ h => tCB_semL hs h
theorem sf_ty {r : List V → Hp → VK → Prop} {f : D → Option (List D)} {x : Str} {T : String} {p pos} (hc : CallR X (.type T) r) (hs : CallSemL X r f) (hg : Gl X x) (hm : X.mg x = none) (hv : bootBuiltins x = some (.type T)) (ha : SB cl X W m e ev)
    (hn : x ≠ "__name__" := by decide) (hdb : (x == ("__debug__" : Str)) = false := by decide) (he : starEach [e] X.env = (false, eval e X.env) :: starEach [] X.env := by rfl) : SF cl X W m (.Call (.Name x p) [e] [] pos) (ev1L f ev) :=
  pe_imp (pe_callTy hc hg hm hv (pa_cons ha pa_nil he) hn hdb he) fun _ _ _ h => tCB_semL hs h
/-! ### len, list, tuple, all, any -/
def lenD : D → Option D
  | .list xs => some (.int xs.length)
  | .tuple xs => some (.int xs.length)
  | .str z => if z.length ≤ sizeLine then some (.int z.length) else none
  | _ => none
theorem sem_len : CallSem X (fun xs H Q => ∃ x n, xs = [x] ∧ LenV X.K x H n ∧ Q (.int n) H) lenD := by
  intro fm Xs os s σ H d d' v Q R p e q
  cases d with
  | list xs =>
    cases e
    obtain ⟨a, vs, ev, ha, ra⟩ := p.list
    subst ev
    exact ⟨_, _, rfl, .inl ⟨vs, SqL.of ha, ra.len.symm⟩, q _ H R (Stay.refl _ _) rfl⟩
  | tuple xs =>
    cases e
    obtain ⟨a, vs, ev, ha, ra⟩ := p.tuple
    subst ev
    exact ⟨_, _, rfl, .inr ⟨vs, ha, ra.len.symm⟩, q _ H R (Stay.refl _ _) rfl⟩
  | str z =>
    simp only [lenD] at e
    split at e
    · rename_i hz
      cases e
      have ev := p.str
      subst ev
      exact ⟨_, _, rfl, ⟨hz, rfl⟩, q _ H R (Stay.refl _ _) rfl⟩
    · cases e
  | _ => cases e
def listD : D → Option (List D)
  | .list xs => some xs
  | .tuple xs => some xs
  | _ => none
theorem sem_list : CallSemL X (fun xs H Q => ∃ p ys, xs = [.ref p] ∧ (SqL X.K H p ys ∨ SqT X.K H p ys) ∧ ∀ l, H l = none → Q (.ref l) (upd H l (.lst ys))) listD := by
  intro fm Xs os s σ H d ds v Q R p e q
  cases d with
  | list xs =>
    cases e
    obtain ⟨a, vs, ev, ha, ra⟩ := p.list
    subst ev
    exact ⟨a, vs, rfl, .inl (SqL.of ha), fun l hl => q l vs hl ra⟩
  | tuple xs =>
    cases e
    obtain ⟨a, vs, ev, ha, ra⟩ := p.tuple
    subst ev
    exact ⟨a, vs, rfl, .inr ha, fun l hl => q l vs hl ra⟩
  | _ => cases e
def tupD : D → Option D
  | .list xs => some (.tuple xs)
  | .tuple xs => some (.tuple xs)
  | _ => none
/-- tuple(xs) -/
def rTupF (K : Fr) : List V → Hp → VK → Prop := fun xs H Q => ∃ p ys, xs = [.ref p] ∧ ((SqL K H p ys ∧ ∀ l o, H l = none → o.dict = none → Q (.ref l) (upd H l (.frz o (.tup ys)))) ∨ (SqT K H p ys ∧ Q (.ref p) H))
theorem call_tupF : CallR X (.type "tuple") (rTupF X.K) := by
  intro pins s σ H xs us Q I r h
  obtain ⟨p, ys, rfl, h⟩ := h
  rcases h with ⟨hq, q⟩ | ⟨hq, q⟩
  · obtain ⟨u, rfl, rx⟩ := vals1 r
    cases rx
    obtain ⟨its, r', pl, hz⟩ := I.list hq
    have few := r'.length
    refine call_tuple_list pl.isList (fun h' kp => ?_) (by simp only [List.size_toArray] <;> omega)
    have I1 : Inv X pins σ H { s with heap := h' } := I.kept (t' := s.toks) kp
    have I2 : Inv X pins σ (upd H h'.objs.size (.frz (tupO its) (.tup ys))) { s with heap := h'.push (tupO its) } :=
      I1.laid (t' := s.toks) (fun b o e => Heap.get?_push_of_some _ e) (Nat.le_refl _) (show ObjOk X.prog X.w _ _ _ (.frz (tupO its) (.tup ys)) from ⟨Heap.get?_push_size _ rfl, hz, its, r', IsTup.new _ _⟩)
    exact ⟨.ref h'.objs.size, _, I2, rfl, q _ _ (I1.hok.fresh (Nat.le_refl _)) rfl⟩
  · exact call_tuple_of pins s σ H _ us Q I r ⟨p, ys, rfl, .inr ⟨hq, q⟩⟩
theorem sem_tuple : CallSem X (rTupF X.K) tupD := by
  intro fm Xs os s σ H d d' v Q R p e q
  cases d with
  | list xs =>
    cases e
    obtain ⟨a, vs, ev, ha, ra⟩ := p.list
    subst ev
    exact ⟨a, vs, rfl, .inl ⟨SqL.of ha, fun l o hl hd => q _ _ (R.laid hl) (Stay.laid hl) (rp_newF hl (R.nx hl) hd ra)⟩⟩
  | tuple xs =>
    cases e
    obtain ⟨a, vs, ev, ha, ra⟩ := p.tuple
    subst ev
    exact ⟨a, vs, rfl, .inr ⟨ha, q _ H R (Stay.refl _ _) p.tup⟩⟩
  | _ => cases e
def boolsOf : List D → Option (List Bool)
  | [] => some []
  | d :: ds => match asBool d, boolsOf ds with
    | some b, some bs => some (b :: bs)
    | _, _ => none
theorem boolsOf_rp {K : Fr} {H : Hp} {Xs : List Addr} : ∀ {ds : List D} {vs : List V} {bs : List Bool}, RpA K H Xs ds vs → boolsOf ds = some bs → vs = bs.map V.bl
  | [], _, _, h, e => by cases h; cases e; rfl
  | d :: ds, _, bs, h, e => by
    obtain ⟨v, r, e1, p, q⟩ := h
    subst e1
    unfold boolsOf at e
    cases q1 : asBool d with
    | none => rw [q1] at e; cases e
    | some b =>
      cases q2 : boolsOf ds with
      | none => rw [q1, q2] at e; cases e
      | some bs' =>
        rw [q1, q2] at e
        cases e
        have e3 := asBool_some q1
        subst e3
        have e4 := boolsOf_rp q q2
        subst e4
        have e5 : v = .bl b := p
        subst e5
        rfl
def allD : D → Option D
  | .list xs => (boolsOf xs).map fun bs => .bool (bs.all id)
  | _ => none
def anyD : D → Option D
  | .list xs => (boolsOf xs).map fun bs => .bool (bs.any id)
  | _ => none
theorem sem_all : CallSem X (rAll X.K) allD := by
  intro fm Xs os s σ H d d' v Q R p e q
  cases d with
  | list xs =>
    obtain ⟨bs, e1, e2⟩ := Option.map_eq_some_iff.mp e
    subst e2
    obtain ⟨a, vs, ev, ha, ra⟩ := p.list
    subst ev
    have e3 := boolsOf_rp ra e1
    subst e3
    exact ⟨a, bs, rfl, SqL.of ha, q _ H R (Stay.refl _ _) rfl⟩
  | _ => cases e
theorem sem_any : CallSem X (rAny X.K) anyD := by
  intro fm Xs os s σ H d d' v Q R p e q
  cases d with
  | list xs =>
    obtain ⟨bs, e1, e2⟩ := Option.map_eq_some_iff.mp e
    subst e2
    obtain ⟨a, vs, ev, ha, ra⟩ := p.list
    subst ev
    have e3 := boolsOf_rp ra e1
    subst e3
    exact ⟨a, bs, rfl, SqL.of ha, q _ H R (Stay.refl _ _) rfl⟩
  | _ => cases e
/-! ### isinstance -/
def tyName : D → String
  | .none => "NoneType"
  | .bool _ => "bool"
  | .int _ => "int"
  | .str _ => "str"
  | .list _ => "list"
  | .tuple _ => "tuple"
  | .dict _ => "dict"
def isT (T : String) : D → Bool
  | .none => false
  | .bool _ => T == "bool" || T == "int"
  | .int _ => T == "int"
  | .str _ => T == "str"
  | .list _ => T == "list"
  | .tuple _ => T == "tuple"
  | .dict _ => T == "dict"
/-- the model's own answers for the class T, one by one -/
def TyOk (T : String) : Prop := kitB "NoneType" T = some false ∧ kitB "bool" T = some (T == "bool" || T == "int") ∧ kitB "int" T = some (T == "int") ∧ kitB "str" T = some (T == "str") ∧ kitB "list" T = some (T == "list") ∧ kitB "tuple" T = some (T == "tuple") ∧ kitB "dict" T = some (T == "dict")
theorem kit_isT {T : String} (h : TyOk T) (d : D) : kitB (tyName d) T = some (isT T d) := by
  obtain ⟨h1, h2, h3, h4, h5, h6, h7⟩ := h
  cases d <;> assumption
theorem tyok_int : TyOk "int" := by refine ⟨?_, ?_, ?_, ?_, ?_, ?_, ?_⟩ <;> decide +kernel
theorem tyok_bool : TyOk "bool" := by refine ⟨?_, ?_, ?_, ?_, ?_, ?_, ?_⟩ <;> decide +kernel
theorem tyok_str : TyOk "str" := by refine ⟨?_, ?_, ?_, ?_, ?_, ?_, ?_⟩ <;> decide +kernel
theorem tyok_tuple : TyOk "tuple" := by refine ⟨?_, ?_, ?_, ?_, ?_, ?_, ?_⟩ <;> decide +kernel
theorem tyok_list : TyOk "list" := by refine ⟨?_, ?_, ?_, ?_, ?_, ?_, ?_⟩ <;> decide +kernel
theorem tyok_dict : TyOk "dict" := by refine ⟨?_, ?_, ?_, ?_, ?_, ?_, ?_⟩ <;> decide +kernel
/-- no object of an own class, no def -/
def unmD : D → Bool
  | .dict es => unm es
  | _ => true
theorem tyx_of {K : Fr} {H : Hp} {Xs : List Addr} {os : List (Nat × Addr)} {d : D} {v : V} (h : RpB K H Xs os d v) (u : unmD d = true) : TyX K H v (.type (tyName d)) := by
  cases d with
  | none => rw [h.none]; exact .base .non
  | bool b => rw [h.bool]; exact .base (.bl b)
  | int i => rw [h.int]; exact .base (.int i)
  | str x => rw [h.str]; exact .base (.str x)
  | list ds =>
    obtain ⟨a, vs, ev, ha, ra⟩ := h.list
    subst ev
    exact .base (.lst ha)
  | tuple ds =>
    obtain ⟨a, vs, ev, ha, ra⟩ := h.tuple
    subst ev
    rcases ha with (ha | ⟨o, ha⟩) | ⟨o, its, n, hk, hc, _⟩
    · exact .base (.tup ha)
    · exact .fTuple ha
    · exact .kTuple hk hc
  | dict es =>
    obtain ⟨a, kvs, ev, ha, _⟩ := h.dict u
    subst ev
    exact .base (.dK ha)
def isiD (T : String) (d : D) : Option D := if unmD d = true then some (.bool (isT T d)) else none
@[simp] theorem isiD_str (T : String) (x : Str) : isiD T (.str x) = some (.bool (T == "str")) := rfl
@[simp] theorem isiD_int (T : String) (x : Int) : isiD T (.int x) = some (.bool (T == "int")) := rfl
@[simp] theorem isiD_none (T : String) : isiD T .none = some (.bool false) := rfl
@[simp] theorem isiD_bool (T : String) (x : Bool) : isiD T (.bool x) = some (.bool (T == "bool" || T == "int")) := rfl
@[simp] theorem isiD_list (T : String) (x : List D) : isiD T (.list x) = some (.bool (T == "list")) := rfl
@[simp] theorem isiD_tuple (T : String) (x : List D) : isiD T (.tuple x) = some (.bool (T == "tuple")) := rfl
theorem se_isi {T : String} {x : Str} {p p2 pos} (ht : TyOk T) (hg : Gl X "isinstance") (hm : X.mg "isinstance" = none) (hx : PE X (.Name x p2) (tC (.ty T))) (ha : SB cl X W m e ev)
    (he : starEach [e, .Name x p2] X.env = (false, eval e X.env) :: starEach [.Name x p2] X.env := by rfl) (he2 : starEach [Expr.Name x p2] X.env = (false, eval (.Name x p2) X.env) :: starEach [] X.env := by rfl) (hpl : (backTo pos (starEach [Expr.Name x p2] X.env)).any (·.1) = false := by rfl) :
    SE cl X W m (.Call (.Name "isinstance" p) [e, .Name x p2] [] pos) (ev1 (isiD T) ev) :=
  pe_imp (pe_callB call_isi hg hm PyProof.Rows.boot_isinstance (pa_cons ha (pa_cons hx pa_nil he2) he) (by decide) (by decide) he hpl) fun σ H Q ⟨fm, Xs, os, s, R, g⟩ => by
    unfold ev1 at g
    refine ⟨fm, Xs, os, s, R, ?_⟩
    cases q : ev s with
    | ok x s1 =>
      rw [q] at g
      simp only [Out.bind_ok, isiD] at g
      split at g
      · rename_i hu
        simp only [toOut_some] at g
        exact fun v1 H1 r1 st1 p1 => ⟨v1, _, _, _, isT T x, rfl, .ty T, tyx_of p1 hu, kit_ty (kit_isT ht x), g _ H1 r1 st1 rfl⟩
      · exact g.elim
    | exc c t s1 => rw [q] at g; exact g
    | no => rw [q] at g; exact g.elim
end
/-! ### calls of defs -/
/-- a def that knows no deck: from values to values; nothing that stood is changed -/
def spP (K : Fr) (cl : Nat → Addr) (n : Nat) (f : List D → Ro) : Sp := fun vs H Q E => ∃ Xs ds, RpA K H Xs ds vs ∧ ds.length = n ∧ (∀ a ∈ Xs, H a ≠ none) ∧ (match f ds with
  | .ok d => ∀ v H', Stay [] H H' → Rp K H' Xs d v → Q v H'
  | .exc c t => ∀ v dd H', Stay [] H H' → Rp K H' Xs t v → H' dd = some (.xd [(("thing" : Str), v)]) → E (.ref (cl c)) (some dd) H'
  | .no => False)
/-- a def that is handed the deck first -/
def spD (K : Fr) (n : Nat) (f : List D → Dk → Rd) : Sp := fun vs H Q _ => ∃ kd kc ws Xs ds k, vs = .ref kd :: ws ∧ RpA K H Xs ds ws ∧ ds.length = n ∧ (∀ a ∈ Xs, H a ≠ none) ∧ kd ∈ Xs ∧ kc ∈ Xs ∧ DkAt H kd kc k ∧ (match f ds k with
  | .ok d k' => ∀ v H', Stay [kd, kc] H H' → DkAt H' kd kc k' → Rp K H' Xs d v → Q v H'
  | .no => False)
def ofRo (r : Ro) (s : Ms) : Out D := match r with
  | .ok d => .ok d s
  | .exc c t => .exc c t s
  | .no => .no
def ofRd (r : Rd) (s : Ms) : Out D := match r with
  | .ok d k => .ok d { s with dk := k }
  | .no => .no
def evCall (f : List D → Ro) (as : Evs) : Ev := fun s => (as s).bind fun ds s1 => ofRo (f ds) s1
section
variable {cl : Nat → Addr} {X : Cx} {W : WX} {m : Bool} {e : Expr} {es : List Expr} {ev : Ev} {evs : Evs} {k n : Nat} {f : Addr} {fd : FuncData} {ps : List Str} {x : Str} {p pos : Pos}
theorem GoodE.call {fm : Fm} {Xs : List Addr} {os : List (Nat × Addr)} {s : Ms} {σ : L2.St} {H H1 : Hp} {Q : VK} {g : List D → Ro} {ds : List D} {vs : List V} (r1 : Rel X.K fm Xs os s σ H1) (st : Stay (Mu fm.dka os m) H H1) (ra : RpA X.K H1 Xs ds vs) (hl : ds.length = n)
    (h : GoodE X.K cl W m fm Xs os σ H Q (ofRo (g ds) s)) : spP X.K cl n g vs H1 Q (WE W σ) := by
  refine ⟨Xs, ds, ra, hl, r1.xt, ?_⟩
  cases q : g ds with
  | ok d =>
    rw [q] at h
    exact fun v H' st' p => h v H' (r1.stay st') (st.trans st'.any) p
  | exc c t =>
    rw [q] at h
    exact fun v dd H' st' p hd => h v dd H' (r1.stay st') p hd
  | no => rw [q] at h; exact h
theorem se_call {g : List D → Ro} (F : FnOk X.prog X.w X.K X.mg X.base (L2.CX X.prog X.w) k f fd ps (spP X.K cl n g)) (hr : Room k X.A) (hg : Gl X x) (hm : X.mg x = some (.ref f)) (hk : PySem.W.keepIn X.K (.ref f) = true) (hb : Binds X.K fd ps []) (tk : Takes X W)
    (ha : SA cl X W m (e :: es) evs) (hn : ∀ s ds s1, evs s = .ok ds s1 → ds.length = n) (hdb : (x == ("__debug__" : Str)) = false := by decide) (he : starEach (e :: es) X.env = (false, eval e X.env) :: starEach es X.env := by rfl) (hpl : (backTo pos (starEach es X.env)).any (·.1) = false := by rfl) :
    SE cl X W m (.Call (.Name x p) (e :: es) [] pos) (evCall g evs) :=
  pe_imp (pe_callS F hr hg hm hk hb (fun σ => passAt tk σ) ha hdb he hpl) fun σ H Q ⟨fm, Xs, os, s, R, h⟩ => by
    unfold evCall at h
    refine ⟨fm, Xs, os, s, R, ?_⟩
    cases q : evs s with
    | ok ds s1 =>
      rw [q] at h
      simp only [Out.bind_ok] at h
      exact fun vs H1 r1 st1 ra => GoodE.call r1 st1 ra (hn _ _ _ q) h
    | exc c t s1 => rw [q] at h; exact h
    | no => rw [q] at h; exact h.elim
theorem evCons_len {a : Ev} {b : Evs} {j : Nat} (h : ∀ s ds s1, b s = .ok ds s1 → ds.length = j) : ∀ s ds s1, evCons a b s = .ok ds s1 → ds.length = j + 1 := by
  intro s ds s1 e
  unfold evCons at e
  cases q : a s with
  | ok d s2 =>
    rw [q] at e
    simp only [Out.bind_ok] at e
    cases q2 : b s2 with
    | ok ds' s3 =>
      rw [q2] at e
      simp only [Out.bind_ok, Out.ok.injEq] at e
      rw [← e.1, List.length_cons, h _ _ _ q2]
    | exc c t s3 => rw [q2] at e; cases e
    | no => rw [q2] at e; cases e
  | exc c t s2 => rw [q] at e; cases e
  | no => rw [q] at e; cases e
theorem evNil_len : ∀ s ds s1, evNil s = .ok ds s1 → ds.length = 0 := by
  intro s ds s1 e
  cases e
  rfl
/-- f(deck, ..): the deck stands in a slot -/
def evCallD (i : Nat) (f : List D → Dk → Rd) (as : Evs) : Ev := fun s => match s.env[i]? with
  | some .deck => (as s).bind fun ds s1 => ofRd (f ds s1.dk) s1
  | _ => .no
theorem se_callD {g : List D → Dk → Rd} {ed : Expr} (i : Nat) (F : FnOk X.prog X.w X.K X.mg X.base (L2.CX X.prog X.w) k f fd ps (spD X.K n g)) (hr : Room k X.A) (hg : Gl X x) (hm : X.mg x = some (.ref f)) (hk : PySem.W.keepIn X.K (.ref f) = true) (hb : Binds X.K fd ps []) (tk : Takes X W)
    (hd : PE X ed (tVar i)) (ha : SA cl X W m es evs) (hn : ∀ s ds s1, evs s = .ok ds s1 → ds.length = n) (hdb : (x == ("__debug__" : Str)) = false := by decide) (he : starEach (ed :: es) X.env = (false, eval ed X.env) :: starEach es X.env := by rfl) (hpl : (backTo pos (starEach es X.env)).any (·.1) = false := by rfl) :
    SE cl X W m (.Call (.Name x p) (ed :: es) [] pos) (evCallD i g evs) :=
  pe_imp (pe_callS F hr hg hm hk hb (fun σ => passAt tk σ) (pa_cons hd ha he) hdb he hpl) fun σ H Q ⟨fm, Xs, os, s, R, h⟩ => by
    unfold evCallD at h
    cases q0 : s.env[i]? with
    | none => rw [q0] at h; exact h.elim
    | some sv =>
      rw [q0] at h
      cases sv with
      | deck =>
        obtain ⟨kd, kc, ek, es⟩ := R.slot i _ q0
        refine ⟨.ref kd, join_some es, fm, Xs, os, s, R, ?_⟩
        cases q : evs s with
        | ok ds s1 =>
          rw [q] at h
          simp only [Out.bind_ok] at h
          refine fun vs H1 r1 st1 ra => ?_
          have d1 : kd ∈ Xs := r1.dks kd (by rw [ek]; simp [dkl])
          have d2 : kc ∈ Xs := r1.dks kc (by rw [ek]; simp [dkl])
          refine ⟨kd, kc, vs, Xs, ds, s1.dk, rfl, ra, hn _ _ _ q, r1.xt, d1, d2, r1.dk kd kc ek, ?_⟩
          cases q2 : g ds s1.dk with
          | ok d k' =>
            rw [q2] at h
            refine fun v H' st' dk' p' => ?_
            have st2 : Stay (dkl fm.dka) H1 H' := by rw [ek]; exact st'
            have r2 := r1.dput (k := k') st2 fun a b e => by
              rw [ek] at e
              cases e
              exact dk'
            refine h v H' r2 (st1.trans (st2.more fun a ha => ?_)) p'
            unfold Mu
            exact List.mem_append_left _ ha
          | no => rw [q2] at h; exact h
        | exc c t s1 => rw [q] at h; exact h
        | no => rw [q] at h; exact h.elim
      | _ => exact h.elim
end
end Zo
/-! ZF: statements; a frame's own lists: append, extend, pop. -/
namespace Zo
open PySem PySem.Spec PyProof.Rows L2
section
variable (K : Fr) (cl : Nat → Addr) (W : WX)
def GoodS (fm : Fm) (Dn : Ends) : Out Fl → Prop
  | .ok fl s' => ∀ X os σ' H', Rel K fm X os s' σ' H' → (match fl with
    | .nx => Dn.nx σ' H'
    | .bk => Dn.bk σ' H'
    | .ct => Dn.ct σ' H'
    | .rt d => ∀ v, Rp K H' X d v → Dn.rt v H')
  | .exc c t s' => ∀ X os σ', Wish K cl W fm X os σ' c t s'
  | .no => False
def tS (run : Ex) : TS := fun Dn σ H => ∃ fm X os s, Rel K fm X os s σ H ∧ GoodS K cl W fm Dn (run s)
end
abbrev SS (cl : Nat → Addr) (X : Cx) (W : WX) (st : Stmt) (run : Ex) : Prop := PS X st (tS X.K cl W run)
abbrev SSs (cl : Nat → Addr) (X : Cx) (W : WX) (st : List Stmt) (run : Ex) : Prop := PSs X st (tS X.K cl W run)
section
variable {cl : Nat → Addr} {X : Cx} {W : WX} {m : Bool} {e : Expr} {ev : Ev} {evs : Evs} {st : Stmt} {rest : List Stmt} {pos : Pos}
def seqS (a b : Ex) : Ex := fun s => (a s).bind fun fl s1 => match fl with
  | .nx => b s1
  | f => .ok f s1
def skipS : Ex := fun s => .ok .nx s
theorem ss_nil : SSs cl X W [] skipS := pss_imp pss_nil fun Dn σ H ⟨fm, Xs, os, s, r, g⟩ => g Xs os σ H r
theorem ss_one {a : Ex} (h : SS cl X W st a) : SSs cl X W [st] a := pss_one h
theorem ss_cons {a b : Ex} (h : SS cl X W st a) (hs : SSs cl X W rest b) : SSs cl X W (st :: rest) (seqS a b) := pss_imp (pss_cons h hs) fun Dn σ H ⟨fm, Xs, os, s, r, g⟩ => by
  unfold seqS at g
  refine ⟨fm, Xs, os, s, r, ?_⟩
  cases q : a s with
  | ok fl s1 =>
    rw [q] at g
    simp only [Out.bind_ok] at g
    intro X' os' σ' H' r'
    cases fl with
    | nx => exact ⟨fm, X', os', s1, r', g⟩
    | rt d => exact g X' os' σ' H' r'
    | bk => exact g X' os' σ' H' r'
    | ct => exact g X' os' σ' H' r'
  | exc c t s1 => rw [q] at g; exact g
  | no => rw [q] at g; exact g.elim
/-- a list that nobody changes any more: nothing is run -/
def fixS (i : Nat) (b : Ex) : Ex := fun s => match s.env[i]? with
  | some (.own ds) => b { s with env := s.env.set i (.fz (.list ds)) }
  | _ => .no
theorem ss_fix {b : Ex} (i : Nat) (h : SSs cl X W rest b) : SSs cl X W rest (fixS i b) := pss_imp h fun Dn σ H ⟨fm, Xs, os, s, r, g⟩ => by
  unfold fixS at g
  cases q : s.env[i]? with
  | none => rw [q] at g; exact g.elim
  | some sv =>
    rw [q] at g
    cases sv with
    | own ds =>
      obtain ⟨X', r'⟩ := r.freeze q
      exact ⟨fm, X', _, _, r', g⟩
    | _ => exact g.elim
/-! ### names are given values -/
def setS (i : Nat) (a : Ev) : Ex := fun s => (a s).bind fun d s1 => .ok .nx { s1 with env := s1.env.set i (.fz d) }
theorem ss_set {i : Nat} {x : Str} {p : Pos} (hN : X.N.Nodup) (hi : X.N[i]? = some x) (hx : Loc X.env.scope x) (h : SE cl X W m e ev) (hs : swapsWith e (some (.Name x p)) pos.line X.env = pure false := by rfl)
    (hf : X.fn x = true ∨ X.env.scope.names.lookup x = some .local := by first | exact .inl rfl | exact .inr rfl | assumption) : SS cl X W (.Assign [.Name x p] e pos) (setS i ev) :=
  ps_imp (ps_set hN hi hx h hs hf) fun Dn σ H ⟨fm, Xs, os, s, r, g⟩ => by
    unfold setS at g
    refine ⟨fm, Xs, os, s, r, ?_⟩
    cases q : ev s with
    | ok d s1 =>
      rw [q] at g
      simp only [Out.bind_ok] at g
      exact fun v H1 r1 st1 p1 => g Xs _ _ H1 (r1.setfz p1)
    | exc c t s1 => rw [q] at g; exact g Xs os σ
    | no => rw [q] at g; exact g.elim
def ownS (i : Nat) (a : Evs) : Ex := fun s => (a s).bind fun ds s1 => .ok .nx { s1 with env := s1.env.set i (.own ds) }
theorem Rel.newown {K : Fr} {fm : Fm} {Xs : List Addr} {os : List (Nat × Addr)} {s : Ms} {σ : L2.St} {H : Hp} (r : Rel K fm Xs os s σ H) {p : Addr} {i : Nat} {ds : List D} {vs : List V} (h : H p = none) (ra : RpA K H Xs ds vs) :
    Rel K fm (p :: Xs) ((i, p) :: rid os i) { s with env := s.env.set i (.own ds) } (σ.set i (some (.ref p))) (upd H p (.lst vs)) :=
  (r.laidL h).setown List.mem_cons_self upd_same (r.nos h) (fun z => r.nx h (r.dks p z)) (r.ent0 h) (RpA.stay (M := []) (Stay.laid h) (fun a h => absurd h (by simp)) ds vs (RpA.fresh h ds vs ra))
theorem ss_own {i : Nat} {x : Str} {p : Pos} (hN : X.N.Nodup) (hi : X.N[i]? = some x) (hx : Loc X.env.scope x) (h : SF cl X W m e evs) (hs : swapsWith e (some (.Name x p)) pos.line X.env = pure false := by rfl)
    (hf : X.fn x = true ∨ X.env.scope.names.lookup x = some .local := by first | exact .inl rfl | exact .inr rfl | assumption) : SS cl X W (.Assign [.Name x p] e pos) (ownS i evs) :=
  ps_imp (ps_set hN hi hx h hs hf) fun Dn σ H ⟨fm, Xs, os, s, r, g⟩ => by
    unfold ownS at g
    refine ⟨fm, Xs, os, s, r, ?_⟩
    cases q : evs s with
    | ok d s1 =>
      rw [q] at g
      simp only [Out.bind_ok] at g
      exact fun p vs H1 r1 st1 fp hp ra => g _ _ _ _ (r1.setown (i := i) List.mem_cons_self hp fp.no fp.nd fp.n0 ra)
    | exc c t s1 => rw [q] at g; exact g Xs os σ
    | no => rw [q] at g; exact g.elim
/-- a, b, .. = e -/
def setMany : List Nat → List D → List Sv → List Sv
  | i :: is, d :: ds, env => setMany is ds (env.set i (.fz d))
  | _, _, env => env
def unpS (is : List Nat) (a : Ev) : Ex := fun s => (a s).bind fun d s1 => match d with
  | .tuple ds => if ds.length = is.length then .ok .nx { s1 with env := setMany is ds s1.env } else .no
  | _ => .no
def unpLS (is : List Nat) (a : Ev) : Ex := fun s => (a s).bind fun d s1 => match d with
  | .list ds => if ds.length = is.length then .ok .nx { s1 with env := setMany is ds s1.env } else .no
  | _ => .no
def gNames : List Nat → TGs
  | [] => gNil
  | i :: is => gCons (gName i) (gNames is)
theorem gNames_rel {K : Fr} {fm : Fm} {Xs : List Addr} {H : Hp} {Q : L2.St → Hp → Prop} : ∀ (is : List Nat) (ds : List D) (vs : List V) (os : List (Nat × Addr)) (s : Ms) (σ : L2.St), Rel K fm Xs os s σ H → RpA K H Xs ds vs → ds.length = is.length →
    (∀ os' σ', Rel K fm Xs os' { s with env := setMany is ds s.env } σ' H → Q σ' H) → gNames is vs σ H Q
  | [], [], _, os, s, σ, r, ra, _, q => by
    cases ra
    exact ⟨rfl, q os σ r⟩
  | i :: is, d :: ds, _, os, s, σ, r, ra, hl, q => by
    obtain ⟨v, w, e, p, t⟩ := ra
    subst e
    refine ⟨v, w, rfl, ?_⟩
    exact gNames_rel is ds w _ { s with env := s.env.set i (.fz d) } _ (r.setfz p) t (by simpa using hl) fun os' σ' r' => q os' σ' r'
  | [], _ :: _, _, _, _, _, _, _, hl, _ => by simp at hl
  | _ :: _, [], _, _, _, _, _, _, hl, _ => by simp at hl
theorem ss_unp {tg : Expr} {is : List Nat} {n : Nat} (hn : n = is.length) (hP : PS X (.Assign [tg] e pos) (tAsg (tE X.K cl W m ev) (gTup X.K n (gNames is)))) : SS cl X W (.Assign [tg] e pos) (unpS is ev) :=
  ps_imp hP fun Dn σ H ⟨fm, Xs, os, s, r, g⟩ => by
    unfold unpS at g
    refine ⟨fm, Xs, os, s, r, ?_⟩
    cases q : ev s with
    | ok d s1 =>
      rw [q] at g
      simp only [Out.bind_ok] at g
      refine fun v H1 r1 st1 p1 => ?_
      cases d with
      | tuple ds =>
        dsimp only at g
        split at g
        · rename_i hl
          obtain ⟨a, vs, ev, ha, ra⟩ := p1
          exact ⟨a, vs, ev, ha.sq, by rw [ra.len, hl, hn], gNames_rel is ds vs os s1 σ r1 ra hl fun os' σ' r' => g Xs os' σ' H1 r'⟩
        · exact g.elim
      | _ => exact g.elim
    | exc c t s1 => rw [q] at g; exact g Xs os σ
    | no => rw [q] at g; exact g.elim
theorem ss_unpL {tg : Expr} {is : List Nat} {n : Nat} (hn : n = is.length) (hP : PS X (.Assign [tg] e pos) (tAsg (tE X.K cl W m ev) (gUnl X.K n (gNames is)))) : SS cl X W (.Assign [tg] e pos) (unpLS is ev) :=
  ps_imp hP fun Dn σ H ⟨fm, Xs, os, s, r, g⟩ => by
    unfold unpLS at g
    refine ⟨fm, Xs, os, s, r, ?_⟩
    cases q : ev s with
    | ok d s1 =>
      rw [q] at g
      simp only [Out.bind_ok] at g
      refine fun v H1 r1 st1 p1 => ?_
      cases d with
      | list ds =>
        dsimp only at g
        split at g
        · rename_i hl
          obtain ⟨a, vs, ev, ha, ra⟩ := p1
          exact ⟨a, vs, ev, SqL.of ha.1, by rw [ra.len, hl, hn], gNames_rel is ds vs os s1 σ r1 ra hl fun os' σ' r' => g Xs os' σ' H1 r'⟩
        · exact g.elim
      | _ => exact g.elim
    | exc c t s1 => rw [q] at g; exact g Xs os σ
    | no => rw [q] at g; exact g.elim
/-- a, b = e1, e2 -/
def par2S (i j : Nat) (a b : Ev) : Ex := fun s => (a s).bind fun d s1 => (b s1).bind fun d2 s2 => .ok .nx { s2 with env := (s2.env.set i (.fz d)).set j (.fz d2) }
theorem par2_rel {fm : Fm} {Xs : List Addr} {os : List (Nat × Addr)} {s : Ms} {σ : L2.St} {H : Hp} {i j : Nat} {a b : Ev} {Dn : Ends} (r : Rel X.K fm Xs os s σ H) (g : GoodS X.K cl W fm Dn (par2S i j a b s)) :
    tCons (tE X.K cl W m a) (tCons (tE X.K cl W m b) tNil) σ H fun vs H1 => ∃ v w, vs = [v, w] ∧ Dn.nx ((σ.set i (some v)).set j (some w)) H1 := by
  unfold par2S at g
  refine ⟨fm, Xs, os, s, r, ?_⟩
  cases q : a s with
  | ok d s1 =>
    rw [q] at g
    simp only [Out.bind_ok] at g
    refine fun v H1 r1 st1 p1 => ⟨fm, Xs, os, s1, r1, ?_⟩
    cases q2 : b s1 with
    | ok d2 s2 =>
      rw [q2] at g
      simp only [Out.bind_ok] at g
      exact fun v2 H2 r2 st2 p2 => ⟨v, v2, rfl, g Xs _ _ H2 ((r2.setfz (Rp.stay st2 r1.sx d v p1)).setfz p2)⟩
    | exc c t s2 => rw [q2] at g; exact g Xs os σ
    | no => rw [q2] at g; exact g.elim
  | exc c t s1 => rw [q] at g; exact g Xs os σ
  | no => rw [q] at g; exact g.elim
theorem ss_par2 {i j : Nat} {x y : Str} {ea eb : Expr} {a b : Ev} {px py pt : Pos} {kt k2 pt2} (hc : X.calm = true) (hN : X.N.Nodup) (hi : X.N[i]? = some x) (hj : X.N[j]? = some y) (hij : i ≠ j) (ha : SE cl X W m ea a) (hb : SE cl X W m eb b)
    (hP : ∀ ta, PA X [ea, eb] ta → PS X (.Assign [.Tuple [.Name x px, .Name y py] kt pt] (.Tuple [ea, eb] k2 pt2) pos) (tPar i j ta))
    (he : starEach [ea, eb] X.env = (false, eval ea X.env) :: starEach [eb] X.env := by rfl) (he2 : starEach [eb] X.env = (false, eval eb X.env) :: starEach [] X.env := by rfl) :
    SS cl X W (.Assign [.Tuple [.Name x px, .Name y py] kt pt] (.Tuple [ea, eb] k2 pt2) pos) (par2S i j a b) :=
  ps_imp (hP _ (pa_cons ha (pa_cons hb pa_nil he2) he)) fun Dn σ H ⟨fm, Xs, os, s, r, g⟩ => par2_rel r g
theorem RpA.pairs {K : Fr} {H : Hp} {Xs : List Addr} : ∀ {ds : List D} {vs : List V}, RpA K H Xs ds vs → ∀ p ∈ ds.zip vs, Rp K H Xs p.1 p.2
  | [], _, _, p, h => by simp at h
  | d :: ds, _, h, p, hp => by
    obtain ⟨v, r, e, q, t⟩ := h
    subst e
    rw [List.zip_cons_cons] at hp
    rcases List.mem_cons.mp hp with e | hp
    · rw [e]; exact q
    · exact RpA.pairs t p hp
theorem RpA.ofPairs {K : Fr} {H : Hp} {Xs : List Addr} : ∀ {ds : List D} {vs : List V}, vs.length = ds.length → (∀ p ∈ ds.zip vs, Rp K H Xs p.1 p.2) → RpA K H Xs ds vs
  | [], [], _, _ => rfl
  | [], _ :: _, h, _ => by simp at h
  | _ :: _, [], h, _ => by simp at h
  | d :: ds, v :: vs, h, q => by
    rw [List.zip_cons_cons] at q
    exact ⟨v, vs, rfl, q (d, v) List.mem_cons_self, RpA.ofPairs (by simpa using h) fun p hp => q p (List.mem_cons_of_mem _ hp)⟩
/-- a, b = [..], [..]: both the frame's own -/
def parOS (i j : Nat) (a b : Evs) : Ex := fun s => (a s).bind fun d s1 => (b s1).bind fun d2 s2 => .ok .nx { s2 with env := (s2.env.set i (.own d)).set j (.own d2) }
theorem parO_rel {fm : Fm} {Xs : List Addr} {os : List (Nat × Addr)} {s : Ms} {σ : L2.St} {H : Hp} {i j : Nat} {a b : Evs} {Dn : Ends} (hij : i ≠ j) (r : Rel X.K fm Xs os s σ H) (g : GoodS X.K cl W fm Dn (parOS i j a b s)) :
    tCons (tF X.K cl W m a) (tCons (tF X.K cl W true b) tNil) σ H fun vs H1 => ∃ v w, vs = [v, w] ∧ Dn.nx ((σ.set i (some v)).set j (some w)) H1 := by
  unfold parOS at g
  refine ⟨fm, Xs, os, s, r, ?_⟩
  cases q : a s with
  | ok d s1 =>
    rw [q] at g
    simp only [Out.bind_ok] at g
    refine fun p vs H1 r1 st1 fp hp ra => ⟨{ fm with tmp := d.zip vs ++ fm.tmp }, p :: Xs, os, s1, r1.holds _ (ra.pairs), ?_⟩
    cases q2 : b s1 with
    | ok d2 s2 =>
      rw [q2] at g
      simp only [Out.bind_ok] at g
      refine fun p2 ws H2 r2' st2 fp2' hp2 ra2 => ⟨.ref p, .ref p2, rfl, g (p2 :: p :: Xs) ((j, p2) :: rid ((i, p) :: rid os i) j) _ _ ?_⟩
      have ra1 : RpA X.K H2 (p2 :: p :: Xs) d vs := RpA.ofPairs ra.len fun q hq => r2'.tm q (List.mem_append_left _ hq)
      have r2 := r2'.drops
      have fp2 : Frsh fm (p :: Xs) os p2 := ⟨fp2'.nx, fp2'.no, fp2'.nd, fp2'.n0⟩
      have nm : p ∉ Mu fm.dka os true := fun z => by
        unfold Mu at z
        rcases List.mem_append.mp z with z | z
        · exact fp.nd z
        · simp at z
      have hv : H2 p = some (.lst vs) := st2 p _ hp nm
      have npp : p2 ≠ p := fun e => fp2.nx (by rw [e]; exact List.mem_cons_self)
      have rA := r2.setown (i := i) (List.mem_cons_of_mem _ List.mem_cons_self) hv fp.no fp.nd fp.n0 ra1
      refine rA.setown (i := j) List.mem_cons_self hp2 (fun z => ?_) fp2.nd fp2.n0 ra2
      rw [List.map_cons] at z
      rcases List.mem_cons.mp z with z | z
      · exact npp z
      · obtain ⟨q, hq, e⟩ := List.mem_map.mp z
        exact fp2.no (List.mem_map.mpr ⟨q, (rid_mem.mp hq).1, e⟩)
    | exc c t s2 =>
      rw [q2] at g
      exact fun v dd H' r' p' hd => g (p :: Xs) os σ v dd H' r'.drops p' hd
    | no => rw [q2] at g; exact g.elim
  | exc c t s1 => rw [q] at g; exact g Xs os σ
  | no => rw [q] at g; exact g.elim
theorem ss_parO {i j : Nat} {x y : Str} {ea eb : Expr} {a b : Evs} {px py pt : Pos} {kt k2 pt2} (hij : i ≠ j) (ha : SF cl X W m ea a) (hb : SF cl X W true eb b)
    (hP : ∀ ta, PA X [ea, eb] ta → PS X (.Assign [.Tuple [.Name x px, .Name y py] kt pt] (.Tuple [ea, eb] k2 pt2) pos) (tPar i j ta))
    (he : starEach [ea, eb] X.env = (false, eval ea X.env) :: starEach [eb] X.env := by rfl) (he2 : starEach [eb] X.env = (false, eval eb X.env) :: starEach [] X.env := by rfl) :
    SS cl X W (.Assign [.Tuple [.Name x px, .Name y py] kt pt] (.Tuple [ea, eb] k2 pt2) pos) (parOS i j a b) :=
  ps_imp (hP _ (pa_cons ha (pa_cons hb pa_nil he2) he)) fun Dn σ H ⟨fm, Xs, os, s, r, g⟩ => parO_rel hij r g
/-! ### return, if, an expression alone -/
def retS (a : Ev) : Ex := fun s => (a s).bind fun d s1 => .ok (.rt d) s1
theorem ss_ret (h : SE cl X W m e ev) : SS cl X W (.Return (some e) pos) (retS ev) := ps_imp (ps_ret h) fun Dn σ H ⟨fm, Xs, os, s, r, g⟩ => by
  unfold retS at g
  refine ⟨fm, Xs, os, s, r, ?_⟩
  cases q : ev s with
  | ok d s1 =>
    rw [q] at g
    exact fun v H1 r1 st1 p1 => g Xs os σ H1 r1 v p1
  | exc c t s1 => rw [q] at g; exact g Xs os σ
  | no => rw [q] at g; exact g.elim
def ifS (c : Ms → Out Bool) (a b : Ex) : Ex := fun s => (c s).bind fun k s1 => if k = true then a s1 else b s1
theorem ss_if {c : Ms → Out Bool} {p q : List Stmt} {a b : Ex} (hc : STt cl X W m e c) (ha : SSs cl X W p a) (hb : SSs cl X W q b) : SS cl X W (.If e p q pos) (ifS c a b) := ps_imp (ps_if hc ha hb) fun Dn σ H ⟨fm, Xs, os, s, r, g⟩ => by
  unfold ifS at g
  refine ⟨fm, Xs, os, s, r, ?_⟩
  cases q : c s with
  | ok k s1 =>
    rw [q] at g
    simp only [Out.bind_ok] at g
    cases k with
    | true => exact fun H1 r1 st1 => ⟨fm, Xs, os, s1, r1, g⟩
    | false => exact fun H1 r1 st1 => ⟨fm, Xs, os, s1, r1, g⟩
  | exc c t s1 => rw [q] at g; exact g Xs os σ
  | no => rw [q] at g; exact g.elim
def doS (a : Ev) : Ex := fun s => (a s).bind fun _ s1 => .ok .nx s1
theorem ss_do (h : SE cl X W m e ev) (hs : swapsWith e none pos.line X.env = pure false := by rfl) : SS cl X W (.Expr e pos) (doS ev) := ps_imp (ps_expr h hs) fun Dn σ H ⟨fm, Xs, os, s, r, g⟩ => by
  unfold doS at g
  refine ⟨fm, Xs, os, s, r, ?_⟩
  cases q : ev s with
  | ok d s1 =>
    rw [q] at g
    exact fun v H1 r1 st1 p1 => g Xs os σ H1 r1
  | exc c t s1 => rw [q] at g; exact g Xs os σ
  | no => rw [q] at g; exact g.elim
/-! ### a frame's own list: pop, append, extend -/
def evPop (i : Nat) : Ev := fun s => match s.env[i]? with
  | some (.own ds) => match ds.getLast? with
    | some d => .ok d { s with env := s.env.set i (.own ds.dropLast) }
    | none => .no
  | _ => .no
theorem mu_own {fm : Fm} {os : List (Nat × Addr)} {i : Nat} {a : Addr} (h : (i, a) ∈ os) : ∀ x ∈ [a], x ∈ Mu fm.dka os false := fun x hx => by
  rw [List.mem_singleton.mp hx]
  unfold Mu
  exact List.mem_append_right _ (List.mem_map.mpr ⟨_, h, rfl⟩)
theorem RpA.dropLast {K : Fr} {H : Hp} {Xs : List Addr} {ds : List D} {vs : List V} (h : RpA K H Xs ds vs) : RpA K H Xs ds.dropLast vs.dropLast := by
  rw [List.dropLast_eq_take, List.dropLast_eq_take, h.len]
  exact h.take _
theorem se_pop (i : Nat) {o : Expr} {apos cpos : Pos} (ho : PE X o (tVar i)) (hbase : attributeBase o "pop" X.env (eval o X.env) = eval o X.env := by rfl) (hline : (apos.endLine == cpos.line) = true := by rfl) :
    SE cl X W false (.Call (.Attribute o "pop" apos) [] [] cpos) (evPop i) :=
  pe_imp (pe_bm0 PySem.F.plainAttrs_list PySem.F.slot_list_pop PySem.F.type_list_pop mt_pop ho hbase hline) fun σ H Q ⟨fm, Xs, os, s, R, g⟩ => by
    unfold evPop at g
    cases q0 : s.env[i]? with
    | none => rw [q0] at g; exact g.elim
    | some sv =>
      rw [q0] at g
      cases sv with
      | own ds =>
        dsimp only at g
        obtain ⟨a, vs, hs, hm, hv, ra⟩ := R.slot i _ q0
        refine ⟨.ref a, join_some hs, .inl ⟨rfl, vs, SqL.of hv⟩, ?_⟩
        cases q1 : ds.getLast? with
        | none => rw [q1] at g; exact g.elim
        | some d =>
          rw [q1] at g
          have q2 : ds[ds.length - 1]? = some d := by rw [← List.getLast?_eq_getElem?]; exact q1
          obtain ⟨v, ev, pv⟩ := ra.get q2
          obtain ⟨r2, st2⟩ := R.put q0 hs hm ra.dropLast
          refine ⟨a, vs, v, rfl, rfl, hv, by rw [ra.len]; exact ev, g v _ r2 (st2.more (mu_own hm)) (Rp.stay st2 (fun x hx => by rw [List.mem_singleton.mp hx]; exact (R.sub _ hm).1) d v pv)⟩
      | _ => exact g.elim
def evPopAt (i : Nat) (a : Ev) : Ev := fun s => match s.env[i]? with
  | some (.own _) => (a s).bind fun d s1 => match s1.env[i]?, asInt d with
    | some (.own ds), some k => if 0 ≤ k ∧ k < 1000000 then (match ds[k.toNat]? with
      | some x => .ok x { s1 with env := s1.env.set i (.own (ds.eraseIdx k.toNat)) }
      | none => .no) else .no
    | _, _ => .no
  | _ => .no
theorem RpA.erase {K : Fr} {H : Hp} {Xs : List Addr} {ds : List D} {vs : List V} (h : RpA K H Xs ds vs) (n : Nat) : RpA K H Xs (ds.eraseIdx n) (vs.eraseIdx n) := by
  rw [List.eraseIdx_eq_take_drop_succ, List.eraseIdx_eq_take_drop_succ]
  exact (h.take n).app (h.drop (n + 1))
theorem se_popAt (i : Nat) {o : Expr} {apos cpos : Pos} (ho : PE X o (tVar i)) (h : SB cl X W true e ev)
    (he : starEach [e] X.env = (false, eval e X.env) :: starEach [] X.env := by rfl) (hP : ∀ t, PA X [e] t → PE X (.Call (.Attribute o "pop" apos) [e] [] cpos) (tBM X.K "list" rPopAt (tVar i) t)) :
    SE cl X W false (.Call (.Attribute o "pop" apos) [e] [] cpos) (evPopAt i ev) :=
  pe_imp (hP _ (pa_cons h pa_nil he)) fun σ H Q ⟨fm, Xs, os, s, R, g⟩ => by
    unfold evPopAt at g
    cases q0 : s.env[i]? with
    | none => rw [q0] at g; exact g.elim
    | some sv =>
      rw [q0] at g
      cases sv with
      | own ds0 =>
        dsimp only at g
        obtain ⟨a, vs, hs, hm, hv, ra⟩ := R.slot i _ q0
        refine ⟨.ref a, join_some hs, .inl ⟨rfl, vs, SqL.of hv⟩, fm, Xs, os, s, R, ?_⟩
        cases q : ev s with
        | ok d s1 =>
          rw [q] at g
          simp only [Out.bind_ok] at g
          refine fun v H1 r1 st1 p1 => ?_
          cases q1 : s1.env[i]? with
          | none => rw [q1] at g; exact g.elim
          | some sv1 =>
            rw [q1] at g
            cases sv1 with
            | own ds =>
              cases q2 : asInt d with
              | none => rw [q2] at g; exact g.elim
              | some k =>
                rw [q2] at g
                dsimp only at g
                have ed := asInt_some q2
                subst ed
                split at g
                · rename_i hk
                  cases q3 : ds[k.toNat]? with
                  | none => rw [q3] at g; exact g.elim
                  | some x =>
                    rw [q3] at g
                    obtain ⟨a1, vs1, hs1, hm1, hv1, ra1⟩ := r1.slot i _ q1
                    rw [hs] at hs1
                    cases hs1
                    obtain ⟨y, ey, py⟩ := ra1.get q3
                    obtain ⟨r2, st2⟩ := r1.put q1 hs hm1 (ra1.erase k.toNat)
                    have hlt : k.toNat < vs1.length := (List.getElem?_eq_some_iff.mp ey).1
                    refine ⟨a, vs1, k, k.toNat, y, rfl, by rw [p1.int], hv1, by omega, by omega, ?_, ey, g y _ r2 ((st1.more Mu.still).trans (st2.more (mu_own hm1))) (Rp.stay st2 (fun z hz => by rw [List.mem_singleton.mp hz]; exact (r1.sub _ hm1).1) x y py)⟩
                    rw [seqIndex_of hk.1 (by omega)]
                · exact g.elim
            | _ => exact g.elim
        | exc c t s1 => rw [q] at g; exact g
        | no => rw [q] at g; exact g.elim
      | _ => exact g.elim
def evApp (i : Nat) (a : Ev) : Ev := fun s => match s.env[i]? with
  | some (.own _) => (a s).bind fun d s1 => match s1.env[i]? with
    | some (.own ds) => if ds.length < 1000000 then .ok .none { s1 with env := s1.env.set i (.own (ds ++ [d])) } else .no
    | _ => .no
  | _ => .no
theorem line1M {n : Nat} (h : n < 1000000) : n < sizeLine := by rw [sizeLine_eq]; omega
theorem se_app (i : Nat) {o : Expr} {apos cpos : Pos} (ho : PE X o (tVar i)) (h : SE cl X W false e ev) (hbase : attributeBase o "append" X.env (eval o X.env) = eval o X.env := by rfl) (hP : ∀ t, PA X [e] t → PE X (.Call (.Attribute o "append" apos) [e] [] cpos) (tBM X.K "list" rAppend (tVar i) t))
    (he : starEach [e] X.env = (false, eval e X.env) :: starEach [] X.env := by rfl) : SE cl X W false (.Call (.Attribute o "append" apos) [e] [] cpos) (evApp i ev) :=
  pe_imp (hP _ (pa_cons h pa_nil he)) fun σ H Q ⟨fm, Xs, os, s, R, g⟩ => by
    unfold evApp at g
    cases q0 : s.env[i]? with
    | none => rw [q0] at g; exact g.elim
    | some sv =>
      rw [q0] at g
      cases sv with
      | own ds0 =>
        dsimp only at g
        obtain ⟨a, vs, hs, hm, hv, ra⟩ := R.slot i _ q0
        refine ⟨.ref a, join_some hs, .inl ⟨rfl, vs, SqL.of hv⟩, fm, Xs, os, s, R, ?_⟩
        cases q : ev s with
        | ok d s1 =>
          rw [q] at g
          simp only [Out.bind_ok] at g
          refine fun v H1 r1 st1 p1 => ?_
          cases q1 : s1.env[i]? with
          | none => rw [q1] at g; exact g.elim
          | some sv1 =>
            rw [q1] at g
            cases sv1 with
            | own ds =>
              dsimp only at g
              split at g
              · rename_i hl
                obtain ⟨a1, vs1, hs1, hm1, hv1, ra1⟩ := r1.slot i _ q1
                rw [hs] at hs1
                cases hs1
                obtain ⟨r2, st2⟩ := r1.put q1 hs hm1 (ra1.app (RpA.one p1))
                exact ⟨a, vs1, v, rfl, rfl, hv1, by rw [ra1.len]; exact line1M hl, g .non _ r2 (st1.trans (st2.more (mu_own hm1))) rfl⟩
              · exact g.elim
            | _ => exact g.elim
        | exc c t s1 => rw [q] at g; exact g
        | no => rw [q] at g; exact g.elim
      | _ => exact g.elim
def evExt (i : Nat) (a : Ev) : Ev := fun s => match s.env[i]? with
  | some (.own _) => (a s).bind fun d s1 => match s1.env[i]?, d with
    | some (.own ds), .list es => if ds.length + es.length < 1000000 then .ok .none { s1 with env := s1.env.set i (.own (ds ++ es)) } else .no
    | _, _ => .no
  | _ => .no
theorem se_ext (i : Nat) {o : Expr} {apos cpos : Pos} (ho : PE X o (tVar i)) (h : SE cl X W false e ev) (hP : ∀ t, PA X [e] t → PE X (.Call (.Attribute o "extend" apos) [e] [] cpos) (tBM X.K "list" rExtend (tVar i) t))
    (he : starEach [e] X.env = (false, eval e X.env) :: starEach [] X.env := by rfl) : SE cl X W false (.Call (.Attribute o "extend" apos) [e] [] cpos) (evExt i ev) :=
  pe_imp (hP _ (pa_cons h pa_nil he)) fun σ H Q ⟨fm, Xs, os, s, R, g⟩ => by
    unfold evExt at g
    cases q0 : s.env[i]? with
    | none => rw [q0] at g; exact g.elim
    | some sv =>
      rw [q0] at g
      cases sv with
      | own ds0 =>
        dsimp only at g
        obtain ⟨a, vs, hs, hm, hv, ra⟩ := R.slot i _ q0
        refine ⟨.ref a, join_some hs, .inl ⟨rfl, vs, SqL.of hv⟩, fm, Xs, os, s, R, ?_⟩
        cases q : ev s with
        | ok d s1 =>
          rw [q] at g
          simp only [Out.bind_ok] at g
          refine fun v H1 r1 st1 p1 => ?_
          cases q1 : s1.env[i]? with
          | none => rw [q1] at g; exact g.elim
          | some sv1 =>
            rw [q1] at g
            cases sv1 with
            | own ds =>
              cases d with
              | list es =>
                dsimp only at g
                split at g
                · rename_i hl
                  obtain ⟨a1, vs1, hs1, hm1, hv1, ra1⟩ := r1.slot i _ q1
                  rw [hs] at hs1
                  cases hs1
                  obtain ⟨b, ws, eb, fb, rb⟩ := p1
                  obtain ⟨r2, st2⟩ := r1.put q1 hs hm1 (ra1.app rb)
                  exact ⟨a, b, vs1, ws, rfl, by rw [eb], hv1, fb.1, by rw [ra1.len, rb.len]; exact Nat.le_of_lt (line1M hl), g .non _ r2 (st1.trans (st2.more (mu_own hm1))) rfl⟩
                · exact g.elim
              | _ => exact g.elim
            | _ => exact g.elim
        | exc c t s1 => rw [q] at g; exact g
        | no => rw [q] at g; exact g.elim
      | _ => exact g.elim
end
end Zo
/-! ZG: what is walked; for, while, list comprehensions. -/
namespace Zo
open PySem PySem.Spec PyProof.Rows L2
/-! ### what is walked -/
/-- a tuple that may be taken apart alone -/
def RpU (K : Fr) (H : Hp) (Xs : List Addr) (d : D) (v : V) : Prop := Rp K H Xs d v ∨ ∃ ds a vs, d = .tuple ds ∧ v = .ref a ∧ SqT K H a vs ∧ RpA K H Xs ds vs
def RpW (u : Bool) (K : Fr) (H : Hp) (Xs : List Addr) (d : D) (v : V) : Prop := if u = true then RpU K H Xs d v else Rp K H Xs d v
theorem RpW.of {u : Bool} {K : Fr} {H : Hp} {Xs : List Addr} {d : D} {v : V} (h : Rp K H Xs d v) : RpW u K H Xs d v := by
  cases u
  · exact h
  · exact .inl h
theorem RpW.tuple {u : Bool} {K : Fr} {H : Hp} {Xs : List Addr} {ds : List D} {v : V} (h : RpW u K H Xs (.tuple ds) v) : ∃ a vs, v = .ref a ∧ SqT K H a vs ∧ RpA K H Xs ds vs := by
  cases u
  · obtain ⟨a, vs, e, f, r⟩ := (show Rp K H Xs (.tuple ds) v from h)
    exact ⟨a, vs, e, f.sq, r⟩
  · rcases (show RpU K H Xs (.tuple ds) v from h) with ⟨a, vs, e, f, r⟩ | ⟨ds', a, vs, e, ev, f, r⟩
    · exact ⟨a, vs, e, f.sq, r⟩
    · cases e
      exact ⟨a, vs, ev, f, r⟩
/-- the iterator gives the values ds, one after the other, while what it leans on (tmp) stands -/
def Walks (u : Bool) (K : Fr) (J : It) (tmp : List (D × V)) (ds : List D) : Prop := ∀ (X : List Addr) (i : Nat) (H : Hp), (∀ p ∈ tmp, Rp K H X p.1 p.2) → (∀ a ∈ X, H a ≠ none) →
  (∀ d, ds[i]? = some d → J.go i H ∧ ∀ x H', J.yld i H x H' → Stay [] H H' ∧ RpW u K H' X d x) ∧ (ds.length ≤ i → J.stop i H)
section
variable (K : Fr) (cl : Nat → Addr) (W : WX) (m u : Bool)
def GoodI (fm : Fm) (X : List Addr) (os : List (Nat × Addr)) (σ : L2.St) (H : Hp) (R : It → Hp → Prop) : Out (List D) → Prop
  | .ok ds s' => ∀ J H' tmp, Rel K fm X os s' σ H' → Stay (Mu fm.dka os m) H H' → (∀ p ∈ tmp, Rp K H' X p.1 p.2) → Walks u K J tmp ds → R J H'
  | .exc c t s' => Wish K cl W fm X os σ c t s'
  | .no => False
def tI (ev : Evs) : TI := fun σ H R => ∃ fm X os s, Rel K fm X os s σ H ∧ GoodI K cl W m u fm X os σ H R (ev s)
end
abbrev SI (cl : Nat → Addr) (X : Cx) (W : WX) (m u : Bool) (tg e : Expr) (ev : Evs) : Prop := PI X tg e (tI X.K cl W m u ev)
section
variable {cl : Nat → Addr} {X : Cx} {W : WX} {m : Bool} {e e2 tg : Expr} {ev : Ev} {evs : Evs} {pos p : Pos}
theorem pi_imp {it : Expr} {t t' : TI} (h : PI X tg it t) (i : ∀ σ H R, t' σ H R → t σ H R) : PI X tg it t' := ⟨fun pins s σ H R I q => h.run pins s σ H R I (i σ H R q)⟩
/-- a list -/
theorem walks_list {K : Fr} {a : Addr} {ds : List D} : Walks false K (Itl K a) [(.list ds, .ref a)] ds := by
  intro Xs i H ht hx
  have h := ht _ List.mem_cons_self
  obtain ⟨b, vs, eb, hf, ra⟩ := h
  cases eb
  refine ⟨fun d e => ?_, fun hl => ⟨vs, SqL.of hf.1, by rw [ra.len]; exact hl⟩⟩
  obtain ⟨v, ev, pv⟩ := ra.get e
  refine ⟨⟨vs, v, SqL.of hf.1, ev⟩, fun x H' hy => ?_⟩
  obtain ⟨eH, hy⟩ := hy
  subst eH
  have q := hy vs (SqL.of hf.1)
  rw [ev] at q
  cases q
  exact ⟨Stay.refl _ _, pv⟩
theorem walks_tup {K : Fr} {a : Addr} {ds : List D} : Walks false K (Itt K a) [(.tuple ds, .ref a)] ds := by
  intro Xs i H ht hx
  have h := ht _ List.mem_cons_self
  obtain ⟨b, vs, eb, hf, ra⟩ := h
  cases eb
  refine ⟨fun d e => ?_, fun hl => ⟨vs, hf.sq, by rw [ra.len]; exact hl⟩⟩
  obtain ⟨v, ev, pv⟩ := ra.get e
  refine ⟨⟨vs, v, hf.sq, ev⟩, fun x H' hy => ?_⟩
  obtain ⟨eH, hy⟩ := hy
  subst eH
  have q := hy vs hf.sq
  rw [ev] at q
  cases q
  exact ⟨Stay.refl _ _, pv⟩
def evItL (a : Ev) : Evs := fun s => (a s).bind fun d s1 => match d with
  | .list ds => .ok ds s1
  | _ => .no
def evItT (a : Ev) : Evs := fun s => (a s).bind fun d s1 => match d with
  | .tuple ds => .ok ds s1
  | _ => .no
def signs (x : Str) : List D := x.cps.toList.map fun c => .str ⟨#[c]⟩
def evItS (a : Ev) : Evs := fun s => (a s).bind fun d s1 => match d with
  | .str x => .ok (signs x) s1
  | _ => .no
theorem si_list (h : SE cl X W m e ev) : SI cl X W m false tg e (evItL ev) := pi_imp (pi_list h) fun σ H R ⟨fm, Xs, os, s, r, g⟩ => by
  unfold evItL at g
  refine ⟨fm, Xs, os, s, r, ?_⟩
  cases q : ev s with
  | ok d s1 =>
    rw [q] at g
    simp only [Out.bind_ok] at g
    refine fun v H1 r1 st1 p1 => ?_
    cases d with
    | list ds =>
      obtain ⟨a, vs, ev, hf, ra⟩ := id p1
      subst ev
      exact ⟨a, rfl, ⟨vs, SqL.of hf.1⟩, g _ H1 [(.list ds, .ref a)] r1 st1 (fun q hq => by rw [List.mem_singleton.mp hq]; exact p1) walks_list⟩
    | _ => exact g.elim
  | exc c t s1 => rw [q] at g; exact g
  | no => rw [q] at g; exact g.elim
theorem si_tup (h : SE cl X W m e ev) : SI cl X W m false tg e (evItT ev) := pi_imp (pi_tup h) fun σ H R ⟨fm, Xs, os, s, r, g⟩ => by
  unfold evItT at g
  refine ⟨fm, Xs, os, s, r, ?_⟩
  cases q : ev s with
  | ok d s1 =>
    rw [q] at g
    simp only [Out.bind_ok] at g
    refine fun v H1 r1 st1 p1 => ?_
    cases d with
    | tuple ds =>
      obtain ⟨a, vs, ev, hf, ra⟩ := id p1
      subst ev
      exact ⟨a, rfl, ⟨vs, hf.sq⟩, g _ H1 [(.tuple ds, .ref a)] r1 st1 (fun q hq => by rw [List.mem_singleton.mp hq]; exact p1) walks_tup⟩
    | _ => exact g.elim
  | exc c t s1 => rw [q] at g; exact g
  | no => rw [q] at g; exact g.elim
theorem walks_str {K : Fr} {x : Str} : Walks false K (Its x) [] (signs x) := by
  intro Xs i H _ _
  refine ⟨fun d e => ?_, fun hl => ?_⟩
  · unfold signs at e
    rw [List.getElem?_map] at e
    obtain ⟨c, ec, ed⟩ := Option.map_eq_some_iff.mp e
    subst ed
    have hc : x.cps[i]? = some c := by
      rw [← ec]; simp
    refine ⟨(Array.getElem?_eq_some_iff.mp hc).1, fun v H' hy => ?_⟩
    obtain ⟨eH, c', ec', ev⟩ := hy
    subst eH ev
    rw [hc] at ec'
    cases ec'
    exact ⟨Stay.refl _ _, rfl⟩
  · unfold signs at hl
    show x.cps.size ≤ i
    simpa using hl
theorem si_str (h : SE cl X W m e ev) : SI cl X W m false tg e (evItS ev) := pi_imp (pi_str h) fun σ H R ⟨fm, Xs, os, s, r, g⟩ => by
  unfold evItS at g
  refine ⟨fm, Xs, os, s, r, ?_⟩
  cases q : ev s with
  | ok d s1 =>
    rw [q] at g
    simp only [Out.bind_ok] at g
    refine fun v H1 r1 st1 p1 => ?_
    cases d with
    | str x => exact ⟨x, p1, g _ H1 [] r1 st1 (fun q hq => absurd hq (by simp)) walks_str⟩
    | _ => exact g.elim
  | exc c t s1 => rw [q] at g; exact g
  | no => rw [q] at g; exact g.elim
def intsD (lo : Int) (n : Nat) : List D := (List.range n).map fun i => .int (lo + (i : Nat))
theorem walks_rng {K : Fr} {lo : Int} {n : Nat} : Walks false K (Itr lo n) [] (intsD lo n) := by
  intro Xs i H _ _
  refine ⟨fun d e => ?_, fun hl => ?_⟩
  · unfold intsD at e
    rw [List.getElem?_map] at e
    obtain ⟨c, ec, ed⟩ := Option.map_eq_some_iff.mp e
    subst ed
    have hi : i < n := by simpa using (List.getElem?_eq_some_iff.mp ec).1
    have hc : c = i := by
      rw [List.getElem?_range hi] at ec
      exact (Option.some.inj ec).symm
    subst hc
    refine ⟨hi, fun v H' hy => ?_⟩
    obtain ⟨eH, ev⟩ := hy
    subst eH ev
    exact ⟨Stay.refl _ _, rfl⟩
  · unfold intsD at hl
    show n ≤ i
    simpa using hl
def evRng1 (a : Ev) : Evs := fun s => (a s).bind fun d s1 => match d with
  | .int j => if -(2 ^ 62) ≤ j ∧ j < 2 ^ 62 then .ok (intsD 0 j.toNat) s1 else .no
  | _ => .no
theorem si_rng1 (hg : Gl X "range") (hm : X.mg "range" = none) (h : SB cl X W m e ev) (hs : starEach [e] X.env = [(false, eval e X.env)] := by rfl) : SI cl X W m false tg (.Call (.Name "range" p) [e] [] pos) (evRng1 ev) :=
  pi_imp (pi_range1 hg hm (pa_cons h pa_nil hs) hs) fun σ H R ⟨fm, Xs, os, s, r, g⟩ => by
    unfold evRng1 at g
    refine ⟨fm, Xs, os, s, r, ?_⟩
    cases q : ev s with
    | ok d s1 =>
      rw [q] at g
      simp only [Out.bind_ok] at g
      refine fun v H1 r1 st1 p1 => ?_
      cases d with
      | int j =>
        dsimp only at g
        split at g
        · rename_i hj
          exact ⟨j, by rw [p1.int], hj.1, hj.2, g _ H1 [] r1 st1 (fun q hq => absurd hq (by simp)) walks_rng⟩
        · exact g.elim
      | _ => exact g.elim
    | exc c t s1 => rw [q] at g; exact g
    | no => rw [q] at g; exact g.elim
def evRng2 (a b : Ev) : Evs := fun s => (a s).bind fun d s1 => (b s1).bind fun d2 s2 => match d, d2 with
  | .int i, .int j => if -(2 ^ 62) ≤ i ∧ i < 2 ^ 62 ∧ -(2 ^ 62) ≤ j ∧ j < 2 ^ 62 then .ok (intsD i (j - i).toNat) s2 else .no
  | _, _ => .no
theorem si_rng2 {b : Ev} (hg : Gl X "range") (hm : X.mg "range" = none) (h : SB cl X W m e ev) (h2 : SB cl X W true e2 b) (hs : starEach [e, e2] X.env = [(false, eval e X.env), (false, eval e2 X.env)] := by rfl) (hs2 : starEach [e2] X.env = [(false, eval e2 X.env)] := by rfl) :
    SI cl X W m false tg (.Call (.Name "range" p) [e, e2] [] pos) (evRng2 ev b) :=
  pi_imp (pi_range2 hg hm (pa_cons h (pa_cons h2 pa_nil hs2) (by rw [hs, hs2])) hs hs2) fun σ H R ⟨fm, Xs, os, s, r, g⟩ => by
    unfold evRng2 at g
    refine ⟨fm, Xs, os, s, r, ?_⟩
    cases q : ev s with
    | ok d s1 =>
      rw [q] at g
      simp only [Out.bind_ok] at g
      refine fun v H1 r1 st1 p1 => ⟨fm, Xs, os, s1, r1, ?_⟩
      cases q2 : b s1 with
      | ok d2 s2 =>
        rw [q2] at g
        simp only [Out.bind_ok] at g
        refine fun v2 H2 r2 st2 p2 => ?_
        cases d with
        | int i =>
          cases d2 with
          | int j =>
            dsimp only at g
            split at g
            · rename_i hj
              exact ⟨i, j, by rw [p1.int, p2.int], hj, g _ H2 [] r2 (st1.trans (st2.more Mu.still)) (fun q hq => absurd hq (by simp)) walks_rng⟩
            · exact g.elim
          | _ => exact g.elim
        | _ => exact g.elim
      | exc c t s2 => rw [q2] at g; exact g
      | no => rw [q2] at g; exact g.elim
    | exc c t s1 => rw [q] at g; exact g
    | no => rw [q] at g; exact g.elim
/-- reversed(a list) -/
theorem walks_rev {K : Fr} {a : Addr} {ds : List D} : Walks false K (Itv K a ds.length) [(.list ds, .ref a)] ds.reverse := by
  intro Xs i H ht hx
  have h := ht _ List.mem_cons_self
  obtain ⟨b, vs, eb, hf, ra⟩ := h
  cases eb
  refine ⟨fun d e => ?_, fun hl => show ds.length ≤ i by simpa using hl⟩
  have hi : i < ds.length := by simpa using (List.getElem?_eq_some_iff.mp e).1
  rw [List.getElem?_reverse hi] at e
  obtain ⟨v, ev, pv⟩ := ra.get e
  refine ⟨⟨hi, vs, v, SqL.of hf.1, ev⟩, fun x H' hy => ?_⟩
  obtain ⟨eH, hy⟩ := hy
  subst eH
  have q := hy vs (SqL.of hf.1)
  rw [ev] at q
  cases q
  exact ⟨Stay.refl _ _, pv⟩
def evRevL (a : Ev) : Evs := fun s => (a s).bind fun d s1 => match d with
  | .list ds => .ok ds.reverse s1
  | _ => .no
theorem si_rev (hg : Gl X "reversed") (hm : X.mg "reversed" = none) (h : SE cl X W m e ev) (hs : starEach [e] X.env = (false, eval e X.env) :: starEach [] X.env := by rfl) : SI cl X W m false tg (.Call (.Name "reversed" p) [e] [] pos) (evRevL ev) :=
  pi_imp (RT.pi_revA hg hm h hs) fun σ H R ⟨fm, Xs, os, s, r, g⟩ => by
    unfold evRevL at g
    refine ⟨fm, Xs, os, s, r, ?_⟩
    cases q : ev s with
    | ok d s1 =>
      rw [q] at g
      simp only [Out.bind_ok] at g
      refine fun v H1 r1 st1 p1 => ?_
      cases d with
      | list ds =>
        obtain ⟨a, vs, ev, hf, ra⟩ := id p1
        subst ev
        refine ⟨a, vs, rfl, .inl ⟨SqL.of hf.1, ?_⟩⟩
        rw [ra.len]
        exact g _ H1 [(.list ds, .ref a)] r1 st1 (fun q hq => by rw [List.mem_singleton.mp hq]; exact p1) walks_rev
      | _ => exact g.elim
    | exc c t s1 => rw [q] at g; exact g
    | no => rw [q] at g; exact g.elim
/-- zip of two tuples, of two lists -/
def zipD (xs ys : List D) : List D := (xs.zip ys).map fun p => .tuple [p.1, p.2]
theorem zipD_get {xs ys : List D} {i : Nat} {d : D} (h : (zipD xs ys)[i]? = some d) : ∃ x y, xs[i]? = some x ∧ ys[i]? = some y ∧ d = .tuple [x, y] := by
  unfold zipD at h
  rw [List.getElem?_map] at h
  obtain ⟨p, ep, ed⟩ := Option.map_eq_some_iff.mp h
  obtain ⟨h1, h2⟩ := List.getElem?_zip_eq_some.mp ep
  exact ⟨_, _, h1, h2, ed.symm⟩
theorem zipD_len (xs ys : List D) : (zipD xs ys).length = min xs.length ys.length := by simp [zipD]
theorem rp_pair {K : Fr} {H : Hp} {Xs : List Addr} {T : Addr} {x y : D} {v w : V} (hT : H T = none) (nx : T ∉ Xs) (hx : Rp K H Xs x v) (hy : Rp K H Xs y w) : RpW true K (upd H T (.tup [v, w])) Xs (.tuple [x, y]) (.ref T) :=
  .inr ⟨[x, y], T, [v, w], rfl, rfl, .inl (.inl upd_same), RpA.laid hT ⟨v, [w], rfl, hx, w, [], rfl, hy, rfl⟩⟩
theorem free_nx {H : Hp} {Xs : List Addr} {T : Addr} (hx : ∀ a ∈ Xs, H a ≠ none) (h : H T = none) : T ∉ Xs := fun z => hx T z h
theorem walks_zipT {K : Fr} {a b : Addr} {ds es : List D} : Walks true K (RZ.ItzT K a b) [(.tuple ds, .ref a), (.tuple es, .ref b)] (zipD ds es) := by
  intro Xs i H ht hx
  obtain ⟨a', vs, ea, hf, ra⟩ := ht _ List.mem_cons_self
  obtain ⟨b', ws, eb, hf2, rb⟩ := ht _ (List.mem_cons_of_mem _ List.mem_cons_self)
  cases ea
  cases eb
  refine ⟨fun d e => ?_, fun hl => ⟨vs, ws, hf.sq, hf2.sq, ?_⟩⟩
  · obtain ⟨x, y, e1, e2, ed⟩ := zipD_get e
    subst ed
    obtain ⟨v, ev, pv⟩ := ra.get e1
    obtain ⟨w, ew, pw⟩ := rb.get e2
    refine ⟨⟨vs, ws, v, w, hf.sq, hf2.sq, ev, ew⟩, fun z H' hy => ?_⟩
    obtain ⟨T, x', y', ez, hT, eH, h1, h2⟩ := hy
    have q1 := h1 vs hf.sq
    have q2 := h2 ws hf2.sq
    rw [ev] at q1
    rw [ew] at q2
    cases q1
    cases q2
    subst ez eH
    exact ⟨Stay.laid hT, rp_pair hT (free_nx hx hT) pv pw⟩
  · rw [zipD_len] at hl
    rw [ra.len, rb.len]
    omega
theorem walks_zipL {K : Fr} {a b : Addr} {ds es : List D} : Walks true K (Itz K a b) [(.list ds, .ref a), (.list es, .ref b)] (zipD ds es) := by
  intro Xs i H ht hx
  obtain ⟨a', vs, ea, hf, ra⟩ := ht _ List.mem_cons_self
  obtain ⟨b', ws, eb, hf2, rb⟩ := ht _ (List.mem_cons_of_mem _ List.mem_cons_self)
  cases ea
  cases eb
  refine ⟨fun d e => ?_, fun hl => ⟨vs, ws, SqL.of hf.1, SqL.of hf2.1, ?_⟩⟩
  · obtain ⟨x, y, e1, e2, ed⟩ := zipD_get e
    subst ed
    obtain ⟨v, ev, pv⟩ := ra.get e1
    obtain ⟨w, ew, pw⟩ := rb.get e2
    refine ⟨⟨vs, ws, v, w, SqL.of hf.1, SqL.of hf2.1, ev, ew⟩, fun z H' hy => ?_⟩
    obtain ⟨T, x', y', ez, hT, eH, h1, h2⟩ := hy
    have q1 := h1 vs (SqL.of hf.1)
    have q2 := h2 ws (SqL.of hf2.1)
    rw [ev] at q1
    rw [ew] at q2
    cases q1
    cases q2
    subst ez eH
    exact ⟨Stay.laid hT, rp_pair hT (free_nx hx hT) pv pw⟩
  · rw [zipD_len] at hl
    rw [ra.len, rb.len]
    omega
def evZip (a b : Ev) : Evs := fun s => (a s).bind fun d s1 => (b s1).bind fun d2 s2 => match d, d2 with
  | .tuple xs, .tuple ys => .ok (zipD xs ys) s2
  | .list xs, .list ys => .ok (zipD xs ys) s2
  | _, _ => .no
theorem si_zip {b : Ev} {elts : List Expr} {kk : Nat} {tpos : Pos} (hg : Gl X "zip") (hm : X.mg "zip" = none) (h : SE cl X W m e ev) (h2 : SE cl X W m e2 b) (hs : starEach [e, e2] X.env = (false, eval e X.env) :: starEach [e2] X.env := by rfl)
    (hs2 : starEach [e2] X.env = (false, eval e2 X.env) :: starEach [] X.env := by rfl) (hpl : (backTo pos (starEach [e2] X.env)).any (·.1) = false := by rfl) : SI cl X W m true (.Tuple elts kk tpos) (.Call (.Name "zip" p) [e, e2] [] pos) (evZip ev b) :=
  pi_imp (RZ.pi_zipA hg hm (pa_cons h (pa_cons h2 pa_nil hs2) hs) hs hpl) fun σ H R ⟨fm, Xs, os, s, r, g⟩ => by
    unfold evZip at g
    refine ⟨fm, Xs, os, s, r, ?_⟩
    cases q : ev s with
    | ok d s1 =>
      rw [q] at g
      simp only [Out.bind_ok] at g
      refine fun v H1 r1 st1 p1 => ⟨fm, Xs, os, s1, r1, ?_⟩
      cases q2 : b s1 with
      | ok d2 s2 =>
        rw [q2] at g
        simp only [Out.bind_ok] at g
        refine fun v2 H2 r2 st2 p2 => ?_
        have p1' := Rp.stay st2 r1.sx d v p1
        cases d with
        | tuple xs =>
          cases d2 with
          | tuple ys =>
            obtain ⟨a, vs, ea, hf, ra⟩ := id p1'
            obtain ⟨b, ws, eb, hf2, rb⟩ := id p2
            subst ea eb
            exact ⟨a, b, vs, ws, rfl, .inr ⟨hf.sq, hf2.sq, g _ H2 [(.tuple xs, .ref a), (.tuple ys, .ref b)] r2 (st1.trans st2) (fun q hq => by
              rcases List.mem_cons.mp hq with e | hq
              · rw [e]; exact p1'
              · rw [List.mem_singleton.mp hq]; exact p2) walks_zipT⟩⟩
          | _ => exact g.elim
        | list xs =>
          cases d2 with
          | list ys =>
            obtain ⟨a, vs, ea, hf, ra⟩ := id p1'
            obtain ⟨b, ws, eb, hf2, rb⟩ := id p2
            subst ea eb
            exact ⟨a, b, vs, ws, rfl, .inl ⟨SqL.of hf.1, SqL.of hf2.1, g _ H2 [(.list xs, .ref a), (.list ys, .ref b)] r2 (st1.trans st2) (fun q hq => by
              rcases List.mem_cons.mp hq with e | hq
              · rw [e]; exact p1'
              · rw [List.mem_singleton.mp hq]; exact p2) walks_zipL⟩⟩
          | _ => exact g.elim
        | _ => exact g.elim
      | exc c t s2 => rw [q2] at g; exact g
      | no => rw [q2] at g; exact g.elim
    | exc c t s1 => rw [q] at g; exact g
    | no => rw [q] at g; exact g.elim
/-! ### targets -/
/-- a target stores a value: what it makes of the state -/
def TgSem (u : Bool) (K : Fr) (g : TG) (vs : List Nat) (f : D → Ms → Option Ms) : Prop :=
  ∀ (fm : Fm) (Xs : List Addr) (os : List (Nat × Addr)) (s s' : Ms) (σ : L2.St) (H : Hp) (d : D) (x : V) (Q : L2.St → Hp → Prop), Rel K fm Xs os s σ H → RpW u K H Xs d x → f d s = some s' →
    (∀ σ', Rel K fm Xs os s' σ' H → wipe σ' vs = wipe σ vs → Q σ' H) → g x σ H Q
def tgN (i : Nat) : D → Ms → Option Ms := fun d s => some { s with env := s.env.set i (.fz d) }
def tgT (is : List Nat) : D → Ms → Option Ms := fun d s => match d with
  | .tuple ds => if ds.length = is.length then some { s with env := setMany is ds s.env } else none
  | _ => none
/-- as setfz, the frame's own lists as they were told -/
theorem Rel.setfz0 {K : Fr} {fm : Fm} {Xs : List Addr} {os : List (Nat × Addr)} {s : Ms} {σ : L2.St} {H : Hp} (r : Rel K fm Xs os s σ H) {i : Nat} {d : D} {v : V} (p : Rp K H Xs d v) : Rel K fm Xs os { s with env := s.env.set i (.fz d) } (σ.set i (some v)) H :=
  { len := by simp [r.len]
    slot := fun j sv e => by
      by_cases hij : i = j
      · subst hij
        by_cases hl : i < s.env.length
        · simp [hl] at e
          subst e
          exact ⟨v, getD_set_self (by rw [← r.len]; exact hl), p⟩
        · exact absurd (by simpa using (List.getElem?_eq_some_iff.mp e).1) hl
      · have e' : s.env[j]? = some sv := by simpa [hij] using e
        have q := r.slot j sv e'
        rw [getD_set_ne hij]
        exact q
    nd := r.nd, sub := r.sub, lv := r.lv, x0 := r.x0, x1 := r.x1, xt := r.xt, dks := r.dks, dk := r.dk, ent := r.ent, one := r.one, tm := r.tm }
theorem wipe_get {σ : L2.St} {i : Nat} : ∀ {vs : List Nat}, (wipe σ vs)[i]? = if i ∈ vs ∧ i < σ.length then some none else σ[i]?
  | [] => by simp [wipe]
  | v :: vs => by
    unfold wipe
    by_cases h : v = i
    · subst h
      by_cases hl : v < σ.length
      · rw [List.getElem?_set_self (by rw [wipe_length]; exact hl), if_pos ⟨List.mem_cons_self, hl⟩]
      · rw [List.getElem?_eq_none (by rw [List.length_set, wipe_length]; omega), if_neg (fun q => hl q.2), List.getElem?_eq_none (by omega)]
    · rw [List.getElem?_set_ne h, wipe_get]
      by_cases hm : i ∈ vs
      · simp [hm]
      · have : i ∉ v :: vs := fun z => (List.mem_cons.mp z).elim (fun e => h e.symm) hm
        simp [hm, this]
theorem wipe_set {σ : L2.St} {vs : List Nat} {i : Nat} {o : Option V} (h : i ∈ vs) : wipe (σ.set i o) vs = wipe σ vs := by
  apply List.ext_getElem?
  intro j
  rw [wipe_get, wipe_get, List.length_set]
  by_cases hj : j ∈ vs ∧ j < σ.length
  · rw [if_pos hj, if_pos hj]
  · rw [if_neg hj, if_neg hj]
    by_cases e : i = j
    · subst e
      have : ¬ i < σ.length := fun z => hj ⟨h, z⟩
      rw [List.getElem?_eq_none (by rw [List.length_set]; omega), List.getElem?_eq_none (by omega)]
    · rw [List.getElem?_set_ne e]
theorem tgN_sem {K : Fr} {i : Nat} {vs : List Nat} (h : i ∈ vs) : TgSem false K (gName i) vs (tgN i) := by
  intro fm Xs os s s' σ H d x Q r p e q
  cases e
  exact q _ (r.setfz0 p) (wipe_set h)
theorem gNames_sem {K : Fr} {fm : Fm} {Xs : List Addr} {os : List (Nat × Addr)} {H : Hp} {Q : L2.St → Hp → Prop} {vs : List Nat} {σ0 : L2.St} : ∀ (is : List Nat) (ds : List D) (ws : List V) (s : Ms) (σ : L2.St), (∀ i ∈ is, i ∈ vs) → Rel K fm Xs os s σ H → RpA K H Xs ds ws → ds.length = is.length → wipe σ vs = wipe σ0 vs →
    (∀ σ', Rel K fm Xs os { s with env := setMany is ds s.env } σ' H → wipe σ' vs = wipe σ0 vs → Q σ' H) → gNames is ws σ H Q
  | [], [], _, s, σ, _, r, ra, _, hw, q => by
    cases ra
    exact ⟨rfl, q σ r hw⟩
  | i :: is, d :: ds, _, s, σ, hm, r, ra, hl, hw, q => by
    obtain ⟨v, w, e, p, t⟩ := ra
    subst e
    refine ⟨v, w, rfl, ?_⟩
    exact gNames_sem is ds w { s with env := s.env.set i (.fz d) } _ (fun j hj => hm j (List.mem_cons_of_mem _ hj)) (r.setfz0 p) t (by simpa using hl) (by rw [wipe_set (hm i List.mem_cons_self)]; exact hw) q
  | [], _ :: _, _, _, _, _, _, _, hl, _, _ => by simp at hl
  | _ :: _, [], _, _, _, _, _, _, hl, _, _ => by simp at hl
theorem tgT_sem {u : Bool} {K : Fr} {n : Nat} {is vs : List Nat} (hn : n = is.length) (h : ∀ i ∈ is, i ∈ vs) : TgSem u K (gTup K n (gNames is)) vs (tgT is) := by
  intro fm Xs os s s' σ H d x Q r p e q
  unfold tgT at e
  cases d with
  | tuple ds =>
    dsimp only at e
    split at e
    · rename_i hl
      cases e
      obtain ⟨a, ws, ea, hf, ra⟩ := p.tuple
      exact ⟨a, ws, ea, hf, by rw [ra.len, hl, hn], gNames_sem is ds ws s σ h r ra hl rfl fun σ' r' hw => q σ' r' hw⟩
    · cases e
  | _ => cases e
end
end Zo
/-! ZH: while, for, list comprehensions. -/
namespace Zo
open PySem PySem.Spec PyProof.Rows L2
section
variable {K : Fr} {fm : Fm} {X : List Addr} {os : List (Nat × Addr)} {s : Ms} {σ : L2.St} {H H' : Hp}
/-- a list that is being made is changed -/
theorem Rel.putXO (r : Rel K fm X os s σ H) {p : Addr} {u0 u1 : HO} (hx : p ∈ X) (no : p ∉ os.map (·.2)) (nd : p ∉ dkl fm.dka) (n0 : fm.H0 p = none) (hp : H p = some u0) (nf : NoFz u0) : Rel K fm X os s σ (upd H p u1) := by
  have st : Stay [p] H (upd H p u1) := Stay.put List.mem_cons_self
  have sx : ∀ x ∈ [p], x ∈ X := fun x h => by rw [List.mem_singleton.mp h]; exact hx
  exact {
    len := r.len
    slot := fun i sv e => by
      have q := r.slot i sv e
      cases sv with
      | un => exact q
      | fz d =>
        obtain ⟨v, e1, z⟩ := q
        exact ⟨v, e1, Rp.stay st sx d v z⟩
      | own ds =>
        obtain ⟨a, vs, e1, e2, e3, z⟩ := q
        have na : a ≠ p := fun e => no (List.mem_map.mpr ⟨_, e2, e⟩)
        exact ⟨a, vs, e1, e2, by rw [upd_ne na]; exact e3, RpA.stay st sx ds vs z⟩
      | obj oa oc oe =>
        obtain ⟨C, dx, fs, e1, e2, e0, e3, z⟩ := q
        have na : oa ≠ p := fun e => no (List.mem_map.mpr ⟨_, e2, e⟩)
        exact ⟨C, dx, fs, e1, e2, e0, by rw [upd_ne na]; exact e3, RpK.stay st sx oe _ z⟩
      | deck => exact q
    nd := r.nd
    sub := r.sub
    lv := fun q hq => by
      obtain ⟨vs, e, n⟩ := r.lv q hq
      have na : q.2 ≠ p := fun e => no (List.mem_map.mpr ⟨_, hq, e⟩)
      exact ⟨vs, by rw [upd_ne na]; exact e, n⟩
    x0 := r.x0
    x1 := r.x1
    xt := fun b hb => by
      by_cases hbp : b = p
      · rw [hbp, upd_same]; simp
      · rw [upd_ne hbp]; exact r.xt b hb
    dks := r.dks
    dk := fun kd kc e => by
      obtain ⟨h1, h2, h3, h4⟩ := r.dk kd kc e
      have m1 : kd ≠ p := fun z => nd (by rw [e]; simp [dkl, z])
      have m2 : kc ≠ p := fun z => nd (by rw [e]; simp [dkl, z])
      exact ⟨h1, by rw [upd_ne m1]; exact h2, by rw [upd_ne m2]; exact h3, h4⟩
    ent := fun b o e n => by
      have hb : b ≠ p := fun z => by rw [z, n0] at e; cases e
      rw [upd_ne hb]
      exact r.ent b o e n
    one := fun e => by
      obtain ⟨o, u, q⟩ := r.one e
      have hb : sysModules ≠ p := fun z => by
        rw [← z, q] at hp
        cases hp
        exact nf
      exact ⟨o, u, by rw [upd_ne hb]; exact q⟩
    tm := fun q hq => Rp.stay st sx q.1 q.2 (r.tm q hq) }
theorem Rel.putX (r : Rel K fm X os s σ H) {p : Addr} {ws ws' : List V} (hx : p ∈ X) (no : p ∉ os.map (·.2)) (nd : p ∉ dkl fm.dka) (n0 : fm.H0 p = none) (hp : H p = some (.lst ws)) : Rel K fm X os s σ (upd H p (.lst ws')) := r.putXO hx no nd n0 hp trivial
/-! ### slots are forgotten -/
def forgetE : List Nat → List Sv → List Sv
  | [], e => e
  | i :: is, e => forgetE is (e.set i .un)
def forgetS (vs : List Nat) (s : Ms) : Ms := { s with env := forgetE vs s.env }
theorem forgetE_len : ∀ (vs : List Nat) (e : List Sv), (forgetE vs e).length = e.length
  | [], _ => rfl
  | i :: is, e => by unfold forgetE; rw [forgetE_len is, List.length_set]
theorem forgetE_get : ∀ (vs : List Nat) (e : List Sv) (i : Nat), i ∈ vs → i < e.length → (forgetE vs e)[i]? = some .un := by
  have keep : ∀ (vs : List Nat) (e : List Sv) (i : Nat), e[i]? = some .un → (forgetE vs e)[i]? = some .un := by
    intro vs
    induction vs with
    | nil => intro e i h; exact h
    | cons j js ih =>
      intro e i h
      refine ih _ i ?_
      by_cases hij : j = i
      · subst hij
        rw [List.getElem?_set_self (List.getElem?_eq_some_iff.mp h).1]
      · rw [List.getElem?_set_ne hij]; exact h
  intro vs
  induction vs with
  | nil => intro e i h; simp at h
  | cons j js ih =>
    intro e i h hl
    unfold forgetE
    rcases List.mem_cons.mp h with rfl | h
    · exact keep js _ i (List.getElem?_set_self hl)
    · exact ih _ i h (by rw [List.length_set]; exact hl)
theorem Rel.forgets (r : Rel K fm X os s σ H) : ∀ (vs : List Nat), Rel K fm X os (forgetS vs s) σ H := by
  intro vs
  induction vs generalizing s with
  | nil => exact r
  | cons i is ih => exact ih (r.forget i)
theorem Rel.wiped {σ' : L2.St} {vs : List Nat} (r : Rel K fm X os (forgetS vs s) σ H) (h : wipe σ' vs = wipe σ vs) : Rel K fm X os (forgetS vs s) σ' H := by
  have hl : σ'.length = σ.length := by
    have := congrArg List.length h
    rwa [wipe_length, wipe_length] at this
  refine r.resig hl fun i => ?_
  by_cases hi : i ∈ vs
  · by_cases hl2 : i < s.env.length
    · exact .inl (forgetE_get vs s.env i hi hl2)
    · refine .inr ?_
      have e := r.len
      have e2 : (forgetS vs s).env.length = s.env.length := forgetE_len _ _
      rw [e2] at e
      rw [List.getElem?_eq_none (by omega), List.getElem?_eq_none (by omega)]
  · refine .inr ?_
    have q := congrArg (fun l : L2.St => l[i]?) h
    simp only [wipe_get, hi, false_and, if_false] at q
    exact q
theorem wipe_wipe {σ : L2.St} {vs : List Nat} : wipe (wipe σ vs) vs = wipe σ vs := by
  apply List.ext_getElem?
  intro j
  rw [wipe_get, wipe_get, wipe_length]
  by_cases h : j ∈ vs ∧ j < σ.length
  · rw [if_pos h, if_pos h]
  · rw [if_neg h, if_neg h]
end
section
variable {cl : Nat → Addr} {X : Cx} {W : WX} {m : Bool} {e e2 tg iter : Expr} {ev : Ev} {evs : Evs} {pos p : Pos} {body : List Stmt}
/-! ### while -/
def stepS (o : Out Fl) (k : Ex) : Out Fl := match o with
  | .ok .nx s => k s
  | .ok .ct s => k s
  | .ok .bk s => .ok .nx s
  | .ok (.rt d) s => .ok (.rt d) s
  | .exc c t s => .exc c t s
  | .no => .no
def whileS : Nat → (Ms → Out Bool) → Ex → Ex
  | 0, _, _ => fun _ => .no
  | n + 1, c, b => fun s => (c s).bind fun k s1 => if k = true then stepS (b s1) (whileS n c b) else .ok .nx s1
theorem GoodS.step {K : Fr} {fm fm' : Fm} {Dn : Ends} {o : Out Fl} {k : Ex} {N : L2.St → Hp → Prop} (h : GoodS K cl W fm Dn (stepS o k)) (hd : ∀ {Xs os s σ H}, Rel K fm' Xs os s σ H → Rel K fm Xs os s σ H)
    (hN : ∀ Xs os s σ H, Rel K fm' Xs os s σ H → GoodS K cl W fm Dn (k s) → N σ H) : GoodS K cl W fm' { Dn with nx := N, ct := N, bk := Dn.nx } o := by
  cases o with
  | ok fl s1 =>
    cases fl with
    | nx => exact fun Xs os σ H r => hN Xs os s1 σ H r h
    | ct => exact fun Xs os σ H r => hN Xs os s1 σ H r h
    | bk => exact fun Xs os σ H r => h Xs os σ H (hd r)
    | rt d => exact fun Xs os σ H r => h Xs os σ H (hd r)
  | exc c t s1 => exact fun Xs os σ v dd H' r p q => h Xs os σ v dd H' (hd r) p q
  | no => exact h.elim
theorem ss_while {c : Ms → Out Bool} {b : Ex} (n : Nat) (hp : PassesOwn (model X.prog X.w) X.A X.env X.xe) (hc : STt cl X W m e c) (hb : SSs cl X W body b) : SS cl X W (.While e body [] pos) (whileS n c b) :=
  ps_imp (ps_while hp hc hb) fun Dn σ H ⟨fm, Xs, os, s, r, g⟩ => by
    refine ⟨fun k σ H => ∃ Xs os s, Rel X.K fm Xs os s σ H ∧ GoodS X.K cl W fm Dn (whileS k c b s), ⟨n, Xs, os, s, r, g⟩, ?_⟩
    rintro k σ H ⟨Xs, os, s, r, g⟩
    cases k with
    | zero => exact g.elim
    | succ k =>
      unfold whileS at g
      refine ⟨fm, Xs, os, s, r, ?_⟩
      cases q : c s with
      | ok v s1 =>
        rw [q] at g
        simp only [Out.bind_ok] at g
        intro H1 r1 st1
        cases v with
        | true =>
          rw [if_pos rfl] at g ⊢
          refine ⟨fun σ H => ∃ Xs os s, Rel X.K fm Xs os s σ H ∧ GoodS X.K cl W fm Dn (whileS k c b s), fun σ' H' z => ⟨k, Nat.lt_succ_self _, z⟩, fm, Xs, os, s1, r1, ?_⟩
          exact GoodS.step g (fun r => r) fun Xs os s σ H r g => ⟨Xs, os, s, r, g⟩
        | false =>
          rw [if_neg Bool.false_ne_true] at g ⊢
          exact g Xs os σ H1 r1
      | exc cc t s1 => rw [q] at g; exact g Xs os σ
      | no => rw [q] at g; exact g.elim
/-! ### for -/
def forGo (tgt : D → Ms → Option Ms) (b : Ex) : List D → Ex
  | [] => fun s => .ok .nx s
  | d :: ds => fun s => match tgt d s with
    | some s1 => stepS (b s1) (forGo tgt b ds)
    | none => .no
def forS (src : Evs) (tgt : D → Ms → Option Ms) (b : Ex) : Ex := fun s => (src s).bind fun ds s1 => forGo tgt b ds s1
theorem ss_for {u : Bool} {g : TG} {vs : List Nat} {src : Evs} {tgt : D → Ms → Option Ms} {b : Ex} (hp : PassesOwn (model X.prog X.w) X.A X.env X.xe) (hc : X.calm = true) (hi : SI cl X W m u tg iter src) (hg : PG X tg g) (ht : TgSem u X.K g vs tgt) (hb : SSs cl X W body b)
    (hs : ∀ x, foldedSetIterable iter X.env x = pure x := by intro _; rfl) : SS cl X W (.For tg iter body [] pos) (forS src tgt b) :=
  ps_imp (ps_for hp hc hi hg hb hs) fun Dn σ H ⟨fm, Xs, os, s, r, g⟩ => by
    unfold forS at g
    refine ⟨fm, Xs, os, s, r, ?_⟩
    cases q : src s with
    | ok ds s1 =>
      rw [q] at g
      simp only [Out.bind_ok] at g
      intro J H1 tmp r1 st1 htm hw
      refine ⟨fun i k σ H => i ≤ ds.length ∧ k = ds.length - i ∧ ∃ Xs os s, Rel X.K { fm with tmp := tmp ++ fm.tmp } Xs os s σ H ∧ GoodS X.K cl W fm Dn (forGo tgt b (ds.drop i) s), ⟨_, Nat.zero_le _, rfl, Xs, os, s1, r1.holds tmp htm, g⟩, ?_⟩
      rintro i k σ H ⟨hle, hk, Xs, os, s, r, g⟩
      obtain ⟨hgo, hstop⟩ := hw Xs i H (fun p hp => r.tm p (List.mem_append_left _ hp)) r.xt
      by_cases hlt : i < ds.length
      · rw [List.drop_eq_getElem_cons hlt] at g
        obtain ⟨go, yl⟩ := hgo _ (List.getElem?_eq_getElem hlt)
        refine .inr ⟨go, fun σ H => ∃ Xs os s, Rel X.K { fm with tmp := tmp ++ fm.tmp } Xs os s σ H ∧ GoodS X.K cl W fm Dn (forGo tgt b (ds.drop (i + 1)) s), fun σ' H' z => ⟨ds.length - (i + 1), by omega, hlt, rfl, z⟩, fun x H' hy => ?_⟩
        obtain ⟨st, px⟩ := yl x H' hy
        unfold forGo at g
        cases q2 : tgt ds[i] s with
        | none => rw [q2] at g; exact g.elim
        | some s2 =>
          rw [q2] at g
          refine ht _ Xs os s s2 σ H' _ x _ (r.stay st) px q2 fun σ' r' _ => ⟨_, Xs, os, s2, r', ?_⟩
          exact GoodS.step g (fun r => r.drops) fun Xs os s σ H r g => ⟨Xs, os, s, r, g⟩
      · have e : i = ds.length := by omega
        subst e
        rw [List.drop_length] at g
        exact .inl ⟨hstop (Nat.le_refl _), g Xs os σ H r.drops⟩
    | exc c t s1 => rw [q] at g; exact g Xs os σ
    | no => rw [q] at g; exact g.elim
/-! ### list comprehensions -/
def evYes : Ms → Out Bool := fun s => .ok true s
theorem pts_yes : PTs X [] (tT X.K cl W m evYes) := ⟨fun pins s σ H Q I ⟨fm, Xs, os, ms, r, g⟩ => pts_nil.run pins s σ H Q I (g H r (Stay.refl _ _))⟩
def compGo (vs : List Nat) (tgt : D → Ms → Option Ms) (cond : Ms → Out Bool) (elt : Ev) : List D → List D → Evs
  | [], acc => fun s => .ok acc s
  | d :: ds, acc => fun s => match tgt d s with
    | none => .no
    | some s1 => match cond s1 with
      | .ok k s2 => if k = true then (match elt s2 with
          | .ok x s3 => if acc.length < 1000000 then compGo vs tgt cond elt ds (acc ++ [x]) (forgetS vs s3) else .no
          | _ => .no)
        else compGo vs tgt cond elt ds acc (forgetS vs s2)
      | _ => .no
def evComp (vs : List Nat) (src : Evs) (tgt : D → Ms → Option Ms) (cond : Ms → Out Bool) (elt : Ev) : Evs := fun s => (src s).bind fun ds s1 => compGo vs tgt cond elt ds [] (forgetS vs s1)
abbrev W0 : WX := fun _ _ _ _ => False
theorem tlc_of {u : Bool} {g : TG} {vs : List Nat} {src : Evs} {tgt : D → Ms → Option Ms} {cond : Ms → Out Bool} {elt : Ev} (ht : TgSem u X.K g vs tgt) : ∀ (σ : L2.St) (H : Hp) (Q : VK), tF X.K cl W m (evComp vs src tgt cond elt) σ H Q → tLc (tI X.K cl W m u src) g (tT X.K cl W0 m cond) (tE X.K cl W0 m elt) vs σ H Q :=
  fun σ H Q ⟨fm, Xs, os, s, R, gg⟩ => by
    unfold evComp at gg
    refine ⟨fm, Xs, os, s, R, ?_⟩
    cases q : src s with
    | ok ds s1 =>
      rw [q] at gg
      simp only [Out.bind_ok] at gg
      intro J H1 tmp r1 st1 htm hw Dl hD
      have fr := r1.frsh hD
      have nMu : Dl ∉ Mu fm.dka os m := fun z => fr.nx (Mu.sub r1 m Dl z)
      have hDH : H Dl = none := by
        cases e : H Dl with
        | none => rfl
        | some o => rw [st1 Dl o e nMu] at hD; cases hD
      have r2 : Rel X.K { fm with tmp := tmp ++ fm.tmp } (Dl :: Xs) os (forgetS vs s1) (wipe σ vs) (upd H1 Dl (.lst [])) := by
        have a := ((r1.holds tmp htm).laidL (vs := []) hD).forgets vs
        exact a.wiped wipe_wipe
      refine ⟨fun i k H2 => i ≤ ds.length ∧ k = ds.length - i ∧ ∃ s2 acc ws, Rel X.K { fm with tmp := tmp ++ fm.tmp } (Dl :: Xs) os (forgetS vs s2) (wipe σ vs) H2 ∧ Stay (Mu fm.dka os m) H H2 ∧ H2 Dl = some (.lst ws) ∧ RpA X.K H2 (Dl :: Xs) acc ws ∧
        GoodF X.K cl W m fm Xs os σ H Q (compGo vs tgt cond elt (ds.drop i) acc (forgetS vs s2)), ⟨_, Nat.zero_le _, rfl, s1, [], [], r2, st1.trans (Stay.laid hD), upd_same, rfl, gg⟩, ?_⟩
      rintro i k H2 ⟨hle, hk, s2, acc, ws, r, st, hDl, ra, g⟩
      obtain ⟨hgo, hstop⟩ := hw (Dl :: Xs) i H2 (fun p hp => r.tm p (List.mem_append_left _ hp)) r.xt
      by_cases hlt : i < ds.length
      · rw [List.drop_eq_getElem_cons hlt] at g
        obtain ⟨go, yl⟩ := hgo _ (List.getElem?_eq_getElem hlt)
        refine .inr ⟨go, fun H2 => ∃ s2 acc ws, Rel X.K { fm with tmp := tmp ++ fm.tmp } (Dl :: Xs) os (forgetS vs s2) (wipe σ vs) H2 ∧ Stay (Mu fm.dka os m) H H2 ∧ H2 Dl = some (.lst ws) ∧ RpA X.K H2 (Dl :: Xs) acc ws ∧
          GoodF X.K cl W m fm Xs os σ H Q (compGo vs tgt cond elt (ds.drop (i + 1)) acc (forgetS vs s2)), fun H' z => ⟨ds.length - (i + 1), by omega, hlt, rfl, z⟩, fun x H3 hy => ?_⟩
        obtain ⟨st3, px⟩ := yl x H3 hy
        have r3 := r.stay st3
        have hD3 := st3 _ _ hDl (by simp)
        have ra3 : RpA X.K H3 (Dl :: Xs) acc ws := RpA.stay st3 (fun a h => absurd h (by simp)) acc ws ra
        have sA := st.trans st3.any
        unfold compGo at g
        cases q2 : tgt ds[i] (forgetS vs s2) with
        | none => rw [q2] at g; exact g.elim
        | some s4 =>
          rw [q2] at g
          dsimp only at g
          refine ht _ (Dl :: Xs) os _ s4 _ H3 _ x _ r3 px q2 fun σ4 r4 hw4 => ?_
          have hw4' : wipe σ4 vs = wipe σ vs := by rw [hw4, wipe_wipe]
          refine ⟨hw4', _, Dl :: Xs, os, s4, r4, ?_⟩
          cases q3 : cond s4 with
          | ok b s5 =>
            rw [q3] at g
            dsimp only at g
            intro H5 r5 st5
            have hD5 := st5 _ _ hD3 nMu
            have ra5 : RpA X.K H5 (Dl :: Xs) acc ws := RpA.stay st5 (Mu.sub r4 m) acc ws ra3
            cases b with
            | true =>
              rw [if_pos rfl] at g ⊢
              refine ⟨_, Dl :: Xs, os, s5, r5, ?_⟩
              cases q4 : elt s5 with
              | ok y s6 =>
                rw [q4] at g
                dsimp only at g
                intro v H6 r6 st6 p6
                split at g
                · rename_i hl
                  have hD6 := st6 _ _ hD5 nMu
                  have ra6 : RpA X.K H6 (Dl :: Xs) acc ws := RpA.stay st6 (Mu.sub r5 m) acc ws ra5
                  refine ⟨ws, hD6, by rw [ra6.len]; exact line1M hl, s6, acc ++ [y], ws ++ [v], ?_, ?_, upd_same, ?_, g⟩
                  · have a := r6.putX (ws' := ws ++ [v]) List.mem_cons_self fr.no fr.nd fr.n0 hD6
                    refine (a.forgets vs).wiped ?_
                    rw [wipe_wipe, hw4']
                  · have sB := (sA.trans st5).trans st6
                    intro a o h n
                    have na : a ≠ Dl := fun e => by rw [e, hDH] at h; cases h
                    rw [upd_ne na]
                    exact sB a o h n
                  · exact RpA.stay (M := [Dl]) (Stay.put List.mem_cons_self) (fun a h => by rw [List.mem_singleton.mp h]; exact List.mem_cons_self) _ _ (ra6.app (RpA.one p6))
                · exact g.elim
              | exc c t s6 => rw [q4] at g; exact g.elim
              | no => rw [q4] at g; exact g.elim
            | false =>
              rw [if_neg Bool.false_ne_true] at g ⊢
              refine ⟨s5, acc, ws, ?_, sA.trans st5, hD5, ra5, g⟩
              refine (r5.forgets vs).wiped ?_
              rw [wipe_wipe, hw4']
          | exc c t s5 => rw [q3] at g; exact g.elim
          | no => rw [q3] at g; exact g.elim
      · have e : i = ds.length := by omega
        subst e
        rw [List.drop_length] at g
        refine .inl ⟨hstop (Nat.le_refl _), ?_⟩
        exact g Dl ws H2 (r.drops.wiped wipe_wipe.symm) st fr hDl ra
    | exc c t s1 => rw [q] at gg; exact gg
    | no => rw [q] at gg; exact gg.elim
theorem sf_comp {u : Bool} {g : TG} {vs : List Nat} {src : Evs} {tgt : D → Ms → Option Ms} {cond : Ms → Out Bool} {elt : Ev} (ht : TgSem u X.K g vs tgt) (hP : PE X e (tLc (tI X.K cl W m u src) g (tT X.K cl W0 m cond) (tE X.K cl W0 m elt) vs)) : SF cl X W m e (evComp vs src tgt cond elt) := pe_imp hP (tlc_of ht)
end
end Zo
/-! ZI: a def keeps its promise, from what its body is run to. -/
namespace Zo
open PySem PySem.Spec PyProof.Rows L2
def dk0 : Dk := ⟨[], 0, 0⟩
def envOf0 (n : Nat) (ds : List D) : List Sv := ds.map .fz ++ List.replicate (n - ds.length) .un
def roOf (o : Out Fl) : Ro := match o with
  | .ok (.rt d) _ => .ok d
  | .ok .nx _ => .ok .none
  | .ok _ _ => .no
  | .exc c t _ => .exc c t
  | .no => .no
/-- what a def without the deck answers: n slots -/
def runFn (n : Nat) (run : Ex) (ds : List D) : Ro := roOf (run ⟨envOf0 n ds, dk0, false⟩)
def rdOf (o : Out Fl) : Rd := match o with
  | .ok (.rt d) s => .ok d s.dk
  | .ok .nx s => .ok .none s.dk
  | _ => .no
/-- .. with the deck, its first argument -/
def runFnD (n : Nat) (run : Ex) (ds : List D) (k : Dk) : Rd := rdOf (run ⟨.deck :: envOf0 (n - 1) ds, k, false⟩)
section
variable {P : Program} {w : World} {K : Fr} {mg : Str → Option Value} {base : Heap} {cl : Nat → Addr}
theorem start_get {N : List Str} {vs : List V} {i : Nat} {v : V} (h : vs[i]? = some v) : (L2.start N vs)[i]?.join = some v := by
  have hl := (List.getElem?_eq_some_iff.mp h).1
  unfold L2.start
  rw [List.getElem?_append_left (by rw [List.length_map]; exact hl), List.getElem?_map, h]
  rfl
theorem env0_get {n : Nat} {ds : List D} {i : Nat} {sv : Sv} (h : (envOf0 n ds)[i]? = some sv) : (∃ d, ds[i]? = some d ∧ sv = .fz d) ∨ sv = .un := by
  unfold envOf0 at h
  by_cases hl : i < ds.length
  · rw [List.getElem?_append_left (by rw [List.length_map]; exact hl), List.getElem?_map] at h
    obtain ⟨d, e1, e2⟩ := Option.map_eq_some_iff.mp h
    exact .inl ⟨d, e1, e2.symm⟩
  · rw [List.getElem?_append_right (by rw [List.length_map]; omega), List.getElem?_replicate] at h
    split at h
    · cases h; exact .inr rfl
    · cases h
theorem start_len {N : List Str} {vs : List V} (h : vs.length ≤ N.length) : (L2.start N vs).length = N.length := by
  unfold L2.start
  rw [List.length_append, List.length_map, List.length_replicate]
  omega
theorem rel_start {N : List Str} {Xs : List Addr} {ds : List D} {vs : List V} {H : Hp} (ra : RpA K H Xs ds vs) (hn : ds.length ≤ N.length) (xt : ∀ a ∈ Xs, H a ≠ none) : Rel K ⟨H, Xs, none, []⟩ Xs [] ⟨envOf0 N.length ds, dk0, false⟩ (L2.start N vs) H where
  len := by
    rw [start_len (by rw [ra.len]; exact hn)]
    unfold envOf0
    simp
    omega
  slot := fun i sv e => by
    rcases env0_get e with ⟨d, e1, e2⟩ | e2
    · subst e2
      obtain ⟨v, ev, pv⟩ := ra.get e1
      exact ⟨v, start_get ev, pv⟩
    · subst e2; trivial
  nd := by simp
  sub := fun p hp => absurd hp (by simp)
  lv := fun p hp => absurd hp (by simp)
  x0 := fun a h => h
  x1 := xt
  xt := xt
  dks := fun a h => absurd h (by simp [dkl])
  dk := fun kd kc e => by cases e
  ent := Stay.refl _ _
  one := fun e => by cases e
  tm := fun p hp => absurd hp (by simp)
theorem fn_pure {x qual : Str} {st : Stmt} {f : Addr} {fd : FuncData} {N ps : List Str} {k n : Nat} {run : Ex} (F : Fun K x qual st f fd) (S : FnScope N ps (defScope st)) (hn : ps.length = n) (hN : ps.length ≤ N.length)
    (hb : ∀ (cdv : Value) (A : Around) (outer : List Env) (s : Shared) (H : Hp) (E : XK), Room k (A.deeper (envOfC qual (defScope st) s.heap.objs.size f cdv)) → SSs cl (cxOf (L2.CX P w) P w K mg base N qual (defScope st) f cdv A outer s H E) (fun c d _ H => E c d H) (defBody st) run) :
    FnOk P w K mg base (L2.CX P w) (k + 1) f fd ps (spP K cl n (runFn N.length run)) := by
  refine F.okX S (fun vs H Q E h => ?_) fun cdv A outer s H vs Q E hr h => ⟨_, hb cdv A outer s H E hr, ?_⟩
  · obtain ⟨Xs, ds, ra, hl, _⟩ := h
    rw [ra.len, hl, hn]
  · obtain ⟨Xs, ds, ra, hl, xt, hm⟩ := h
    refine ⟨_, Xs, [], _, rel_start ra (by omega) xt, ?_⟩
    unfold runFn at hm
    cases q : run ⟨envOf0 N.length ds, dk0, false⟩ with
    | ok fl s' =>
      rw [q] at hm
      intro X os σ' H' r
      cases fl with
      | nx => exact hm .non H' r.ent rfl
      | rt d => exact fun v p => hm v H' r.ent (Rp.less r.x0 d v p)
      | bk => exact hm.elim
      | ct => exact hm.elim
    | exc c t s' =>
      rw [q] at hm
      exact fun X os σ' v dd H' r p hd => hm v dd H' r.ent (Rp.less r.x0 t v p) hd
    | no => rw [q] at hm; exact hm.elim
theorem rel_startD {N : List Str} {Xs : List Addr} {ds : List D} {vs : List V} {H : Hp} {kd kc : Addr} {k : Dk} (ra : RpA K H Xs ds vs) (hn : ds.length + 1 ≤ N.length) (xt : ∀ a ∈ Xs, H a ≠ none) (h1 : kd ∈ Xs) (h2 : kc ∈ Xs) (hk : DkAt H kd kc k) :
    Rel K ⟨H, Xs, some (kd, kc), []⟩ Xs [] ⟨.deck :: envOf0 (N.length - 1) ds, k, false⟩ (L2.start N (.ref kd :: vs)) H where
  len := by
    rw [start_len (by rw [List.length_cons, ra.len]; exact hn)]
    unfold envOf0
    simp
    omega
  slot := fun i sv e => by
    cases i with
    | zero =>
      cases e
      exact ⟨kd, kc, rfl, start_get rfl⟩
    | succ i =>
      have e' : (envOf0 (N.length - 1) ds)[i]? = some sv := by simpa using e
      rcases env0_get e' with ⟨d, e1, e2⟩ | e2
      · subst e2
        obtain ⟨v, ev, pv⟩ := ra.get e1
        exact ⟨v, start_get (by simpa using ev), pv⟩
      · subst e2; trivial
  nd := by simp
  sub := fun p hp => absurd hp (by simp)
  lv := fun p hp => absurd hp (by simp)
  x0 := fun a h => h
  x1 := xt
  xt := xt
  dks := fun a h => by
    simp only [dkl, List.mem_cons, List.not_mem_nil, or_false] at h
    rcases h with rfl | rfl
    · exact h1
    · exact h2
  dk := fun kd kc e => by cases e; exact hk
  ent := Stay.refl _ _
  one := fun e => by cases e
  tm := fun p hp => absurd hp (by simp)
theorem fn_deck {x qual : Str} {st : Stmt} {f : Addr} {fd : FuncData} {N ps : List Str} {k n : Nat} {run : Ex} (F : Fun K x qual st f fd) (S : FnScope N ps (defScope st)) (hn : ps.length = n + 1) (hN : ps.length ≤ N.length)
    (hb : ∀ (cdv : Value) (A : Around) (outer : List Env) (s : Shared) (H : Hp) (E : XK), Room k (A.deeper (envOfC qual (defScope st) s.heap.objs.size f cdv)) → SSs cl (cxOf (L2.CX P w) P w K mg base N qual (defScope st) f cdv A outer s H E) W0 (defBody st) run) :
    FnOk P w K mg base (L2.CX P w) (k + 1) f fd ps (spD K n (runFnD N.length run)) := by
  refine F.okX S (fun vs H Q E h => ?_) fun cdv A outer s H vs Q E hr h => ⟨_, hb cdv A outer s H E hr, ?_⟩
  · obtain ⟨kd, kc, ws, Xs, ds, kk, rfl, ra, hl, _⟩ := h
    rw [List.length_cons, ra.len, hl, hn]
  · obtain ⟨kd, kc, ws, Xs, ds, kk, rfl, ra, hl, xt, h1, h2, hk, hm⟩ := h
    refine ⟨_, Xs, [], _, rel_startD ra (by omega) xt h1 h2 hk, ?_⟩
    unfold runFnD at hm
    cases q : run ⟨.deck :: envOf0 (N.length - 1) ds, kk, false⟩ with
    | ok fl s' =>
      rw [q] at hm
      intro X os σ' H' r
      cases fl with
      | nx => exact hm .non H' r.ent (r.dk kd kc rfl) rfl
      | rt d => exact fun v p => hm v H' r.ent (r.dk kd kc rfl) (Rp.less r.x0 d v p)
      | bk => exact hm.elim
      | ct => exact hm.elim
    | exc c t s' => rw [q] at hm; exact hm.elim
    | no => rw [q] at hm; exact hm.elim
end
end Zo
/-! ZJ: the program's own errors: class BadX(ZonesError) with one thing, ZonesError(Exception); made, raised, caught. -/
namespace PySem
namespace Zx
open PySem.W PySem.Calls PyProof.Rows PySem.HandSPX
open Builtin Builtin.ObjectAttr
/-- what stands behind an own error's class: ZonesError, at Z, then Exception's row -/
def behind (Z : Addr) : List Value := [.ref Z, .type "Exception", .type "BaseException", .type "object"]
theorem behind_has (Z : Addr) (T : String) : (behind Z).contains (.type T) = ([.type "Exception", .type "BaseException", .type "object"] : List Value).contains (.type T) := by
  unfold behind
  rw [List.contains_cons]
  rfl
theorem behind_pass (self : Value) (C Z : Addr) : refuseLoop self "__setattr__" (.ref C :: behind Z) = pure () := by
  unfold behind
  rw [refuseLoop_ref, refuseLoop_ref]
  exact F.store_Exception.passes self
section
variable {prog : Program} {w : World} {A : Around} {E : Value → Shared → Prop} {R : Result → Shared → Prop} {hh : Heap} {gs : Array GenState} {dr : Drawn} {tt : Nat} {oo : OsState}
/-- self.field = v on an own error without a dict yet -/
theorem osa_ze {K : Frag} {field : Str} {tk : Tok} {v : Value} {e C Z : Addr} {fv : Array Value} {cd : ClassData}
    (kin : K.In hh) (he : hh.get? e = some { cls := .ref C, data := .fields fv }) (hcd : clsIn K C = some cd) (hmro : cd.mro = .ref C :: behind Z) (hdct : cd.hasDict = true) (hno : findIn K (.ref C) field = some none)
    (done : ∀ h2 tk2 d, (∀ b o, b ≠ e → hh.get? b = some o → h2.get? b = some o) → hh.objs.size ≤ d → d ≠ e → h2.get? e = some { cls := .ref C, dict := some d, data := .fields fv } →
      h2.Ns1 d (fun y => if y = field then some v else none) → R (.ok (.ret .none)) ⟨h2, gs, dr, tk2, oo⟩) :
    codeAny (model prog w) A (.call (.builtin "object.__setattr__") ⟨[.ref e, .str field tk, v], []⟩) R ⟨hh, gs, dr, tt, oo⟩ := by
  have inst : InstAt hh e { cls := .ref C, data := .fields fv } C none := ⟨he, rfl, rfl, trivial⟩
  have store := F.store_object
  have hobj : cd.mro.contains (.type "object") = true := by
    rw [hmro, List.contains_cons, behind_has, show (Value.type "object" == Value.ref C) = false from rfl, Bool.false_or]
    decide +kernel
  have hnemp : cd.mro.isEmpty = false := by rw [hmro]; rfl
  have hes : e ≠ hh.objs.size := Nat.ne_of_lt (Heap.lt_size he)
  have isObj : Looks (model prog w) hh (isInstance (.ref e) (.type "object")) true := inst.type.andThen (looks_mroIn kin (by
    unfold mroIn
    rw [hcd, Option.bind_some, if_neg (by rw [hnemp]; decide), hobj]))
  refine codeAny_call_builtin store.slot.plain store.entry (@check_slot (model prog w) _ _ ⟨hh, gs, dr, tt, oo⟩ "object.__setattr__" "object" "__setattr__" (.ref e) [.str field tk, v] [] _ store.kind store.split isObj (store.args (.ref e) (.str field tk) v) ?_)
  have lm : Looks (model prog w) hh (mroOf (.ref C)) cd.mro := (looks_clsIn kin hcd).andThen .now
  have lt : Looks (model prog w) hh (storeTaker? none) none := .now
  have lc : Looks (model prog w) hh (classData C) cd := looks_clsIn kin hcd
  rw [osa_eq, refuse_eq]
  refine wpAny_bind (wpAny_bind (inst.type.at (wpAny_bind (lm.at ?_))))
  rw [hmro, behind_pass]
  refine wpAny_pure (wpAny_bind (inst.type.at (wpAny_bind ((looks_findIn kin hno).at (wpAny_bind (lt.at ?_))))))
  show wpAny _ _ (storeInOwnDict (.ref e) (.ref C) (.str field tk) field v false) _ _ _
  obtain ⟨a1, a2, a3, a4, a5, a6, a7, a8, a9, a10, a11⟩ := cd
  dsimp only at hdct
  subst hdct
  unfold storeInOwnDict ownDictForStores
  repeat (first | with_reducible refine store_in_new ?_ ?_ | with_reducible refine wpAny_loadPart_at he ?_ | with_reducible refine lc.at ?_ | wp_step)
  · exact ⟨_, #[], _, (Heap.get?_update_ne _ _ _ _ hes.symm).trans (Heap.get?_push_at rfl rfl), rfl, fun q hq => absurd hq (by simp), fun _ => rfl⟩
  · intro h2 tk2 hn2 hsame
    have he1 : (hh.push { cls := .type "dict", data := .dict #[] }).get? e = some { cls := .ref C, data := .fields fv } := Heap.get?_push_of_some _ he
    refine done h2 tk2 hh.objs.size (fun b o hb ho => ?_) (Nat.le_refl _) hes.symm ?_ hn2
    · exact (hsame.2 b (Nat.ne_of_lt (Heap.lt_size ho))).trans ((Heap.get?_update_ne _ _ _ _ hb).trans (Heap.get?_push_of_some _ ho))
    · exact (hsame.2 e hes).trans (Heap.get?_update_self _ he1 rfl)
end
/-! ### the text of __init__ -/
def iA (p1 p2 : Pos) : Arguments := { posonlyargs := [], args := [{ arg := "self", annotation := none, pos := p1 }, { arg := "thing", annotation := none, pos := p2 }], vararg := none, kwonlyargs := [], kw_defaults := [], kwarg := none, defaults := [] }
def iB (q1 q2 q3 q4 : Pos) : List Stmt := [.Assign [.Attribute (.Name "self" q1) "thing" q2] (.Name "thing" q3) q4]
def iS : Scope := { kind := .function, names := [(PySem.Str.ofString "self", .local), (PySem.Str.ofString "thing", .local)], isGenerator := false, isCoroutine := false, more := [] }
/-- what the written part says of an own error's class x, at C, of its __init__ (called q), at fI, of ZonesError, at Z -/
structure ExTxt (K : Frag) (mg : Str → Option Value) (x q : Str) (C Z fI : Addr) : Prop where
  gC : mg x = some (.ref C)
  cls : ∃ nm qn N bs sn sub ab col dd k0 k1 k2 k3 k5, K.lookup C = some (excClassObj nm qn C N bs (behind Z) true sn sub ab col dd k0 k1 k2 k3 k5 "Exception.__new__")
  sa : findIn K (.ref C) "__setattr__" = some (some (.builtin "object.__setattr__"))
  ga : findIn K (.ref C) "__getattribute__" = some (some (.builtin "BaseException.__getattribute__"))
  gg : findIn K (.ref C) "__getattr__" = some none
  noN : findIn K (.ref C) "thing" = some none
  iC : findIn K (.ref C) "__init__" = some (some (.ref fI))
  tC : typeIn K (.ref fI) = some (.type "function")
  kC : keepIn K (.ref C) = true
  exC : subIn K (.ref C) (.type "BaseException") = some true
  tyC : typeIn K (.ref C) = some (.type "type")
  hdC : hasDictIn K C = true
  te : exmOne K (.ref C) (.ref C) = some true
  fn : ∃ (oc : Value) (od : Option Addr) (doc pm : Value) (an : Option Addr) (cdv ct : Value) (osl : Array (Option Value)) (p1 p2 q1 q2 q3 q4 : Pos),
    K.lookup fI = some ⟨oc, od, .func (fnOf "__init__" q (iA p1 p2) (iB q1 q2 q3 q4) iS .none .none doc pm an cdv ct), osl⟩ ∧ codeIn K cdv q = true
theorem single (v : Value) : [v].length ≤ sizeLine := by
  rw [sizeLine_eq]
  exact (by decide : 1 ≤ 16777216)
theorem ldN {M : Model} {s : Shared} {name : Str} {scope : Scope} {L a : Addr} {cd : Value} {m : Str → Option Value} {x : Str} {pos : Pos} {v : Value} {Q : Value → Shared → Prop} {A : Around} {E : Value → Shared → Prop} (hn : s.heap.Ns L m) (hv : m x = some v) (h : Q v s)
    (hk : scope.kind = .function := by rfl) (hl : (envOfC name scope L a cd).kindOf x = some .local := by rfl) (hd : (x == ("__debug__" : Str)) = false := by decide) :
    wpAny M A (eval (.Name x pos) (envOfC name scope L a cd)) Q E s := wpAny_Name (wpAny_loadName_local hk hl hn hv h) hd
/-- what __init__ leaves of a fresh exception at x -/
structure Told (h h' : Heap) (x C dx t1 : Addr) (v : Value) : Prop where
  keep : ∀ b o, b ≠ x → h.get? b = some o → h'.get? b = some o
  obj : h'.get? x = some { cls := .ref C, dict := some dx, data := .fields #[.ref t1, .none, .none, .none, .bool false, .none] }
  dbig : h.objs.size ≤ dx
  dne : dx ≠ x
  ns : h'.Ns1 dx (fun y => if y = "thing" then some v else none)
/-- a made one -/
structure Made (h h' : Heap) (e C d : Addr) (v : Value) : Prop where
  keep : ∀ b o, h.get? b = some o → h'.get? b = some o
  new : h.objs.size ≤ e
  obj : ∃ oe vs, h'.get? e = some oe ∧ oe.cls = .ref C ∧ oe.dict = some d ∧ oe.data = .fields vs ∧ vs[1]? = some .none
  dbig : h.objs.size ≤ d
  dne : d ≠ e
  ns : h'.Ns1 d (fun y => if y = "thing" then some v else none)
section
variable {prog : Program} {w : World} {A : Around} {E : Value → Shared → Prop} {R : Result → Shared → Prop} {s : Shared} {K : Frag} {mg : Str → Option Value} {x q : Str} {C Z fI : Addr}
theorem ze_init (T : ExTxt K mg x q C Z fI) {x t0 : Addr} {v : Value} (X : K.In s.heap) (hlim : s.heap.NoLimit) (hx : s.heap.get? x = some (excO C t0)) (hnx : K.lookup x = none) (hroom : A.depth < recursionLimit)
    (hq : ∀ h' tk dx, Told s.heap h' x C dx t0 v → R (.ok (.ret .none)) { s with heap := h', toks := tk }) :
    codeAny (model prog w) A (.call (.ref fI) ⟨[.ref x, v], []⟩) R s := by
  obtain ⟨oc, od, doc, pm, an, cdv, ct, osl, p1, p2, q1, q2, q3, q4, ho, hcd⟩ := T.fn
  obtain ⟨nm, qn, N, bs, sn, sub, ab, col, dd, k0, k1, k2, k3, k5, hC⟩ := T.cls
  have hcl : clsIn K C = some { name := nm, bases := bs, mro := .ref C :: behind Z, ns := N, qualname := qn, hasDict := true, slotNames := sn, subclasses := sub, abstract := ab, collection := col, hasDel := false } := by unfold clsIn; rw [hC] <;> rfl
  refine Att.call_fn (binds := [("self", .ref x), ("thing", v)]) X hlim ho hcd hroom (BindsTo.of_eq (by first | rfl | with_unfolding_all rfl)) (by first | rfl | decide | with_unfolding_all rfl) (fun s₁ IC => ?_) rfl rfl rfl
  obtain ⟨h₁, tk₁, rfl⟩ := IC.toInCall.same
  have k : ∀ b o, s.heap.get? b = some o → h₁.get? b = some o := IC.toInCall.keep
  have hn := IC.toInCall.ns
  have X₁ : K.In h₁ := X.keeps k
  have hx₁ := k _ _ hx
  show wpAny _ _ (execs _ _) _ _ _
  refine wpAny_execs_cons (plainObj_wpAny_Assign_Attribute ?_)
  refine ldN (v := v) hn (by first | rfl | with_unfolding_all rfl | kernel_rfl) (ldN (v := .ref x) hn (by first | rfl | with_unfolding_all rfl | kernel_rfl) ?_)
  refine set_plain X₁ (ox := excO C t0) (od := none) ⟨hx₁, rfl, rfl, trivial⟩ T.sa ?_
  refine osa_ze X₁ hx₁ hcl rfl rfl T.noN (fun h₃ tk₃ dx k₃ dn dne hx₃ hn₃ => ?_)
  show wpAny _ _ (execs _ _) _ _ _
  have z : s.heap.objs.size < h₁.objs.size := hn.lt
  exact wpAny_execs_nil (hq h₃ tk₃ dx ⟨fun b o hb e => k₃ b o hb (k b o e), hx₃, Nat.le_of_lt (Nat.lt_of_lt_of_le z dn), dne, hn₃⟩)
theorem ze_made (T : ExTxt K mg x q C Z fI) {v : Value} (X : K.In s.heap) (hlim : s.heap.NoLimit) (hroom : A.depth + 1 < recursionLimit)
    (hq : ∀ h' tk e d, Made s.heap h' e C d v → R (.ok (.ret (.ref e))) { s with heap := h', toks := tk }) :
    codeAny (model prog w) A (.call (.ref C) ⟨[v], []⟩) R s := by
  obtain ⟨nm, qn, N, bs, sn, sub, ab, col, dd, k0, k1, k2, k3, k5, hC⟩ := T.cls
  obtain ⟨hp, g, dr, tk, os⟩ := s
  have k : ∀ b o, hp.get? b = some o → ((hp.push (kdv_tup [v])).push (excO C hp.objs.size)).get? b = some o := fun b o e => Heap.get?_push_of_some _ (Heap.get?_push_of_some _ e)
  have hget : ((hp.push (kdv_tup [v])).push (excO C hp.objs.size)).get? (hp.objs.size + 1) = some (excO C hp.objs.size) := by heap_get
  have hnx : K.lookup (hp.objs.size + 1) = none := by
    cases e : K.lookup (hp.objs.size + 1) with
    | none => rfl
    | some o =>
      have z : hp.get? (hp.objs.size + 1) = some o := X _ _ e
      exact absurd (Nat.lt_of_succ_lt (Heap.lt_size z)) (Nat.lt_irrefl _)
  refine call_own F.excBase_Exception (behind_has Z) (X _ _ hC) (looks_findIn X T.iC) (fun self => bind_fn X self T.tC) (single v) ?_
  refine ze_init (s := ⟨(hp.push (kdv_tup [v])).push (excO C hp.objs.size), g, dr, tk, os⟩) T (X.keeps k) (hlim.keeps k) hget hnx ?_ fun h' tk' dx ⟨k', hx, dn, dne, hns⟩ => ?_
  · show A.depth + 1 < recursionLimit
    exact hroom
  · have old : ∀ b o, hp.get? b = some o → h'.get? b = some o := fun b o e => k' b o (Nat.ne_of_lt (Nat.lt_succ_of_lt (Heap.lt_size e))) (k b o e)
    have z : hp.objs.size + 1 + 1 ≤ dx := by
      first
        | (simpa only [Heap.size_push] using dn)
        | exact dn
        | (have q := dn; rw [Heap.size_push, Heap.size_push] at q; exact q)
    exact ⟨rfl, hq h' tk' (hp.objs.size + 1) dx ⟨old, Nat.le_succ _, ⟨_, _, hx, rfl, rfl, rfl, rfl⟩, Nat.le_trans (Nat.le_trans (Nat.le_succ _) (Nat.le_succ _)) z, dne, hns⟩⟩
end
end Zx
end PySem
namespace Zo
open PySem PySem.Spec PyProof.Rows L2
open PySem.Zx (ExTxt)
theorem relO_thing {v : V} {v' : Value} (r : RelV v v') (f : Str) : RelO (List.lookup f [(("thing" : Str), v)]) (if f = "thing" then some v' else none) := by
  by_cases hw : f = "thing"
  · subst hw
    rw [if_pos rfl]
    have q : List.lookup ("thing" : Str) [(("thing" : Str), v)] = some v := by simp [List.lookup]
    rw [q]
    exact r
  · rw [if_neg hw]
    have qw : (f == ("thing" : Str)) = false := by simpa using hw
    have q2 : List.lookup f [(("thing" : Str), v)] = none := by simp [List.lookup, qw]
    rw [q2]
    trivial
section
variable {X : Cx} {x q : Str} {C Z fI : Addr}
/-- BadX(e) -/
def tMkZ (C : Addr) (ta : TA) : L2.St → Hp → XK → Prop := fun σ H Q => ta σ H fun vs H1 => ∃ v, vs = [v] ∧ ∀ d, H1 d = none → Q (.ref C) (some d) (upd H1 d (.xd [(("thing" : Str), v)]))
theorem pmk_ze {a : Expr} {ta : TA} {p pos : Pos} {k : Nat} (T : ExTxt X.K X.mg x q C Z fI) (hr : Room k X.A) (ha : PA X [a] ta) (hg : Gl X x) (hdb : (x == ("__debug__" : Str)) = false := by decide)
    (he : starEach (a :: []) X.env = (false, eval a X.env) :: starEach [] X.env := by rfl) (hpl : (backTo pos (starEach [] X.env)).any (·.1) = false := by rfl) :
    PMk X (.Call (.Name x p) [a] [] pos) (tMkZ C ta) := by
  intro pins s σ H Q I h
  refine wpAny_Call_Name_kw (ld_glob I hg T.gC ?_ hdb)
  refine PySem.W.callWith_K (h₀ := X.base) I.ok.mod.kin T.kC (thn (ha.run pos pins s σ H _ I h) fun us s1 hh => ?_) he hpl
  obtain ⟨vs, H1, I1, r1, v, ev, q1⟩ := hh
  subst ev
  refine ⟨I1.kIn, ?_⟩
  cases r1 with
  | cons rv rn =>
    rename_i v' us'
    cases rn
    show wpAny _ _ (call (.ref C) [v']) _ _ _
    have hlim := I1.nolimit
    obtain ⟨hp, g, dr, tk, os⟩ := s1
    refine wpAny_call (PySem.Zx.ze_made T I1.kIn hlim (by have := hr.dp; omega) fun h' tk' e d M => ?_)
    show MkP X pins σ Q (.ref e) ⟨h', g, dr, tk', os⟩
    obtain ⟨oe, fv, hoe, hc, hd, hdat, h1⟩ := M.obj
    have hns := M.ns
    obtain ⟨G', g1, g2⟩ := restrict h' fun b => decide (b ≠ e)
    have gk : ∀ b, b ≠ e → G'.get? b = h'.get? b := fun b hb => g1 b (decide_eq_true hb)
    have ge : G'.get? e = none := g2 e (by simp)
    have old : ∀ b o, hp.get? b = some o → G'.get? b = some o := fun b o q => (gk b (Nat.ne_of_lt (Nat.lt_of_lt_of_le (Heap.lt_size q) M.new))).trans (M.keep b o q)
    have ob : ObjOk X.prog X.w (upd H1 d (.xd [(("thing" : Str), v)])) G' d (.xd [(("thing" : Str), v)]) :=
      ⟨_, hns.at (fun o q => (gk d M.dne).trans q), fun f => relO_thing rv f⟩
    have J : Inv X pins σ (upd H1 d (.xd [(("thing" : Str), v)])) ⟨G', g, dr, tk', os⟩ := I1.laid (t' := tk') old M.dbig ob
    refine ⟨e, oe, fv, ⟨G', g, dr, tk', os⟩, _, .ref C, some d, rfl, J, fun b o q => ?_, ge, hoe, ⟨hc, hd⟩, hdat, h1, ?_, rfl, I1.bare, raises_own T.exC T.tyC, q1 d (I1.hok.fresh M.dbig)⟩
    · by_cases hb : b = e
      · have q' : G'.get? b = some o := q
        rw [hb, ge] at q'; cases q'
      · exact (gk b hb).symm.trans q
    · rw [upd_ne (Ne.symm M.dne)]
      exact I1.hok.fresh M.new
/-- raise BadX(e) -/
def raiseS (c : Nat) (a : Ev) : Ex := fun s => (a s).bind fun d s1 => .exc c d s1
theorem ss_raise {cl : Nat → Addr} {W : WX} {m : Bool} {a : Expr} {ev : Ev} {p pos pos2 : Pos} {k : Nat} (c : Nat) (hc : X.calm = true) (T : ExTxt X.K X.mg x q (cl c) Z fI) (hr : Room k X.A) (tk : Takes X W) (ha : SE cl X W m a ev) (hg : Gl X x) (hdb : (x == ("__debug__" : Str)) = false := by decide)
    (he : starEach (a :: []) X.env = (false, eval a X.env) :: starEach [] X.env := by rfl) (hpl : (backTo pos (starEach [] X.env)).any (·.1) = false := by rfl) :
    SS cl X W (.Raise (some (.Call (.Name x p) [a] [] pos)) none pos2) (raiseS c ev) :=
  ps_imp (ps_raise hc tk (pmk_ze T hr (pa_cons ha pa_nil he) hg hdb he hpl)) fun Dn σ H ⟨fm, Xs, os, s, r, g⟩ => by
    unfold raiseS at g
    refine ⟨fm, Xs, os, s, r, ?_⟩
    cases q : ev s with
    | ok d s1 =>
      rw [q] at g
      simp only [Out.bind_ok] at g
      refine fun v H1 r1 st1 p1 => ⟨v, rfl, fun dd hd => ?_⟩
      exact g Xs os σ v dd _ (r1.laid hd) (Rp.stay (M := []) (Stay.laid hd) (fun a h => absurd h (by simp)) d v p1) upd_same
    | exc c t s1 => rw [q] at g; exact g Xs os σ
    | no => rw [q] at g; exact g.elim
/-! ### caught -/
/-- e.thing, e the exception that the suite holds -/
def tThing (C : Addr) (a : Addr) (cls : Value) (d : Option Addr) (te : TE) : TE := fun σ H Q => te σ H fun x H1 => x = .ref a ∧ cls = .ref C ∧ ∃ (dd : Addr) (v : V), d = some dd ∧ H1 dd = some (.xd [(("thing" : Str), v)]) ∧ Q v H1
theorem pe_thing {a : Addr} {oe : Obj} {cls : Value} {d : Option Addr} {pn : List (Addr × Obj)} {e : Expr} {te : TE} {pos : Pos} (T : ExTxt X.K X.mg x q C Z fI) (hz : Zc cls d oe) (hf : ∃ vs, oe.data = .fields vs) (he : PE (X.suite a ((a, oe) :: pn)) e te)
    (hb : attributeBase e "thing" X.env (eval e X.env) = eval e X.env := by rfl) :
    PE (X.suite a ((a, oe) :: pn)) (.Attribute e "thing" pos) (tThing C a cls d te) := by
  refine ⟨fun pins s σ H Q I h => ?_⟩
  refine attr_of hb (thn (he.run pins s σ H _ I h) fun u s1 hh => ?_)
  obtain ⟨x, H1, I1, rx, ex, ec, dd, v, ed, ea, q⟩ := hh
  subst ex
  obtain rfl : u = Value.ref a := rx
  subst ec
  subst ed
  obtain ⟨ha, _⟩ := I1.pin (a, oe) (List.mem_append_left _ List.mem_cons_self)
  obtain ⟨vs, hd⟩ := hf
  have hx : ObjOk X.prog X.w H1 s1.heap dd (.xd [(("thing" : Str), v)]) := I1.hok dd _ ea
  obtain ⟨mA, hns, hr⟩ := hx
  obtain ⟨od, ho, hl⟩ := lookIn_ns hns
  have l : List.lookup ("thing" : Str) [(("thing" : Str), v)] = some v := by simp [List.lookup]
  obtain ⟨u, hu, ru⟩ := RelO.some_of (v := v) (o := mA "thing") (by rw [← l]; exact hr "thing")
  have J : PySem.W.InstAt s1.heap a oe C (some od) := ⟨ha, hz.1, by unfold PySem.W.notCls; rw [hd] <;> rfl, by rw [hz.2]; exact ho⟩
  exact HandSPX.exc_get I1.kIn J T.ga T.gg T.exC (PySem.W.findObj_own T.hdC T.noN rfl (by rw [hl, hu])) (handed_of ru) ⟨v, H1, I1.tok _, ru, q⟩
/-- isinstance asks an error's class so -/
structure ExIs (K : PySem.W.Frag) (C : Addr) : Prop where
  ha : PySem.W.findIn K (.ref C) "__class__" = some (some (.builtin "object.__class__"))
  hn : PySem.W.specialIn K (.builtin "object.__class__") "__get__" = some (some (.builtin "getset_descriptor.__get__"))
  ht : PySem.W.takesIn K (.builtin "object.__class__") = some true
  hm : PySem.W.mroIn K C (.type "object") = some true
/-- isinstance(e, ZonesError) -/
def rIsZ (C : Addr) (Z : Addr) (cls : Value) (d : Option Addr) (a : Addr) : List V → Hp → VK → Prop := fun xs H Q => xs = [.ref a, .ref Z] ∧ cls = .ref C ∧ (∃ dd v, d = some dd ∧ H dd = some (.xd [(("thing" : Str), v)])) ∧ Q (.bl true) H
theorem call_isZ {a : Addr} {oe : Obj} {cls : Value} {d : Option Addr} {pn : List (Addr × Obj)} (T : ExTxt X.K X.mg x q C Z fI) (S : ExIs X.K C) (hk : PySem.W.kitOne X.K (.ref C) (.ref Z) = some true) (hz : Zc cls d oe) (hf : ∃ vs, oe.data = .fields vs) :
    CallR (X.suite a ((a, oe) :: pn)) (.builtin "isinstance") (rIsZ C Z cls d a) := by
  intro pins s σ H xs us Q I r h
  obtain ⟨rfl, ec, ⟨dd, v, ed, ea⟩, q⟩ := h
  subst ec ed
  cases r with
  | cons rx rr =>
    cases rr with
    | cons rt rr =>
      cases rr
      cases rx
      cases rt
      obtain ⟨hget, _⟩ := I.pin (a, oe) (List.mem_append_left _ List.mem_cons_self)
      obtain ⟨vs, hd⟩ := hf
      have hx : ObjOk X.prog X.w H s.heap dd (.xd [(("thing" : Str), v)]) := I.hok dd _ ea
      obtain ⟨mA, hns, hr⟩ := hx
      obtain ⟨od, ho, hl⟩ := lookIn_ns hns
      have J : PySem.W.InstAt s.heap a oe C (some od) := ⟨hget, hz.1, by unfold PySem.W.notCls; rw [hd] <;> rfl, by rw [hz.2]; exact ho⟩
      have hcl : (PySem.W.clsIn X.K C).isSome = true := by
        obtain ⟨cd, hc, _⟩ := PySem.W.any_some T.hdC
        rw [hc]; rfl
      exact PySem.W.kia_one (PySem.W.kitx_exc hcl T.ga T.gg T.exC S.ha S.hn S.ht S.hm) I.kIn J hk (fun z => nomatch z) fun tk => ⟨.bl true, H, I.kept (t' := tk) fun _ _ z => z, rfl, q⟩
/-- return (w, e.thing, isinstance(e, ZonesError)) -/
def heardS (c : Nat) (w : Str) (i : Nat) (b : Ex) : Ex := fun s => match b s with
  | .exc c' t s1 => if c' = c then (match s1.env[i]? with
    | some .un => .ok (.rt (.tuple [.str w, t, .bool true])) s1
    | _ => .no) else .no
  | o => o
theorem ss_heard {cl : Nat → Addr} {Wout : WX} {w n : Str} {i c : Nat} {body : List Stmt} {b : Ex} {pos pos' np p1 p2 p3 p4 p5 p6 p7 p8 p9 : Pos} {j k : Nat}
    (hs : X.stack = X.env :: X.outer) (hf : X.env.frame = some X.env.locals) (hN : X.N.Nodup) (hi : X.N[i]? = some n) (hln : X.env.kindOf n = some .local) (hc : Names X x (.ref (cl c))) (tk : Takes X Wout)
    (T : ExTxt X.K X.mg x q (cl c) Z fI) (S : ExIs X.K (cl c)) (hk : PySem.W.kitOne X.K (.ref (cl c)) (.ref Z) = some true) (hZ : X.mg "ZonesError" = some (.ref Z)) (gZ : Gl X "ZonesError") (hgi : Gl X "isinstance") (hmi : X.mg "isinstance" = none) (hnl : Loc X.env.scope n)
    (hfn : X.fn n = true ∨ X.env.scope.names.lookup n = some .local)
    (hb : ∀ (W : WX) (pn : List (Addr × Obj)) (xe : Value → Shared → Prop), Takes (X.tr pn xe) W → PassesOwn (model X.prog X.w) X.A X.env xe → SSs cl (X.tr pn xe) W body b)
    (hv : ∀ (a : Addr) (oe : Obj) (pn : List (Addr × Obj)) (p : Pos), PE (X.suite a ((a, oe) :: pn)) (.Name n p) (tVar i)) :
    SS cl X Wout (.Try body [.ExceptHandler (some (.Name x np)) (some n) [.Return (some (.Tuple [.Constant (.str w) j p1, .Attribute (.Name n p2) "thing" p3, .Call (.Name "isinstance" p4) [.Name n p5, .Name "ZonesError" p6] [] p7] k p8)) p9] pos'] [] [] pos) (heardS c w i b) := by
  refine ps_imp (ps_try_as (i := i) (tb := fun W => tS X.K cl W b) (ts := fun a cls d => tRet (tTupF (tCons (tC (.str w)) (tCons (tThing (cl c) a cls d (tVar i)) (tCons (tCB (rIsZ (cl c) Z cls d a) (tCons (tVar i) (tCons (tC (.ref Z)) tNil))) tNil))))) (Wout := Wout) hs hf hN hi hln hc tk hb ?_) ?_
  · intro a oe cls d pn hz hvs
    refine pss_one (ps_ret (pe_tupF (pa_cons pe_str (pa_cons (pe_thing T hz hvs (hv a oe pn p2)) (pa_cons (pe_callB (call_isZ T S hk hz hvs) hgi hmi PyProof.Rows.boot_isinstance (pa_cons (hv a oe pn p5) (pa_cons ?_ pa_nil))) pa_nil)))))
    exact pe_glob (v := V.ref Z) gZ hZ rfl
  · intro Dn σ H ⟨fm, Xs, os, s, r, g⟩
    refine ⟨fm, Xs, os, s, r, ?_⟩
    unfold heardS at g
    cases qb : b s with
    | ok fl s1 => rw [qb] at g; exact g
    | no => rw [qb] at g; exact g.elim
    | exc c' t s1 =>
      rw [qb] at g
      dsimp only at g
      split at g
      · rename_i ec
        subst ec
        split at g
        · rename_i hun
          intro X' os' σ' v dd H' r' pv hd
          refine ⟨true, T.te, fun _ a na => ?_, fun z => Bool.noConfusion z⟩
          have hlt : i < σ'.length := by
            rw [← r'.len]
            exact (List.getElem?_eq_some_iff.mp hun).1
          have hget : (σ'.set i (some (.ref a)))[i]? = some (some (.ref a)) := List.getElem?_set_self hlt
          refine ⟨_, hget, rfl, rfl, dd, v, rfl, hd, _, hget, rfl, rfl, ⟨dd, v, rfl, hd⟩, size1000 (show 3 ≤ 1000 by decide), fun p o hp hdo => ?_⟩
          refine g X' os' σ' _ (r'.laid hp) _ ?_
          exact ⟨p, _, rfl, .inl ⟨⟨o, upd_same, hdo⟩, r'.nx hp⟩, ⟨_, _, rfl, rfl, v, _, rfl, Rp.stay (M := []) (Stay.laid hp) (fun a h => absurd h (by simp)) t v pv, _, [], rfl, rfl, rfl⟩⟩
        · exact g.elim
      · exact g.elim
end
end Zo
/-! ZK: the law's deck: a draw. -/
namespace Zo
open PySem PySem.Spec PyProof.Rows L2
def top (i : Nat) : Stmt := PySem.Challenge.pw_zonestold_k14_the_rule_of_differences.main.body.getD i (.Pass ⟨0, 0, 0, 0⟩)
abbrev sDraw : Stmt := top 82
def drawA (c t : Int) : Int := (c % 2147483629 + 60013 * t * t + 47) * 40692 % 2147483647
def drawB (m t : Int) : Int := (m * m + 69997 * t + 31) % 2147483587
def drawV (c t b : Int) : Int := drawB (drawA c t) t * 39373 % 2147483563 / 64 % b
/-- _law_draw -/
def drawK (b : Int) (k : Dk) : Rd := if 0 < b ∧ b < 1000000000 ∧ 0 ≤ k.turn ∧ k.turn < 1000000000000 then
      (match k.cells.getLast? with
      | some c => if 10 ^ 18 ≤ c then .ok (.int (c % b)) { k with cells := k.cells.dropLast ++ [c / (if b > 2 then b else 2)], turn := k.turn + 1 }
        else .ok (.int (drawV (c + k.mixed) (k.turn + 1) b)) { k with cells := k.cells.dropLast, turn := k.turn + 1 }
      | none => .ok (.int (drawV k.mixed (k.turn + 1) b)) { k with turn := k.turn + 1 })
    else .no
def drawF : List D → Dk → Rd
  | [.int b], k => drawK b k
  | _, _ => .no
def dkv (kc : Addr) (m t : Int) : List (Key × V) := [(.inr "cells", .ref kc), (.inr "mixed", .int m), (.inr "turn", .int t)]
theorem ne_ct : ¬ (Str.ofString "cells" = Str.ofString "turn") := by decide +kernel
theorem ne_mt : ¬ (Str.ofString "mixed" = Str.ofString "turn") := by decide +kernel
theorem ne_cm : ¬ (Str.ofString "cells" = Str.ofString "mixed") := by decide +kernel
theorem dkv_put (kc : Addr) (m t u : Int) : putK (dkv kc m t) (.inr "turn") (.int u) = dkv kc m u := by
  simp [putK, dkv, ne_ct, ne_mt]
theorem dkv_c (kc : Addr) (m t : Int) : valV (dkv kc m t) (.inr "cells") = some (.ref kc) := rfl
theorem dkv_m (kc : Addr) (m t : Int) : valV (dkv kc m t) (.inr "mixed") = some (.int m) := by simp [valV, dkv, List.find?, ne_cm]
theorem dkv_t (kc : Addr) (m t : Int) : valV (dkv kc m t) (.inr "turn") = some (.int t) := by simp [valV, dkv, List.find?, ne_ct, ne_mt]
theorem dget_c {H : Hp} {kd kc : Addr} {m t : Int} (h : H kd = some (.dK (dkv kc m t))) : DGet H kd (.str "cells") (some (.ref kc)) := by
  have := DGet.k (k := .inr "cells") h
  rw [dkv_c] at this
  exact this
theorem dget_m {H : Hp} {kd kc : Addr} {m t : Int} (h : H kd = some (.dK (dkv kc m t))) : DGet H kd (.str "mixed") (some (.int m)) := by
  have := DGet.k (k := .inr "mixed") h
  rw [dkv_m] at this
  exact this
theorem dget_t {H : Hp} {kd kc : Addr} {m t : Int} (h : H kd = some (.dK (dkv kc m t))) : DGet H kd (.str "turn") (some (.int t)) := by
  have := DGet.k (k := .inr "turn") h
  rw [dkv_t] at this
  exact this
/-! ### readings -/
abbrev xCells : TE := tDGet (tVar 0) (tC (.str "cells"))
abbrev xMixed : TE := tDGet (tVar 0) (tC (.str "mixed"))
abbrev xTurn : TE := tDGet (tVar 0) (tC (.str "turn"))
abbrev tN (i : Int) : TE := tC (.int i)
abbrev rAddI : R2 := rI0 fun i j => .int (i + j)
abbrev rMulI : R2 := rI CMul fun i j => .int (i * j)
abbrev rModI : R2 := rI (fun _ j => 0 < j) fun i j => .int (i % j)
abbrev rDivI : R2 := rI CDivW fun i j => .int (i / j)
/-- (cell % 2147483629 + 60013 * turn * turn + 47) * 40692 % 2147483647 -/
abbrev xA : TE := tOp rModI (tOp rMulI (tOp rAddI (tOp rAddI (tOp rModI (tVar 2) (tN 2147483629)) (tOp rMulI (tOp rMulI (tN 60013) xTurn) xTurn)) (tN 47)) (tN 40692)) (tN 2147483647)
abbrev xB : TE := tOp rModI (tOp rAddI (tOp rAddI (tOp rMulI (tVar 3) (tVar 3)) (tOp rMulI (tN 69997) xTurn)) (tN 31)) (tN 2147483587)
abbrev xV : TE := tOp rModI (tOp rDivI (tOp rModI (tOp rMulI (tVar 3) (tN 39373)) (tN 2147483563)) (tN 64)) (tVar 1)
abbrev xInt : List V → Hp → VK → Prop := fun xs H Q => (∃ i, xs = [.int i] ∧ Q (.int i) H) ∨ ∃ k, xs = [.bl k] ∧ Q (.int (if k then 1 else 0)) H
abbrev xMax : List V → Hp → VK → Prop := fun xs H Q => ∃ i j, xs = [.int i, .int j] ∧ Q (.int (if j > i then j else i)) H
abbrev t_draw (K : Fr) : TS :=
  tSeq (sDPut (tVar 0) (tC (.str "turn")) (tOp rAddI xTurn (tN 1)))
  (tSeq (tAsg xMixed (gName 2))
  (tSeq (tIfS (tTest (tOp (rNeD K) xCells (tLst tNil)))
    (tSeq (tAsg (tBM0 K "list" rPop xCells) (gName 2))
    (tSeq (tIfS (tTest (tOp (rI0 fun i j => .bl (decide (j ≤ i))) (tVar 2) (tOp (rI CPow fun i j => .int (i ^ j.toNat)) (tN 10) (tN 18))))
      (tSeq (tDrop (tBM K "list" rAppend xCells (tCons (tOp rDivI (tVar 2) (tCB xMax (tCons (tN 2) (tCons (tVar 1) tNil)))) tNil)))
        (tRet (tCB xInt (tCons (tOp rModI (tVar 2) (tVar 1)) tNil)))) tNext)
    (tAsg (tOp rAddI (tVar 2) xMixed) (gName 2)))) tNext)
  (tSeq (tAsg xA (gName 3)) (tSeq (tAsg xB (gName 3)) (tRet (tCB xInt (tCons xV tNil)))))))
theorem cdivw {i j : Int} (h : 0 < j) (h2 : j < 1000000000) : CDivW i j := wide_div (b := 30) h (by
  have : (j.natAbs : Int) = j := Int.natAbs_of_nonneg (by omega)
  omega) (by decide) (by decide)
theorem cmul1 {i j : Int} (h : 0 ≤ i) (h2 : i < 2 ^ 62) : CMul i j := .inl ⟨by omega, by omega⟩
theorem cmul2 {i j : Int} (h : 0 ≤ j) (h2 : j < 2 ^ 62) : CMul i j := .inr ⟨by omega, by omega⟩
theorem mod_lt0 (a : Int) {b : Int} (h : 0 < b) : 0 ≤ a % b ∧ a % b < b := ⟨Int.emod_nonneg a (by omega), Int.emod_lt_of_pos a h⟩
/-- the reading gives the value, nothing is changed -/
def Gives (te : TE) (σ : L2.St) (H : Hp) (v : V) : Prop := ∀ Q : VK, Q v H → te σ H Q
section
variable {σ : L2.St} {H : Hp} {ta tb : TE} {a b : Int}
theorem g_var {i : Nat} {v : V} (h : σ[i]? = some (some v)) : Gives (tVar i) σ H v := fun Q q => ⟨v, h, q⟩
theorem g_c (v : V) : Gives (tC v) σ H v := fun Q q => q
theorem g_op0 {g : Int → Int → V} (h1 : Gives ta σ H (.int a)) (h2 : Gives tb σ H (.int b)) : Gives (tOp (rI0 g) ta tb) σ H (g a b) := fun Q q => h1 _ (h2 _ ⟨a, b, rfl, rfl, q⟩)
theorem g_op {C : Int → Int → Prop} {g : Int → Int → V} (h1 : Gives ta σ H (.int a)) (h2 : Gives tb σ H (.int b)) (c : C a b) : Gives (tOp (rI C g) ta tb) σ H (g a b) := fun Q q => h1 _ (h2 _ ⟨a, b, rfl, rfl, c, q⟩)
theorem g_dget {kd : Addr} {x : Str} {v : V} (h0 : σ[0]? = some (some (.ref kd))) (h : DGet H kd (.str x) (some v)) : Gives (tDGet (tVar 0) (tC (.str x))) σ H v := fun Q q => ⟨_, h0, kd, v, rfl, h, q⟩
end
theorem g_A {σ : L2.St} {H : Hp} {kd kc : Addr} {m t c : Int} (h : H kd = some (.dK (dkv kc m t))) (h0 : σ[0]? = some (some (.ref kd))) (h2 : σ[2]? = some (some (.int c))) (ht : 0 ≤ t) (ht2 : t < 1000000000001) : Gives xA σ H (.int (drawA c t)) := by
  have gt : Gives xTurn σ H (.int t) := g_dget h0 (dget_t h)
  exact g_op (g_op (g_op0 (g_op0 (g_op (g_var h2) (g_c _) (by decide)) (g_op (g_op (g_c _) gt (cmul1 (by decide) (by decide))) gt (cmul2 ht (by omega)))) (g_c _)) (g_c _) (cmul2 (by decide) (by decide))) (g_c _) (by decide)
theorem g_B {σ : L2.St} {H : Hp} {kd kc : Addr} {m t c : Int} (h : H kd = some (.dK (dkv kc m t))) (h0 : σ[0]? = some (some (.ref kd))) (h3 : σ[3]? = some (some (.int c))) (hc : 0 ≤ c) (hc2 : c < 2147483647) : Gives xB σ H (.int (drawB c t)) := by
  have gt : Gives xTurn σ H (.int t) := g_dget h0 (dget_t h)
  exact g_op (g_op0 (g_op0 (g_op (g_var h3) (g_var h3) (cmul1 hc (by omega))) (g_op (g_c _) gt (cmul1 (by decide) (by decide)))) (g_c _)) (g_c _) (by decide)
theorem g_V {σ : L2.St} {H : Hp} {b c : Int} (h1 : σ[1]? = some (some (.int b))) (h3 : σ[3]? = some (some (.int c))) (hb : 0 < b) : Gives xV σ H (.int (c * 39373 % 2147483563 / 64 % b)) :=
  g_op (g_op (g_op (g_op (g_var h3) (g_c _) (cmul2 (by decide) (by decide))) (g_c _) (by decide)) (g_c _) (cdivw (by decide) (by decide))) (g_var h1) hb
/-- the last three rows -/
theorem pure_tail {σ : L2.St} {H : Hp} {kd kc : Addr} {m t b c : Int} {Q : VK} {N : L2.St → Hp → Prop} (hl : σ.length = 4) (h : H kd = some (.dK (dkv kc m t))) (h0 : σ[0]? = some (some (.ref kd))) (h1 : σ[1]? = some (some (.int b))) (h2 : σ[2]? = some (some (.int c))) (hb : 0 < b) (ht : 0 ≤ t) (ht2 : t < 1000000000001) (q : Q (.int (drawV c t b)) H) {bk ct : L2.St → Hp → Prop} :
    tSeq (tAsg xA (gName 3)) (tSeq (tAsg xB (gName 3)) (tRet (tCB xInt (tCons xV tNil)))) { nx := N, rt := Q, bk := bk, ct := ct } σ H := by
  have hA := mod_lt0 ((c % 2147483629 + 60013 * t * t + 47) * 40692) (b := 2147483647) (by decide)
  have s0 : ∀ v, (σ.set 3 v)[0]? = σ[0]? := fun v => List.getElem?_set_ne (by decide)
  have s1 : ∀ v, (σ.set 3 v)[1]? = σ[1]? := fun v => List.getElem?_set_ne (by decide)
  have s3 : ∀ (τ : L2.St) v, τ.length = 4 → (τ.set 3 v)[3]? = some v := fun τ v h => List.getElem?_set_self (by omega)
  refine g_A h h0 h2 ht ht2 _ ?_
  show tSeq (tAsg xB (gName 3)) (tRet (tCB xInt (tCons xV tNil))) _ (σ.set 3 (some (.int (drawA c t)))) H
  refine g_B h (by rw [s0]; exact h0) (s3 _ _ hl) hA.1 hA.2 _ ?_
  show tRet (tCB xInt (tCons xV tNil)) _ ((σ.set 3 (some (.int (drawA c t)))).set 3 (some (.int (drawB (drawA c t) t)))) H
  rw [List.set_set]
  exact g_V (by rw [s1]; exact h1) (s3 _ _ hl) hb _ (.inl ⟨_, rfl, q⟩)
theorem dp_ints {K : Fr} {H : Hp} {a : Addr} {is : List Int} (h : H a = some (.lst (is.map V.int))) : Dp K H (.ref a) (.list (is.map PyData.int)) := by
  refine .lst (SqL.of h) ?_
  clear h
  induction is with
  | nil => exact .nil
  | cons i is ih => exact .cons (.int i) ih
theorem shapedI (is : List Int) : SeqAt.shaped (.list (is.map PyData.int)) = true := PySem.W.shaped_ints is
theorem eqv_ints (is : List Int) : PyData.eqv (.list (is.map PyData.int)) (.list []) = is.isEmpty := by
  cases is <;> rfl
theorem pure_draw {K : Fr} (vs : List V) (H : Hp) (Q : VK) (E : XK) (h : spD K 1 drawF vs H Q E) : t_draw K { nx := fun _ H' => Q .non H', rt := Q } (start ["deck", "below", "cell", "mixed"] vs) H := by
  obtain ⟨kd, kc, ws, Xs, ds, k, rfl, ra, hl, xt, m1, m2, hk, hm⟩ := h
  obtain ⟨hne, hkd, hkc, hlen⟩ := hk
  match ds, hl with
  | [d], _ =>
  obtain ⟨v, r, e, pv, er⟩ := ra
  subst e
  cases er
  cases d with
  | int b =>
    have ev : v = .int b := pv
    subst ev
    have hm : match drawK b k with
      | .ok d k' => ∀ v H', Stay [kd, kc] H H' → DkAt H' kd kc k' → Rp K H' Xs d v → Q v H'
      | .no => False := hm
    unfold drawK at hm
    by_cases hc : 0 < b ∧ b < 1000000000 ∧ 0 ≤ k.turn ∧ k.turn < 1000000000000
    · rw [if_pos hc] at hm
      obtain ⟨hb, hb2, ht, ht2⟩ := hc
      have h1 : H kd = some (.dK (dkv kc k.mixed k.turn)) := hkd
      refine g_op0 (g_dget rfl (dget_t h1)) (g_c _) _ ⟨_, rfl, kd, _, rfl, DPut.k (k := .inr "turn") h1 (by show 3 < sizeLine; decide), ?_⟩
      rw [dkv_put]
      have h2 : (upd H kd (.dK (dkv kc k.mixed (k.turn + 1)))) kd = some (.dK (dkv kc k.mixed (k.turn + 1))) := upd_same
      have h2c : (upd H kd (.dK (dkv kc k.mixed (k.turn + 1)))) kc = some (.lst (k.cells.map V.int)) := by rw [upd_ne (Ne.symm hne)]; exact hkc
      have st2 : Stay [kd, kc] H (upd H kd (.dK (dkv kc k.mixed (k.turn + 1)))) := Stay.put (by simp)
      refine g_dget rfl (dget_m h2) _ ?_
      show tSeq _ _ _ [some (.ref kd), some (.int b), some (.int k.mixed), none] _
      refine g_dget rfl (dget_c h2) _ ?_
      refine ⟨by show 0 ≤ sizeLine; decide, fun p hp => ?_⟩
      have st3 : Stay [kd, kc] H (upd (upd H kd (.dK (dkv kc k.mixed (k.turn + 1)))) p (.lst [])) := st2.trans (Stay.laid hp)
      have h3 := h2
      rw [← upd_ne (H := upd H kd (.dK (dkv kc k.mixed (k.turn + 1)))) (o := .lst []) (ne_of_none h2 hp)] at h3
      have h3c := h2c
      rw [← upd_ne (H := upd H kd (.dK (dkv kc k.mixed (k.turn + 1)))) (o := .lst []) (ne_of_none h2c hp)] at h3c
      have h3p : (upd (upd H kd (.dK (dkv kc k.mixed (k.turn + 1)))) p (.lst [])) p = some (.lst (([] : List Int).map V.int)) := upd_same
      generalize hH : upd (upd H kd (.dK (dkv kc k.mixed (k.turn + 1)))) p (.lst []) = H3 at *
      refine ⟨.list (k.cells.map PyData.int), .list (([] : List Int).map PyData.int), dp_ints h3c, dp_ints h3p, shapedI _, shapedI _, !k.cells.isEmpty, by rw [show (([] : List Int).map PyData.int) = [] from rfl, eqv_ints], ?_⟩
      cases hlast : k.cells.getLast? with
      | none =>
        have he : k.cells = [] := by simpa using hlast
        rw [hlast] at hm
        rw [if_neg (by rw [he]; simp)]
        refine pure_tail rfl h3 rfl rfl rfl hb (by omega) (by omega) ?_
        exact hm _ H3 st3 ⟨hne, h3, h3c, hlen⟩ rfl
      | some c =>
        have hnil : k.cells ≠ [] := fun z => by rw [z] at hlast; cases hlast
        have hget : (k.cells.map V.int)[(k.cells.map V.int).length - 1]? = some (V.int c) := by
          rw [List.length_map, List.getElem?_map, ← List.getLast?_eq_getElem?, hlast]
          rfl
        rw [hlast] at hm
        dsimp only at hm
        rw [if_pos (by simp [hnil])]
        refine g_dget rfl (dget_c h3) _ ⟨.inl ⟨rfl, _, SqL.of h3c⟩, kc, _, _, rfl, rfl, h3c, hget, ?_⟩
        have hdl : (k.cells.map V.int).dropLast = k.cells.dropLast.map V.int := by rw [List.map_dropLast]
        rw [hdl]
        have st4 : Stay [kd, kc] H (upd H3 kc (.lst (k.cells.dropLast.map V.int))) := st3.trans (Stay.put (by simp))
        have h4 : (upd H3 kc (.lst (k.cells.dropLast.map V.int))) kd = some (.dK (dkv kc k.mixed (k.turn + 1))) := by rw [upd_ne hne]; exact h3
        have h4c : (upd H3 kc (.lst (k.cells.dropLast.map V.int))) kc = some (.lst (k.cells.dropLast.map V.int)) := upd_same
        generalize hH4 : upd H3 kc (.lst (k.cells.dropLast.map V.int)) = H4 at *
        show tSeq _ _ _ [some (.ref kd), some (.int b), some (.int c), none] H4
        refine g_op0 (g_var rfl) (g_op (g_c _) (g_c _) ⟨by decide, by decide, by decide⟩) _ ⟨_, rfl, ?_⟩
        by_cases hbig : 10 ^ 18 ≤ c
        · rw [if_pos hbig] at hm
          rw [if_pos (decide_eq_true (by simpa using hbig))]
          have hmax : 0 < (if b > 2 then b else 2) ∧ (if b > 2 then b else 2) < 1000000000 := by split <;> omega
          refine g_dget rfl (dget_c h4) _ ⟨.inl ⟨rfl, _, SqL.of h4c⟩, ?_⟩
          refine g_op (g_var rfl) (show Gives (tCB xMax (tCons (tN 2) (tCons (tVar 1) tNil))) _ _ _ from fun Q q => ⟨_, rfl, 2, b, rfl, q⟩) (cdivw hmax.1 hmax.2) _ ?_
          have hlen5 : (k.cells.dropLast.map V.int).length < 1000 := by
            rw [List.length_map, List.length_dropLast]
            have : 0 < k.cells.length := List.length_pos_iff.mpr hnil
            omega
          refine ⟨kc, _, _, rfl, rfl, h4c, Nat.lt_of_lt_of_le hlen5 (size1000 (Nat.le_refl _)), ?_⟩
          show tRet (tCB xInt (tCons (tOp rModI (tVar 2) (tVar 1)) tNil)) _ [some (.ref kd), some (.int b), some (.int c), none] _
          refine (show Gives (tOp rModI (tVar 2) (tVar 1)) [some (.ref kd), some (.int b), some (.int c), none] _ (.int (c % b)) from g_op (g_var rfl) (g_var rfl) hb) _ ?_
          refine Or.inl ⟨_, rfl, ?_⟩
          refine hm _ _ (st4.trans (Stay.put (by simp))) ⟨hne, by rw [upd_ne hne]; exact h4, ?_, ?_⟩ rfl
          · rw [upd_same, List.map_append]
            rfl
          · rw [List.length_append, List.length_singleton, List.length_dropLast]
            omega
        · rw [if_neg hbig] at hm
          rw [if_neg (by simpa using hbig)]
          refine g_op0 (g_var rfl) (g_dget rfl (dget_m h4)) _ ?_
          refine pure_tail rfl h4 rfl rfl rfl hb (by omega) (by omega) ?_
          refine hm _ H4 st4 ⟨hne, h4, h4c, ?_⟩ rfl
          rw [List.length_dropLast]
          omega
    · rw [if_neg hc] at hm
      exact hm.elim
  | _ => exact hm.elim
theorem scDraw : FnScope ["deck", "below", "cell", "mixed"] ["deck", "below"] (defScope sDraw) := ⟨rfl, rfl, rfl, by decide +kernel, rfl, by decide +kernel, by decide +kernel⟩
theorem ok_draw {P : Program} {w : World} {K : Fr} {mg : Str → Option Value} {base : Heap} {f : Addr} {fd : FuncData} {k : Nat} (F : Fun K "_law_draw" "_law_draw" sDraw f fd) (mmax : mg "max" = none) (mint : mg "int" = none) : FnOk P w K mg base (L2.CX P w) (k + 1) f fd ["deck", "below"] (spD K 1 drawF) := by
  refine F.okX scDraw (fun vs H Q E h => ?_) fun cdv A outer s H vs Q E hr h => ⟨t_draw K, ?_, pure_draw vs H Q E h⟩
  · obtain ⟨kd, kc, ws, Xs, ds, k, rfl, ra, hl, _⟩ := h
    rw [List.length_cons, ra.len, hl]
    rfl
  · have hu := hr.units
    have hu1 := Nat.lt_of_le_of_lt (Nat.add_le_add_left (show 1 ≤ 64 by decide) _) hr.units
    exact pss_cons (ps_dput hu1 (pv 0) pe_str (pe_op op_add (pe_dget hu1 (pv 0) pe_str (fun _ _ => rfl)) pe_int) rfl)
      (pss_cons (ps_set (i := 2) scDraw.nd rfl (Or.inl rfl) (pe_dget hu1 (pv 0) pe_str (fun _ _ => rfl)))
      (pss_cons (ps_if (pt_cmpR (op_neD hu) (pe_dget hu1 (pv 0) pe_str (fun _ _ => rfl)) (pe_lst pa_nil) (nomark _))
        (pss_cons (ps_set (i := 2) scDraw.nd rfl (Or.inl rfl) (pe_bm0 PySem.F.plainAttrs_list PySem.F.slot_list_pop PySem.F.type_list_pop mt_pop (pe_dget hu1 (pv 0) pe_str (fun _ _ => rfl))))
        (pss_cons (ps_if (pt_cmpR op_ge (pv 2) (pe_op op_pow pe_int pe_int) (nomark _))
          (pss_cons (ps_expr (pe_bm PySem.F.plainAttrs_list PySem.F.slot_list_append PySem.F.type_list_append mt_append (pe_dget hu1 (pv 0) pe_str (fun _ _ => rfl)) (pa_cons (pe_op op_fdivW (pv 2) (pe_callB (call_max2 rfl) rfl mmax PyProof.Rows.boot_max (pa_cons pe_int (pa_cons (pv 1) pa_nil)))) pa_nil)))
          (pss_one (ps_ret (pe_callTy call_int1 rfl mint PyProof.Rows.boot_int (pa_cons (pe_op op_mod (pv 2) (pv 1)) pa_nil))))) pss_nil)
        (pss_one (ps_set (i := 2) scDraw.nd rfl (Or.inl rfl) (pe_op op_add (pv 2) (pe_dget hu1 (pv 0) pe_str (fun _ _ => rfl))))))) pss_nil)
      (pss_cons (ps_set (i := 3) scDraw.nd rfl (Or.inl rfl) (pe_op op_mod (pe_op op_mul (pe_op op_add (pe_op op_add (pe_op op_mod (pv 2) pe_int) (pe_op op_mul (pe_op op_mul pe_int (pe_dget hu1 (pv 0) pe_str (fun _ _ => rfl))) (pe_dget hu1 (pv 0) pe_str (fun _ _ => rfl)))) pe_int) pe_int) pe_int))
      (pss_cons (ps_set (i := 3) scDraw.nd rfl (Or.inl rfl) (pe_op op_mod (pe_op op_add (pe_op op_add (pe_op op_mul (pv 3) (pv 3)) (pe_op op_mul pe_int (pe_dget hu1 (pv 0) pe_str (fun _ _ => rfl)))) pe_int) pe_int))
      (pss_one (ps_ret (pe_callTy call_int1 rfl mint PyProof.Rows.boot_int (pa_cons (pe_op op_mod (pe_op op_fdivW (pe_op op_mod (pe_op op_mul (pv 3) pe_int) pe_int) pe_int) (pv 1)) pa_nil))))))))
end Zo
/-! ZL: repr of a value. -/
namespace Zo
open PySem PySem.Spec PyProof.Rows L2
mutual
/-- no dict but empty ones -/
def plainD : D → Bool
  | .dict es => es.isEmpty
  | .list ds => plainA ds
  | .tuple ds => plainA ds
  | _ => true
def plainA : List D → Bool
  | [] => true
  | d :: ds => plainD d && plainA ds
end
section
variable {X : Cx} {pins : List (Addr × Obj)} {σ : L2.St} {H : Hp} {s : Shared} {Xs : List Addr}
/-- what a walk of the text of a value asks -/
abbrev Shw (X : Cx) (s : Shared) (n : Nat) (u : Value) (d : D) (t : Str) : Prop := ∃ as bs, Reads s.heap u d as ∧ ReadAtMost s.heap n bs ∧ ReprK X.prog X.w bs s.heap n u t
abbrev ShwA (X : Cx) (s : Shared) (n : Nat) (us : List Value) (ds : List D) (ts : List Str) : Prop := ∃ as bs, ReadsAll s.heap us ds as ∧ ReadAtMost s.heap n bs ∧ ReprAllK X.prog X.w bs s.heap n us ts
theorem none_at (h : Heap) (n : Nat) : ReadAtMost h n [] := fun _ z => nomatch z
theorem shw_list (I : Inv X pins σ H s) {a : Addr} {vs : List V} {ds : List D} (ha : H a = some (.lst vs)) (hz : (PyData.shown (.list ds)).length ≤ sizeLine) (k : ∀ us, Vals vs us → ShwA X s (PyData.depthAll ds) us ds (PyData.shownAll ds)) :
    Shw X s (PyData.list ds).depth (.ref a) (.list ds) (PyData.shown (.list ds)) := by
  obtain ⟨its, rv, ⟨o, n, ho, hc, _, hd⟩, _⟩ := I.list (SqL.of ha)
  obtain ⟨as, bs, hr, hb, hk⟩ := k its rv
  have r : Reads s.heap (.ref a) (.list ds) (a :: as) := .list ho hc hd hr
  have deep : PyData.depthAll ds < (PyData.list ds).depth := by simp only [PyData.depth]; omega
  have fresh : a ∉ bs := not_mem_of_deeper r deep hb
  refine ⟨_, a :: bs, r, ReadAtMost.cons r (Nat.le_of_lt deep) hb, ?_⟩
  simp only [PyData.depth, PyData.shown]
  cases its with
  | nil =>
    cases hr
    simp only [PyData.shownAll, listText_nil]
    exact ReprK.listEmpty ho hc hd
  | cons x l => exact ReprK.list ho hc hd fresh (by simpa using hk.length_eq) fun i y e => hk.item i y (by simpa using e)
theorem shw_tup (I : Inv X pins σ H s) {a : Addr} {vs : List V} {ds : List D} (ha : SqT X.K H a vs) (hz : (PyData.shown (.tuple ds)).length ≤ sizeLine) (k : ∀ us, Vals vs us → ShwA X s (PyData.depthAll ds) us ds (PyData.shownAll ds)) :
    Shw X s (PyData.tuple ds).depth (.ref a) (.tuple ds) (PyData.shown (.tuple ds)) := by
  obtain ⟨its, rv, ⟨o, ho, hc, n, hd⟩, _⟩ := I.tuple ha
  obtain ⟨as, bs, hr, hb, hk⟩ := k its rv
  have r : Reads s.heap (.ref a) (.tuple ds) as := .tuple ho hc hd hr
  have deep : PyData.depthAll ds < (PyData.tuple ds).depth := by simp only [PyData.depth]; omega
  have fresh : a ∉ bs := not_mem_of_deeper r deep hb
  refine ⟨_, a :: bs, r, ReadAtMost.cons r (Nat.le_of_lt deep) hb, ?_⟩
  simp only [PyData.depth, PyData.shown]
  exact ReprK.tuple ho hc hd fresh hk
theorem shw_dict0 (I : Inv X pins σ H s) {a : Addr} (ha : H a = some (.dK [])) : Shw X s (PyData.dict []).depth (.ref a) (.dict []) (PyData.shown (.dict [])) := by
  obtain ⟨_, hsys, vs, rel, o, es, n, ho, hx, hd, _, hp, _⟩ := dk_of I.hok ha
  cases rel
  have e0 : es.toList = [] := List.eq_nil_of_length_eq_zero hp.length
  have r : Reads s.heap (.ref a) (.dict []) (a :: [] ++ []) := .dict ho hx.1 hd (by rw [e0]; exact .nil) (by rw [e0]; exact .nil)
  have deep : 0 < (PyData.dict []).depth := by simp only [PyData.depth]; omega
  refine ⟨_, [a], r, ReadAtMost.cons r (Nat.le_of_lt deep) (none_at _ 0), ?_⟩
  simp only [PyData.depth, PyData.shown]
  exact ReprK.dict ho hx.1 hd hsys (by simp) (by rw [e0]; exact .nil)
mutual
theorem Rp.shows (I : Inv X pins σ H s) : ∀ (d : D) (v : V) (u : Value), Rp X.K H Xs d v → RelV v u → plainD d = true → d.showable = true → d.shown.length ≤ sizeLine → Shw X s d.depth u d d.shown
  | .none, _, _, h, r, _, _, _ => by
    cases h
    cases r
    exact ⟨_, [], .none, none_at _ _, by simp only [PyData.shown]; exact .of_is ReprIs.none _ _ _⟩
  | .bool b, _, _, h, r, _, _, _ => by
    cases h
    cases r
    exact ⟨_, [], .bool b, none_at _ _, by simp only [PyData.shown]; exact .of_is (ReprIs.bool b) _ _ _⟩
  | .int i, _, _, h, r, _, hs, _ => by
    cases h
    obtain ⟨t, rfl⟩ := r
    exact ⟨_, [], .int i t, none_at _ _, by simp only [PyData.shown]; exact .of_is (ReprIs.int t (by simpa [PyData.showable] using hs)) _ _ _⟩
  | .str x, _, _, h, r, _, _, hz => by
    cases h
    obtain ⟨t, rfl⟩ := r
    exact ⟨_, [], .str x t, none_at _ _, by simp only [PyData.shown]; exact .of_is (ReprIs.str x t (by simpa only [PyData.shown] using hz)) _ _ _⟩
  | .list ds, _, _, h, r, hp, hs, hz => by
    obtain ⟨a, vs, e, f, q⟩ := h
    subst e
    cases r
    have hz' : (listText (PyData.shownAll ds)).length ≤ sizeLine := by simpa only [PyData.shown] using hz
    exact shw_list I f.1 hz fun us rv => RpA.shows I ds vs us q rv (by simpa [plainD] using hp) (by simpa [PyData.showable] using hs) fun t ht => Nat.le_trans (listText_mem_le ht) hz'
  | .tuple ds, _, _, h, r, hp, hs, hz => by
    obtain ⟨a, vs, e, f, q⟩ := h
    subst e
    cases r
    have hz' : (tupleText (PyData.shownAll ds)).length ≤ sizeLine := by simpa only [PyData.shown] using hz
    exact shw_tup I f.sq hz fun us rv => RpA.shows I ds vs us q rv (by simpa [plainD] using hp) (by simpa [PyData.showable] using hs) fun t ht => Nat.le_trans (tupleText_mem_le ht) hz'
  | .dict es, _, _, h, r, hp, _, _ => by
    obtain ⟨a, kvs, e, f, q⟩ := h
    subst e
    cases r
    cases es with
    | nil =>
      cases q
      exact shw_dict0 I (f.plain rfl).1
    | cons p es => simp [plainD] at hp
theorem RpA.shows (I : Inv X pins σ H s) : ∀ (ds : List D) (vs : List V) (us : List Value), RpA X.K H Xs ds vs → Vals vs us → plainA ds = true → PyData.showableAll ds = true → (∀ t ∈ PyData.shownAll ds, t.length ≤ sizeLine) → ShwA X s (PyData.depthAll ds) us ds (PyData.shownAll ds)
  | [], _, _, h, r, _, _, _ => by
    cases h
    cases r
    exact ⟨_, [], .nil, none_at _ _, by simp only [PyData.shownAll]; exact .nil⟩
  | d :: ds, _, _, h, r, hp, hs, hz => by
    obtain ⟨v, vs, e, q, t⟩ := h
    subst e
    cases r with
    | cons r1 r2 =>
      have hs' : d.showable = true ∧ PyData.showableAll ds = true := by simpa [PyData.showableAll] using hs
      have hp' : plainD d = true ∧ plainA ds = true := by simpa [plainA] using hp
      obtain ⟨a1, b1, h1, m1, k1⟩ := Rp.shows I d v _ q r1 hp'.1 hs'.1 (hz _ (by simp only [PyData.shownAll]; exact List.mem_cons_self ..))
      obtain ⟨a2, b2, h2, m2, k2⟩ := RpA.shows I ds vs _ t r2 hp'.2 hs'.2 fun x hx => hz x (by simp only [PyData.shownAll]; exact List.mem_cons_of_mem _ hx)
      refine ⟨_, b1 ++ b2, .cons h1 h2, ?_, ?_⟩
      · simp only [PyData.depthAll]
        exact (m1.mono (Nat.le_max_left _ _)).append (m2.mono (Nat.le_max_right _ _))
      · simp only [PyData.depthAll, PyData.shownAll]
        exact .cons ((k1.more fun b hb => List.mem_append_left _ hb).level_le (Nat.le_max_left _ _)) (k2.more_le (fun b hb => List.mem_append_right _ hb) (Nat.le_max_right _ _))
end
/-! ### the rule -/
def seqD : D → Bool
  | .list _ => true
  | .tuple _ => true
  | _ => false
def reprD (d : D) : Option D := if seqD d = true ∧ plainD d = true ∧ d.showable = true ∧ d.shown.length ≤ sizeLine ∧ d.depth ≤ 60 then some (.str d.shown) else none
theorem sem_repr_at (hg : X.A.guards = some []) (hu : X.A.units + 64 < cLine) {Q : VK} {v : V} {u : Value} (I : Inv X pins σ H s) (r : RelV v u) : ∀ (d d' : D), Rp X.K H Xs d v → reprD d = some d' → Q (.str d.shown) H →
    wpAny (model X.prog X.w) X.A (call (.builtin "repr") [u]) (EP X pins σ Q) X.xe s := by
  intro d d' h e q
  unfold reprD at e
  split at e
  · rename_i hc
    cases e
    obtain ⟨h1, h2, h3, h4, h5⟩ := hc
    cases d with
    | list ds =>
      obtain ⟨a, vs, ev, f, ra⟩ := h
      subst ev
      cases r
      obtain ⟨its, rv, ⟨o, n, ho, hc, _, hd⟩, _⟩ := I.list (SqL.of f.1)
      have hz' : (listText (PyData.shownAll ds)).length ≤ sizeLine := by simpa only [PyData.shown] using h4
      obtain ⟨as, bs, hr, hb, hk⟩ := RpA.shows I ds vs its ra rv (by simpa [plainD] using h2) (by simpa [PyData.showable] using h3) fun t ht => Nat.le_trans (listText_mem_le ht) hz'
      have rr : Reads s.heap (.ref a) (.list ds) (a :: as) := .list ho hc hd hr
      have deep : PyData.depthAll ds < (PyData.list ds).depth := by simp only [PyData.depth]; omega
      have fresh : a ∉ bs := not_mem_of_deeper rr deep hb
      have hdep : PyData.depthAll ds + 1 ≤ 60 := by simpa only [PyData.depth, Nat.add_comm] using h5
      simp only [PyData.shown] at q
      refine call_repr_slot (by omega) ⟨o, ho, hc⟩ F.slot_list_repr.toG ?_
      cases its with
      | nil =>
        cases hr
        simp only [PyData.shownAll, listText_nil] at q
        exact call_list_repr_empty ⟨o, ho, hc⟩ ho hd ⟨_, _, rfl, .str "[]", H, I.tok _, ⟨_, rfl⟩, q⟩
      | cons x l =>
        refine call_list_reprK ho hc hd fresh (by simpa using hk.length_eq) (fun i y e => hk.item i y (by simpa using e)) hg (fun b _ => Clear.nil b) (by show X.A.units + 1 + (PyData.depthAll ds + 1) < cLine; omega) (fun _ _ z => z) (fun h' u tk k => ⟨_, _, rfl, .str (listText (PyData.shownAll ds)), H, I.kept (t' := tk) k, ⟨_, rfl⟩, q⟩) hz'
    | tuple ds =>
      obtain ⟨a, vs, ev, f, ra⟩ := h
      subst ev
      cases r
      obtain ⟨its, rv, ⟨o, ho, hc, n, hd⟩, _⟩ := I.tuple f.sq
      have hz' : (tupleText (PyData.shownAll ds)).length ≤ sizeLine := by simpa only [PyData.shown] using h4
      obtain ⟨as, bs, hr, hb, hk⟩ := RpA.shows I ds vs its ra rv (by simpa [plainD] using h2) (by simpa [PyData.showable] using h3) fun t ht => Nat.le_trans (tupleText_mem_le ht) hz'
      have rr : Reads s.heap (.ref a) (.tuple ds) as := .tuple ho hc hd hr
      have deep : PyData.depthAll ds < (PyData.tuple ds).depth := by simp only [PyData.depth]; omega
      have fresh : a ∉ bs := not_mem_of_deeper rr deep hb
      have hdep : PyData.depthAll ds + 1 ≤ 60 := by simpa only [PyData.depth, Nat.add_comm] using h5
      simp only [PyData.shown] at q
      refine call_repr_slot (by omega) ⟨o, ho, hc⟩ F.slot_tuple_repr ?_
      exact call_tuple_reprK ho hc hd fresh hk hg (fun b _ => Clear.nil b) (by show X.A.units + 1 + (PyData.depthAll ds + 1) < cLine; omega) (fun _ _ z => z) (fun h' u tk k => ⟨_, _, rfl, .str (tupleText (PyData.shownAll ds)), H, I.kept (t' := tk) k, ⟨_, rfl⟩, q⟩) hz'
    | _ => simp [seqD] at h1
  · cases e
def rRepr (K : Fr) : List V → Hp → VK → Prop := fun xs H Q => ∃ v Xs d d', xs = [v] ∧ Rp K H Xs d v ∧ reprD d = some d' ∧ Q (.str d.shown) H
theorem call_repr (hg : X.A.guards = some []) (hu : X.A.units + 64 < cLine) : CallR X (.builtin "repr") (rRepr X.K) := by
  intro pins s σ H xs us Q I r h
  obtain ⟨v, Xs, d, d', rfl, p, e, q⟩ := h
  cases r with
  | cons rx rr =>
    cases rr
    exact sem_repr_at hg hu I rx d d' p e q
theorem se_repr {cl : Nat → Addr} {W : WX} {m : Bool} {e : Expr} {ev : Ev} {p pos : Pos} (hg : X.A.guards = some []) (hu : X.A.units + 64 < cLine) (hgl : Gl X "repr") (hm : X.mg "repr" = none) (ha : SE cl X W m e ev) (he : starEach [e] X.env = (false, eval e X.env) :: starEach [] X.env := by rfl) :
    SE cl X W m (.Call (.Name "repr" p) [e] [] pos) (ev1 reprD ev) :=
  pe_imp (pe_callB (call_repr hg hu) hgl hm (show bootBuiltins "repr" = some (.builtin "repr") by decide +kernel) (pa_cons ha pa_nil he) (by decide) (by decide) he) fun σ H Q ⟨fm, Xs, os, s, R, g⟩ => by
    unfold ev1 at g
    refine ⟨fm, Xs, os, s, R, ?_⟩
    cases q : ev s with
    | ok x s1 =>
      rw [q] at g
      simp only [Out.bind_ok] at g
      cases q3 : reprD x with
      | some d =>
        rw [q3] at g
        have ed : d = .str x.shown := by
          unfold reprD at q3
          split at q3
          · cases q3; rfl
          · cases q3
        subst ed
        exact fun v1 H1 r1 st1 p1 => ⟨v1, Xs, x, _, rfl, p1, q3, g _ H1 r1 st1 rfl⟩
      | none => rw [q3] at g; exact g.elim
    | exc c t s1 => rw [q] at g; exact g
    | no => rw [q] at g; exact g.elim
end
end Zo
/-! ZM: the law is called by the claim: its body at that one caller. -/
namespace Zo
open PySem PySem.Spec PyProof.Rows L2
/-- a def's body at one caller -/
theorem run_at {P : Program} {w : World} {K : Fr} {mg : Str → Option Value} {base : Heap} {k : Nat} {f : Addr} {x qual : Str} {st : Stmt} {fd : FuncData} {N ps : List Str} {A : Around} {outer : List Env} {s : Shared} {H : Hp} {Q : VK} {E : XK} {args : Args} {us : List Value} {vs : List V}
    (F : Fun K x qual st f fd) (S : FnScope N ps (defScope st)) (hr : Room (k + 1) A) (e0 : Env0 P w K mg base A outer s H) (hb : BindsTo s fd args (ps.zip us)) (rel : Vals vs us) (hl : vs.length = ps.length)
    (body : ∀ cdv : Value, ∃ t, PSs (cxOf (L2.CX P w) P w K mg base N qual (defScope st) f cdv A outer s H E) (defBody st) t ∧ t { nx := fun _ H' => Q .non H', rt := Q } (start N vs) H) :
    codeAny (model P w) A (.call (.ref f) args) (CR (L2.CX P w) outer P w H s Q E) s := by
  obtain ⟨oc, od, kV, doc, pm, an, cdv, ct, osl, rfl, lk, code⟩ := F.ex
  have kin : K.In s.heap := e0.mod.kin.keeps fun b o z => (e0.bs b o z).1
  have free : s.heap.NoLimit := e0.mod.nolimit.keeps fun b o z => (e0.bs b o z).1
  have local_ : ∀ y ∈ ps.zip us, (defScope st).names.lookup y.1 = some .local ∨ ((defScope st).names.lookup y.1 = some .cell ∧ ((cellsFrom (s.heap.objs.size + 1) (defScope st).names []).lookup y.1).isSome = true) := by
    rintro ⟨n, v⟩ hy
    exact (S.par n (List.of_mem_zip hy).1).imp id fun q => ⟨q, PySem.W.cellsFrom_some _ _ _ (.inl q)⟩
  refine codeAny_call_function hr.depth (kin _ _ lk) rfl S.co S.gen rfl (PySem.W.codeRec_of kin code) (hb _ _ _ _ ?_)
  refine wpAny_newFunctionEnv_cells S.kind local_ fun en hen s1 entered => ?_
  subst hen
  refine ⟨free.keeps entered.toInCall.keep, codeAny_func ?_⟩
  obtain ⟨t, run, start_⟩ := body cdv
  have inv : Inv (cxOf (L2.CX P w) P w K mg base N qual (defScope st) f cdv A outer s H E) [] (start N vs) H s1 := inv_start S hr.hd e0 hl rel entered
  refine wpAny_mono (run.run [] s1 (start N vs) H _ inv start_) (fun fl s2 done => ?_) fun _ _ z => z
  cases fl with
  | ret u =>
    obtain ⟨v, τ, G, J, rv, q⟩ := done
    exact ⟨v, G, J.os, J.bare, J.base, J.hok, rv, q⟩
  | next =>
    obtain ⟨τ, G, J, q⟩ := done
    exact ⟨.non, G, J.os, J.bare, J.base, J.hok, rfl, q⟩
  | brk =>
    obtain ⟨_, _, _, q⟩ := done
    exact q.elim
  | cont =>
    obtain ⟨_, _, _, q⟩ := done
    exact q.elim
/-- the law at its caller: what its body is run to, from any heap in which nothing but the script stands -/
theorem law_at {P : Program} {w : World} {K : Fr} {mg mb : Str → Option Value} {k : Nat} {fa a : Addr} {x qual par : Str} {st : Stmt} {fd : FuncData} {N : List Str} {t0 : Shared} {its : List Value} {ns : List Int}
    (kin : K.In t0.heap) (glo : t0.heap.Ns mainGlobals mg) (blt : t0.heap.Ns builtinsNs mb) (boots : ∀ x : Str, x ≠ "__name__" → mb x = bootBuiltins x) (free : t0.heap.NoLimit) (nogen : t0.gens = #[])
    (script : t0.heap.get? a = some { cls := .type "list", data := .seq its.toArray }) (areI : IntsAre its ns) (few : ns.length ≤ sizeLine) (hr : Room (k + 1) callerA)
    (F : Fun K x qual st fa fd) (S : FnScope N [par] (defScope st)) (bind : ∀ (s : Shared) (u : Value), BindsTo s fd ⟨[u], []⟩ [(par, u)])
    (body : ∀ (base : Heap) (H : Hp) (cdv : Value), K.In base → base.Ns mainGlobals mg → SqL K H a (ns.map V.int) →
      ∃ t, PSs (cxOf (L2.CX P w) P w K mg base N qual (defScope st) fa cdv callerA [] t0 H (fun _ _ _ => False)) (defBody st) t ∧ t { nx := fun _ _ => False, rt := fun v _ => v = .bl true } (start N [.ref a]) H) :
    codeAny (model P w) callerA (.call (.ref fa) ⟨[.ref a], []⟩) (fun r s' => r = .ok (.ret (.bool true)) ∧ OldK t0.heap s'.heap ∧ s'.os = t0.os ∧ AllBare s'.gens) t0 := by
  have rels := vals_ints areI
  have count := areI.length
  have go : ∀ H : Hp, (∀ b, H b = none ∨ (b = a ∧ ∃ o xs, H b = some (.frz o (.lst xs)))) → SqL K H a (ns.map V.int) → HOk P w H t0.heap → (H a ≠ none → K.lookup a = none) →
      codeAny (model P w) callerA (.call (.ref fa) ⟨[.ref a], []⟩) (fun r s' => r = .ok (.ret (.bool true)) ∧ OldK t0.heap s'.heap ∧ s'.os = t0.os ∧ AllBare s'.gens) t0 := by
    intro H one sq hok nk
    have atA : ∀ b, H b ≠ none → b = a := fun b z => (one b).elim (fun e => absurd e z) fun e => e.1
    have dictFree : ∀ {b : Addr} {o : Obj} {es : Array DictEntry} {ep : Nat}, t0.heap.get? b = some o → o.data = .dict es ep → H b = none := by
      intro b o es ep get data
      rcases one b with e | ⟨e, _⟩
      · exact e
      · rw [e, script] at get
        cases get
        cases (show Data.seq its.toArray _ = Data.dict es ep from data)
    have names : ∀ {b : Addr} {m : Str → Option Value}, t0.heap.Ns b m → (hidT t0.heap H).Ns b m := by
      rintro b m ⟨o, es, ep, get, data, rest⟩
      exact ⟨o, es, ep, hidT_get get (dictFree get data), data, rest⟩
    have kinB : K.In (hidT t0.heap H) := fun b o z => hidT_get (kin b o z) (by
      rcases one b with e | ⟨e, o', xs, h⟩
      · exact e
      · subst e
        rw [nk (by rw [h]; simp)] at z
        cases z)
    have md : Mod K mg (hidT t0.heap H) := ⟨kinB, names glo, ⟨mb, names blt, boots⟩, let ⟨mc, c1, c2⟩ := free; ⟨mc, names c1, c2⟩⟩
    have env : Env0 P w K mg (hidT t0.heap H) callerA [] t0 H := ⟨rfl, md, fun _ _ z => of_hidT z, Nat.le_of_eq (hidT_size _ _), trivial, fun b z => absurd (show b ∈ ([] : List Addr) from z) (by simp), hok, .of_eq nogen⟩
    refine codeAny_mono (run_at (Q := fun v _ => v = .bl true) (E := fun _ _ _ => False) (us := [.ref a]) (vs := [.ref a]) F S hr env (bind t0 (.ref a)) (.cons rfl .nil) rfl fun cdv => ?_) fun r s' done => ?_
    · obtain ⟨t, ps, q⟩ := body (hidT t0.heap H) H cdv kinB (names glo) sq
      refine ⟨t, ps, ?_⟩
      have e : (fun (_ : L2.St) (H' : Hp) => (fun (v : V) (_ : Hp) => v = V.bl true) V.non H') = fun _ _ => False := by
        funext _ _
        simp
      rw [e]
      exact q
    cases r with
    | error e =>
      obtain ⟨_, _, _, _, _, _, _, _, _, _, _, _, z⟩ := done
      exact z.elim
    | ok fl =>
      cases fl with
      | next => exact done.elim
      | brk => exact done.elim
      | cont => exact done.elim
      | ret u =>
        obtain ⟨v, G, sameOs, bare, un, hok2, ru, q⟩ := done
        have q2 : v = .bl true := q
        subst q2
        obtain rfl : u = Value.bool true := ru
        refine ⟨rfl, OldK.of_keep fun b o get => ?_, sameOs, bare⟩
        rcases one b with e | ⟨_, ob, xs, e⟩
        · exact un.keep b o get e (fun z => absurd (show b ∈ ([] : List Addr) from z) (by simp)) (by simp)
        · obtain ⟨g1, _⟩ := hok b _ e
          obtain ⟨g2, _⟩ := hok2 b _ (un.frzs b ob _ e)
          rw [get] at g1
          cases g1
          exact g2
  cases inK : K.lookup a with
  | some o =>
    have get := kin a o inK
    rw [script] at get
    cases get
    exact go (fun _ => none) (fun _ => .inl rfl) (.inr ⟨_, its.toArray, _, inK, rfl, rfl, rfl, by rw [List.size_toArray, count]; exact few, by simpa using rels⟩) (fun b u z => by cases (show (none : Option HO) = some u from z)) fun z => absurd rfl z
  | none =>
    refine go (fun b => if b = a then some (.frz { cls := .type "list", data := .seq its.toArray } (.lst (ns.map V.int))) else none) (fun b => ?_) (.inl (.inr ⟨{ cls := .type "list", data := .seq its.toArray }, if_pos rfl⟩)) (fun b u z => ?_) fun _ => inK
    · by_cases e : b = a
      · exact .inr ⟨e, _, _, if_pos e⟩
      · exact .inl (if_neg e)
    · by_cases e : b = a
      · cases (if_pos e).symm.trans z
        subst e
        exact ⟨script, by rw [List.length_map]; exact few, its, _, rels, script⟩
      · cases (if_neg e).symm.trans z
/-- the goal that k_head leaves, from the law's body -/
theorem law_walk {l : PySem.W.OpenLaw} {n k : Nat} {q : Program} {loose : List Str} {XP : (Str → Option Value) → Heap → Prop} {YP : World → Heap → Prop} {d : DefRec} {K : Params → Fr} {x qual par : Str} {st : Stmt} {N : List Str}
    (hn : l.most = some n) (hn2 : n ≤ sizeLine) (hdf : d.params.defaults = []) (hr : Room (k + 1) callerA) (S : FnScope N [par] (defScope st))
    (hY : ∀ (w : World) (h : Heap), YP w h → (K w.params).In h)
    (F : ∀ (w : World) (mg : Str → Option Value) (fa : Addr) (h : Heap), (K w.params).In h → h.Ns mainGlobals mg → mg d.name = some (.ref fa) →
      ∃ fd : FuncData, Fun (K w.params) x qual st fa fd ∧ (∀ (s : Shared) (u : Value), BindsTo s fd ⟨[u], []⟩ [(par, u)]) ∧
        ∀ (base : Heap) (s : Shared) (H : Hp) (cdv : Value) (a : Addr) (ns : List Int), ns.length ≤ n → (K w.params).In base → base.Ns mainGlobals mg → SqL (K w.params) H a (ns.map V.int) →
          ∃ t, PSs (cxOf (L2.CX l.prog w) l.prog w (K w.params) mg base N qual (defScope st) fa cdv callerA [] s H (fun _ _ _ => False)) (defBody st) t ∧ t { nx := fun _ _ => False, rt := fun v _ => v = .bl true } (start N [.ref a]) H) :
    PySem.W.WalkO q loose XP YP l.row.toRowW d [] (fun f vs => PySem.call f vs) := by
  refine Att.attach_call hn hdf fun w s₀ t0 mg mb fa o pm cd doc a its ns G Y ho hd hcd hmg script areI few nogen => ?_
  have kin := hY w _ Y
  obtain ⟨fd, F1, bind, body⟩ := F w mg fa _ kin G.T.g hmg
  exact law_at kin G.T.g G.T.b G.T.builtins G.T.nolimit nogen script areI (Nat.le_trans few hn2) hr F1 S bind fun base H cdv kb nb sq => body base t0 H cdv a ns few kb nb sq
end Zo
/-! ZN: the deck is made, and the law goes on with it. -/
namespace Zo
open PySem PySem.Spec PyProof.Rows L2
abbrev sBegun : Stmt := top 81
def mixF (m c : Int) : Int := (m * 48271 + c % 2147483629 + 37) % 2147483587
/-- _law_begun(script, salt) -/
def begun (ns : List Int) (salt : Int) : Dk := ⟨(ns.take 63).reverse, (ns.take 63).foldl mixF salt, 0⟩
def spBegun (K : Fr) : Sp := fun vs H Q _ => ∃ (a : Addr) (salt : Int) (ns : List Int), vs = [.ref a, .int salt] ∧ SqL K H a (ns.map V.int) ∧ ∀ kd kc H', Stay [] H H' → H kd = none → H kc = none → DkAt H' kd kc (begun ns salt) → Q (.ref kd) H'
theorem mergeDk (kc : Addr) (m : Int) : mergeK [] (dkv kc m 0) = dkv kc m 0 := by
  have n1 : ¬ (Str.ofString "turn" = Str.ofString "cells") := fun e => ne_ct e.symm
  have n2 : ¬ (Str.ofString "turn" = Str.ofString "mixed") := fun e => ne_mt e.symm
  have n3 : ¬ (Str.ofString "mixed" = Str.ofString "cells") := fun e => ne_cm e.symm
  simp [mergeK, putK, dkv, ne_ct, ne_mt, ne_cm, n1, n2, n3]
theorem cutI (ns : List Int) : cutV (ns.map V.int) none (some 63) = (ns.take 63).map V.int := by
  unfold cutV
  have h0 : HT.sIx (ns.map V.int).length 0 none = 0 := rfl
  rw [h0, List.drop_zero, List.map_take, Nat.sub_zero]
  have h1 : HT.sIx (ns.map V.int).length (ns.map V.int).length (some 63) = min 63 (ns.map V.int).length := by
    simp [HT.sIx]
  rw [h1]
  by_cases h : (ns.map V.int).length ≤ 63
  · rw [Nat.min_eq_right h, List.take_of_length_le (Nat.le_refl _), List.take_of_length_le h]
  · rw [Nat.min_eq_left (by omega)]
theorem fold_take {ns : List Int} {i : Nat} {c : Int} {m : Int} (h : ns[i]? = some c) : (ns.take (i + 1)).foldl mixF m = mixF ((ns.take i).foldl mixF m) c := by
  have hi := (List.getElem?_eq_some_iff.mp h)
  obtain ⟨hl, e⟩ := hi
  rw [List.take_succ_eq_append_getElem hl, List.foldl_append, e]
  rfl
theorem scBegun : FnScope ["script", "salt", "cells", "mixed", "cell"] ["script", "salt"] (defScope sBegun) := ⟨rfl, rfl, rfl, by decide +kernel, rfl, by decide +kernel, by decide +kernel⟩
theorem ok_begun {P : Program} {w : World} {K : Fr} {mg : Str → Option Value} {base : Heap} {f : Addr} {fd : FuncData} {k : Nat} (F : Fun K "_law_begun" "_law_begun" sBegun f fd) (mlist : mg "list" = none) : FnOk P w K mg base (L2.CX P w) (k + 1) f fd ["script", "salt"] (spBegun K) := by
  refine F.okX scBegun (fun vs H Q E h => ?_) fun cdv A outer s H vs Q E hr h => ⟨_, pss_cons (ps_par (i := 2) (j := 3) rfl scBegun.nd rfl rfl (by decide) rfl rfl (pa_cons (pe_callTy call_list_of rfl mlist PyProof.Rows.boot_list (pa_cons (pe_slice sl_list (pv 0) po_none (po_some pe_int)) pa_nil)) (pa_cons (pv 1) pa_nil)) rfl)
      (pss_cons (ps_for (passes_of rfl) rfl (pi_list (pv 2)) (pg_name (i := 4) scBegun.nd rfl (Or.inl rfl)) (pss_one (ps_set (i := 3) scBegun.nd rfl (Or.inl rfl) (pe_op op_mod (pe_op op_add (pe_op op_add (pe_op op_mul (pv 3) pe_int) (pe_op op_mod (pv 4) pe_int)) pe_int) pe_int))))
      (pss_one (ps_ret (pe_disp (pps_cons pe_str (pe_revL (pv 2)) (pps_cons pe_str (pv 3) (pps_cons pe_str pe_int pps_nil))) rfl rfl (by simp) (by simp))))), ?_⟩
  · obtain ⟨a, salt, ns, rfl, _⟩ := h
    rfl
  · obtain ⟨a, salt, ns, rfl, hS, q⟩ := h
    refine ⟨_, rfl, ⟨63, rfl, a, _, rfl, hS, fun p hp => ⟨p, _, rfl, .inl (SqL.of upd_same), fun c hc => ?_⟩⟩⟩
    rw [cutI] at hc ⊢
    have st1 : Stay [] H (upd H p (.lst ((ns.take 63).map V.int))) := Stay.laid hp
    generalize hH1 : upd H p (.lst ((ns.take 63).map V.int)) = H1 at *
    have st2 : Stay [] H (upd H1 c (.lst ((ns.take 63).map V.int))) := st1.trans (Stay.laid hc)
    have hc0 : H c = none := by
      cases e : H c with
      | none => rfl
      | some o => rw [st1 c o e (by simp)] at hc; cases hc
    have hcc : (upd H1 c (.lst ((ns.take 63).map V.int))) c = some (.lst ((ns.take 63).map V.int)) := upd_same
    generalize hH2 : upd H1 c (.lst ((ns.take 63).map V.int)) = H2 at *
    refine ⟨_, rfl, _, _, rfl, ?_⟩
    refine ⟨_, rfl, c, rfl, ⟨_, SqL.of hcc⟩, for_list (K := K) (a := c) (xs := (ns.take 63).map V.int) (fun i σ H' => ∃ v : Option V, σ = [some (.ref a), some (.int salt), some (.ref c), some (.int (((ns.take 63).take i).foldl mixF salt)), v] ∧ H' = H2)
      ⟨none, rfl, rfl⟩ (fun i σ H' _ ⟨_, _, e⟩ => by rw [e]; exact SqL.of hcc) ?_ ?_⟩
    · rintro i y σ H' hi ⟨v, rfl, rfl⟩
      rw [List.getElem?_map] at hi
      obtain ⟨z, hz, ez⟩ := Option.map_eq_some_iff.mp hi
      subst ez
      refine g_op (g_op0 (g_op0 (g_op (g_var rfl) (g_c _) (cmul2 (by decide) (by decide))) (g_op (g_var rfl) (g_c _) (by decide))) (g_c _)) (g_c _) (by decide) _ ?_
      refine ⟨some (.int z), ?_, rfl⟩
      rw [fold_take hz]
      rfl
    · rintro σ H' ⟨v, rfl, rfl⟩
      rw [List.length_map, List.take_length]
      intro kd hkd
      refine ⟨_, rfl, c, _, rfl, SqL.of (show (upd H' kd (.dK [])) c = some (.lst ((ns.take 63).map V.int)) from ?_), fun kc hkc => ?_⟩
      · rw [upd_ne (ne_of_none hcc hkd)]; exact hcc
      have nkc : kc ≠ kd := fun e => by rw [e, upd_same] at hkc; cases hkc
      have hkc0 : H' kc = none := by rw [upd_ne nkc] at hkc; exact hkc
      have back : ∀ b, H' b = none → H b = none := fun b e => by
        cases z : H b with
        | none => rfl
        | some o => rw [st2 b o z (by simp)] at e; cases e
      refine ⟨_, rfl, ?_⟩
      refine ⟨by rw [upd_ne (Ne.symm nkc)]; exact upd_same, dkv kc (((ns.take 63)).foldl mixF salt) 0, rfl, (show 3 ≤ 15 by decide), ?_⟩
      rw [mergeDk]
      refine q kd kc _ ?_ (back _ hkd) (back _ hkc0) ⟨Ne.symm nkc, upd_same, ?_, ?_⟩
      · intro b o e _
        have h2 := st2 b o e (by simp)
        have n1 : b ≠ kd := ne_of_none h2 hkd
        have n2 : b ≠ kc := ne_of_none h2 hkc0
        rw [upd_ne n1, upd_ne n2, upd_ne n1]
        exact h2
      · rw [upd_ne nkc, upd_same, ← List.map_reverse]
        rfl
      · show (ns.take 63).reverse.length ≤ 1000
        rw [List.length_reverse, List.length_take]
        omega
end Zo
/-! ZO: calls by keywords, chains, -, {}, sorted. -/
namespace Zo
open PySem PySem.Spec PyProof.Rows L2
/-! ### f(k = v, ..) -/
def pick {α : Type} (ix : List Nat) (l : List α) : List α := ix.filterMap fun i => l[i]?
theorem pick_rp {K : Fr} {H : Hp} {Xs : List Addr} {ds : List D} {vs : List V} (h : RpA K H Xs ds vs) : ∀ ix : List Nat, RpA K H Xs (pick ix ds) (pick ix vs)
  | [] => rfl
  | i :: ix => by
    have ih := pick_rp h ix
    unfold pick at ih ⊢
    cases e : ds[i]? with
    | some d =>
      obtain ⟨v, ev, pv⟩ := h.get e
      rw [List.filterMap_cons_some e, List.filterMap_cons_some ev]
      exact ⟨v, _, rfl, pv, ih⟩
    | none =>
      have ev : vs[i]? = none := by
        have := List.getElem?_eq_none_iff.mp e
        exact List.getElem?_eq_none_iff.mpr (by rw [h.len]; exact this)
      rw [List.filterMap_cons_none e, List.filterMap_cons_none ev]
      exact ih
theorem pick_vals {vs : List V} {us : List Value} (h : Vals vs us) : ∀ ix : List Nat, Vals (pick ix vs) (pick ix us)
  | [] => .nil
  | i :: ix => by
    have ih := pick_vals h ix
    unfold pick at ih ⊢
    cases e : vs[i]? with
    | some d =>
      obtain ⟨v, ev, pv⟩ := h.get e
      rw [List.filterMap_cons_some e, List.filterMap_cons_some ev]
      exact .cons pv ih
    | none =>
      have ev : us[i]? = none := by
        have := List.getElem?_eq_none_iff.mp e
        exact List.getElem?_eq_none_iff.mpr (by rw [← h.length]; exact this)
      rw [List.filterMap_cons_none e, List.filterMap_cons_none ev]
      exact ih
/-- how a call by keywords alone binds -/
def KwB (fd : FuncData) (ps ks : List Str) (ix : List Nat) : Prop := ∀ (s : Shared) (ws : List Value), ws.length = ks.length → BindsTo s fd ⟨[], ks.zip ws⟩ (ps.zip (pick ix ws))
theorem kwB_of {K : Fr} {x qual : Str} {st : Stmt} {f : Addr} {fd : FuncData} {ps ks : List Str} {ix : List Nat} (F : Fun K x qual st f fd)
    (h : ∀ (kV doc pm : Value) (an : Option Addr) (cdv ct : Value) (ws : List Value), ws.length = ks.length → bindArgs (PySem.W.fnOf x qual (defArgs st) (defBody st) (defScope st) .none kV doc pm an cdv ct) ⟨[], ks.zip ws⟩ = pure (ps.zip (pick ix ws))) : KwB fd ps ks ix := by
  obtain ⟨oc, od, kV, doc, pm, an, cdv, ct, osl, rfl, lk, hcd⟩ := F.ex
  exact fun s ws hw => .of_eq (h kV doc pm an cdv ct ws hw)
abbrev SK (cl : Nat → Addr) (X : Cx) (W : WX) (m : Bool) (kws : List Keyword) (ev : Evs) : Prop := PK X kws (tA X.K cl W m ev)
section
variable {cl : Nat → Addr} {X : Cx} {W : WX} {m : Bool} {e : Expr} {ev : Ev} {evs : Evs} {kws : List Keyword} {k n : Nat} {f : Addr} {fd : FuncData} {ps ks : List Str} {x : Str} {p pos kpos : Pos} {nm : Option Str}
theorem pk_imp {t t' : TA} (h : PK X kws t) (i : ∀ σ H Q, t' σ H Q → t σ H Q) : PK X kws t' := ⟨fun pos pins s σ H Q I q => h.run pos pins s σ H Q I (i σ H Q q)⟩
theorem sk_nil : SK cl X W m [] evNil := pk_imp pk_nil fun σ H Q ⟨fm, Xs, os, s, r, g⟩ => g [] H r (Stay.refl _ _) rfl
theorem sk_cons (h : SE cl X W m e ev) (hs : SK cl X W m kws evs) : SK cl X W m (⟨nm, e, kpos⟩ :: kws) (evCons ev evs) :=
  pk_imp (pk_cons h hs) fun σ H Q ⟨fm, Xs, os, s, r, g⟩ => by
    unfold evCons at g
    refine ⟨fm, Xs, os, s, r, ?_⟩
    cases q : ev s with
    | ok d s1 =>
      rw [q] at g
      simp only [Out.bind_ok] at g
      refine fun v H1 r1 st1 p1 => ⟨fm, Xs, os, s1, r1, ?_⟩
      cases q2 : evs s1 with
      | ok ds s2 =>
        rw [q2] at g
        refine fun vs H2 r2 st2 p2 => g (v :: vs) H2 r2 (st1.trans st2) ⟨v, vs, rfl, Rp.stay st2 r1.sx d v p1, p2⟩
      | exc c t s2 => rw [q2] at g; exact g
      | no => rw [q2] at g; exact g.elim
    | exc c t s1 => rw [q] at g; exact g
    | no => rw [q] at g; exact g.elim
def evCallK (f : List D → Ro) (ix : List Nat) (as : Evs) : Ev := fun s => (as s).bind fun ds s1 => ofRo (f (pick ix ds)) s1
theorem se_callK {g : List D → Ro} {ix : List Nat} (F : FnOk X.prog X.w X.K X.mg X.base (L2.CX X.prog X.w) k f fd ps (spP X.K cl n g)) (hr : Room k X.A) (hg : Gl X x) (hm : X.mg x = some (.ref f)) (hk : PySem.W.keepIn X.K (.ref f) = true) (hb : KwB fd ps ks ix) (tk : Takes X W)
    (ha : SK cl X W m kws evs) (hl : ks.length = kws.length) (hn : ∀ s ds s1, evs s = .ok ds s1 → (pick ix ds).length = n ∧ ds.length = ks.length) (hall : (backToKw pos (keywordEach kws X.env)).all (·.1.isSome) = true := by rfl) (hks : (backToKw pos (keywordEach kws X.env)).filterMap (·.1) = ks := by rfl)
    (hdb : (x == ("__debug__" : Str)) = false := by decide) (hpl : ((backTo pos (starEach [] X.env)).any (·.1) || (backToKw pos (keywordEach kws X.env)).any (·.1.isNone)) = false := by rfl) :
    SE cl X W m (.Call (.Name x p) [] kws pos) (evCallK g ix evs) := by
  refine ⟨fun pins s σ H Q I h => ?_⟩
  obtain ⟨fm, Xs, os, ms, R, h⟩ := h
  refine wpAny_Call_Name_kw (ld_glob I hg hm ?_ hdb)
  refine PySem.W.callWith_KW0 (h₀ := X.base) I.ok.mod.kin hk hall ?_ hpl
  refine thn (ha.run pos pins s σ H (fun zs H2 => ∃ ds s1, zs.length = ks.length ∧ RpA X.K H2 Xs ds zs ∧ evs ms = .ok ds s1 ∧ Rel X.K fm Xs os s1 σ H2 ∧ Stay (Mu fm.dka os m) H H2) I ⟨fm, Xs, os, ms, R, ?_⟩) fun ws s2 hh => ?_
  · unfold evCallK at h
    cases q : evs ms with
    | ok ds s1 => exact fun vs H1 r1 st1 ra => ⟨ds, s1, by rw [ra.len, (hn _ _ _ q).2], ra, rfl, r1, st1⟩
    | exc c t s1 => rw [q] at h; exact h
    | no => rw [q] at h; exact h.elim
  · obtain ⟨zs, H2, I2, rz, ds, s1, hz, ra, q, r1, st1⟩ := hh
    refine ⟨I2.kIn, ?_⟩
    rw [hks]
    unfold evCallK at h
    rw [q] at h
    simp only [Out.bind_ok] at h
    have sp := GoodE.call (cl := cl) (m := m) (W := W) (n := n) r1 st1 (pick_rp ra ix) (hn _ _ _ q).1 h
    have hw : ws.length = ks.length := by rw [← rz.length]; exact hz
    refine wpAny_call (codeAny_mono (F.run X.A X.stack s2 H2 ⟨[], ks.zip ws⟩ (pick ix ws) (pick ix zs) Q (WE W σ) hr I2.env0 (hb s2 ws hw) (pick_vals rz ix) sp) fun r s' done => ?_)
    cases r with
    | error er => exact passAt tk σ pins H2 s2 er s' I2 done
    | ok fl =>
      cases fl with
      | ret u => exact I2.after done
      | next => exact done.elim
      | brk => exact done.elim
      | cont => exact done.elim
/-! ### chains -/
theorem se_chain {op op' : CmpOp} {r r' : R2} {f f' : D → D → Option D} {ea eb ec : Expr} {a b c : Ev} (ho : OpR X (compareOp op) r) (hs : OpSem X r f) (ho' : OpR X (compareOp op') r') (hs' : OpSem X r' f') (ha : SB cl X W m ea a) (hb : SB cl X W true eb b) (hc : SB cl X W true ec c)
    (hm : lastMarks [op, op'] [eb, ec] = false := by with_unfolding_all rfl) : SE cl X W m (.Compare ea [op, op'] [eb, ec] pos) (evChain f f' a b c) :=
  pe_imp (pe_chain ho ho' ha hb hc hm) fun _ _ _ h => tChain_sem hs hs' h
theorem st_chain {op op' : CmpOp} {r r' : R2} {f f' : D → D → Option D} {ea eb ec : Expr} {a b c : Ev} (ho : OpR X (compareOp op) r) (hs : OpSem X r f) (ho' : OpR X (compareOp op') r') (hs' : OpSem X r' f') (ha : SB cl X W m ea a) (hb : SB cl X W true eb b) (hc : SB cl X W true ec c)
    (hm : lastMarks [op, op'] [eb, ec] = false := by with_unfolding_all rfl) : STt cl X W m (.Compare ea [op, op'] [eb, ec] pos) (evT (evChain f f' a b c)) :=
  pt_imp (pt_chain ho ho' ha hb hc hm) fun _ _ _ h => tChain_sem hs hs' (tT_of h)
/-! ### - -/
def negD : D → Option D
  | .int i => some (.int (-i))
  | _ => none
theorem se_neg (h : SB cl X W m e ev) : SE cl X W m (.UnaryOp .USub e pos) (ev1 negD ev) := pe_imp (pe_un un_neg h) fun σ H Q ⟨fm, Xs, os, s, R, g⟩ => by
  unfold ev1 at g
  refine ⟨fm, Xs, os, s, R, ?_⟩
  cases q : ev s with
  | ok d s1 =>
    rw [q] at g
    simp only [Out.bind_ok] at g
    cases d with
    | int i => exact fun v H1 r1 st1 p1 => ⟨i, p1.int, g _ H1 r1 st1 rfl⟩
    | _ => exact g.elim
  | exc c t s1 => rw [q] at g; exact g
  | no => rw [q] at g; exact g.elim
/-! ### {} -/
theorem se_dict0 : SE cl X W m (.Dict [] [] pos) (evLit (.dict [])) := pe_imp pe_dnewK fun σ H Q ⟨fm, Xs, os, s, R, g⟩ => fun p hp =>
  g (.ref p) _ (R.laid hp) (Stay.laid hp) ⟨p, [], rfl, .inl ⟨rfl, upd_same, R.nx hp⟩, rfl⟩
/-! ### sorted: texts -/
def strsOf : List D → Option (List Str)
  | [] => some []
  | .str x :: ds => (strsOf ds).map fun xs => x :: xs
  | _ => none
theorem strsOf_rp {K : Fr} {H : Hp} {Xs : List Addr} : ∀ {ds : List D} {vs : List V} {xs : List Str}, RpA K H Xs ds vs → strsOf ds = some xs → vs = xs.map V.str
  | [], _, _, h, e => by cases h; cases e; rfl
  | d :: ds, _, xs, h, e => by
    obtain ⟨v, r, e1, p, q⟩ := h
    subst e1
    cases d with
    | str x =>
      obtain ⟨ys, e2, e3⟩ := Option.map_eq_some_iff.mp e
      subst e3
      have := strsOf_rp q e2
      subst this
      have ev : v = .str x := p
      subst ev
      rfl
    | _ => cases e
theorem strs_rp {K : Fr} {H : Hp} {Xs : List Addr} : ∀ xs : List Str, RpA K H Xs (xs.map PyData.str) (xs.map V.str)
  | [] => rfl
  | x :: xs => ⟨_, _, rfl, rfl, strs_rp xs⟩
def leS (a b : Str) : Bool := !decide (b.cps.toList < a.cps.toList)
def sortD : D → Option (List D)
  | .list ds => match strsOf ds with
    | some xs => if xs.length < 64 then some ((xs.mergeSort leS).map PyData.str) else none
    | none => none
  | _ => none
theorem leS_trans (a b c : Str) (h : leS a b = true) (k : leS b c = true) : leS a c = true := by
  simp only [leS, Bool.not_eq_true', decide_eq_false_iff_not, List.not_lt] at *
  exact List.le_trans h k
theorem leS_total (a b : Str) : (leS a b || leS b a) = true := by
  simp only [leS, Bool.or_eq_true, Bool.not_eq_true', decide_eq_false_iff_not, List.not_lt]
  exact (List.le_total b.cps.toList a.cps.toList).symm
theorem leS_anti (a b : Str) (h : leS a b = true) (k : leS b a = true) : a = b := by
  simp only [leS, Bool.not_eq_true', decide_eq_false_iff_not, List.not_lt] at *
  obtain ⟨x⟩ := a
  obtain ⟨y⟩ := b
  congr 1
  exact Array.ext' (List.le_antisymm h k)
theorem rising_leS : ∀ (p : Str) (l : List Str), PyProof.Rows.risingS p l = true → (p :: l).Pairwise fun a b => leS a b = true
  | p, [], _ => by simp
  | p, x :: r, h => by
    unfold PyProof.Rows.risingS at h
    rw [Bool.and_eq_true] at h
    have ih := rising_leS x r h.2
    have hx : leS p x = true := by
      unfold leS
      rw [← PyProof.Rows.ltCps_eq]
      exact h.1
    refine List.pairwise_cons.mpr ⟨fun b hb => ?_, ih⟩
    rcases List.mem_cons.mp hb with rfl | hb
    · exact hx
    · exact leS_trans _ _ _ hx ((List.pairwise_cons.mp ih).1 b hb)
theorem sorted_one {ys xs : List Str} (hp : ys.Perm xs) (hs : PyProof.Rows.sortedS ys = true) : ys = xs.mergeSort leS := by
  have h1 : ys.Pairwise fun a b => leS a b = true := by
    cases ys with
    | nil => simp
    | cons y ys => exact rising_leS y ys hs
  have h2 := List.pairwise_mergeSort (le := leS) leS_trans leS_total xs
  exact List.Perm.eq_of_pairwise (le := fun a b => leS a b = true) (fun a b _ _ => leS_anti a b) h1 h2 (hp.trans (List.mergeSort_perm xs leS).symm)
theorem sem_sorted : CallSemL X (rSortedS X.K) sortD := by
  intro fm Xs os s σ H d ds v Q R p e q
  cases d with
  | list xs =>
    simp only [sortD] at e
    cases q1 : strsOf xs with
    | none => rw [q1] at e; cases e
    | some ys =>
      rw [q1] at e
      dsimp only at e
      split at e
      · rename_i hl
        cases e
        obtain ⟨a, vs, ev, ha, ra⟩ := p.list
        subst ev
        have e3 := strsOf_rp ra q1
        subst e3
        refine ⟨a, ys, rfl, SqL.of ha, hl, fun zs p hz hs hp => ?_⟩
        have := sorted_one hz hs
        subst this
        exact q p _ hp (strs_rp _)
      · cases e
  | _ => cases e
end
end Zo
/-! ZR: several except clauses, each of which names its error. -/
namespace Zo
open PySem PySem.Spec PyProof.Rows L2
open PySem.Zx (ExTxt)
abbrev Suite := Addr → Value → Option Addr → TS
/-- what the clauses 'except c as n', one after the other, wish: slot i is n's -/
def wEach (K : Fr) (i : Nat) (Wout : WX) (Dn : Ends) : List (Value × Suite) → WX
  | [] => Wout
  | (c, ts) :: more => fun cls d σ H => ∃ b, PySem.W.exmOne K cls c = some b ∧
      (b = true → ∀ a, H a = none → ts a cls d { nx := fun τ G => Dn.nx (τ.set i none) G, rt := Dn.rt, bk := fun τ G => Dn.bk (τ.set i none) G, ct := fun τ G => Dn.ct (τ.set i none) G } (σ.set i (some (.ref a))) H) ∧ (b = false → wEach K i Wout Dn more cls d σ H)
inductive Clauses (X : Cx) (n : Str) : List ExceptHandler → List (Value × Suite) → Prop
  | nil : Clauses X n [] []
  | cons {x : Str} {c : Value} {ts : Suite} {b₀ : Stmt} {suite : List Stmt} {np pe : Pos} {hds : List ExceptHandler} {l : List (Value × Suite)} (named : Names X x c)
      (runs : ∀ (a : Addr) (oe : Obj) (cls : Value) (d : Option Addr) (pn : List (Addr × Obj)), Zc cls d oe → (∃ vs, oe.data = .fields vs) → PSs (X.suite a ((a, oe) :: pn)) (b₀ :: suite) (ts a cls d)) (more : Clauses X n hds l) :
      Clauses X n (.ExceptHandler (some (.Name x np)) (some n) (b₀ :: suite) pe :: hds) ((c, ts) :: l)
section
variable {X : Cx} {n : Str} {i : Nat} {body : List Stmt} {h₀ : ExceptHandler} {hds : List ExceptHandler} {l : List (Value × Suite)} {pos : Pos} {tb : WX → TS} {Wout : WX}
theorem ps_try_each (hs : X.stack = X.env :: X.outer) (hf : X.env.frame = some X.env.locals) (hN : X.N.Nodup) (hi : X.N[i]? = some n) (hln : X.env.kindOf n = some .local) (tk : Takes X Wout)
    (hb : ∀ (W : WX) (pn : List (Addr × Obj)) (xe : Value → Shared → Prop), Takes (X.tr pn xe) W → PassesOwn (model X.prog X.w) X.A X.env xe → PSs (X.tr pn xe) body (tb W))
    (hh : Clauses X n (h₀ :: hds) l) : PS X (.Try body (h₀ :: hds) [] [] pos) (fun Dn σ H => tb (wEach X.K i Wout Dn l) Dn σ H) := by
  refine ⟨fun pins s σ H Dn I want => ?_⟩
  have fine := I.ok
  have frames : X.A.frames = some (X.env :: X.outer) := by rw [fine.frames, hs]
  have loc : Loc X.env.scope n := .inl hln
  refine wpAny_Try_except ?_
  refine wpAny_mono ((hb (wEach X.K i Wout Dn l) (X.pn ++ pins) (fun u t₁ => wpAny (model X.prog X.w) X.A (noteFrame u X.env) (fun _ t₂ => wpAny (model X.prog X.w) X.A (setFlight u none) (fun _ t₃ =>
    wpAny (model X.prog X.w) X.A (handleBy u X.env (h₀ :: hds)) (L2.SP X pins Dn) X.xe t₃) X.xe t₂) X.xe t₁) (fun u t' flying => ?_) PassesOwn.looking).run [] s σ H Dn (I.toTry _) want) (fun fl t1 ended => ?_) (fun u t1 z => z)
  · obtain ⟨a, ground, sI, pins', τ, G, cls, d, rfl, J', kept, up, sky, na, os, ag, wish⟩ := flying
    have J : Inv X pins τ G sI := J'.ofTry fine
    have sky2 : Sky ground (X.env :: X.outer) a (Zc cls d) X.env.locals t'.heap := by rw [← hs]; exact sky
    show wpAny (model X.prog X.w) X.A (noteFrame (.ref a) X.env) _ _ _
    refine Sky.land Zc.steady frames hf sky2 fun g3 fly3 up3 => ?_
    have J3 : Inv X pins τ G { t' with heap := g3 } := J.landed kept fly3.1 (up.trans up3) os ag
    obtain ⟨oe3, vs3, get3, zc3, data3⟩ := fly3.there
    have nfr : a ∉ frs (X.env :: X.outer) := fun hm => by
      obtain ⟨_, o', e', hnf⟩ := fly3.2.2.1.mem hm
      rw [get3] at e'
      cases e'
      exact hnf _ data3
    have nL : a ≠ X.env.locals := fun z => nfr (List.mem_filterMap.mpr ⟨X.env, List.mem_cons_self, by rw [hf, z]⟩)
    have nF : a ∉ X.fs := fun hm => by
      obtain ⟨en, mem, q⟩ := List.mem_filterMap.mp hm
      exact nfr (List.mem_filterMap.mpr ⟨en, List.mem_cons_of_mem _ mem, q⟩)
    have S3 := J3.suite get3 data3 na nL nF
    have walk : ∀ {hds' : List ExceptHandler} {l' : List (Value × Suite)}, Clauses X n hds' l' → wEach X.K i Wout Dn l' cls d τ G →
        wpAny (model X.prog X.w) X.A (handleBy (.ref a) X.env hds') (L2.SP X pins Dn) X.xe { t' with heap := g3 } := by
      intro hds' l' cs
      induction cs with
      | nil =>
        intro wish
        refine wpAny_handleBy_nil ?_
        obtain ⟨_, _, _, oe, vs, T, oT, ts', he, hz, hd, h1, hr⟩ := id fly3
        unfold PySem.passOn
        refine wpAny_bind (wpAny_field he hd h1 ?_)
        rw [if_neg (show ¬ ((Value.ref T == Value.none) = true) from by simp)]
        have out : wpAny (model X.prog X.w) X.A (setFlight (.ref a) X.env.frame) (fun _ t4 => wpAny (model X.prog X.w) X.A (throw (.ref a) : Sem Flow) (L2.SP X pins Dn) X.xe t4) X.xe { t' with heap := g3 } := by
          rw [hf]
          refine HandSPX.setFlight_upZ fly3 fun g4 held4 up4 => wpAny_throw (tk _ _ ?_)
          exact ⟨a, ground, sI, pins, τ, G, cls, d, rfl, J, kept, (up.trans up3).trans up4, .inr (.inr (by rw [hs]; exact held4)), na, os, ag, wish⟩
        first
          | exact wpAny_bind (wpAny_pure (wpAny_bind out))
          | exact wpAny_bind out
      | @cons x c ts b₀ suite np pe hds2 l2 named runs more ih =>
        intro wish
        obtain ⟨b, answer, yes, no⟩ := wish
        refine wpAny_handleBy_cons (codeAny_handlers_test ?_) (by intro q; cases q)
        have lookT : PySem.W.Looks (model X.prog X.w) g3 (typeOf (.ref a)) cls := fun A Q E s k q => wpAny_typeOf_ref (k _ _ get3) (by rw [zc3.1]; exact q)
        have lookM := PySem.W.exm_one (M := model X.prog X.w) (J3.kIn) lookT answer
        have test : ∀ {Q : Value → Shared → Prop} {E : Value → Shared → Prop}, Q c { t' with heap := g3 } → wpAny (model X.prog X.w) (X.A.mark (some (.ref a))) (eval (.Name x np) X.env) Q E { t' with heap := g3 } := fun {Q E} q => by
          obtain ⟨hg, hdb, hm | ⟨hm, hv, hnn⟩⟩ := named
          · exact ld_glob (X := X.suite a ((a, oe3) :: (X.pn ++ pins))) S3 hg hm q hdb
          · exact ld_blt (X := X.suite a ((a, oe3) :: (X.pn ++ pins))) S3 hg hm hv q hnn hdb
        refine test (lookM.here ?_)
        cases b with
        | false =>
          show wpAny _ X.A (handleBy (.ref a) X.env hds2) _ _ _
          exact ih (no rfl)
        | true =>
          refine codeAny_handlers_suite_as ?_
          refine HandSPX.lands_againZ fly3 fun g4 fly4 up4 => ?_
          have J4 : Inv X pins τ G { t' with heap := g4 } := J.landed kept fly4.1 ((up.trans up3).trans up4) os ag
          obtain ⟨oe4, vs4, get4, zc4, data4⟩ := fly4.there
          have S4 := J4.suite get4 data4 na nL nF
          refine store_ok (X := X.suite a ((a, oe4) :: (X.pn ++ pins))) (v := .ref a) S4 hN hi loc rfl (fun t5 S5 => ?_) (.inr hln)
          refine wpAny_mono ((runs a oe4 cls d (X.pn ++ pins) zc4 ⟨_, data4⟩).run [] t5 _ G _ S5 (yes rfl a na)) (fun fl t6 done => ?_) (fun _ _ z => z.elim)
          have gone : ∀ {τ6 : L2.St} {G6 : Hp} {Q : Shared → Prop}, Inv (X.suite a ((a, oe4) :: (X.pn ++ pins))) [] τ6 G6 t6 → (∀ t7, Inv X pins (τ6.set i none) G6 t7 → Q t7) →
              wpAny (model X.prog X.w) X.A (do bindName X.env n .none; unbindBehindTheSuite X.env n pe) (fun _ t7 => Q t7) X.xe t6 := fun {τ6 G6 Q} S6 q => gone_ok (S6.unsuite fine) hN hi hln q
          cases fl with
          | ret u =>
            obtain ⟨v6, τ6, G6, S6, r6, q6⟩ := done
            exact gone S6 fun t7 J7 => ⟨_, _, _, J7, r6, q6⟩
          | next =>
            obtain ⟨τ6, G6, S6, q6⟩ := done
            exact gone S6 fun t7 J7 => ⟨_, _, J7, q6⟩
          | brk =>
            obtain ⟨τ6, G6, S6, q6⟩ := done
            exact gone S6 fun t7 J7 => ⟨_, _, J7, q6⟩
          | cont =>
            obtain ⟨τ6, G6, S6, q6⟩ := done
            exact gone S6 fun t7 J7 => ⟨_, _, J7, q6⟩
    exact walk hh wish
  · cases fl with
    | ret u =>
      obtain ⟨v, τ, G, J', r, q⟩ := ended
      exact ⟨v, τ, G, J'.ofTry fine, r, q⟩
    | next =>
      obtain ⟨τ, G, J', q⟩ := ended
      exact wpAny_execs_nil ⟨τ, G, J'.ofTry fine, q⟩
    | brk =>
      obtain ⟨τ, G, J', q⟩ := ended
      exact ⟨τ, G, J'.ofTry fine, q⟩
    | cont =>
      obtain ⟨τ, G, J', q⟩ := ended
      exact ⟨τ, G, J'.ofTry fine, q⟩
end
/-- except c as e: return (w, e.thing, isinstance(e, ZonesError)), for several c, w -/
def heardM (cs : List (Nat × Str)) (i : Nat) (b : Ex) : Ex := fun s => match b s with
  | .exc c t s1 => match cs.lookup c, s1.env[i]? with
    | some w, some .un => .ok (.rt (.tuple [.str w, t, .bool true])) s1
    | _, _ => .no
  | o => o
/-- the suite's reading -/
abbrev tHeard (c : Addr) (w : Str) (i : Nat) (za : Addr) : Suite := fun a cls d => tRet (tTupF (tCons (tC (.str w)) (tCons (tThing c a cls d (tVar i)) (tCons (tCB (rIsZ c za cls d a) (tCons (tVar i) (tCons (tC (.ref za)) tNil))) tNil))))
/-- among the classes of the clauses: the first one that names c is c's own -/
def Apart (K : Fr) (cl : Nat → Addr) (cs : List (Nat × Str)) : Prop := ∀ p ∈ cs, ∀ q ∈ cs, PySem.W.exmOne K (.ref (cl p.1)) (.ref (cl q.1)) = some (decide (p.1 = q.1))
section
variable {X : Cx} {n : Str} {za : Addr}
/-- one clause's suite -/
theorem heard_suite {x q w : Str} {C fI : Addr} {i : Nat} {p1 p2 p3 p4 p5 p6 p7 p8 p9 : Pos} {j k : Nat} (T : ExTxt X.K X.mg x q C za fI) (S : ExIs X.K C) (hk : PySem.W.kitOne X.K (.ref C) (.ref za) = some true) (hZ : X.mg "ZonesError" = some (.ref za)) (gZ : Gl X "ZonesError")
    (hgi : Gl X "isinstance") (hmi : X.mg "isinstance" = none) (hv : ∀ (a : Addr) (oe : Obj) (pn : List (Addr × Obj)) (p : Pos), PE (X.suite a ((a, oe) :: pn)) (.Name n p) (tVar i)) (a : Addr) (oe : Obj) (cls : Value) (d : Option Addr) (pn : List (Addr × Obj)) (hz : Zc cls d oe) (hvs : ∃ vs, oe.data = .fields vs) :
    PSs (X.suite a ((a, oe) :: pn)) [.Return (some (.Tuple [.Constant (.str w) j p1, .Attribute (.Name n p2) "thing" p3, .Call (.Name "isinstance" p4) [.Name n p5, .Name "ZonesError" p6] [] p7] k p8)) p9] (tHeard C w i za a cls d) := by
  refine pss_one (ps_ret (pe_tupF (pa_cons pe_str (pa_cons (pe_thing T hz hvs (hv a oe pn p2)) (pa_cons (pe_callB (call_isZ T S hk hz hvs) hgi hmi PyProof.Rows.boot_isinstance (pa_cons (hv a oe pn p5) (pa_cons ?_ pa_nil))) pa_nil)))))
  exact pe_glob (v := V.ref za) gZ hZ rfl
theorem ss_heardM {cl : Nat → Addr} {Wout : WX} {i : Nat} {cs : List (Nat × Str)} {body : List Stmt} {b : Ex} {h₀ : ExceptHandler} {hds : List ExceptHandler} {pos : Pos}
    (hs : X.stack = X.env :: X.outer) (hf : X.env.frame = some X.env.locals) (hN : X.N.Nodup) (hi : X.N[i]? = some n) (hln : X.env.kindOf n = some .local) (tk : Takes X Wout) (ap : Apart X.K cl cs)
    (hb : ∀ (W : WX) (pn : List (Addr × Obj)) (xe : Value → Shared → Prop), Takes (X.tr pn xe) W → PassesOwn (model X.prog X.w) X.A X.env xe → SSs cl (X.tr pn xe) W body b)
    (hh : Clauses X n (h₀ :: hds) (cs.map fun p => (.ref (cl p.1), tHeard (cl p.1) p.2 i za))) :
    SS cl X Wout (.Try body (h₀ :: hds) [] [] pos) (heardM cs i b) := by
  refine ps_imp (ps_try_each (i := i) (tb := fun W => tS X.K cl W b) (Wout := Wout) hs hf hN hi hln tk hb hh) ?_
  intro Dn σ H ⟨fm, Xs, os, s, r, g⟩
  refine ⟨fm, Xs, os, s, r, ?_⟩
  unfold heardM at g
  cases qb : b s with
  | ok fl s1 => rw [qb] at g; exact g
  | no => rw [qb] at g; exact g.elim
  | exc c t s1 =>
    rw [qb] at g
    dsimp only at g
    cases hl : cs.lookup c with
    | none => rw [hl] at g; exact g.elim
    | some w =>
      rw [hl] at g
      split at g
      · rename_i w' e1 e2
        cases e1
        intro X' os' τ v dd G r' pv hd
        have here : ∀ (rest : List (Nat × Str)), (∀ p ∈ rest, p ∈ cs) → rest.lookup c = some w → wEach X.K i Wout Dn (rest.map fun p => (.ref (cl p.1), tHeard (cl p.1) p.2 i za)) (.ref (cl c)) (some dd) τ G := by
          intro rest
          induction rest with
          | nil => intro _ z; cases z
          | cons p rest ih =>
            intro sub lk
            have inC : ∃ w0, (c, w0) ∈ cs := by
              have : ∀ (ds : List (Nat × Str)) (z : Str), ds.lookup c = some z → ∃ w0, (c, w0) ∈ ds := by
                intro ds
                induction ds with
                | nil => intro z e; cases e
                | cons y ds ih2 =>
                  intro z e
                  obtain ⟨y1, y2⟩ := y
                  by_cases hc : c = y1
                  · subst hc; exact ⟨y2, List.mem_cons_self⟩
                  · have hb2 : (c == y1) = false := by simpa using hc
                    simp only [List.lookup, hb2] at e
                    obtain ⟨w0, m⟩ := ih2 z e
                    exact ⟨w0, List.mem_cons_of_mem _ m⟩
              exact this cs w hl
            obtain ⟨w0, mc⟩ := inC
            have ans := ap (c, w0) mc p (sub p List.mem_cons_self)
            refine ⟨_, ans, fun yes a na => ?_, fun no => ?_⟩
            · have e : c = p.1 := of_decide_eq_true yes
              obtain ⟨p1, p2⟩ := p
              subst e
              have ew : p2 = w := by simpa [List.lookup] using lk
              subst ew
              have hlt : i < τ.length := by
                rw [← r'.len]
                exact (List.getElem?_eq_some_iff.mp e2).1
              have hget : (τ.set i (some (.ref a)))[i]? = some (some (.ref a)) := List.getElem?_set_self hlt
              refine ⟨_, hget, rfl, rfl, dd, v, rfl, hd, _, hget, rfl, rfl, ⟨dd, v, rfl, hd⟩, size1000 (show 3 ≤ 1000 by decide), fun p o hp hdo => ?_⟩
              refine g X' os' τ _ (r'.laid hp) _ ?_
              exact ⟨p, _, rfl, .inl ⟨⟨o, upd_same, hdo⟩, r'.nx hp⟩, ⟨_, _, rfl, rfl, v, _, rfl, Rp.stay (M := []) (Stay.laid hp) (fun a h => absurd h (by simp)) t v pv, _, [], rfl, rfl, rfl⟩⟩
            · have hne : ¬ c = p.1 := of_decide_eq_false no
              have hb2 : (c == p.1) = false := by simpa using hne
              obtain ⟨p1, p2⟩ := p
              simp only [List.lookup, hb2] at lk
              exact ih (fun q hq => sub q (List.mem_cons_of_mem _ hq)) lk
        exact here cs (fun _ h => h) hl
      · exact g.elim
end
end Zo
/-! ZS: dicts with ints and texts as keys. -/
namespace Zo
open PySem PySem.Spec PyProof.Rows L2
def keyOf : D → Option Key
  | .int i => some (.inl i)
  | .str x => some (.inr x)
  | _ => none
theorem keyOf_d {d : D} {k : Key} (h : keyOf d = some k) : d = keyD k := by
  cases d <;> simp [keyOf] at h <;> subst h <;> rfl
def pairOf : D → Option (Key × D)
  | .tuple [k, v] => (keyOf k).map fun x => (x, v)
  | .list [k, v] => (keyOf k).map fun x => (x, v)
  | _ => none
def pairsOf : List D → Option (List (Key × D))
  | [] => some []
  | d :: ds => match pairOf d, pairsOf ds with
    | some p, some ps => some (p :: ps)
    | _, _ => none
def putG (kvs : List (Key × D)) (k : Key) (v : D) : List (Key × D) :=
  if (kvs.any fun kv => decide (kv.1 = k)) = true then kvs.map (fun kv => if kv.1 = k then (kv.1, v) else kv) else kvs ++ [(k, v)]
def mergeG (kvs more : List (Key × D)) : List (Key × D) := more.foldl (fun acc p => putG acc p.1 p.2) kvs
def dictOf (kvs : List (Key × D)) : D := .dict (kvs.map fun p => (keyD p.1, p.2))
/-- dict(xs) -/
def dictD : D → Option D
  | .list ds => (pairsOf ds).bind fun ps => if unmD (dictOf (mergeG [] ps)) = true then some (dictOf (mergeG [] ps)) else none
  | .tuple ds => (pairsOf ds).bind fun ps => if unmD (dictOf (mergeG [] ps)) = true then some (dictOf (mergeG [] ps)) else none
  | _ => none
/-! ### pairs, there and here -/
def RG (K : Fr) (H : Hp) (Xs : List Addr) : List (Key × D) → List (Key × V) → Prop
  | [], l => l = []
  | (k, d) :: r, l => ∃ v t, l = (k, v) :: t ∧ Rp K H Xs d v ∧ RG K H Xs r t
section
variable {K : Fr} {H : Hp} {Xs : List Addr}
theorem RG.toK : ∀ {a : List (Key × D)} {b : List (Key × V)}, RG K H Xs a b → RpK K H Xs (a.map fun p => (keyD p.1, p.2)) b
  | [], _, h => h
  | (k, d) :: r, _, h => by
    obtain ⟨v, t, e, p, q⟩ := h
    exact ⟨k, v, t, e, rfl, p, RG.toK q⟩
theorem RG.any {k : Key} : ∀ {a : List (Key × D)} {b : List (Key × V)}, RG K H Xs a b → (a.any fun p => decide (p.1 = k)) = (b.any fun p => decide (p.1 = k))
  | [], _, h => by cases h; rfl
  | (k', d) :: r, _, h => by
    obtain ⟨v, t, e, p, q⟩ := h
    subst e
    simp only [List.any_cons, RG.any q]
theorem RG.app {k : Key} {d : D} {v : V} (hv : Rp K H Xs d v) : ∀ {a : List (Key × D)} {b : List (Key × V)}, RG K H Xs a b → RG K H Xs (a ++ [(k, d)]) (b ++ [(k, v)])
  | [], _, h => by cases h; exact ⟨v, [], rfl, hv, rfl⟩
  | (k', d') :: r, _, h => by
    obtain ⟨w, t, e, p, q⟩ := h
    subst e
    exact ⟨w, _, rfl, p, RG.app hv q⟩
theorem RG.set {k : Key} {d : D} {v : V} (hv : Rp K H Xs d v) : ∀ {a : List (Key × D)} {b : List (Key × V)}, RG K H Xs a b → RG K H Xs (a.map fun p => if p.1 = k then (p.1, d) else p) (b.map fun p => if p.1 = k then (p.1, v) else p)
  | [], _, h => by cases h; rfl
  | (k', d') :: r, _, h => by
    obtain ⟨w, t, e, p, q⟩ := h
    subst e
    by_cases c : k' = k
    · simp only [List.map_cons, c, if_true]
      exact ⟨v, _, rfl, hv, RG.set hv q⟩
    · simp only [List.map_cons, if_neg c]
      exact ⟨w, _, rfl, p, RG.set hv q⟩
theorem RG.put {k : Key} {d : D} {v : V} {a : List (Key × D)} {b : List (Key × V)} (h : RG K H Xs a b) (hv : Rp K H Xs d v) : RG K H Xs (putG a k d) (putK b k v) := by
  unfold putG putK
  rw [h.any (k := k)]
  split
  · exact h.set hv
  · exact h.app hv
theorem RG.merge : ∀ {more : List (Key × D)} {mv : List (Key × V)} {a : List (Key × D)} {b : List (Key × V)}, RG K H Xs more mv → RG K H Xs a b → RG K H Xs (mergeG a more) (mergeK b mv)
  | [], _, a, b, h, q => by cases h; exact q
  | (k, d) :: r, _, a, b, h, q => by
    obtain ⟨v, t, e, p, h2⟩ := h
    subst e
    show RG K H Xs (mergeG (putG a k d) r) (mergeK (putK b k v) t)
    exact RG.merge h2 (q.put p)
theorem RG.less {Ys : List Addr} {H' : Hp} (f : ∀ d v, Rp K H Xs d v → Rp K H' Ys d v) : ∀ {a : List (Key × D)} {b : List (Key × V)}, RG K H Xs a b → RG K H' Ys a b
  | [], _, h => h
  | (k, d) :: r, _, h => by
    obtain ⟨v, t, e, p, q⟩ := h
    exact ⟨v, t, e, f d v p, RG.less f q⟩
end
section
variable {X : Cx} {pins : List (Addr × Obj)} {σ : L2.St} {H : Hp} {s : Shared} {Xs : List Addr}
theorem pair_val (I : Inv X pins σ H s) {d : D} {v : V} {u : Value} {k : Key} {e : D} (h : Rp X.K H Xs d v) (r : RelV v u) (hp : pairOf d = some (k, e)) :
    ∃ (b : Addr) (uk uv : Value) (w : V), u = .ref b ∧ PairAt s.heap b uk uv ∧ (mixKind X.prog X.w).is k uk = true ∧ RelV w uv ∧ Rp X.K H Xs e w := by
  have two : ∀ {x y : D} {vs : List V} {its : List Value}, RpA X.K H Xs [x, y] vs → Vals vs its → (keyOf x).map (fun z => (z, y)) = some (k, e) → ∃ uk uv w, its = [uk, uv] ∧ (mixKind X.prog X.w).is k uk = true ∧ RelV w uv ∧ Rp X.K H Xs e w := by
    intro x y vs its ra rv hk
    obtain ⟨kk, e1, e2⟩ := Option.map_eq_some_iff.mp hk
    cases e2
    have ex := keyOf_d e1
    subst ex
    obtain ⟨v1, r1, q1, p1, t1⟩ := ra
    obtain ⟨v2, r2, q2, p2, t2⟩ := t1
    cases t2
    subst q2 q1
    cases rv with
    | @cons _ u1 _ _ h1 rv2 =>
      cases rv2 with
      | @cons _ u2 _ _ h2 rv3 =>
        cases rv3
        refine ⟨u1, u2, v2, rfl, ?_, h2, p2⟩
        have : v1 = kV k := by
          cases k with
          | inl i => exact p1
          | inr z => exact p1
        subst this
        exact kV_is (P := X.prog) (w := X.w) h1
  cases d with
  | tuple ds =>
    obtain ⟨a, vs, ev, f, ra⟩ := h
    subst ev
    cases r
    match ds, hp with
    | [x, y], hp =>
      obtain ⟨its, rv, ⟨o, ho, hc, n, hd⟩, _⟩ := I.tuple f.sq
      obtain ⟨uk, uv, w, e1, e2, e3, e4⟩ := two ra rv hp
      subst e1
      exact ⟨a, uk, uv, w, rfl, .inl ⟨o, ho, hc, n, hd⟩, e2, e3, e4⟩
  | list ds =>
    obtain ⟨a, vs, ev, f, ra⟩ := h
    subst ev
    cases r
    match ds, hp with
    | [x, y], hp =>
      obtain ⟨its, rv, ⟨o, n, ho, hc, _, hd⟩, _⟩ := I.list (SqL.of f.1)
      obtain ⟨uk, uv, w, e1, e2, e3, e4⟩ := two ra rv hp
      subst e1
      exact ⟨a, uk, uv, w, rfl, .inr ⟨o, ho, hc, n, hd⟩, e2, e3, e4⟩
  | _ => simp [pairOf] at hp
/-- the items as pairs of values -/
theorem pairs_vals (I : Inv X pins σ H s) : ∀ {ds : List D} {vs : List V} {us : List Value} {kd : List (Key × D)}, RpA X.K H Xs ds vs → Vals vs us → pairsOf ds = some kd →
    ∃ (bs : List Addr) (ps : List (Value × Value)) (prs : List (Key × Value)) (kv : List (Key × V)), us = bs.map Value.ref ∧ bs.length = ps.length ∧ prs.length = ps.length ∧ RG X.K H Xs kd kv ∧ KV kv prs ∧
      ∀ (j : Nat) (k v : Value), ps[j]? = some (k, v) → ∃ (b : Addr) (kk : Key), bs[j]? = some b ∧ PairAt s.heap b k v ∧ prs[j]? = some (kk, v) ∧ (mixKind X.prog X.w).is kk k = true
  | [], _, _, kd, h, r, e => by
    cases h
    cases r
    cases e
    exact ⟨[], [], [], [], rfl, rfl, rfl, rfl, .nil, fun j k v z => by simp at z⟩
  | d :: ds, _, _, kd, h, r, e => by
    obtain ⟨v, vs, ev, p, q⟩ := h
    subst ev
    cases r with
    | @cons _ u _ us r1 r2 =>
      unfold pairsOf at e
      cases e1 : pairOf d with
      | none => rw [e1] at e; cases e
      | some pr =>
        cases e2 : pairsOf ds with
        | none => rw [e1, e2] at e; cases e
        | some prd =>
          rw [e1, e2] at e
          cases e
          obtain ⟨k, x⟩ := pr
          obtain ⟨b, uk, uv, w, eu, pa, is, rw', pw⟩ := pair_val I p r1 e1
          obtain ⟨bs, ps, prs, kv, h1, h2, h3, h4, h5, h6⟩ := pairs_vals I q r2 e2
          refine ⟨b :: bs, (uk, uv) :: ps, (k, uv) :: prs, (k, w) :: kv, by rw [eu, h1]; rfl, by simp [h2], by simp [h3], ⟨w, kv, rfl, pw, h4⟩, .cons ⟨rfl, rw'⟩ h5, fun j k' v' z => ?_⟩
          cases j with
          | zero =>
            cases (Option.some.inj z)
            exact ⟨b, k, rfl, pa, rfl, is⟩
          | succ j =>
            obtain ⟨b', kk, z1, z2, z3, z4⟩ := h6 j k' v' (by simpa using z)
            exact ⟨b', kk, by simpa using z1, z2, by simpa using z3, z4⟩
/-- dict(xs), xs a list or a tuple of pairs -/
theorem call_dictP2 (hcalm : X.calm = true) : CallR X (.type "dict") (fun xs H Q => ∃ (v : V) (d : D) (ps : List (Key × D)) (Xs : List Addr), xs = [v] ∧ Rp X.K H Xs d v ∧ dictD d = some (dictOf (mergeG [] ps)) ∧ (∀ a ∈ Xs, H a ≠ none) ∧
    (∃ ds, (d = .list ds ∨ d = .tuple ds) ∧ pairsOf ds = some ps) ∧ ∀ p kv, H p = none → RG X.K H Xs (mergeG [] ps) kv → Q (.ref p) (upd H p (.dK kv))) := by
  intro pins s σ H xs us Q I r h
  obtain ⟨v, d, ps, Xs, rfl, p, _, xt, ⟨ds, hd, hps⟩, q⟩ := h
  obtain ⟨u, eu, rx⟩ := vals1 r
  subst eu
  have core : ∀ (a : Addr) (its : List Value) (vs : List V) (T : String), (T = "list" ∨ T = "tuple") → PlainSeq T s.heap a its.toArray → Vals vs its → RpA X.K H Xs ds vs → vs.length ≤ sizeLine → wpAny (model X.prog X.w) X.A (call (.type "dict") [.ref a]) (EP X pins σ Q) X.xe s := by
    intro a its vs T hT hseq rv ra hz
    obtain ⟨bs, pv, prs, kv, h1, h2, h3, h4, h5, h6⟩ := pairs_vals I ra rv hps
    have hlen : its.length = pv.length := by rw [h1, List.length_map, h2]
    have hz' : pv.length ≤ sizeLine := by rw [← hlen, ← rv.length]; exact hz
    have items : PairItems s.heap its.toArray (fun j => bs.getD j 0) pv := by
      refine ⟨by rw [List.size_toArray, hlen], fun j k v e => ?_⟩
      obtain ⟨b, kk, z1, z2, _, _⟩ := h6 j k v e
      have eb : bs.getD j 0 = b := by rw [List.getD_eq_getElem?_getD, z1]; rfl
      have e1 : its.toArray[j]? = some (Value.ref b) := by
        rw [h1]
        simp [z1]
      refine ⟨?_, ?_⟩
      · show its.toArray[j]? = some (Value.ref (bs.getD j 0))
        rw [eb]; exact e1
      · show PairAt s.heap (bs.getD j 0) k v
        rw [eb]; exact z2
    have have_ : PairsHave (mixKind X.prog X.w) pv.length (PairRel pv) prs := ⟨h3, fun i key v e => by
      obtain ⟨b, kk, _, _, z3, z4⟩ := h6 i key v e
      exact ⟨kk, z3, z4⟩⟩
    have fin : ∀ (h' : Heap) (tk : Nat), h'.DictOf (mixKind X.prog X.w) s.heap.objs.size (merged [] prs) → (∀ b o, b ∉ ([] : List Addr) → s.heap.get? b = some o → h'.get? b = some o) → EP X pins σ Q (.ref s.heap.objs.size) { s with heap := h', toks := tk } := by
      intro h' tk hd' keep
      have hm : (s.heap.objs.size == sysModules) = false := beq_eq_false_iff_ne.mpr (Nat.ne_of_gt I.big)
      have few : (mergeK [] kv).length ≤ sizeLine := by
        refine Nat.le_trans (length_mergeK kv []) ?_
        rw [List.length_nil, Nat.zero_add, h5.length, h3]
        exact hz'
      exact ⟨.ref s.heap.objs.size, upd H s.heap.objs.size (.dK (mergeK [] kv)), I.laid (t' := tk) (fun b o e => keep b o (by simp) e) (Nat.le_refl _) (show ObjOk X.prog X.w _ _ _ (.dK (mergeK [] kv)) from ⟨few, hm, merged [] prs, KV.merge h5 .nil, hd'⟩), rfl, q _ _ (I.hok.fresh (Nat.le_refl _)) (RG.merge h4 rfl)⟩
    rcases hT with rfl | rfl
    · exact PySem.call_dict_pairs (PairArg.list a its.toArray (fun j => bs.getD j 0) pv) (I.ok.hd hcalm) ⟨hseq, items⟩ have_ hz' fin
    · exact PySem.call_dict_pairs (PairArg.tuple a its.toArray (fun j => bs.getD j 0) pv) (I.ok.hd hcalm) ⟨hseq, items⟩ have_ hz' fin
  rcases hd with rfl | rfl
  · obtain ⟨a, vs, ev, f, ra⟩ := p
    subst ev
    cases rx
    obtain ⟨its, rv, ⟨o, n, ho, hc, hdn, hdat⟩, hz⟩ := I.list (SqL.of f.1)
    exact core a its vs "list" (.inl rfl) ⟨o, n, ho, hc, hdn, hdat⟩ rv ra hz
  · obtain ⟨a, vs, ev, f, ra⟩ := p
    subst ev
    cases rx
    obtain ⟨its, rv, ⟨o, ho, hc, n, hdat⟩, hz⟩ := I.tuple f.sq
    refine core a its vs "tuple" (.inr rfl) ⟨o, n, ho, hc, ?_, hdat⟩ rv ra hz
    rcases f with ⟨⟨o', e, dn⟩, _⟩ | ⟨o', _, _, e, _, dn, _⟩
    · have z := (I.hok a _ e).1
      rw [ho] at z
      cases z
      exact dn
    · have z := I.kIn a o' e
      rw [ho] at z
      cases z
      exact dn
end
/-! ### the rules -/
section
variable {cl : Nat → Addr} {X : Cx} {W : WX} {m : Bool} {e e2 : Expr} {ev ev2 : Ev} {p pos : Pos}
theorem dictD_some {d d' : D} (h : dictD d = some d') : ∃ ds ps, (d = .list ds ∨ d = .tuple ds) ∧ pairsOf ds = some ps ∧ d' = dictOf (mergeG [] ps) ∧ unmD (dictOf (mergeG [] ps)) = true := by
  cases d <;> simp only [dictD] at h <;> try cases h
  · obtain ⟨ps, h1, h2⟩ := Option.bind_eq_some_iff.mp h
    split at h2
    · rename_i hu; cases h2; exact ⟨_, ps, .inl rfl, h1, rfl, hu⟩
    · cases h2
  · obtain ⟨ps, h1, h2⟩ := Option.bind_eq_some_iff.mp h
    split at h2
    · rename_i hu; cases h2; exact ⟨_, ps, .inr rfl, h1, rfl, hu⟩
    · cases h2
theorem RpK.laid {K : Fr} {H : Hp} {Xs : List Addr} {p : Addr} {o : HO} {es : List (D × D)} {kvs : List (Key × V)} (hp : H p = none) (h : RpK K H Xs es kvs) : RpK K (upd H p o) Xs es kvs := RpK.stay (M := []) (Stay.laid hp) (fun a h => absurd h (by simp)) es kvs h
theorem se_dict (hc : X.calm = true) (hg : Gl X "dict") (hm : X.mg "dict" = none) (ha : SE cl X W m e ev) (he : starEach [e] X.env = (false, eval e X.env) :: starEach [] X.env := by rfl) : SE cl X W m (.Call (.Name "dict" p) [e] [] pos) (ev1 dictD ev) :=
  pe_imp (pe_callTy (call_dictP2 hc) hg hm PyProof.Rows.boot_dict (pa_cons ha pa_nil he) (by decide) (by decide) he) fun σ H Q ⟨fm, Xs, os, s, R, g⟩ => by
    unfold ev1 at g
    refine ⟨fm, Xs, os, s, R, ?_⟩
    cases q : ev s with
    | ok x s1 =>
      rw [q] at g
      simp only [Out.bind_ok] at g
      cases q3 : dictD x with
      | none => rw [q3] at g; exact g.elim
      | some d' =>
        rw [q3] at g
        obtain ⟨ds, ps, h1, h2, h3, hu⟩ := dictD_some q3
        subst h3
        exact fun v1 H1 r1 st1 p1 => ⟨v1, x, ps, Xs, rfl, p1, q3, r1.xt, ⟨ds, h1, h2⟩, fun p kv hp rg => g (.ref p) _ (r1.laid hp) (st1.trans (Stay.laid hp)) ⟨p, kv, rfl, .inl ⟨hu, upd_same, r1.nx hp⟩, RpK.laid hp rg.toK⟩⟩
    | exc c t s1 => rw [q] at g; exact g
    | no => rw [q] at g; exact g.elim
theorem RpK.len {K : Fr} {H : Hp} {Xs : List Addr} : ∀ {es : List (D × D)} {kvs : List (Key × V)}, RpK K H Xs es kvs → kvs.length = es.length
  | [], _, h => by cases h; rfl
  | (k, d) :: es, _, h => by
    obtain ⟨kk, v, r, e, _, _, t⟩ := h
    subst e
    simp [RpK.len t]
/-- len of a dict -/
def lenK : D → Option D
  | .dict es => if unm es = true then some (.int es.length) else none
  | _ => none
theorem call_lenK : CallR X (.builtin "len") (fun xs H Q => ∃ a kvs, xs = [.ref a] ∧ L2.Rd H a (.dK kvs) ∧ Q (.int kvs.length) H) := by
  intro pins s σ H xs us Q I r h
  obtain ⟨a, kvs, rfl, rd, q⟩ := h
  obtain ⟨u, rfl, rx⟩ := vals1 r
  cases rx
  exact d_len I rd fun t s' I' => ⟨.int kvs.length, H, I', ⟨_, rfl⟩, q⟩
theorem sem_lenK : CallSem X (fun xs H Q => ∃ a kvs, xs = [.ref a] ∧ L2.Rd H a (.dK kvs) ∧ Q (.int kvs.length) H) lenK := by
  intro fm Xs os s σ H d d' v Q R p e q
  cases d with
  | dict es =>
    simp only [lenK] at e
    split at e
    case isFalse => cases e
    rename_i hu
    cases e
    obtain ⟨a, kvs, ev, ha, _, ra⟩ := p.dict hu
    subst ev
    exact ⟨a, kvs, rfl, .inl ha, q _ H R (Stay.refl _ _) (by rw [ra.len]; rfl)⟩
  | _ => cases e
def lookK (es : List (D × D)) (k : Key) : Option D := (es.find? fun p => decide (keyOf p.1 = some k)).map (·.2)
theorem keyOf_keyD (k : Key) : keyOf (keyD k) = some k := by cases k <;> rfl
theorem lookK_rp {K : Fr} {H : Hp} {Xs : List Addr} (k : Key) : ∀ {es : List (D × D)} {kvs : List (Key × V)}, RpK K H Xs es kvs → (∃ d v, lookK es k = some d ∧ valV kvs k = some v ∧ Rp K H Xs d v) ∨ (lookK es k = none ∧ valV kvs k = none)
  | [], _, h => by cases h; exact .inr ⟨rfl, rfl⟩
  | (k', d) :: es, _, h => by
    obtain ⟨kk, v, r, e, ek, p, t⟩ := h
    subst e ek
    have ih := lookK_rp k t
    by_cases c : kk = k
    · subst c
      exact .inl ⟨d, v, by simp [lookK, keyOf_keyD], valV_pos rfl, p⟩
    · have hc : ¬ (keyOf (keyD kk) = some k) := by rw [keyOf_keyD]; simpa using c
      have e1 : lookK ((keyD kk, d) :: es) k = lookK es k := by simp [lookK, List.find?_cons, hc]
      rw [e1, valV_neg (p := (kk, v)) c]
      exact ih
theorem kV_of {K : Fr} {H : Hp} {Xs : List Addr} {os : List (Nat × Addr)} {d : D} {v : V} {k : Key} (h : RpB K H Xs os d v) (hk : keyOf d = some k) : v = kV k := by
  have e := keyOf_d hk
  subst e
  cases k with
  | inl i => exact h.int
  | inr x => exact h.str
/-- k in d -/
def inK (neg : Bool) : D → D → Option D
  | k, .dict es => (if unm es = true then keyOf k else none).map fun x => .bool (if neg then !(lookK es x).isSome else (lookK es x).isSome)
  | _, _ => none
theorem op_inK (hu : X.A.units + 1 < cLine) : OpR X (compareOp .In) (fun y x H Q => ∃ a o, x = .ref a ∧ DGet H a y o ∧ Q (.bl o.isSome) H) := by
  intro pins s σ H y x v u Q I ry rx h
  obtain ⟨a, o, rfl, g, q⟩ := h
  cases rx
  exact d_in hu I g ry fun s' I' => ⟨.bl o.isSome, H, I', rfl, q⟩
theorem op_notInK (hu : X.A.units + 1 < cLine) : OpR X (compareOp .NotIn) (fun y x H Q => ∃ a o, x = .ref a ∧ DGet H a y o ∧ Q (.bl (!o.isSome)) H) := by
  intro pins s σ H y x v u Q I ry rx h
  obtain ⟨a, o, rfl, g, q⟩ := h
  cases rx
  exact d_notIn hu I g ry fun s' I' => ⟨.bl (!o.isSome), H, I', rfl, q⟩
theorem sem_inK : OpSem X (fun y x H Q => ∃ a o, x = .ref a ∧ DGet H a y o ∧ Q (.bl o.isSome) H) (inK false) := by
  intro fm Xs os s σ H d1 d2 d v1 v2 Q R p1 p2 e q
  cases d2 with
  | dict es =>
    obtain ⟨k, h1, h2⟩ := Option.map_eq_some_iff.mp e
    subst h2
    split at h1
    case isFalse => cases h1
    rename_i hu
    obtain ⟨a, kvs, ev, ha, _, ra⟩ := p2.dict hu
    subst ev
    have ek := kV_of p1 h1
    subst ek
    refine ⟨a, valV kvs k, rfl, DGet.k ha, q _ H R (Stay.refl _ _) ?_⟩
    rcases lookK_rp k ra with ⟨x, w, l1, l2, _⟩ | ⟨l1, l2⟩ <;> (rw [l1, l2]; rfl)
  | _ => simp [inK] at e
theorem sem_notInK : OpSem X (fun y x H Q => ∃ a o, x = .ref a ∧ DGet H a y o ∧ Q (.bl (!o.isSome)) H) (inK true) := by
  intro fm Xs os s σ H d1 d2 d v1 v2 Q R p1 p2 e q
  cases d2 with
  | dict es =>
    obtain ⟨k, h1, h2⟩ := Option.map_eq_some_iff.mp e
    subst h2
    split at h1
    case isFalse => cases h1
    rename_i hu
    obtain ⟨a, kvs, ev, ha, _, ra⟩ := p2.dict hu
    subst ev
    have ek := kV_of p1 h1
    subst ek
    refine ⟨a, valV kvs k, rfl, DGet.k ha, q _ H R (Stay.refl _ _) ?_⟩
    rcases lookK_rp k ra with ⟨x, w, l1, l2, _⟩ | ⟨l1, l2⟩ <;> (rw [l1, l2]; rfl)
  | _ => simp [inK] at e
/-- d[k] -/
def getK : D → D → Option D
  | .dict es, k => (if unm es = true then keyOf k else none).bind fun x => lookK es x
  | _, _ => none
theorem sem_getK : OpSem X (fun x y H Q => ∃ a v, x = .ref a ∧ DGet H a y (some v) ∧ Q v H) getK := by
  intro fm Xs os s σ H d1 d2 d v1 v2 Q R p1 p2 e q
  cases d1 with
  | dict es =>
    obtain ⟨k, h1, h2⟩ := Option.bind_eq_some_iff.mp e
    split at h1
    case isFalse => cases h1
    rename_i hu
    obtain ⟨a, kvs, ev, ha, _, ra⟩ := p1.dict hu
    subst ev
    have ek := kV_of p2 h1
    subst ek
    rcases lookK_rp k ra with ⟨x, w, l1, l2, pw⟩ | ⟨l1, l2⟩
    · rw [l1] at h2
      cases h2
      exact ⟨a, w, rfl, by rw [← l2]; exact DGet.k ha, q w H R (Stay.refl _ _) pw⟩
    · rw [l1] at h2; cases h2
  | _ => simp [getK] at e
theorem se_getK (hu : X.A.units + 1 < cLine) (ha : SB cl X W m e ev) (hb : SB cl X W true e2 ev2) (hs : NoSl e2 := by exact fun _ _ => rfl) : SE cl X W m (.Subscript e e2 pos) (evBin getK ev ev2) :=
  pe_imp (pe_dget hu ha hb hs) fun _ _ _ h => tOp_sem rfl sem_getK h
/-- d.get(k, x) -/
def evGet (a b c : Ev) : Ev := fun s => (a s).bind fun d s1 => match d with
  | .dict es => if unm es = true then (b s1).bind fun k s2 => (c s2).bind fun x s3 => match keyOf k with
    | some kk => .ok ((lookK es kk).getD x) s3
    | none => .no else .no
  | _ => .no
theorem se_get2 {e3 : Expr} {ev3 : Ev} {apos : Pos} (hu : X.A.units + 1 < cLine) (ha : SE cl X W m e ev) (hb : SE cl X W m e2 ev2) (hc : SE cl X W m e3 ev3) (hM : M2 X e "get" apos e2 e3 pos) :
    SE cl X W m (.Call (.Attribute e "get" apos) [e2, e3] [] pos) (evGet ev ev2 ev3) :=
  pe_imp (pe_dget2 hu ha hb hc hM) fun σ H Q ⟨fm, Xs, os, s, R, g⟩ => by
    unfold evGet at g
    refine ⟨fm, Xs, os, s, R, ?_⟩
    cases q : ev s with
    | ok d s1 =>
      rw [q] at g
      simp only [Out.bind_ok] at g
      refine fun v1 H1 r1 st1 p1 => ?_
      cases d with
      | dict es =>
        dsimp only at g
        split at g
        case isFalse => exact g.elim
        rename_i hu
        obtain ⟨a, kvs, ev, ha, ax, ra⟩ := Rp.dict p1 hu
        subst ev
        refine ⟨a, rfl, .inl ⟨kvs, .inl ha⟩, fm, Xs, os, s1, r1, ?_⟩
        cases q2 : ev2 s1 with
        | ok k s2 =>
          rw [q2] at g
          simp only [Out.bind_ok] at g
          refine fun v2 H2 r2 st2 p2 => ⟨fm, Xs, os, s2, r2, ?_⟩
          cases q3 : ev3 s2 with
          | ok x s3 =>
            rw [q3] at g
            simp only [Out.bind_ok] at g
            refine fun v3 H3 r3 st3 p3 => ?_
            cases q4 : keyOf k with
            | none => rw [q4] at g; exact g.elim
            | some kk =>
              rw [q4] at g
              dsimp only at g
              have pd := Rp.stay (st2.trans st3) r1.sx _ _ p1
              obtain ⟨a', kvs', ev', ha', _, ra'⟩ := Rp.dict pd hu
              cases ev'
              have pk := Rp.stay st3 r2.sx _ _ p2
              have ek := kV_of (os := []) (.inl pk) q4
              subst ek
              refine ⟨valV kvs' kk, DGet.k ha', ?_⟩
              rcases lookK_rp kk ra' with ⟨y, w, l1, l2, pw⟩ | ⟨l1, l2⟩
              · rw [l1] at g
                rw [l2]
                exact g w H3 r3 (st1.trans (st2.trans st3)) pw
              · rw [l1] at g
                rw [l2]
                exact g v3 H3 r3 (st1.trans (st2.trans st3)) p3
          | exc c t s3 => rw [q3] at g; exact g
          | no => rw [q3] at g; exact g.elim
        | exc c t s2 => rw [q2] at g; exact g
        | no => rw [q2] at g; exact g.elim
      | _ => exact g.elim
    | exc c t s1 => rw [q] at g; exact g
    | no => rw [q] at g; exact g.elim
end
end Zo
/-! ZT: a, b, c = .. of which the third is the frame's own list. -/
namespace Zo
open PySem PySem.Spec PyProof.Rows L2
theorem few_units {k : Nat} {A : Around} (r : Room k A) : A.units + 1 < cLine := by have := r.un; omega
theorem apart_of {K : Fr} {cl : Nat → Addr} {ks : List Nat} {cs : List (Nat × Str)} (h : ∀ a ∈ ks, ∀ b ∈ ks, PySem.W.exmOne K (.ref (cl a)) (.ref (cl b)) = some (decide (a = b))) (sub : ∀ k ∈ cs.map (·.1), k ∈ ks) : Apart K cl cs := fun p hp q hq => h _ (sub _ (List.mem_map.mpr ⟨p, hp, rfl⟩)) _ (sub _ (List.mem_map.mpr ⟨q, hq, rfl⟩))
section
variable {cl : Nat → Addr} {X : Cx} {W : WX} {m : Bool} {pos : Pos}
/-- a, b, c = x, y, [..] -/
def par3S (i j l : Nat) (a b : Ev) (c : Evs) : Ex := fun s => (a s).bind fun d s1 => (b s1).bind fun d2 s2 => (c s2).bind fun d3 s3 => .ok .nx { s3 with env := ((s3.env.set i (.fz d)).set j (.fz d2)).set l (.own d3) }
theorem par3_rel {fm : Fm} {Xs : List Addr} {os : List (Nat × Addr)} {s : Ms} {σ : L2.St} {H : Hp} {i j l : Nat} {a b : Ev} {c : Evs} {Dn : Ends} (r : Rel X.K fm Xs os s σ H) (g : GoodS X.K cl W fm Dn (par3S i j l a b c s)) :
    tCons (tE X.K cl W m a) (tCons (tE X.K cl W m b) (tCons (tF X.K cl W m c) tNil)) σ H fun vs H1 => ∃ u v w, vs = [u, v, w] ∧ Dn.nx (((σ.set i (some u)).set j (some v)).set l (some w)) H1 := by
  unfold par3S at g
  refine ⟨fm, Xs, os, s, r, ?_⟩
  cases q : a s with
  | ok d s1 =>
    rw [q] at g
    simp only [Out.bind_ok] at g
    refine fun v H1 r1 st1 p1 => ⟨fm, Xs, os, s1, r1, ?_⟩
    cases q2 : b s1 with
    | ok d2 s2 =>
      rw [q2] at g
      simp only [Out.bind_ok] at g
      refine fun v2 H2 r2 st2 p2 => ⟨{ fm with tmp := [(d, v), (d2, v2)] ++ fm.tmp }, Xs, os, s2, r2.holds _ (fun x hx => ?_), ?_⟩
      · simp only [List.mem_cons, List.not_mem_nil, or_false] at hx
        rcases hx with rfl | rfl
        · exact Rp.stay st2 r1.sx d v p1
        · exact p2
      cases q3 : c s2 with
      | ok d3 s3 =>
        rw [q3] at g
        simp only [Out.bind_ok] at g
        refine fun p vs H3 r3' st3 fp' hp ra => ⟨v, v2, .ref p, rfl, g (p :: Xs) ((l, p) :: rid (rid (rid os i) j) l) _ H3 ?_⟩
        have k1 : Rp X.K H3 (p :: Xs) d v := r3'.tm (d, v) (by simp)
        have k2 : Rp X.K H3 (p :: Xs) d2 v2 := r3'.tm (d2, v2) (by simp)
        have r3 := r3'.drops
        refine ((r3.setfz (i := i) k1).setfz (i := j) k2).setown (i := l) List.mem_cons_self hp (fun z => ?_) fp'.nd fp'.n0 ra
        obtain ⟨x, hx, e⟩ := List.mem_map.mp z
        exact fp'.no (List.mem_map.mpr ⟨x, (rid_mem.mp (rid_mem.mp hx).1).1, e⟩)
      | exc c' t s3 =>
        rw [q3] at g
        exact fun v dd H' r' p' hd => g Xs os σ v dd H' r'.drops p' hd
      | no => rw [q3] at g; exact g.elim
    | exc c t s2 => rw [q2] at g; exact g Xs os σ
    | no => rw [q2] at g; exact g.elim
  | exc c t s1 => rw [q] at g; exact g Xs os σ
  | no => rw [q] at g; exact g.elim
theorem ss_par3 {i j l : Nat} {x y z : Str} {ea eb ec : Expr} {a b : Ev} {c : Evs} {px py pz pt : Pos} {kt k2 pt2} (ha : SE cl X W m ea a) (hb : SE cl X W m eb b) (hc : SF cl X W m ec c)
    (hP : ∀ ta, PA X [ea, eb, ec] ta → PS X (.Assign [.Tuple [.Name x px, .Name y py, .Name z pz] kt pt] (.Tuple [ea, eb, ec] k2 pt2) pos) (tPar3 i j l ta))
    (he : starEach [ea, eb, ec] X.env = (false, eval ea X.env) :: starEach [eb, ec] X.env := by rfl) (he2 : starEach [eb, ec] X.env = (false, eval eb X.env) :: starEach [ec] X.env := by rfl) (he3 : starEach [ec] X.env = (false, eval ec X.env) :: starEach [] X.env := by rfl) :
    SS cl X W (.Assign [.Tuple [.Name x px, .Name y py, .Name z pz] kt pt] (.Tuple [ea, eb, ec] k2 pt2) pos) (par3S i j l a b c) :=
  ps_imp (hP _ (pa_cons ha (pa_cons hb (pa_cons hc pa_nil he3) he2) he)) fun Dn σ H ⟨fm, Xs, os, s, r, g⟩ => par3_rel r g
end
end Zo
/-! ZP: constants of the module; the law's first row. -/
namespace Zo
open PySem PySem.Spec PyProof.Rows L2
/-- the module's constant x is d -/
def GCon (K : Fr) (mg : Str → Option Value) (x : Str) (d : D) : Prop := ∃ u v, mg x = some u ∧ L2.RelV v u ∧ ∀ H Xs, Rp K H Xs d v
theorem gcon_str {K : Fr} {mg : Str → Option Value} {x y : Str} {t : Tok} (h : mg x = some (.str y t)) : GCon K mg x (.str y) := ⟨_, .str y, h, ⟨t, rfl⟩, fun _ _ => rfl⟩
theorem gcon_int {K : Fr} {mg : Str → Option Value} {x : Str} {i : Int} {t : Tok} (h : mg x = some (.int i t)) : GCon K mg x (.int i) := ⟨_, .int i, h, ⟨t, rfl⟩, fun _ _ => rfl⟩
/-- the values of texts -/
inductive StrsAre : List Value → List Str → Prop
  | nil : StrsAre [] []
  | cons (x : Str) (t : Tok) {us : List Value} {xs : List Str} : StrsAre us xs → StrsAre (.str x t :: us) (x :: xs)
theorem StrsAre.vals : ∀ {us : List Value} {xs : List Str}, StrsAre us xs → L2.Vals (xs.map V.str) us
  | _, _, .nil => .nil
  | _, _, .cons x t r => .cons ⟨t, rfl⟩ r.vals
theorem gcon_strs {K : Fr} {mg : Str → Option Value} {x : Str} {a : Addr} {us : List Value} {xs : List Str} {n : Nat} {sl : Array (Option Value)} (h : mg x = some (.ref a)) (hk : K.lookup a = some ⟨.type "tuple", none, .seq us.toArray n, sl⟩) (r : StrsAre us xs) (hz : us.length ≤ 1000 := by decide) : GCon K mg x (.tuple (xs.map .str)) := by
  refine ⟨_, .ref a, h, rfl, fun H Xs => ⟨a, xs.map V.str, rfl, .inr ⟨_, us.toArray, n, hk, rfl, rfl, rfl, ?_, ?_⟩, strs_rp xs⟩⟩
  · rw [List.size_toArray]; exact size1000 hz
  · simpa using r.vals
section
variable {cl : Nat → Addr} {X : Cx} {W : WX} {m : Bool} {x : Str} {pos : Pos} {d : D}
theorem se_glob (h : GCon X.K X.mg x d) (hg : Gl X x) (hd : (x == ("__debug__" : Str)) = false := by decide) : SE cl X W m (.Name x pos) (evLit d) := by
  obtain ⟨u, v, hm, r, p⟩ := h
  exact se_const (pe_glob hg hm r hd) p
end
/-- the state behind the law's first row -/
def lawMs (n : Nat) (k : Dk) : Ms := ⟨.un :: .deck :: List.replicate n .un, k, false⟩
theorem law_body {P : Program} {w : World} {K : Fr} {mg : Str → Option Value} {base : Heap} {cl : Nat → Addr} {N : List Str} {qual : Str} {sc : Scope} {fa a : Addr} {cdv : Value} {A : Around} {s : Shared} {H : Hp} {E : XK} {s0 : Stmt} {rest : List Stmt} {run : Ex} {salt : Int} {ns : List Int} {n : Nat}
    (sq : SqL K H a (ns.map V.int)) (hN : N.length = n + 2)
    (h0 : PS (cxOf (L2.CX P w) P w K mg base N qual sc fa cdv A [] s H E) s0 (tAsg (tCallS (spBegun K) (WE W0) (tCons (tVar 0) (tCons (tC (.int salt)) tNil))) (gName 1)))
    (hs : SSs cl (cxOf (L2.CX P w) P w K mg base N qual sc fa cdv A [] s H E) W0 rest run) (hrun : ∃ s', run (lawMs n (begun ns salt)) = .ok (.rt (.bool true)) s') :
    ∃ t, PSs (cxOf (L2.CX P w) P w K mg base N qual sc fa cdv A [] s H E) (s0 :: rest) t ∧ t { nx := fun _ _ => False, rt := fun v _ => v = .bl true } (start N [.ref a]) H := by
  refine ⟨_, pss_cons h0 hs, ?_⟩
  have h1 : (start N [.ref a])[0]? = some (some (.ref a)) := rfl
  refine ⟨_, h1, a, salt, ns, rfl, sq, fun kd kc H' st n1 n2 dk => ?_⟩
  obtain ⟨s', q⟩ := hrun
  refine ⟨⟨H', [kd, kc], some (kd, kc), []⟩, [kd, kc], [], lawMs n (begun ns salt), ?_, ?_⟩
  · have hl : (start N [V.ref a]).length = n + 2 := by
      rw [start_len (by rw [hN]; simp), hN]
    obtain ⟨d1, d2, d3, d4⟩ := dk
    exact {
      len := by
        show (Sv.un :: Sv.deck :: List.replicate n Sv.un).length = _
        rw [List.length_set, hl]
        simp
      slot := fun i sv e => by
        match i with
        | 0 => cases e; trivial
        | 1 =>
          cases e
          exact ⟨kd, kc, rfl, getD_set_self (by rw [hl]; omega)⟩
        | i + 2 =>
          have e' : (List.replicate n Sv.un)[i]? = some sv := e
          rw [List.getElem?_replicate] at e'
          split at e'
          · cases e'; trivial
          · cases e'
      nd := by simp
      sub := fun p hp => absurd hp (by simp)
      lv := fun p hp => absurd hp (by simp)
      x0 := fun a h => h
      x1 := fun b hb => by
        simp only [List.mem_cons, List.not_mem_nil, or_false] at hb
        show H' b ≠ none
        rcases hb with rfl | rfl
        · rw [d2]; simp
        · rw [d3]; simp
      xt := fun b hb => by
        simp only [List.mem_cons, List.not_mem_nil, or_false] at hb
        rcases hb with rfl | rfl
        · rw [d2]; simp
        · rw [d3]; simp
      dks := fun b hb => hb
      dk := fun kd kc e => by cases e; exact ⟨d1, d2, d3, d4⟩
      ent := Stay.refl _ _
      one := fun e => by cases e
      tm := fun p hp => absurd hp (by simp) }
  · show GoodS K cl W0 _ _ (run (lawMs n (begun ns salt)))
    rw [q]
    exact fun X os σ' H' r v p => p
theorem kit_of {K : Fr} {C Z : Addr} (h : C ≠ Z) (k : PySem.W.kitCls K (.ref C) (.ref Z) = some true) : PySem.W.kitOne K (.ref C) (.ref Z) = some true := by
  unfold PySem.W.kitOne
  rw [if_neg (by simpa using h)]
  exact k
theorem ss_no {cl : Nat → Addr} {X : Cx} {W : WX} {st : List Stmt} : SSs cl X W st (fun _ => .no) := ⟨fun pins s σ H D I ⟨_, _, _, _, _, g⟩ => g.elim⟩
theorem pick_len {α : Type} {l : List α} : ∀ {ix : List Nat}, (∀ i ∈ ix, i < l.length) → (pick ix l).length = ix.length
  | [], _ => rfl
  | i :: ix, h => by
    have e : l[i]? = some (l[i]'(h i List.mem_cons_self)) := List.getElem?_eq_getElem _
    have ih := pick_len (l := l) (ix := ix) fun j hj => h j (List.mem_cons_of_mem _ hj)
    unfold pick at ih ⊢
    rw [List.filterMap_cons_some e, List.length_cons, ih, List.length_cons]
theorem kw_len {evs : Evs} {ix : List Nat} {j : Nat} (h : ∀ s ds s1, evs s = .ok ds s1 → ds.length = j) (hi : ∀ i ∈ ix, i < j) : ∀ s ds s1, evs s = .ok ds s1 → (pick ix ds).length = ix.length ∧ ds.length = j := fun s ds s1 e => by
  have hl := h s ds s1 e
  exact ⟨pick_len (by rw [hl]; exact hi), hl⟩
theorem bt_len : bootBuiltins "len" = some (.builtin "len") := by decide +kernel
theorem bt_all : bootBuiltins "all" = some (.builtin "all") := by decide +kernel
theorem bt_any : bootBuiltins "any" = some (.builtin "any") := by decide +kernel
theorem bt_sorted : bootBuiltins "sorted" = some (.builtin "sorted") := by decide +kernel
theorem bt_isinstance : bootBuiltins "isinstance" = some (.builtin "isinstance") := by decide +kernel
theorem bt_repr : bootBuiltins "repr" = some (.builtin "repr") := by decide +kernel
theorem bt_max : bootBuiltins "max" = some (.builtin "max") := by decide +kernel
theorem bt_min : bootBuiltins "min" = some (.builtin "min") := by decide +kernel
theorem bt_sum : bootBuiltins "sum" = some (.builtin "sum") := by decide +kernel
theorem bt_list : bootBuiltins "list" = some (.type "list") := by decide +kernel
theorem bt_tuple : bootBuiltins "tuple" = some (.type "tuple") := by decide +kernel
theorem bt_int : bootBuiltins "int" = some (.type "int") := by decide +kernel
theorem bt_bool : bootBuiltins "bool" = some (.type "bool") := by decide +kernel
theorem bt_str : bootBuiltins "str" = some (.type "str") := by decide +kernel
theorem bt_dict : bootBuiltins "dict" = some (.type "dict") := by decide +kernel
theorem bt_range : bootBuiltins "range" = some (.type "range") := by decide +kernel
theorem bt_zip : bootBuiltins "zip" = some (.type "zip") := by decide +kernel
theorem bt_enumerate : bootBuiltins "enumerate" = some (.type "enumerate") := by decide +kernel
theorem bt_reversed : bootBuiltins "reversed" = some (.type "reversed") := by decide +kernel
theorem bt_set : bootBuiltins "set" = some (.type "set") := by decide +kernel
/-! ### == and != of texts -/
def eqSt : D → D → Option D
  | .str a, .str b => some (.bool (a == b))
  | _, _ => none
def neSt : D → D → Option D
  | .str a, .str b => some (.bool (!(a == b)))
  | _, _ => none
theorem sem_eqSt {X : Cx} : OpSem X rEq eqSt := by
  intro fm Xs os s σ H d1 d2 d v1 v2 Q R p1 p2 e q
  cases d1 <;> cases d2 <;> simp only [eqSt] at e <;> cases e
  rename_i a b
  have e1 := p1.str
  have e2 := p2.str
  subst e1 e2
  refine ⟨rfl, ?_⟩
  rw [dec_str]
  exact q _ H R (Stay.refl _ _) rfl
theorem sem_neSt {X : Cx} : OpSem X rNe neSt := by
  intro fm Xs os s σ H d1 d2 d v1 v2 Q R p1 p2 e q
  cases d1 <;> cases d2 <;> simp only [neSt] at e <;> cases e
  rename_i a b
  have e1 := p1.str
  have e2 := p2.str
  subst e1 e2
  refine ⟨rfl, ?_⟩
  rw [dec_str]
  exact q _ H R (Stay.refl _ _) rfl
end Zo
/-! ZU: plain lemmas that any law may use. -/
namespace Zo
open PySem PySem.Spec PyProof.Rows L2
theorem sh_int (i : Int) : SeqAt.shaped (.int i) = true := by simp [SeqAt.shaped, PyData.canLay0, PyData.depth]
theorem sh_bool (i : Bool) : SeqAt.shaped (.bool i) = true := by simp [SeqAt.shaped, PyData.canLay0, PyData.depth]
theorem sh_str {i : Str} (h : PyData.strOk i = true) : SeqAt.shaped (.str i) = true := by simp [SeqAt.shaped, PyData.canLay0, PyData.depth, h]
theorem eqI (i j : Int) : eqD (.int i) (.int j) = some (.bool (i == j)) := by simp [eqD, sh_int, PyData.eqv]
theorem eqS {i j : Str} (h : PyData.strOk i = true) (k : PyData.strOk j = true) : eqD (.str i) (.str j) = some (.bool (i == j)) := by simp [eqD, sh_str h, sh_str k, PyData.eqv]
theorem ix0 (d : D) (ds : List D) : ixD (.tuple (d :: ds)) (.int 0) = some d := by simp [ixD, atI, ixN]
theorem ix1 (d e : D) (ds : List D) : ixD (.tuple (d :: e :: ds)) (.int 1) = some e := by
  have h : ixN (d :: e :: ds).length 1 = some 1 := by
    unfold ixN
    rw [if_pos (by decide), if_pos (by simp only [List.length_cons]; omega)]
    rfl
  simp only [ixD, atI, h]
  rfl
theorem ix2 (d e f : D) (ds : List D) : ixD (.tuple (d :: e :: f :: ds)) (.int 2) = some f := by
  have h : ixN (d :: e :: f :: ds).length 2 = some 2 := by
    unfold ixN
    rw [if_pos (by decide), if_pos (by simp only [List.length_cons]; omega)]
    rfl
  simp only [ixD, atI, h]
  rfl
theorem sl1 (d : D) (ds : List D) : slD (.tuple (d :: ds)) (some 1) none = some (.tuple ds) := by
  simp [slD, cutL, HT.sIx]
/-- flat enough to be compared -/
def Sm (d : D) : Prop := d.canLay0 = true ∧ d.depth ≤ 60
theorem canAll {ds : List D} (h : ∀ d ∈ ds, Sm d) : PyData.canLayAll0 ds = true ∧ PyData.depthAll ds ≤ 60 := by
  induction ds with
  | nil => simp [PyData.canLayAll0, PyData.depthAll]
  | cons d ds ih =>
    have h1 := h d List.mem_cons_self
    have h2 := ih fun e he => h e (List.mem_cons_of_mem _ he)
    simp only [PyData.canLayAll0, PyData.depthAll, h1.1, h2.1, Bool.and_self, true_and]
    exact Nat.max_le.mpr ⟨h1.2, h2.2⟩
theorem sh_list {ds : List D} (h : ∀ d ∈ ds, Sm d) : SeqAt.shaped (.list ds) = true := by
  obtain ⟨h1, h2⟩ := canAll h
  have h3 : (PyData.list ds).depth ≤ 64 := by simp only [PyData.depth]; omega
  have h4 : (PyData.list ds).canLay0 = true := by simpa [PyData.canLay0] using h1
  simp [SeqAt.shaped, h3, h4]
theorem neNil {ds : List D} (h : ∀ d ∈ ds, Sm d) : neD (.list ds) (.list []) = some (.bool (!ds.isEmpty)) := by
  have h0 : SeqAt.shaped (.list ([] : List D)) = true := sh_list (by simp)
  unfold neD
  rw [if_pos ⟨sh_list h, h0⟩]
  cases ds <;> rfl
theorem whileS_succ (n : Nat) (c : Ms → Out Bool) (b : Ex) (s : Ms) : whileS (n + 1) c b s = (c s).bind fun k s1 => if k = true then stepS (b s1) (whileS n c b) else .ok .nx s1 := rfl
theorem seqS_nx {a b : Ex} {s s1 : Ms} (h : a s = .ok .nx s1) : seqS a b s = b s1 := by simp [seqS, h]
theorem setS_ok {i : Nat} {a : Ev} {s s1 : Ms} {d : D} (h : a s = .ok d s1) : setS i a s = .ok .nx { s1 with env := s1.env.set i (.fz d) } := by simp [setS, h]
theorem comp_map {vs : List Nat} {tgt : D → Ms → Option Ms} {elt : Ev} (g : D → D) {s0 : Ms} : ∀ (ds acc : List D), (∀ d ∈ ds, ∃ s1, tgt d s0 = some s1 ∧ elt s1 = .ok (g d) s1 ∧ forgetS vs s1 = s0) → acc.length + ds.length ≤ 1000000 → compGo vs tgt evYes elt ds acc s0 = .ok (acc ++ ds.map g) s0
  | [], acc, _, _ => by simp [compGo]
  | d :: ds, acc, h, hl => by
    obtain ⟨s1, h1, h2, h3⟩ := h d List.mem_cons_self
    simp only [List.length_cons] at hl
    have ih := comp_map g ds (acc ++ [g d]) (fun e he => h e (List.mem_cons_of_mem _ he)) (by simp; omega)
    unfold compGo
    rw [h1]
    simp only [evYes, if_true, h2]
    rw [if_pos (by omega), h3, ih]
    simp
/-- .. with a test -/
theorem comp_filter {vs : List Nat} {tgt : D → Ms → Option Ms} {cond : Ms → Out Bool} {elt : Ev} (p : D → Bool) (g : D → D) {s0 : Ms} : ∀ (ds acc : List D), (∀ d ∈ ds, ∃ s1, tgt d s0 = some s1 ∧ cond s1 = .ok (p d) s1 ∧ (p d = true → elt s1 = .ok (g d) s1) ∧ forgetS vs s1 = s0) → acc.length + ds.length ≤ 1000000 →
    compGo vs tgt cond elt ds acc s0 = .ok (acc ++ (ds.filter p).map g) s0
  | [], acc, _, _ => by simp [compGo]
  | d :: ds, acc, h, hl => by
    obtain ⟨s1, h1, h2, h3, h4⟩ := h d List.mem_cons_self
    simp only [List.length_cons] at hl
    unfold compGo
    rw [h1]
    simp only [h2]
    cases hp : p d with
    | true =>
      have ih := comp_filter p g ds (acc ++ [g d]) (fun e he => h e (List.mem_cons_of_mem _ he)) (by simp; omega)
      simp only [if_true, h3 hp]
      rw [if_pos (by omega), h4, ih]
      simp [hp]
    | false =>
      have ih := comp_filter p g ds acc (fun e he => h e (List.mem_cons_of_mem _ he)) (by omega)
      simp only [Bool.false_eq_true, if_false]
      rw [h4, ih]
      simp [hp]
theorem boolsOf_map {α : Type} (p : α → Bool) (xs : List α) : boolsOf (xs.map fun x => .bool (p x)) = some (xs.map p) := by
  induction xs with
  | nil => rfl
  | cons x xs ih => simp [boolsOf, asBool, ih]
theorem all_map {α : Type} (p : α → Bool) (xs : List α) : allD (.list (xs.map fun x => .bool (p x))) = some (.bool (xs.all p)) := by
  simp [allD, boolsOf_map]
/-! ### values that are shown and compared -/
/-- a value of that bulk and depth, of whole numbers below 10 ** 12 and proper texts -/
def Ok (b n : Nat) (d : D) : Prop := (d.canLay0 && plainD d && d.showable && d.intsShort 13) = true ∧ d.bulk ≤ b ∧ d.depth ≤ n
instance (b n : Nat) (d : D) : Decidable (Ok b n d) := inferInstanceAs (Decidable (_ ∧ _ ∧ _))
theorem Ok.mono {b n b' n' : Nat} {d : D} (h : Ok b n d) (hb : b ≤ b') (hn : n ≤ n') : Ok b' n' d := ⟨h.1, Nat.le_trans h.2.1 hb, Nat.le_trans h.2.2 hn⟩
theorem Ok.sm {b n : Nat} {d : D} (h : Ok b n d) (hn : n ≤ 60) : Sm d := by
  obtain ⟨h1, _, h3⟩ := h
  simp only [Bool.and_eq_true] at h1
  exact ⟨h1.1.1.1, Nat.le_trans h3 hn⟩
theorem ok_all {b n : Nat} : ∀ {ds : List D}, (∀ d ∈ ds, Ok b n d) → (PyData.canLayAll0 ds && plainA ds && PyData.showableAll ds && PyData.intsShortAll 13 ds) = true ∧ PyData.bulkAll ds ≤ ds.length * (b + 1) ∧ PyData.depthAll ds ≤ n
  | [], _ => ⟨rfl, by simp [PyData.bulkAll], by simp [PyData.depthAll]⟩
  | d :: ds, h => by
    obtain ⟨h1, h2, h3⟩ := h d List.mem_cons_self
    obtain ⟨k1, k2, k3⟩ := ok_all (ds := ds) fun e he => h e (List.mem_cons_of_mem _ he)
    simp only [Bool.and_eq_true] at h1 k1
    refine ⟨by simp [PyData.canLayAll0, plainA, PyData.showableAll, PyData.intsShortAll, h1, k1], ?_, ?_⟩
    · simp only [PyData.bulkAll, List.length_cons, Nat.add_mul, Nat.one_mul]; omega
    · simp only [PyData.depthAll]; omega
theorem ok_tuple {b n : Nat} {ds : List D} (h : ∀ d ∈ ds, Ok b n d) : Ok (ds.length * (b + 1)) (n + 1) (.tuple ds) := by
  obtain ⟨k1, k2, k3⟩ := ok_all h
  simp only [Bool.and_eq_true] at k1
  exact ⟨by simp [PyData.canLay0, plainD, PyData.showable, PyData.intsShort, k1], by simpa [PyData.bulk] using k2, by simp only [PyData.depth]; omega⟩
theorem ok_list {b n : Nat} {ds : List D} (h : ∀ d ∈ ds, Ok b n d) : Ok (ds.length * (b + 1)) (n + 1) (.list ds) := by
  obtain ⟨k1, k2, k3⟩ := ok_all h
  simp only [Bool.and_eq_true] at k1
  exact ⟨by simp [PyData.canLay0, plainD, PyData.showable, PyData.intsShort, k1], by simpa [PyData.bulk] using k2, by simp only [PyData.depth]; omega⟩
theorem ok_int {i : Int} (h : i.natAbs < 10 ^ 12) : Ok 0 1 (.int i) := by
  have hs := PyData.shown_int_le h
  have hl : i.natAbs.log2 < 1920 := by
    by_cases z : i.natAbs = 0
    · rw [z]; decide
    · refine (Nat.log2_lt z).mpr (Nat.lt_trans h (Nat.lt_of_lt_of_le (show 10 ^ 12 < 2 ^ 40 by decide) (Nat.pow_le_pow_right (by decide) (by decide))))
  refine ⟨by simp [PyData.canLay0, plainD, PyData.showable, PyData.intsShort, hl, hs], by simp [PyData.bulk], by simp [PyData.depth]⟩
theorem ok_bool (b : Bool) : Ok 0 1 (.bool b) := by cases b <;> decide +kernel
theorem repr_ok {b n : Nat} {d : D} (q : seqD d = true) (h : Ok b n d) (hb : b ≤ 2 ^ 20) (hn : n ≤ 60) : reprD d = some (.str d.shown) := by
  obtain ⟨h1, h2, h3⟩ := h
  simp only [Bool.and_eq_true] at h1
  obtain ⟨⟨⟨c1, c2⟩, c3⟩, c4⟩ := h1
  unfold reprD
  rw [if_pos ⟨q, c2, c3, PyData.shown_fits_bulk (B := 13) (by decide) (by decide) (PyData.leavesShort_of_canLay0 13 d c1 c4) (Nat.le_trans h2 hb), Nat.le_trans h3 hn⟩]
theorem all1 {P : D → Prop} {a : D} (h : P a) : ∀ d ∈ [a], P d := fun d hd => by rw [List.mem_singleton.mp hd]; exact h
theorem all2 {P : D → Prop} {a b : D} (h : P a) (k : P b) : ∀ d ∈ [a, b], P d := fun d hd => by
  rcases List.mem_cons.mp hd with rfl | hd
  · exact h
  · exact all1 k d hd
theorem all3 {P : D → Prop} {a b c : D} (h : P a) (k : P b) (l : P c) : ∀ d ∈ [a, b, c], P d := fun d hd => by
  rcases List.mem_cons.mp hd with rfl | hd
  · exact h
  · exact all2 k l d hd
theorem all4 {P : D → Prop} {a b c e : D} (h : P a) (k : P b) (l : P c) (m : P e) : ∀ d ∈ [a, b, c, e], P d := fun d hd => by
  rcases List.mem_cons.mp hd with rfl | hd
  · exact h
  · exact all3 k l m d hd
theorem b62 (n : Nat) (h : n ≤ 5) : -(2 ^ 62) ≤ (n : Int) ∧ (n : Int) < 2 ^ 62 := by
  have h1 : (n : Int) ≤ 5 := by omega
  exact ⟨Int.le_trans (by decide) (Int.natCast_nonneg n), Int.lt_of_le_of_lt h1 (by decide)⟩
theorem rng_gen {a : Ev} {s : Ms} {j : Int} (hb : -(2 ^ 62) ≤ j ∧ j < 2 ^ 62) (e : a s = .ok (.int j) s) : evRng1 a s = .ok (intsD 0 j.toNat) s := by
  have h : evRng1 a s = (Out.ok (PyData.int j) s).bind fun d s1 => match d with
    | .int j => if -(2 ^ 62) ≤ j ∧ j < 2 ^ 62 then .ok (intsD 0 j.toNat) s1 else .no
    | _ => .no := by rw [← e]; rfl
  rw [h]
  exact if_pos hb
theorem rng_ok {a : Ev} {s : Ms} {n : Nat} (h : n ≤ 5) (e : a s = .ok (.int n) s) : evRng1 a s = .ok (intsD 0 n) s := by
  have q := rng_gen (b62 n h) e
  rwa [Int.toNat_natCast] at q
/-! ### draws -/
/-- the deck's turn is told -/
def Dn (n : Int) (k : Dk) : Prop := 0 ≤ k.turn ∧ k.turn ≤ n
theorem draw_ok {b n : Int} {k : Dk} (hb : 0 < b) (hb2 : b < 1000000000) (h : Dn n k) (hn : n < 1000000000) : ∃ i k', drawF [.int b] k = .ok (.int i) k' ∧ 0 ≤ i ∧ i < b ∧ Dn (n + 1) k' := by
  obtain ⟨h1, h2⟩ := h
  have c : 0 < b ∧ b < 1000000000 ∧ 0 ≤ k.turn ∧ k.turn < 1000000000000 := ⟨hb, hb2, h1, by omega⟩
  show ∃ i k', drawK b k = .ok (.int i) k' ∧ 0 ≤ i ∧ i < b ∧ Dn (n + 1) k'
  unfold drawK
  rw [if_pos c]
  cases k.cells.getLast? with
  | none => exact ⟨_, _, rfl, (mod_lt0 _ hb).1, (mod_lt0 _ hb).2, by constructor <;> (show _ ≤ _; simp only []; omega)⟩
  | some x =>
    dsimp only
    by_cases hx : 10 ^ 18 ≤ x
    · rw [if_pos hx]
      exact ⟨_, _, rfl, (mod_lt0 _ hb).1, (mod_lt0 _ hb).2, by constructor <;> (show _ ≤ _; simp only []; omega)⟩
    · rw [if_neg hx]
      exact ⟨_, _, rfl, (mod_lt0 _ hb).1, (mod_lt0 _ hb).2, by constructor <;> (show _ ≤ _; simp only []; omega)⟩
theorem ixList {xs : List D} {i : Int} (h0 : 0 ≤ i) (h1 : i < xs.length) : ∃ d, ixD (.list xs) (.int i) = some d ∧ d ∈ xs := by
  have hn : i.toNat < xs.length := by omega
  refine ⟨xs[i.toNat], ?_, List.getElem_mem _⟩
  have h : ixN xs.length i = some i.toNat := by
    unfold ixN
    rw [if_pos h0, if_pos h1]
  simp only [ixD, atI, h, Option.bind_some]
  exact List.getElem?_eq_getElem hn
end Zo
/-! ZV: objects of own classes: made, their attributes, their methods. -/
namespace Zo
open PySem PySem.Spec PyProof.Rows L2
/-- what of the text a class has -/
structure ClsN (K : Fr) (c : Str) (C : Addr) : Prop where
  at_ : PySem.W.nsIn K mainGlobals c = some (some (.ref C))
  cls : Cls K C
theorem ClsN.uniq {K : Fr} {c : Str} {C C' : Addr} (h : ClsN K c C) (h' : PySem.W.nsIn K mainGlobals c = some (some (.ref C'))) : C' = C := by
  have e := h.at_.symm.trans h'
  cases e
  rfl
def lookF (es : List (D × D)) (f : Str) : Option D := lookK es (.inr f)
theorem lookF_rp {K : Fr} {H : Hp} {Xs : List Addr} (f : Str) : ∀ {es : List (D × D)} {fs : List (Str × V)}, RpK K H Xs es (fs.map fun p => (Sum.inr p.1, p.2)) → (∃ d v, lookF es f = some d ∧ fs.lookup f = some v ∧ Rp K H Xs d v) ∨ (lookF es f = none ∧ fs.lookup f = none) := by
  intro es fs h
  have key : ∀ fs : List (Str × V), valV (fs.map fun p => ((Sum.inr p.1 : Key), p.2)) (.inr f) = fs.lookup f := by
    intro fs
    induction fs with
    | nil => rfl
    | cons p fs ih =>
      rw [List.map_cons]
      by_cases c : p.1 = f
      · rw [valV_pos (by rw [c])]
        obtain ⟨g, v⟩ := p
        subst c
        simp [List.lookup]
      · rw [valV_neg (by simpa using c), ih]
        obtain ⟨g, v⟩ := p
        have c' : (f == g) = false := beq_eq_false_iff_ne.mpr fun z => c z.symm
        simp [List.lookup, c']
  have := lookK_rp (.inr f) h
  rw [key] at this
  exact this
theorem rp_obj {K : Fr} {H : Hp} {Xs : List Addr} {c : Str} {C : Addr} {es : List (D × D)} {v : V} (hc : ClsN K c C) (h : Rp K H Xs (.dict ((.str mkC, .str c) :: es)) v) :
    ∃ a dx fs, v = .ref a ∧ H a = some (.ins C dx fs) ∧ RpK K H Xs es (fs.map fun p => (Sum.inr p.1, p.2)) := by
  obtain ⟨a, kvs, e, dk, q⟩ := h
  rcases dk with ⟨u, _⟩ | ⟨c', r, C', dx, fs, e1, e2, e3, e4, e5⟩ | ⟨x, e1, _⟩
  · simp [unm] at u
  · cases e1
    have := hc.uniq e2
    subst this
    subst e5
    obtain ⟨kk, v0, r0, z1, z2, z3, z4⟩ := q
    cases z1
    exact ⟨a, dx, fs, e, e3, z4⟩
  · have z := (List.cons.inj e1).1
    have z2 := (Prod.mk.inj z).1
    have : mkC = mkF := by injection z2
    exact absurd this (by decide +kernel)
def attrD (c f : Str) : D → Option D
  | .dict ((.str t, .str c') :: es) => if t = mkC ∧ c' = c then lookF es f else none
  | _ => none
theorem attrD_some {c f : Str} {d d' : D} (h : attrD c f d = some d') : ∃ es, d = .dict ((.str mkC, .str c) :: es) ∧ lookF es f = some d' := by
  unfold attrD at h
  split at h
  · split at h
    · rename_i e
      obtain ⟨rfl, rfl⟩ := e
      exact ⟨_, rfl, h⟩
    · cases h
  · cases h
section
variable {cl : Nat → Addr} {X : Cx} {W : WX} {m : Bool} {e e1 : Expr} {es : List Expr} {ev : Ev} {evs : Evs} {pos apos p : Pos} {c f mm : Str} {C fA : Addr}
theorem se_attr (hc : ClsN X.K c C) (hn : NoAttr X.K C f) (h : SE cl X W m e ev) (hb : attributeBase e f X.env (eval e X.env) = eval e X.env := by rfl) : SE cl X W m (.Attribute e f pos) (ev1 (attrD c f) ev) :=
  pe_imp (pe_fld h hb) fun σ H Q ⟨fm, Xs, os, s, R, g⟩ => by
    unfold ev1 at g
    refine ⟨fm, Xs, os, s, R, ?_⟩
    cases q : ev s with
    | ok x s1 =>
      rw [q] at g
      simp only [Out.bind_ok] at g
      cases q3 : attrD c f x with
      | none => rw [q3] at g; exact g.elim
      | some d' =>
        rw [q3] at g
        obtain ⟨es, h1, h2⟩ := attrD_some q3
        subst h1
        intro v1 H1 r1 st1 p1
        obtain ⟨a, dx, fs, ev, ha, ra⟩ := rp_obj hc p1
        rcases lookF_rp f ra with ⟨x, w, l1, l2, pw⟩ | ⟨l1, l2⟩
        · rw [h2] at l1
          cases l1
          exact ⟨a, C, dx, fs, w, ev, ha, hc.cls, hn, l2, g w H1 r1 st1 pw⟩
        · rw [h2] at l1; cases l1
    | exc c t s1 => rw [q] at g; exact g
    | no => rw [q] at g; exact g.elim
/-! ### methods (none of them raises) -/
def isObj (c m : Str) : D → Bool
  | .dict ((.str t, .str c') :: es) => decide (t = mkC) && decide (c' = c) && (lookF es m).isNone
  | _ => false
theorem isObj_some {c m : Str} {d : D} (h : isObj c m d = true) : ∃ es, d = .dict ((.str mkC, .str c) :: es) ∧ lookF es m = none := by
  unfold isObj at h
  split at h
  · simp only [Bool.and_eq_true, decide_eq_true_eq, Option.isNone_iff_eq_none] at h
    obtain ⟨⟨rfl, rfl⟩, h⟩ := h
    exact ⟨_, rfl, h⟩
  · cases h
def ofRn (r : Ro) (s : Ms) : Out D := match r with
  | .ok d => .ok d s
  | _ => .no
def evMeth (c m : Str) (g : List D → Ro) (a : Ev) (as : Evs) : Ev := fun s => (a s).bind fun o s1 => if isObj c m o = true then (as s1).bind fun ds s2 => ofRn (g (o :: ds)) s2 else .no
theorem passes0 {X : Cx} : Passes (L2.CX X.prog X.w) X (fun _ _ _ => False) := fun pins σ H s e s' I z => passAt (W := W0) takes0 σ pins H s e s' I z
theorem se_meth {g : List D → Ro} {n k : Nat} {fd : FuncData} {ps : List Str} {pl : Sem Bool} (hc : ClsN X.K c C) (hm : Meth X.K C mm fA) (F : FnOk X.prog X.w X.K X.mg X.base (L2.CX X.prog X.w) k fA fd ps (spP X.K cl (n + 1) g)) (hr : Room k X.A) (hb : Binds X.K fd ps [])
    (ho : SE cl X W m e ev) (ha : SA cl X W m (e1 :: es) evs) (hn : ∀ s ds s1, evs s = .ok ds s1 → ds.length = n)
    (hst : starEach (e1 :: es) X.env = (false, eval e1 X.env) :: starEach es X.env := by rfl) (hpl : (backTo pos (starEach es X.env)).any (·.1) = false := by rfl)
    (ht : eval (.Call (.Attribute e mm apos) (e1 :: es) [] pos) X.env = (do
      let ov ← eval e X.env
      standAt apos.atName
      let (f, first) ← holding [ov] (getMethod ov mm pl)
      callWith pos f first (backTo pos (starEach (e1 :: es) X.env)) (backToKw pos (keywordEach [] X.env))) := by rfl) :
    SE cl X W m (.Call (.Attribute e mm apos) (e1 :: es) [] pos) (evMeth c mm g ev evs) :=
  pe_imp (pe_meth (pl := pl) ho hc.cls hm F hr hb .nil passes0 ha hst hpl ht) fun σ H Q ⟨fm, Xs, os, s, R, h⟩ => by
    unfold evMeth at h
    refine ⟨fm, Xs, os, s, R, ?_⟩
    cases q : ev s with
    | ok x s1 =>
      rw [q] at h
      simp only [Out.bind_ok] at h
      split at h
      case isFalse => exact h.elim
      rename_i hio
      obtain ⟨oe, h1, h2⟩ := isObj_some hio
      intro v1 H1 r1 st1 p1
      subst h1
      obtain ⟨a, dx, fs, ev', ha', ra⟩ := rp_obj hc p1
      have l0 : fs.lookup mm = none := by
        rcases lookF_rp mm ra with ⟨x, w, l1, _, _⟩ | ⟨_, l2⟩
        · rw [h2] at l1; cases l1
        · exact l2
      refine ⟨a, dx, fs, ev', ha', l0, fm, Xs, os, s1, r1, ?_⟩
      cases q2 : evs s1 with
      | ok ds s2 =>
        rw [q2] at h
        simp only [Out.bind_ok] at h
        intro vs H2 r2 st2 ra2
        rw [List.append_nil]
        refine ⟨Xs, _ :: ds, ⟨v1, vs, rfl, Rp.stay st2 r1.sx _ _ p1, ra2⟩, by rw [List.length_cons, hn _ _ _ q2], r2.xt, ?_⟩
        cases q3 : g (.dict ((.str mkC, .str c) :: oe) :: ds) with
        | ok d =>
          rw [q3] at h
          exact fun v H' st' p' => h v H' (r2.stay st') (st1.trans (st2.trans st'.any)) p'
        | exc c t => rw [q3] at h; exact h.elim
        | no => rw [q3] at h; exact h.elim
      | exc c t s2 => rw [q2] at h; exact h
      | no => rw [q2] at h; exact h.elim
    | exc c t s1 => rw [q] at h; exact h
    | no => rw [q] at h; exact h.elim
/-! ### self.f = e in __init__ -/
def attrS (c : Str) (i : Nat) (f : Str) (a : Ev) : Ex := fun s => (a s).bind fun d s1 => match s1.env[i]? with
  | some (.obj oa c' es) => if c' = c ∧ es.length < 100 ∧ lookF es f = none then .ok .nx { s1 with env := s1.env.set i (.obj oa c (es ++ [(.str f, d)])) } else .no
  | _ => .no
theorem putF_new {f : Str} {v : V} : ∀ {fs : List (Str × V)}, fs.lookup f = none → putF f v fs = fs ++ [(f, v)]
  | [], _ => rfl
  | (g, x) :: r, h => by
    have hg : ¬ g = f := fun z => by subst z; simp [List.lookup] at h
    have hr : r.lookup f = none := by
      have : (f == g) = false := beq_eq_false_iff_ne.mpr fun z => hg z.symm
      simpa [List.lookup, this] using h
    simp [putF, hg, putF_new hr]
theorem RpK.app {K : Fr} {H : Hp} {Xs : List Addr} {k : Key} {d : D} {v : V} (hv : Rp K H Xs d v) : ∀ {es : List (D × D)} {kvs : List (Key × V)}, RpK K H Xs es kvs → RpK K H Xs (es ++ [(keyD k, d)]) (kvs ++ [(k, v)])
  | [], _, h => by cases h; exact ⟨k, v, [], rfl, rfl, hv, rfl⟩
  | (k', d') :: es, _, h => by
    obtain ⟨kk, w, r, e, ek, p, t⟩ := h
    subst e
    exact ⟨kk, w, _, rfl, ek, p, RpK.app hv t⟩
theorem ss_attr {i : Nat} {o : Expr} {pos' : Pos} (hc : ClsN X.K c C) (hn : NoAttr X.K C f) (ho : PE X o (tVar i)) (h : SE cl X W m e ev) (hs : swapsWith e (some (.Attribute o f pos')) pos.line X.env = pure false := by rfl) : SS cl X W (.Assign [.Attribute o f pos'] e pos) (attrS c i f ev) :=
  ps_imp (ps_fld ho h hs) fun Dn σ H ⟨fm, Xs, os, s, r, g⟩ => by
    unfold attrS at g
    refine ⟨fm, Xs, os, s, r, ?_⟩
    cases q : ev s with
    | ok d s1 =>
      rw [q] at g
      simp only [Out.bind_ok] at g
      intro v H1 r1 st1 p1
      cases q2 : s1.env[i]? with
      | none => rw [q2] at g; exact g.elim
      | some sv =>
        rw [q2] at g
        cases sv with
        | obj oa c' es =>
          dsimp only at g
          split at g
          case isFalse => exact g.elim
          rename_i hh
          obtain ⟨rfl, hl, hf⟩ := hh
          obtain ⟨C', dx, fs, e1, e2, e0, e3, p⟩ := r1.slot i _ q2
          have := hc.uniq e0
          subst this
          have l2 : fs.lookup f = none := by
            rcases lookF_rp f p with ⟨x, w, l1, _, _⟩ | ⟨_, l2⟩
            · rw [hf] at l1; cases l1
            · exact l2
          have hlen : fs.length = es.length := by
            have := RpK.len p
            simpa using this
          refine ⟨.ref oa, join_some e1, oa, C', dx, fs, rfl, e3, hc.cls, hn, by omega, ?_⟩
          rw [putF_new l2]
          have sx : ∀ x ∈ [oa], x ∈ Xs := fun x hx => by rw [List.mem_singleton.mp hx]; exact (r1.sub _ e2).1
          have st : Stay [oa] H1 (upd H1 oa (.ins C' dx (fs ++ [(f, v)]))) := Stay.put List.mem_cons_self
          have R2 := r1.putG (i := i) (a := oa) (sv' := .obj oa c' (es ++ [(.str f, d)])) (o' := .ins C' dx (fs ++ [(f, v)])) e2 trivial ⟨C', dx, _, e1, e2, e0, upd_same, by
            rw [List.map_append]
            exact RpK.app (k := .inr f) (Rp.stay st sx _ _ p1) (RpK.stay st sx _ _ p)⟩
          exact g Xs os σ _ R2.1
        | _ => exact g.elim
    | exc c t s1 => rw [q] at g; exact g Xs os σ
    | no => rw [q] at g; exact g.elim
end
/-! ### __init__ -/
def initOk (N : Nat) (run : Ex) (c : Str) (ds : List D) (es : List (D × D)) : Prop := ∀ a, ∃ s', run ⟨.obj a c [] :: envOf0 (N - 1) ds, dk0, false⟩ = .ok .nx s' ∧ s'.env[0]? = some (.obj a c es)
open Classical in
noncomputable def initFn (N : Nat) (run : Ex) (c : Str) (ds : List D) : Option (List (D × D)) := if h : ∃ es, initOk N run c ds es then some h.choose else none
theorem initFn_ok {N : Nat} {run : Ex} {c : Str} {ds : List D} {es : List (D × D)} (h : initFn N run c ds = some es) : initOk N run c ds es := by
  unfold initFn at h
  split at h
  · rename_i w
    cases h
    exact w.choose_spec
  · cases h
theorem initFn_of {N : Nat} {run : Ex} {c : Str} {ds : List D} {es : List (D × D)} (h : initOk N run c ds es) : initFn N run c ds = some es := by
  have w : ∃ es, initOk N run c ds es := ⟨es, h⟩
  have e : initFn N run c ds = some w.choose := by unfold initFn; rw [dif_pos w]
  rw [e]
  obtain ⟨s1, a1, b1⟩ := h 0
  obtain ⟨s2, a2, b2⟩ := w.choose_spec 0
  rw [a1] at a2
  cases a2
  rw [b1] at b2
  cases b2
  rfl
def spI (K : Fr) (c : Str) (n : Nat) (g : List D → Option (List (D × D))) : Sp := fun vs H Q _ => ∃ a C dx H1 Xs ds ws es, vs = .ref a :: ws ∧ PySem.W.nsIn K mainGlobals c = some (some (.ref C)) ∧ H = upd (upd H1 dx (.own a)) a (.ins C dx []) ∧ H1 a = none ∧ H1 dx = none ∧ dx ≠ a ∧
  RpA K H1 Xs ds ws ∧ ds.length = n ∧ (∀ x ∈ Xs, H1 x ≠ none) ∧ g ds = some es ∧ ∀ H' dx' fs, Stay [] H1 H' → H' a = some (.ins C dx' fs) → a ∉ Xs → RpK K H' Xs es (fs.map fun p => (Sum.inr p.1, p.2)) → Q .non H'
section
variable {P : Program} {w : World} {K : Fr} {mg : Str → Option Value} {base : Heap} {cl : Nat → Addr}
theorem rel_startI {N : List Str} {Xs : List Addr} {ds : List D} {ws : List V} {H1 : Hp} {a C dx : Addr} {c : Str} (h0 : PySem.W.nsIn K mainGlobals c = some (some (.ref C))) (ha : H1 a = none) (hd : H1 dx = none) (hne : dx ≠ a) (ra : RpA K H1 Xs ds ws) (hn : ds.length + 1 ≤ N.length) (xt : ∀ x ∈ Xs, H1 x ≠ none) :
    Rel K ⟨H1, Xs, none, []⟩ (a :: Xs) [(0, a)] ⟨.obj a c [] :: envOf0 (N.length - 1) ds, dk0, false⟩ (L2.start N (.ref a :: ws)) (upd (upd H1 dx (.own a)) a (.ins C dx [])) := by
  have st : Stay [] H1 (upd (upd H1 dx (.own a)) a (.ins C dx [])) := (Stay.laid hd).trans (Stay.laid (by rw [upd_ne hne.symm]; exact ha))
  have ra' : RpA K (upd (upd H1 dx (.own a)) a (.ins C dx [])) (a :: Xs) ds ws := RpA.stay st (fun a h => absurd h (by simp)) ds ws (RpA.fresh ha ds ws ra)
  exact {
    len := by
      rw [start_len (by rw [List.length_cons, ra.len]; exact hn)]
      unfold envOf0
      simp
      omega
    slot := fun i sv e => by
      cases i with
      | zero =>
        cases e
        exact ⟨C, dx, [], start_get rfl, List.mem_cons_self, h0, upd_same, rfl⟩
      | succ i =>
        have e' : (envOf0 (N.length - 1) ds)[i]? = some sv := by simpa using e
        rcases env0_get e' with ⟨d, e1, e2⟩ | e2
        · subst e2
          obtain ⟨v, ev, pv⟩ := ra'.get e1
          exact ⟨v, start_get (by simpa using ev), pv⟩
        · subst e2; trivial
    nd := by simp
    sub := fun p hp => by
      cases List.mem_singleton.mp hp
      exact ⟨List.mem_cons_self, by simp [dkl], ha⟩
    lv := fun p hp => by
      cases List.mem_singleton.mp hp
      exact ⟨_, upd_same, trivial⟩
    x0 := fun x h => List.mem_cons_of_mem _ h
    x1 := xt
    xt := fun x h => by
      rcases List.mem_cons.mp h with rfl | h
      · rw [upd_same]; simp
      · exact st.some (xt x h)
    dks := fun a h => absurd h (by simp [dkl])
    dk := fun kd kc e => by cases e
    ent := st
    one := fun e => by cases e
    tm := fun p hp => absurd hp (by simp) }
theorem fn_init {x qual c : Str} {st : Stmt} {f : Addr} {fd : FuncData} {N ps : List Str} {k n : Nat} {run : Ex} (F : Fun K x qual st f fd) (S : FnScope N ps (defScope st)) (hn : ps.length = n + 1) (hN : ps.length ≤ N.length)
    (hb : ∀ (cdv : Value) (A : Around) (outer : List Env) (s : Shared) (H : Hp) (E : XK), Room k (A.deeper (envOfC qual (defScope st) s.heap.objs.size f cdv)) → SSs cl (cxOf (L2.CX P w) P w K mg base N qual (defScope st) f cdv A outer s H E) W0 (defBody st) run) :
    FnOk P w K mg base (L2.CX P w) (k + 1) f fd ps (spI K c n (initFn N.length run c)) := by
  refine F.okX S (fun vs H Q E h => ?_) fun cdv A outer s H vs Q E hr h => ⟨_, hb cdv A outer s H E hr, ?_⟩
  · obtain ⟨a, C, dx, H1, Xs, ds, ws, es, rfl, _, _, _, _, _, ra, hl, _⟩ := h
    rw [List.length_cons, ra.len, hl, hn]
  · obtain ⟨a, C, dx, H1, Xs, ds, ws, es, rfl, h0, rfl, ha, hd, hne, ra, hl, xt, hf, q⟩ := h
    obtain ⟨s', q1, q2⟩ := initFn_ok hf a
    refine ⟨_, _, _, _, rel_startI h0 ha hd hne ra (by omega) xt, ?_⟩
    rw [q1]
    intro X os σ' H' r
    obtain ⟨C', dx', fs, e1, e2, e0, e3, p⟩ := r.slot 0 _ q2
    have : C' = C := by
      have e := e0.symm.trans h0
      cases e
      rfl
    subst this
    exact q H' dx' fs r.ent e3 (fun z => xt a z ha) (RpK.less r.x0 _ _ p)
end
section
variable {cl : Nat → Addr} {X : Cx} {W : WX} {m : Bool} {e1 : Expr} {es : List Expr} {evs : Evs} {pos p : Pos} {c x : Str} {C fA : Addr}
def evNew (c : Str) (g : List D → Option (List (D × D))) (as : Evs) : Ev := fun s => (as s).bind fun ds s1 => match g ds with
  | some es => .ok (.dict ((.str mkC, .str c) :: es)) s1
  | none => .no
theorem se_new {g : List D → Option (List (D × D))} {n k : Nat} {fd : FuncData} {ps : List Str} (hc : ClsN X.K c C) (M : Mk X.K C fA) (F : FnOk X.prog X.w X.K X.mg X.base (L2.CX X.prog X.w) k fA fd ps (spI X.K c n g)) (hr : Room (k + 1) X.A) (hb : Binds X.K fd ps []) (hg : Gl X x) (hm : X.mg x = some (.ref C))
    (ha : SA cl X W m (e1 :: es) evs) (hn : ∀ s ds s1, evs s = .ok ds s1 → ds.length = n) (hdb : (x == ("__debug__" : Str)) = false := by decide) (hst : starEach (e1 :: es) X.env = (false, eval e1 X.env) :: starEach es X.env := by rfl) (hpl : (backTo pos (starEach es X.env)).any (·.1) = false := by rfl) :
    SE cl X W m (.Call (.Name x p) (e1 :: es) [] pos) (evNew c g evs) :=
  pe_imp (pe_make M F hr hg hm hb .nil passes0 ha hdb hst hpl) fun σ H Q ⟨fm, Xs, os, s, R, h⟩ => by
    unfold evNew at h
    refine ⟨fm, Xs, os, s, R, ?_⟩
    cases q : evs s with
    | ok ds s1 =>
      rw [q] at h
      simp only [Out.bind_ok] at h
      cases q2 : g ds with
      | none => rw [q2] at h; exact h.elim
      | some oe =>
        rw [q2] at h
        intro vs H1 r1 st1 ra x dx hx hd hne
        rw [List.append_nil]
        refine ⟨x, C, dx, H1, Xs, ds, vs, oe, rfl, hc.at_, rfl, hx, hd, hne, ra, hn _ _ _ q, r1.xt, q2, fun H' dx' fs st' e3 nx rk => ⟨rfl, ?_⟩⟩
        exact h (.ref x) H' (r1.stay st') (st1.trans st'.any) ⟨x, (.inr mkC, .str c) :: fs.map fun p => (Sum.inr p.1, p.2), rfl, .inr (.inl ⟨c, oe, C, dx', fs, rfl, hc.at_, e3, nx, rfl⟩), ⟨.inr mkC, .str c, _, rfl, rfl, rfl, rk⟩⟩
    | exc c t s1 => rw [q] at h; exact h
    | no => rw [q] at h; exact h.elim
/-! ### a def of the text as a value; a parameter is called -/
theorem se_defv {f : Addr} (hg : Gl X x) (hm : X.mg x = some (.ref f)) (h0 : PySem.W.nsIn X.K mainGlobals x = some (some (.ref f))) (hdb : (x == ("__debug__" : Str)) = false := by decide) : SE cl X W m (.Name x p) (evLit (.dict [(.str mkF, .str x)])) :=
  se_const (v := V.ref f) (pe_glob (v := V.ref f) hg hm rfl hdb) fun H Xs => ⟨f, [(.inr mkF, .str x)], rfl, .inr (.inr ⟨x, rfl, h0⟩), ⟨.inr mkF, .str x, [], rfl, rfl, rfl, rfl⟩⟩
end
end Zo
/-! ZW1: a parameter that is a def is called; d.get(k); str(i); < of alike data. -/
namespace Zo
open PySem PySem.Spec PyProof.Rows L2 PySem.W
section
variable {cl : Nat → Addr} {X : Cx} {W : WX} {m : Bool} {e e1 e2 : Expr} {es : List Expr} {ev ev2 : Ev} {evs : Evs} {pos apos p : Pos} {x : Str}
/-! ### a parameter that is a def -/
structure DefV (X : Cx) (cl : Nat → Addr) (k n : Nat) (y : Str) (g : List D → Ro) : Prop where
  has : ∃ f fd ps, PySem.W.nsIn X.K mainGlobals y = some (some (.ref f)) ∧ FnOk X.prog X.w X.K X.mg X.base (L2.CX X.prog X.w) k f fd ps (spP X.K cl n g) ∧ PySem.W.keepIn X.K (.ref f) = true ∧ Binds X.K fd ps []
def evCallV (i : Nat) (tab : List (Str × (List D → Ro))) (as : Evs) : Ev := fun s => match s.env[i]? with
  | some (.fz (.dict [(.str t, .str y)])) => if t = mkF then (match tab.lookup y with
    | some g => evCall g as s
    | none => .no) else .no
  | _ => .no
theorem rp_def {K : Fr} {H : Hp} {Xs : List Addr} {y : Str} {v : V} {f : Addr} (h0 : PySem.W.nsIn K mainGlobals y = some (some (.ref f))) (h : Rp K H Xs (.dict [(.str mkF, .str y)]) v) : v = .ref f := by
  obtain ⟨a, kvs, e, dk, q⟩ := h
  rcases dk with ⟨u, _⟩ | ⟨c', r, C', dx, fs, e1, _⟩ | ⟨x, e1, e2⟩
  · simp [unm] at u
  · have z := (List.cons.inj e1).1
    have z2 := (Prod.mk.inj z).1
    have : mkF = mkC := by injection z2
    exact absurd this (by decide +kernel)
  · cases e1
    have z := h0.symm.trans e2
    cases z
    exact e
theorem se_callV {k n i : Nat} {tab : List (Str × (List D → Ro))} (hv : PE X (.Name x p) (tVar i)) (hT : ∀ y g, tab.lookup y = some g → DefV X cl k n y g) (hr : Room k X.A) (tk : Takes X W) (ha : SA cl X W m (e1 :: es) evs) (hn : ∀ s ds s1, evs s = .ok ds s1 → ds.length = n)
    (he : starEach (e1 :: es) X.env = (false, eval e1 X.env) :: starEach es X.env := by rfl) (hpl : (backTo pos (starEach es X.env)).any (·.1) = false := by rfl) : SE cl X W m (.Call (.Name x p) (e1 :: es) [] pos) (evCallV i tab evs) := by
  refine ⟨fun pins s σ H Q I h => ?_⟩
  obtain ⟨fm, Xs, os, ms, R, h⟩ := h
  unfold evCallV at h
  split at h
  case h_2 => exact h.elim
  rename_i t y q0
  split at h
  case isFalse => exact h.elim
  rename_i ht
  subst ht
  split at h
  case h_2 => exact h.elim
  rename_i g qg
  obtain ⟨f, fd, ps, h0, F, hk, hb⟩ := (hT y g qg).has
  obtain ⟨v, e1', pv1⟩ := R.slot i _ q0
  have ev1 := rp_def h0 pv1
  subst ev1
  refine wpAny_Call_Name_kw (thn (hv.run pins s σ H (fun v H1 => v = .ref f ∧ H1 = H) I ⟨.ref f, join_some e1', rfl, rfl⟩) fun u s1 ⟨c, H1, I1, rc, ec, eH⟩ => ?_)
  subst ec eH
  obtain rfl : u = Value.ref f := rc
  refine PySem.W.callWith_K (h₀ := X.base) I.ok.mod.kin hk (thn (ha.run pos pins s1 σ H1 (fun vs H2 => spP X.K cl n g vs H2 Q (WE W σ)) I1 ⟨fm, Xs, os, ms, R, ?_⟩) fun us s2 ⟨vs, H2, I2, r, q⟩ => ⟨I2.kIn, ?_⟩) he hpl
  · unfold evCall at h
    cases q : evs ms with
    | ok ds s1 =>
      rw [q] at h
      simp only [Out.bind_ok] at h
      exact fun vs H1 r1 st1 ra => GoodE.call r1 st1 ra (hn _ _ _ q) h
    | exc c t s1 => rw [q] at h; exact h
    | no => rw [q] at h; exact h.elim
  · exact run_fnS (E := fun σ => WE W σ) F hr hb (passAt tk σ) I2 r q
/-! ### d.get(k) -/
def evGet1 (a b : Ev) : Ev := fun s => (a s).bind fun d s1 => match d with
  | .dict es => if unm es = true then (b s1).bind fun k s2 => match keyOf k with
    | some kk => .ok ((lookK es kk).getD .none) s2
    | none => .no else .no
  | _ => .no
theorem se_get1 (hu : X.A.units + 1 < cLine) (ha : SE cl X W m e ev) (hb : SE cl X W m e2 ev2) (hM : M1 X e "get" apos e2 pos) : SE cl X W m (.Call (.Attribute e "get" apos) [e2] [] pos) (evGet1 ev ev2) :=
  pe_imp (pe_dget1 hu ha hb hM) fun σ H Q ⟨fm, Xs, os, s, R, g⟩ => by
    unfold evGet1 at g
    refine ⟨fm, Xs, os, s, R, ?_⟩
    cases q : ev s with
    | ok d s1 =>
      rw [q] at g
      simp only [Out.bind_ok] at g
      refine fun v1 H1 r1 st1 p1 => ?_
      cases d with
      | dict es =>
        dsimp only at g
        split at g
        case isFalse => exact g.elim
        rename_i hu
        obtain ⟨a, kvs, ev, ha, ax, ra⟩ := Rp.dict p1 hu
        subst ev
        refine ⟨a, rfl, .inl ⟨kvs, .inl ha⟩, fm, Xs, os, s1, r1, ?_⟩
        cases q2 : ev2 s1 with
        | ok k s2 =>
          rw [q2] at g
          simp only [Out.bind_ok] at g
          refine fun v2 H2 r2 st2 p2 => ?_
          cases q4 : keyOf k with
          | none => rw [q4] at g; exact g.elim
          | some kk =>
            rw [q4] at g
            dsimp only at g
            have pd := Rp.stay st2 r1.sx _ _ p1
            obtain ⟨a', kvs', ev', ha', _, ra'⟩ := Rp.dict pd hu
            cases ev'
            have ek := kV_of (os := []) (.inl p2) q4
            subst ek
            refine ⟨valV kvs' kk, DGet.k ha', ?_⟩
            rcases lookK_rp kk ra' with ⟨y, w, l1, l2, pw⟩ | ⟨l1, l2⟩
            · rw [l1] at g
              rw [l2]
              exact g w H2 r2 (st1.trans st2) pw
            · rw [l1] at g
              rw [l2]
              exact g .non H2 r2 (st1.trans st2) rfl
        | exc c t s2 => rw [q2] at g; exact g
        | no => rw [q2] at g; exact g.elim
      | _ => exact g.elim
    | exc c t s1 => rw [q] at g; exact g
    | no => rw [q] at g; exact g.elim
/-! ### str(i) -/
def strI : D → Option D
  | .int i => if i.natAbs.log2 < 1920 then some (.str (toString i)) else none
  | _ => none
theorem sem_strI : CallSem X (fun xs H Q => ∃ i, xs = [.int i] ∧ i.natAbs.log2 < 1920 ∧ Q (.str (toString i)) H) strI := by
  intro fm Xs os s σ H d d' v Q R p e q
  cases d with
  | int i =>
    simp only [strI] at e
    split at e
    · rename_i hz
      cases e
      have := p.int
      subst this
      exact ⟨i, rfl, hz, q _ H R (Stay.refl _ _) rfl⟩
    · cases e
  | _ => cases e
/-! ### values are read off the heap -/
mutual
def flD : D → Bool
  | .list ds => flA ds
  | .tuple ds => flA ds
  | .dict _ => false
  | _ => true
def flA : List D → Bool
  | [] => true
  | d :: ds => flD d && flA ds
end
variable {pins : List (Addr × Obj)} {σ : L2.St} {H : Hp} {s : Shared} {Xs : List Addr}
mutual
theorem Rp.reads (I : Inv X pins σ H s) : ∀ (d : D) (v : V) (u : Value), Rp X.K H Xs d v → RelV v u → flD d = true → ∃ as, Reads s.heap u d as
  | .none, _, _, h, r, _ => by cases h; cases r; exact ⟨_, .none⟩
  | .bool b, _, _, h, r, _ => by cases h; cases r; exact ⟨_, .bool b⟩
  | .int i, _, _, h, r, _ => by cases h; obtain ⟨t, rfl⟩ := r; exact ⟨_, .int i t⟩
  | .str y, _, _, h, r, _ => by cases h; obtain ⟨t, rfl⟩ := r; exact ⟨_, .str y t⟩
  | .list ds, _, _, h, r, hp => by
    obtain ⟨a, vs, e, f, q⟩ := h
    subst e
    cases r
    obtain ⟨its, rv, ⟨o, n, ho, hc, _, hd⟩, _⟩ := I.list (SqL.of f.1)
    obtain ⟨as, ra⟩ := RpA.reads I ds vs its q rv (by simpa [flD] using hp)
    exact ⟨_, .list ho hc hd ra⟩
  | .tuple ds, _, _, h, r, hp => by
    obtain ⟨a, vs, e, f, q⟩ := h
    subst e
    cases r
    obtain ⟨its, rv, ⟨o, ho, hc, n, hd⟩, _⟩ := I.tuple f.sq
    obtain ⟨as, ra⟩ := RpA.reads I ds vs its q rv (by simpa [flD] using hp)
    exact ⟨_, .tuple ho hc hd ra⟩
  | .dict es, _, _, h, r, hp => by simp [flD] at hp
theorem RpA.reads (I : Inv X pins σ H s) : ∀ (ds : List D) (vs : List V) (us : List Value), RpA X.K H Xs ds vs → Vals vs us → flA ds = true → ∃ as, ReadsAll s.heap us ds as
  | [], _, _, h, r, _ => by cases h; cases r; exact ⟨_, .nil⟩
  | d :: ds, _, _, h, r, hp => by
    obtain ⟨v, vs, e, q, t⟩ := h
    subst e
    cases r with
    | cons r1 r2 =>
      have hp' : flD d = true ∧ flA ds = true := by simpa [flA] using hp
      obtain ⟨as, h1⟩ := Rp.reads I d v _ q r1 hp'.1
      obtain ⟨bs, h2⟩ := RpA.reads I ds vs _ t r2 hp'.2
      exact ⟨_, .cons h1 h2⟩
end
/-! ### < of alike data -/
def ltU (a b : D) : Option D := match a with
  | .list _ => none
  | .none => none
  | _ => if alike a b = true ∧ flD a = true ∧ flD b = true ∧ a.depth ≤ 60 then some (.bool (dataLt a b)) else none
theorem ltU_some {a b d : D} (h : ltU a b = some d) : alike a b = true ∧ flD a = true ∧ flD b = true ∧ a.depth ≤ 60 ∧ a ≠ .none ∧ (∀ l, a ≠ .list l) ∧ (∀ l, b ≠ .list l) ∧ d = .bool (dataLt a b) := by
  unfold ltU at h
  split at h
  · cases h
  · cases h
  · rename_i h1 h2
    split at h
    · rename_i c
      cases h
      refine ⟨c.1, c.2.1, c.2.2.1, c.2.2.2, h2, h1, ?_, rfl⟩
      intro l e
      subst e
      have c1 := c.1
      cases a <;> simp [alike] at c1
      exact h1 _ rfl
    · cases h
theorem RpB.rp {K : Fr} {H : Hp} {Xs : List Addr} {os : List (Nat × Addr)} {d : D} {v : V} (h : RpB K H Xs os d v) (n : ∀ l, d ≠ .list l) : Rp K H Xs d v := by
  rcases h with h | ⟨_, _, _, ds, e, _⟩
  · exact h
  · exact absurd e (n ds)
theorem op_ltU (hu : X.A.units + 64 < cLine) : OpR X (compareOp .Lt) (fun y x H Q => ∃ Xs d1 d2 d, Rp X.K H Xs d1 y ∧ Rp X.K H Xs d2 x ∧ ltU d1 d2 = some d ∧ ∃ b, d = .bool b ∧ Q (.bl b) H) := by
  intro pins s σ H y x v u Q I ry rx h
  obtain ⟨Xs, d1, d2, d, p1, p2, e, b, eb, q⟩ := h
  obtain ⟨a1, a2, a3, a4, a5, a6, a7, a8⟩ := ltU_some e
  subst a8
  cases eb
  obtain ⟨as, r1⟩ := Rp.reads I d1 y v p1 ry a2
  obtain ⟨bs, r2⟩ := Rp.reads I d2 x u p2 rx a3
  have hm : X.A.units + min d1.depth d2.depth < cLine := Nat.lt_of_le_of_lt (Nat.add_le_add_left (Nat.le_trans (Nat.min_le_left _ _) a4) _) (by omega)
  exact lt_data r1 r2 a1 a5 hm ⟨.bl _, H, I, rfl, q⟩
theorem sem_ltU : OpSem X (fun y x H Q => ∃ Xs d1 d2 d, Rp X.K H Xs d1 y ∧ Rp X.K H Xs d2 x ∧ ltU d1 d2 = some d ∧ ∃ b, d = .bool b ∧ Q (.bl b) H) ltU := by
  intro fm Xs os s σ H d1 d2 d v1 v2 Q R p1 p2 e q
  obtain ⟨a1, a2, a3, a4, a5, a6, a7, a8⟩ := ltU_some e
  exact ⟨Xs, d1, d2, d, p1.rp a6, p2.rp a7, e, _, a8, q _ H R (Stay.refl _ _) (by rw [a8]; rfl)⟩
theorem few64 {k : Nat} (hr : Room k X.A) : X.A.units + 64 < cLine := hr.units
end
end Zo
/-! ZW2: dict(reversed(a list of pairs)). -/
namespace Zo
open PySem PySem.Spec PyProof.Rows L2 MeetsSeq
theorem lri_slot_ga : Slot "list_reverseiterator" "__getattribute__" "object.__getattribute__" := by
  refine .of (owner := "object") (n := "__getattribute__") ?_ (by decide +kernel) (by decide +kernel) (by decide +kernel) ?_ ?_
  · rw [typeLookup_type, builtinLookup_eq_fast]; kernel_rfl
  · first
    | exact .inl (by decide +kernel)
    | exact .inr (by decide +kernel)
  · rw [isSubtype_type]; kernel_rfl
theorem lri_keys : typeLookup (.type "list_reverseiterator") "keys" = pure none := am_miss_of_fast (by decide +kernel)
theorem lri_ga0 : typeLookup (.type "list_reverseiterator") "__getattr__" = pure none := am_miss_of_fast (by decide +kernel)
theorem lri_miss (r : Addr) (fs : Array Value) (sl : Array (Option Value)) (name : Str) (u : Tok) (hmiss : typeLookup (.type "list_reverseiterator") name = pure none) (hname : ([("__module__" : Str), "__name__", "__qualname__", "__doc__", "__annotations__"]).contains name = false) (hsz : name.length + 100 ≤ sizeLine) :
    Meets (Builtin.«object.__getattribute__» ⟨[.ref r, .str name u], []⟩) (fun A R s => s.heap.get? r = some { cls := .type "list_reverseiterator", dict := none, data := .fields fs, slots := sl } ∧ raisesAttr (.ref r) name A R s) :=
  Meets.of_wp fun prog w A R s hs => by
    obtain ⟨hp, g, d, tk, os⟩ := s
    obtain ⟨hx, hs⟩ := hs
    have hT : (⟨hp, g, d, tk, os⟩ : Shared).TypeIs (.ref r) "list_reverseiterator" := ⟨_, hx, rfl⟩
    unfold Builtin.«object.__getattribute__»
    repeat (any_goals (first | assumption | wp_step))
    simp only [hname, Bool.false_eq_true, if_false]
    repeat (any_goals (first | assumption | wp_step))
    exact wpAny_raiseAttrError hs.1 hs.2 (attrMsg_fits (by decide +kernel) hsz)
/-- a list read backwards has no attribute of that name -/
theorem lri_none0 {prog : Program} {w : World} {A : Around} {E : Value → Shared → Prop} {s : Shared} {r : Addr} {fs : Array Value} {name : Str} {Q : Option Value → Shared → Prop} (hx : s.heap.get? r = some { cls := .type "list_reverseiterator", dict := none, data := .fields fs, slots := #[] }) (hA : A.handled = none)
    (hmiss : typeLookup (.type "list_reverseiterator") name = pure none) (hname : ([("__module__" : Str), "__name__", "__qualname__", "__doc__", "__annotations__"]).contains name = false) (hsz : name.length + 100 ≤ sizeLine)
    (h : ∀ h' tk, (∀ b o, s.heap.get? b = some o → h'.get? b = some o) → Q none { s with heap := h', toks := tk }) : wpAny (model prog w) A (getAttr? (.ref r) name) Q E s := by
  obtain ⟨hp, g, d, tk, os⟩ := s
  have hT : ∀ t0, (⟨hp, g, d, t0, os⟩ : Shared).TypeIs (.ref r) "list_reverseiterator" := fun _ => ⟨_, hx, rfl⟩
  have f1 := sub_AttributeError
  have f3 := lri_slot_ga.lookup
  have f4 := lri_slot_ga.bind (.ref r)
  have f5 := lri_ga0
  unfold getAttr? getAttrBy?
  repeat (any_goals (first | assumption | exact hT _ | ((with_reducible show wpAny _ _ (call (Value.builtin "object.__getattribute__") _ _) _ _ _); refine call_meets lri_slot_ga (hT _) PySem.F.entry_object_getattribute (PySem.F.args_object_getattribute_2 _ _) (lri_miss r fs #[] name _ hmiss hname hsz) ⟨hx, hA, fun h' tk' e hx' => ?_⟩) | wp_step))
  obtain ⟨t', u', he⟩ := hx'.there
  show wpAny _ _ (getattributeRaised _ _ _ _ _ _ _) _ _ _
  unfold getattributeRaised
  repeat (any_goals (first | assumption | wp_step))
  exact h _ _ hx'.keeps
/-- the items, read backwards, are the pairs ps -/
def BackItems (h : Heap) (items : Array Value) (Ts : Nat → Addr) (ps : List (Value × Value)) : Prop :=
  items.size = ps.length ∧ ∀ j k v, ps[j]? = some (k, v) → items[items.size - 1 - j]? = some (.ref (Ts j)) ∧ PairAt h (Ts j) k v
theorem BackItems.there {h : Heap} {items : Array Value} {Ts : Nat → Addr} {ps : List (Value × Value)} (x : BackItems h items Ts ps) {j : Nat} (hj : j < ps.length) : ∃ o, h.get? (Ts j) = some o := by
  obtain ⟨o, ho, _⟩ := (x.2 j ps[j].1 ps[j].2 (List.getElem?_eq_getElem hj)).2.there
  exact ⟨o, ho⟩
theorem BackItems.on {h h' : Heap} {items : Array Value} {Ts : Nat → Addr} {ps : List (Value × Value)} (x : BackItems h items Ts ps) (e : ∀ j, j < ps.length → ∀ o, h.get? (Ts j) = some o → h'.get? (Ts j) = some o) : BackItems h' items Ts ps := by
  refine ⟨x.1, fun j k v hj => ?_⟩
  obtain ⟨z1, z2⟩ := x.2 j k v hj
  exact ⟨z1, z2.at (e j (List.getElem?_eq_some_iff.mp hj).1)⟩
theorem pairArg_rev {prog : Program} {w : World} (r l : Addr) (items : Array Value) (Ts : Nat → Addr) (ps : List (Value × Value)) (hrl : l ≠ r) (hrT : ∀ j, j < ps.length → Ts j ≠ r) :
    PairArg prog w "list_reverseiterator" r (r :: l :: (List.range ps.length).map Ts) [r] ps.length (PairRel ps) (fun h => h.get? r = some (revObj l ((items.size : Int) - 1)) ∧ h.IsList l items ∧ BackItems h items Ts ps) where
  type := fun s ok => ⟨_, ok.1, rfl⟩
  notDict := by decide
  keep := fun h h' ok hk => ⟨hk _ _ ok.1, ok.2.1.at fun o e => hk _ o e, ok.2.2.on fun j _ o e => hk _ o e⟩
  there := fun h ok b hb => by
    obtain ⟨h1, ⟨o, h2, _⟩, h3⟩ := ok
    rcases List.mem_cons.mp hb with rfl | hb
    · exact ⟨_, h1⟩
    · rcases List.mem_cons.mp hb with rfl | hb
      · exact ⟨o, h2⟩
      · obtain ⟨j, hj, rfl⟩ := List.mem_map.mp hb
        exact h3.there (List.mem_range.mp hj)
  sub := fun b hb => by
    rw [List.mem_singleton.mp hb]
    exact List.mem_cons_self
  noKeys := fun A s Q E hA ok h => lri_none0 ok.1 hA lri_keys (by decide +kernel) (by first | size_fits | decide +kernel) h
  iter := fun A s d Q E hA ok hd hdf h => by
    obtain ⟨h1, h2, h3⟩ := ok
    have dr : r ≠ d := fun e => hdf (e ▸ List.mem_cons_self)
    have dl : l ≠ d := fun e => hdf (e ▸ List.mem_cons_of_mem _ List.mem_cons_self)
    have dT : ∀ j, j < ps.length → Ts j ≠ d := fun j hj e => hdf (List.mem_cons_of_mem _ (List.mem_cons_of_mem _ (List.mem_map.mpr ⟨j, List.mem_range.mpr hj, e⟩)))
    have hn := h3.1
    refine wpAny_pyIter_revIter (l := l) (i := (items.size : Int) - 1) ⟨_, h1, rfl, rfl⟩ (h r [r] (fun i h => i ≤ ps.length ∧ h.IsRevIter r l ((items.size : Int) - 1 - (i : Nat)) ∧ h.IsList l items ∧ BackItems h items Ts ps) s.heap s.toks ?_ ?_ (fun b o e => e) fun b hb => .inl hb)
    · exact {
        off := fun hm => dr (List.mem_singleton.mp hm).symm
        frame := fun i h₁ h₂ st hk => ⟨st.1, st.2.1.at fun o e => hk _ o dr e, st.2.2.1.at fun o e => hk _ o dl e, st.2.2.2.on fun j hj o e => hk _ o (dT j hj) e⟩
        item := fun i s₁ Q₁ E₁ hi st _ hQ => by
          obtain ⟨_, z1, z2, z3⟩ := st
          have e : (items.size : Int) - 1 - ((i : Nat) : Int) = ((items.size - 1 - i : Nat) : Int) := by omega
          rw [e] at z1
          obtain ⟨z4, z5⟩ := z3.2 i ps[i].1 ps[i].2 (List.getElem?_eq_getElem hi)
          refine wpAny_pyNext_rev_item z1 z2 z4 fun h' it' sb => ?_
          have e2 : ((items.size - 1 - i : Nat) : Int) - 1 = (items.size : Int) - 1 - ((i + 1 : Nat) : Int) := by omega
          rw [e2] at it'
          have z6 : BackItems h' items Ts ps := z3.on fun j hj o q => (sb.2 _ (hrT j hj)).trans q
          exact hQ (Ts i) ps[i].1 ps[i].2 h' s₁.toks (List.getElem?_eq_getElem hi) (z6.2 i _ _ (List.getElem?_eq_getElem hi)).2 ⟨hi, it', z2.at fun o q => (sb.2 _ hrl).trans q, z6⟩ fun b o hb q => (sb.2 b fun e => hb (by simp [e])).trans q
        done := fun s₁ Q₁ E₁ st hQ => by
          obtain ⟨_, z1, z2, z3⟩ := st
          have e : (items.size : Int) - 1 - ((ps.length : Nat) : Int) = -1 := by omega
          rw [e] at z1
          exact wpAny_pyNext_rev_end hA z1 fun h' eb => hQ h' s₁.toks fun b o hb q => eb b o (fun e => hb (by simp [e])) q }
    · refine ⟨Nat.zero_le _, ⟨_, h1, rfl, ?_⟩, h2, h3⟩
      show (revObj l ((items.size : Int) - 1)).data = _
      simp [revObj]
/-- dict(reversed(xs)) -/
def dictRevD : D → Option D
  | .list ds => dictD (.list ds.reverse)
  | _ => none
theorem RpA.reverse {K : Fr} {H : Hp} {Xs : List Addr} : ∀ {ds : List D} {vs : List V}, RpA K H Xs ds vs → RpA K H Xs ds.reverse vs.reverse
  | [], _, h => by cases h; exact rfl
  | d :: ds, _, h => by
    obtain ⟨v, r, e, q, t⟩ := h
    subst e
    rw [List.reverse_cons, List.reverse_cons]
    exact (RpA.reverse t).app (RpA.one q)
section
variable {cl : Nat → Addr} {X : Cx} {W : WX} {m : Bool} {e : Expr} {ev : Ev}
theorem se_dictRev {p p2 pos pos2 : Pos} (hc : X.calm = true) (hg : Gl X "dict") (hm : X.mg "dict" = none) (hg2 : Gl X "reversed") (hm2 : X.mg "reversed" = none) (he : SE cl X W m e ev)
    (hs : starEach [e] X.env = (false, eval e X.env) :: starEach [] X.env := by rfl)
    (hs2 : starEach [.Call (.Name "reversed" p2) [e] [] pos2] X.env = (false, eval (.Call (.Name "reversed" p2) [e] [] pos2) X.env) :: starEach [] X.env := by rfl) :
    SE cl X W m (.Call (.Name "dict" p) [.Call (.Name "reversed" p2) [e] [] pos2] [] pos) (ev1 dictRevD ev) := by
  refine ⟨fun pins s σ H Q I h => ?_⟩
  obtain ⟨fm, Xs, os, ms, R, h⟩ := h
  unfold ev1 at h
  have tE1 : tE X.K cl W m ev σ H fun v H1 => ∃ ds ps s2, ev ms = .ok (.list ds) s2 ∧ pairsOf ds.reverse = some ps ∧ unmD (dictOf (mergeG [] ps)) = true ∧ Rel X.K fm Xs os s2 σ H1 ∧ Stay (Mu fm.dka os m) H H1 ∧ Rp X.K H1 Xs (.list ds) v := by
    refine ⟨fm, Xs, os, ms, R, ?_⟩
    cases q : ev ms with
    | ok d s2 =>
      rw [q] at h
      simp only [Out.bind_ok] at h
      intro v H1 r1 st1 p1
      cases d with
      | list ds =>
        cases q2 : dictRevD (.list ds) with
        | none => rw [q2] at h; exact h.elim
        | some d' =>
          obtain ⟨ds', ps, h1, h2, h3, h4⟩ := dictD_some (d := .list ds.reverse) q2
          rcases h1 with h1 | h1
          · cases h1
            exact ⟨ds, ps, s2, rfl, h2, h4, r1, st1, p1⟩
          · cases h1
      | _ => exact h.elim
    | exc c t s2 => rw [q] at h; exact h
    | no => rw [q] at h; exact h.elim
  refine Call_ (ld_blt I hg hm PyProof.Rows.boot_dict (PyProof.Rows.callWith_type1 (args_cons (Call_ (ld_blt I hg2 hm2 PyProof.Rows.boot_reversed (PyProof.Rows.callWith_type1 (args_cons (thn (he.run pins s σ H _ I tE1) fun u s1 ⟨v, H1, I1, r1, q1⟩ => args_nil ?_) hs) hs rfl))) hs2) hs2 rfl))
  obtain ⟨ds, ps, s2, qe, hps, hu, r, st, pv⟩ := q1
  rw [qe] at h
  simp only [Out.bind_ok, dictRevD, dictD, hps, Option.bind_some, if_pos hu, toOut_some] at h
  obtain ⟨a, vs, ev', hf, ra⟩ := id pv
  subst ev'
  obtain rfl : u = Value.ref a := r1
  obtain ⟨its, rv, p', hz⟩ := I1.list (SqL.of hf.1)
  refine call_reversed_list p'.isList (args_nil ?_)
  have k0 : ∀ b o, s1.heap.get? b = some o → (s1.heap.push (revObj a ((its.toArray.size : Int) - 1))).get? b = some o := fun b o e => Heap.get?_push_of_some _ e
  have I2 : Inv X pins σ H1 { s1 with heap := s1.heap.push (revObj a ((its.toArray.size : Int) - 1)) } := I1.kept (t' := s1.toks) k0
  have fp0 := I1.fpOk (H' := H1) (b := s1.heap.objs.size) (Nat.le_refl _) (I1.hok.fresh (Nat.le_refl _))
  obtain ⟨ol, hol, _⟩ := id p'.isList
  have hne : a ≠ s1.heap.objs.size := Nat.ne_of_lt (Heap.lt_size hol)
  obtain ⟨bs, pvs, prs, kv, h1, h2, h3, h4, h5, h6⟩ := pairs_vals I1 (RpA.reverse ra) rv.reverse hps
  have hlen : its.length = pvs.length := by rw [← h2, ← List.length_map (f := Value.ref) (as := bs), ← h1, List.length_reverse]
  have hz' : pvs.length ≤ sizeLine := by rw [← hlen, ← rv.length]; exact hz
  have back : BackItems (s1.heap.push (revObj a ((its.toArray.size : Int) - 1))) its.toArray (fun j => bs.getD j 0) pvs := by
    refine ⟨by rw [List.size_toArray, hlen], fun j k v e => ?_⟩
    obtain ⟨b, kk, z1, z2, _, _⟩ := h6 j k v e
    have eb : bs.getD j 0 = b := by rw [List.getD_eq_getElem?_getD, z1]; rfl
    have hj : j < its.length := by rw [hlen]; exact (List.getElem?_eq_some_iff.mp e).1
    refine ⟨?_, ?_⟩
    · show its.toArray[its.toArray.size - 1 - j]? = some (Value.ref (bs.getD j 0))
      rw [eb]
      have e3 : its.reverse[j]? = some (Value.ref b) := by rw [h1, List.getElem?_map, z1]; rfl
      rw [List.getElem?_reverse hj] at e3
      simpa using e3
    · show PairAt _ (bs.getD j 0) k v
      rw [eb]; exact z2.at fun o q => k0 _ o q
  have hT : ∀ j, j < pvs.length → bs.getD j 0 ≠ s1.heap.objs.size := by
    intro j hj e
    obtain ⟨b, kk, z1, z2, _, _⟩ := h6 j _ _ (List.getElem?_eq_getElem hj)
    have eb : bs.getD j 0 = b := by rw [List.getD_eq_getElem?_getD, z1]; rfl
    obtain ⟨o, ho, _⟩ := z2.there
    have lt := Heap.lt_size ho
    rw [← eb, e] at lt
    exact absurd lt (Nat.lt_irrefl _)
  have have_ : PairsHave (mixKind X.prog X.w) pvs.length (PairRel pvs) prs := ⟨h3, fun i key v e => by
    obtain ⟨b, kk, _, _, z3, z4⟩ := h6 i key v e
    exact ⟨kk, z3, z4⟩⟩
  refine PySem.call_dict_pairs (s := { s1 with heap := s1.heap.push (revObj a ((its.toArray.size : Int) - 1)) }) (pairArg_rev s1.heap.objs.size a its.toArray (fun j => bs.getD j 0) pvs hne hT) (I1.ok.hd hc) ⟨Heap.get?_push_size _ rfl, p'.isList.push _, back⟩ have_ hz' fun h' tk hd' keep => ?_
  generalize hD : (s1.heap.push (revObj a ((its.toArray.size : Int) - 1))).objs.size = Dd at hd' ⊢
  have hDl : s1.heap.objs.size ≤ Dd := by rw [← hD, Heap.size_push]; exact Nat.le_succ _
  have hm' : (Dd == sysModules) = false := beq_eq_false_iff_ne.mpr (Nat.ne_of_gt (Nat.lt_of_lt_of_le I1.big hDl))
  have few : (mergeK [] kv).length ≤ sizeLine := by
    refine Nat.le_trans (length_mergeK kv []) ?_
    rw [List.length_nil, Nat.zero_add, h5.length, h3]
    exact hz'
  have hDn : H1 Dd = none := I1.hok.fresh hDl
  have I3 : Inv X pins σ (upd H1 Dd (.dK (mergeK [] kv))) { s1 with heap := h', toks := tk } := I2.turnedNew (t' := tk) (ch := [s1.heap.objs.size]) keep (fun b hb => by rw [List.mem_singleton.mp hb]; exact fp0) (Nat.le_of_eq hD)
    (show ObjOk X.prog X.w _ _ _ (.dK (mergeK [] kv)) from ⟨few, hm', merged [] prs, KV.merge h5 .nil, hd'⟩)
  refine ⟨.ref Dd, _, I3, rfl, ?_⟩
  have rg := RG.merge (a := []) (b := []) h4 rfl
  refine h (.ref Dd) _ (r.laid hDn) (st.trans (Stay.laid hDn)) ⟨Dd, _, rfl, .inl ⟨hu, upd_same, r.nx hDn⟩, RpK.laid hDn rg.toK⟩
end
end Zo
/-! ZW3: enumerate(a tuple); targets within targets. -/
namespace Zo
open PySem PySem.Spec PyProof.Rows L2
set_option maxHeartbeats 4000000 in
theorem enumT_new {v : Value} {o : Obj} {Hh : Heap → Prop} (B : Begins v o Hh) : Meets (Builtin.«enumerate.__new__» ⟨[.type "enumerate", v], []⟩) (fun _ R s => Hh s.heap ∧
    R (.ok (.ret (.ref (s.heap.push o).objs.size))) { s with heap := (s.heap.push o).push { cls := .type "enumerate", data := .fields #[.none, .bool false, .ref s.heap.objs.size, rawInt 0, .none, .none] } }) :=
  .of_wp fun prog w A R s h => by
    obtain ⟨hp, g, d, tk, os⟩ := s
    obtain ⟨h1, h⟩ := h
    have sb := sub_enumerate
    have it0 : ∀ {A' : Around} {E : Value → Shared → Prop} {Q : Value → Shared → Prop}, Q (.ref hp.objs.size) ⟨hp.push o, g, d, tk, os⟩ → wpAny (model prog w) A' (pyIter v) Q E ⟨hp, g, d, tk, os⟩ := fun q => B.iter prog w _ _ ⟨hp, g, d, tk, os⟩ _ h1 q
    wp_walk using it0
    refine wpAny_stack_any fun st => wpAny_pure ?_
    split
    · rename_i c _ _ _ _ _
      cases (c == Value.type "enumerate") <;> (wp_walk using it0; exact ⟨_, rfl, h⟩)
    · wp_walk using it0
      exact ⟨_, rfl, h⟩
theorem call_enumT {prog : Program} {w : World} {A : Around} {E : Value → Shared → Prop} {s : Shared} {a : Addr} {items : Array Value} {Q : Value → Shared → Prop} (hT : s.heap.IsTuple a items)
    (h : ∀ h', IsEnum h' (s.heap.objs.size + 1) s.heap.objs.size 0 .none → h'.IsTupleIter s.heap.objs.size a 0 → (∀ b o, s.heap.get? b = some o → h'.get? b = some o) → Q (.ref (s.heap.objs.size + 1)) { s with heap := h' }) :
    wpAny (model prog w) A (call (.type "enumerate") [.ref a]) Q E s := by
  have B := begins_tuple a items
  refine callType_new F.called_enumerate (by decide) (F.typeCall_enumerate_1 _) (F.newCall_enumerate_1 _) (fun obj => F.args_object_init_2 obj _) F.entry_enumerate_new (enumT_new B) ⟨hT, ?_⟩
  generalize ho : ({ cls := .type "tuple_iterator", data := .fields #[.ref a, .int 0 0] } : Obj) = o at B
  have hz : (s.heap.push o).objs.size = s.heap.objs.size + 1 := Heap.size_push ..
  have free : o.isFreed = false := B.free
  have he : IsEnum ((s.heap.push o).push { cls := .type "enumerate", data := .fields #[.none, .bool false, .ref s.heap.objs.size, rawInt 0, .none, .none] }) (s.heap.objs.size + 1) s.heap.objs.size 0 .none := by
    have z := Heap.get?_push_size (s.heap.push o) (o := { cls := .type "enumerate", data := .fields #[.none, .bool false, .ref s.heap.objs.size, rawInt 0, .none, .none] }) rfl
    rw [hz] at z
    exact z
  show _ ∧ _
  rw [hz]
  refine ⟨⟨_, he, rfl⟩, h _ he ⟨o, Heap.get?_push_of_some _ (Heap.get?_push_size _ free), ?_, ?_⟩ fun b o x => Heap.get?_push_of_some _ (Heap.get?_push_of_some _ x)⟩
  · rw [← ho]
  · rw [← ho]; rfl
/-- the tuple at a, each item in a new pair behind its number -/
def IteT (K : Fr) (a : Addr) (n : Nat) : It :=
  ⟨fun i H => i < n ∧ ∃ xs x, SqT K H a xs ∧ xs[i]? = some x, fun i H v H' => ∃ T x, v = .ref T ∧ H T = none ∧ H' = upd H T (.tup [.int (i : Nat), x]) ∧ ∀ xs, SqT K H a xs → xs[i]? = some x, fun i H => n ≤ i ∧ ∃ xs, SqT K H a xs ∧ xs.length = n⟩
theorem turn_enumT {P : Program} {w : World} {K : Fr} {elts : List Expr} {kk : Nat} {tpos : Pos} (a e it : Addr) (n : Nat) :
    Turn P w K (.Tuple elts kk tpos) (IteT K a n) [e, it] e (fun i h => i ≤ n ∧ (∃ old, IsEnum h e it ((i : Nat) : Int) old) ∧ h.IsTupleIter it a i ∧ e ≠ it ∧ e ≠ a ∧ a ≠ it) where
  mem := by simp
  obj := fun i h st b hb => by
    obtain ⟨_, ⟨old, he⟩, ⟨o, ho, hc, hd⟩, _⟩ := st
    simp only [List.mem_cons, List.not_mem_nil, or_false] at hb
    rcases hb with rfl | rfl
    · exact ⟨_, he, fun v q => nomatch q⟩
    · exact ⟨o, ho, fun v q => by rw [hd] at q; cases q⟩
  keep := fun i h h' st k => by
    obtain ⟨hn, ⟨old, he⟩, hi, hne⟩ := st
    exact ⟨hn, ⟨old, k e (by simp) _ he⟩, hi.at fun o q => k it (by simp) o q, hne⟩
  item := by
    intro X hP hw hK hc i pins s σ H E I hf st hg
    subst hP hw hK
    obtain ⟨_, ⟨old, he⟩, hit, hne, hea, hai⟩ := st
    obtain ⟨hin, xs, x, hq, hx⟩ := hg
    obtain ⟨its, rv, p, hz⟩ := I.tuple hq
    obtain ⟨u, hu, ru⟩ := rv.get hx
    have hi : i < its.toArray.size := by
      have := (List.getElem?_eq_some_iff.mp hu).1
      simpa using this
    have hel : e < s.heap.objs.size := Heap.lt_size he
    have hil : it < s.heap.objs.size := by obtain ⟨_, q, _⟩ := hit; exact Heap.lt_size q
    refine wpAny_pyNext_enum_itemC (Draws.tuple (A := X.A.in1) (I.ok.hd hc) it a hai its.toArray) he ⟨hit, p⟩ hi hne (by simp [hne, hea]) fun x' h' tk hxp ho hst hT hsz hk => ?_
    have ex : x' = u := by
      have z : its.toArray[i]? = some u := by simpa using hu
      rw [z] at hxp
      exact (Option.some.inj hxp).symm
    subst ex
    refine ⟨_, rfl, wpAny_letOwnedTupleGo_enum (s := { s with heap := h', toks := tk + 1 }) ho fun h'' he' sb => ?_⟩
    have hT2 : h''.get? s.heap.objs.size = some { cls := .type "tuple", data := .seq #[.int i tk, x'] } := (sb.2 _ (Nat.ne_of_gt hel)).trans hT
    have new : ObjOk X.prog X.w (upd H s.heap.objs.size (.tup [.int (i : Nat), x])) h'' s.heap.objs.size (.tup [.int (i : Nat), x]) :=
      ⟨by show 2 ≤ sizeLine; decide, [.int i tk, x'], .cons ⟨_, rfl⟩ (.cons ru .nil), ⟨_, hT2, rfl, _, rfl⟩⟩
    have I1 : Inv X pins σ (upd H s.heap.objs.size (.tup [.int (i : Nat), x])) { s with heap := h'', toks := tk + 1 } :=
      I.turnedNew (ch := [e, it]) (fun b ob hb q => by
        simp only [List.mem_cons, List.not_mem_nil, or_false, not_or] at hb
        exact (sb.2 b hb.1).trans (hk b ob hb.1 hb.2 q)) hf (Nat.le_refl _) new
    refine ⟨.ref s.heap.objs.size, _, I1, rfl, ⟨_, x, rfl, I.hok.fresh (Nat.le_refl _), rfl, fun ys hy => ?_⟩, ⟨hin, ⟨x', ?_⟩, hst.1.at fun o q => (sb.2 it (Ne.symm hne)).trans q, hne, hea, hai⟩, fun b hb => ?_⟩
    · rw [I.tuple_inj hy hq]; exact hx
    · have e1 : ((i + 1 : Nat) : Int) = (i : Int) + 1 := by omega
      rw [e1]; exact he'
    · have hb' : b < s.heap.objs.size := by
        simp only [List.mem_cons, List.not_mem_nil, or_false] at hb
        rcases hb with rfl | rfl
        · exact hel
        · exact hil
      rw [upd_ne (Nat.ne_of_lt hb')]
      exact (hf b hb).1
  done := by
    intro X hP hw hK hc i pins s σ H E I hf st hg
    subst hP hw hK
    obtain ⟨hle, ⟨old, he⟩, hit, hne, hea, hai⟩ := st
    obtain ⟨hge, xs, hq, hx⟩ := hg
    obtain ⟨its, rv, p, hz⟩ := I.tuple hq
    obtain ⟨f0, f1, f2, f3, f4, f5⟩ := hf it (by simp)
    have hl := rv.length
    have hii : i = its.toArray.size := by
      rw [List.size_toArray]
      omega
    rw [hii] at hit
    exact wpAny_pyNext_enum_endD (Draws.tuple (A := X.A.in1) (I.ok.hd hc) it a hai its.toArray) he ⟨hit, p⟩ fun h' eb => ⟨rfl, I.turned (t' := s.toks) (fun b o hb q => eb b o hb q) f0 f1 f3 f4 f5⟩
  self := fun A i s Q E st h => by
    obtain ⟨_, ⟨_, he⟩, _⟩ := st
    exact wpAny_pyIter_enum he h
def iEnumA (K : Fr) (ta : TA) : TI := fun σ H R => ta σ H fun vs H1 => ∃ a xs, vs = [.ref a] ∧ SqT K H1 a xs ∧ R (IteT K a xs.length) H1
theorem pi_enumA {X : Cx} {e : Expr} {ta : TA} {p pos tpos : Pos} {elts : List Expr} {kk : Nat} (hg : Gl X "enumerate") (hm : X.mg "enumerate" = none) (ha : PA X [e] ta) (hs : starEach [e] X.env = [(false, eval e X.env)] := by rfl) :
    PI X (.Tuple elts kk tpos) (.Call (.Name "enumerate" p) [e] [] pos) (iEnumA X.K ta) := by
  refine ⟨fun pins s σ H R I h => ?_⟩
  refine Call_ (ld_blt I hg hm boot_enumerate (PyProof.Rows.callWith_type1 (thn (ha.run pos pins s σ H _ I h) fun us s1 ⟨vs, H1, I1, r1, q1⟩ => ?_) hs rfl))
  obtain ⟨a, xs, ex, hq, q⟩ := q1
  subst ex
  obtain ⟨u, eu, rx⟩ := vals1 r1
  subst eu
  cases rx
  obtain ⟨its, rv, p', hz⟩ := I1.tuple hq
  refine call_enumT p' fun h' he hit hk => wpAny_pyIter_enum he ?_
  have I2 : Inv X pins σ H1 { s1 with heap := h' } := I1.kept (t' := s1.toks) hk
  have al : a < s1.heap.objs.size := p'.lt
  refine ⟨s1.heap.objs.size + 1, [s1.heap.objs.size + 1, s1.heap.objs.size], _, _, H1, rfl, I2, turn_enumT a (s1.heap.objs.size + 1) s1.heap.objs.size xs.length, ⟨Nat.zero_le _, ⟨.none, he⟩, hit, Nat.succ_ne_self _, Nat.ne_of_gt (Nat.lt_succ_of_lt al), Nat.ne_of_lt al⟩, fun b hb => ?_, q⟩
  have hle : s1.heap.objs.size ≤ b := by
    simp only [List.mem_cons, List.not_mem_nil, or_false] at hb
    rcases hb with rfl | rfl
    · exact Nat.le_succ _
    · exact Nat.le_refl _
  exact I1.fpOk hle (I1.hok.fresh hle)
/-- number and item -/
def enumD (ds : List D) : List D := ds.zipIdx.map fun p => .tuple [.int (p.2 : Nat), p.1]
theorem enumD_get {ds : List D} {i : Nat} {d : D} (h : (enumD ds)[i]? = some d) : ∃ x, ds[i]? = some x ∧ d = .tuple [.int (i : Nat), x] := by
  unfold enumD at h
  rw [List.getElem?_map, List.getElem?_zipIdx] at h
  obtain ⟨p, ep, ed⟩ := Option.map_eq_some_iff.mp h
  obtain ⟨x, ex, e2⟩ := Option.map_eq_some_iff.mp ep
  subst e2
  exact ⟨x, ex, by rw [← ed]; simp⟩
theorem enumD_len (ds : List D) : (enumD ds).length = ds.length := by simp [enumD]
theorem rp_numbered {K : Fr} {H : Hp} {Xs : List Addr} {T : Addr} {i : Nat} {y : D} {w : V} (hT : H T = none) (hy : Rp K H Xs y w) : RpW true K (upd H T (.tup [.int (i : Nat), w])) Xs (.tuple [.int (i : Nat), y]) (.ref T) :=
  .inr ⟨[.int (i : Nat), y], T, [.int (i : Nat), w], rfl, rfl, .inl (.inl upd_same), RpA.laid hT ⟨.int (i : Nat), [w], rfl, rfl, w, [], rfl, hy, rfl⟩⟩
theorem walks_enumT {K : Fr} {a : Addr} {ds : List D} : Walks true K (IteT K a ds.length) [(.tuple ds, .ref a)] (enumD ds) := by
  intro Xs i H ht hx
  obtain ⟨a', vs, ea, hf, ra⟩ := ht _ List.mem_cons_self
  cases ea
  refine ⟨fun d e => ?_, fun hl => ⟨by rw [enumD_len] at hl; exact hl, vs, hf.sq, ra.len⟩⟩
  obtain ⟨x, e1, ed⟩ := enumD_get e
  subst ed
  obtain ⟨v, ev, pv⟩ := ra.get e1
  refine ⟨⟨(List.getElem?_eq_some_iff.mp e1).1, vs, v, hf.sq, ev⟩, fun z H' hy => ?_⟩
  obtain ⟨T, x', ez, hT, eH, h1⟩ := hy
  have q1 := h1 vs hf.sq
  rw [ev] at q1
  cases q1
  subst ez eH
  exact ⟨Stay.laid hT, rp_numbered hT pv⟩
def evEnumT (a : Ev) : Evs := fun s => (a s).bind fun d s1 => match d with
  | .tuple xs => .ok (enumD xs) s1
  | _ => .no
section
variable {cl : Nat → Addr} {X : Cx} {W : WX} {m : Bool} {e : Expr} {ev : Ev} {pos p tpos : Pos} {elts : List Expr} {kk : Nat}
theorem si_enumT (hg : Gl X "enumerate") (hm : X.mg "enumerate" = none) (h : SE cl X W m e ev) (hs : starEach [e] X.env = (false, eval e X.env) :: starEach [] X.env := by rfl) : SI cl X W m true (.Tuple elts kk tpos) (.Call (.Name "enumerate" p) [e] [] pos) (evEnumT ev) :=
  pi_imp (pi_enumA hg hm (pa_cons h pa_nil hs) hs) fun σ H R ⟨fm, Xs, os, s, r, g⟩ => by
    unfold evEnumT at g
    refine ⟨fm, Xs, os, s, r, ?_⟩
    cases q : ev s with
    | ok d s1 =>
      rw [q] at g
      simp only [Out.bind_ok] at g
      refine fun v1 H1 r1 st1 p1 => ?_
      cases d with
      | tuple xs =>
        obtain ⟨a, vs, ea, hf, ra⟩ := id p1
        subst ea
        refine ⟨a, vs, rfl, hf.sq, ?_⟩
        rw [ra.len]
        exact g _ H1 [(.tuple xs, .ref a)] r1 st1 (fun q hq => by rw [List.mem_singleton.mp hq]; exact p1) walks_enumT
      | _ => exact g.elim
    | exc c t s1 => rw [q] at g; exact g
    | no => rw [q] at g; exact g.elim
end
/-! ### targets within targets -/
/-- a target: a name, or targets -/
inductive Tg where
  | n (i : Nat)
  | t (ts : List Tg)
mutual
def tgX : Tg → D → Ms → Option Ms
  | .n i, d, s => some { s with env := s.env.set i (.fz d) }
  | .t ts, d, s => match d with
    | .tuple ds => tgXs ts ds s
    | _ => none
def tgXs : List Tg → List D → Ms → Option Ms
  | [], [], s => some s
  | t :: ts, d :: ds, s => (tgX t d s).bind fun s1 => tgXs ts ds s1
  | _, _, _ => none
end
mutual
def slX : Tg → List Nat
  | .n i => [i]
  | .t ts => slXs ts
def slXs : List Tg → List Nat
  | [] => []
  | t :: ts => slX t ++ slXs ts
end
mutual
def gX (K : Fr) : Tg → TG
  | .n i => gName i
  | .t ts => gTup K ts.length (gXs K ts)
def gXs (K : Fr) : List Tg → TGs
  | [] => gNil
  | t :: ts => gCons (gX K t) (gXs K ts)
end
theorem tgXs_len : ∀ (ts : List Tg) (ds : List D) (s s' : Ms), tgXs ts ds s = some s' → ds.length = ts.length
  | [], [], _, _, _ => rfl
  | [], _ :: _, _, _, e => by simp [tgXs] at e
  | _ :: _, [], _, _, e => by simp [tgXs] at e
  | t :: ts, d :: ds, s, s', e => by
    simp only [tgXs] at e
    obtain ⟨s1, e1, e2⟩ := Option.bind_eq_some_iff.mp e
    simp [tgXs_len ts ds s1 s' e2]
section
variable {K : Fr} {fm : Fm} {Xs : List Addr} {os : List (Nat × Addr)} {H : Hp} {vs : List Nat} {σ0 : L2.St}
mutual
theorem gX_sem : ∀ (t : Tg) (d : D) (x : V) (s s' : Ms) (σ : L2.St) (Q : L2.St → Hp → Prop), (∀ i ∈ slX t, i ∈ vs) → Rel K fm Xs os s σ H → Rp K H Xs d x → wipe σ vs = wipe σ0 vs → tgX t d s = some s' →
    (∀ σ', Rel K fm Xs os s' σ' H → wipe σ' vs = wipe σ0 vs → Q σ' H) → gX K t x σ H Q
  | .n i, d, x, s, s', σ, Q, hm, r, p, hw, e, q => by
    simp only [tgX] at e
    cases e
    simp only [gX]
    exact q _ (r.setfz0 p) (by rw [wipe_set (hm i (by simp [slX]))]; exact hw)
  | .t ts, d, x, s, s', σ, Q, hm, r, p, hw, e, q => by
    cases d with
    | tuple ds =>
      simp only [tgX] at e
      obtain ⟨a, ws, ea, hf, ra⟩ := p
      simp only [gX]
      have hl : ws.length = ts.length := by rw [ra.len]; exact tgXs_len ts ds s s' e
      exact ⟨a, ws, ea, hf.sq, hl, gXs_sem ts ds ws s s' σ Q (by simpa [slX] using hm) r ra hw e q⟩
    | _ => simp [tgX] at e
theorem gXs_sem : ∀ (ts : List Tg) (ds : List D) (ws : List V) (s s' : Ms) (σ : L2.St) (Q : L2.St → Hp → Prop), (∀ i ∈ slXs ts, i ∈ vs) → Rel K fm Xs os s σ H → RpA K H Xs ds ws → wipe σ vs = wipe σ0 vs → tgXs ts ds s = some s' →
    (∀ σ', Rel K fm Xs os s' σ' H → wipe σ' vs = wipe σ0 vs → Q σ' H) → gXs K ts ws σ H Q
  | [], ds, ws, s, s', σ, Q, hm, r, ra, hw, e, q => by
    cases ds with
    | nil =>
      simp only [tgXs] at e
      cases e
      cases ra
      simp only [gXs]
      exact ⟨rfl, q σ r hw⟩
    | cons d ds => simp [tgXs] at e
  | t :: ts, ds, ws, s, s', σ, Q, hm, r, ra, hw, e, q => by
    cases ds with
    | nil => simp [tgXs] at e
    | cons d ds =>
      simp only [tgXs] at e
      obtain ⟨s1, e1, e2⟩ := Option.bind_eq_some_iff.mp e
      obtain ⟨v, w, ew, p, t'⟩ := ra
      subst ew
      simp only [gXs]
      refine ⟨v, w, rfl, gX_sem t d v s s1 σ _ (fun i hi => hm i (by simp [slXs, hi])) r p hw e1 fun σ1 r1 hw1 => ?_⟩
      exact gXs_sem ts ds w s1 s' σ1 Q (fun i hi => hm i (by simp [slXs, hi])) r1 t' hw1 e2 q
end
end
theorem tgX_sem {u : Bool} {K : Fr} {ts : List Tg} {vs : List Nat} (h : ∀ i ∈ slXs ts, i ∈ vs) : TgSem u K (gX K (.t ts)) vs (tgX (.t ts)) := by
  intro fm Xs os s s' σ H d x Q r p e q
  cases d with
  | tuple ds =>
    simp only [tgX] at e
    obtain ⟨a, ws, ea, hf, ra⟩ := p.tuple
    simp only [gX]
    have hl : ws.length = ts.length := by rw [ra.len]; exact tgXs_len ts ds s s' e
    exact ⟨a, ws, ea, hf, hl, gXs_sem (σ0 := σ) ts ds ws s s' σ Q h r ra rfl e q⟩
  | _ => simp [tgX] at e
end Zo
/-! ZW4: dict comprehensions; walks over the empty dict; d.update([]). -/
namespace Zo
open PySem PySem.Spec PyProof.Rows L2
def dcompGo (vs : List Nat) (tgt : D → Ms → Option Ms) (cond : Ms → Out Bool) (kx vx : Ev) : List D → List (Key × D) → Ms → Out (List (Key × D))
  | [], acc => fun s => .ok acc s
  | d :: ds, acc => fun s => match tgt d s with
    | none => .no
    | some s1 => match cond s1 with
      | .ok k s2 => if k = true then (match kx s2 with
          | .ok y s3 => (match keyOf y with
            | some kk => (match vx s3 with
              | .ok z s4 => if acc.length < 1000000 then dcompGo vs tgt cond kx vx ds (putG acc kk z) (forgetS vs s4) else .no
              | _ => .no)
            | none => .no)
          | _ => .no)
        else dcompGo vs tgt cond kx vx ds acc (forgetS vs s2)
      | _ => .no
def evDComp (vs : List Nat) (src : Evs) (tgt : D → Ms → Option Ms) (cond : Ms → Out Bool) (kx vx : Ev) : Ev := fun s => (src s).bind fun ds s1 => (dcompGo vs tgt cond kx vx ds [] (forgetS vs s1)).bind fun acc s2 => if unmD (dictOf acc) = true then .ok (dictOf acc) s2 else .no
section
variable {cl : Nat → Addr} {X : Cx} {W : WX} {m : Bool} {e : Expr}
def GoodG (K : Fr) (cl : Nat → Addr) (W : WX) (m : Bool) (fm : Fm) (Xs : List Addr) (os : List (Nat × Addr)) (σ : L2.St) (H : Hp) (Q : VK) : Out (List (Key × D)) → Prop
  | .ok acc s' => unmD (dictOf acc) = true ∧ ∀ p kv H1, Rel K fm (p :: Xs) os s' σ H1 → Stay (Mu fm.dka os m) H H1 → Frsh fm Xs os p → H1 p = some (.dK kv) → RG K H1 (p :: Xs) acc kv → Q (.ref p) H1
  | _ => False
theorem RG.len {K : Fr} {H : Hp} {Xs : List Addr} : ∀ {a : List (Key × D)} {b : List (Key × V)}, RG K H Xs a b → b.length = a.length
  | [], _, h => by cases h; rfl
  | (k, d) :: r, _, h => by
    obtain ⟨v, t, e, p, q⟩ := h
    subst e
    simp [RG.len q]
theorem tdc_of {u : Bool} {g : TG} {vs : List Nat} {src : Evs} {tgt : D → Ms → Option Ms} {cond : Ms → Out Bool} {kx vx : Ev} (ht : TgSem u X.K g vs tgt) : ∀ (σ : L2.St) (H : Hp) (Q : VK), tE X.K cl W m (evDComp vs src tgt cond kx vx) σ H Q → tDc (tI X.K cl W m u src) g (tT X.K cl W0 m cond) (tE X.K cl W0 m kx) (tE X.K cl W0 m vx) vs σ H Q :=
  fun σ H Q ⟨fm, Xs, os, s, R, gg⟩ => by
    unfold evDComp at gg
    refine ⟨fm, Xs, os, s, R, ?_⟩
    cases q : src s with
    | ok ds s1 =>
      rw [q] at gg
      simp only [Out.bind_ok] at gg
      intro J H1 tmp r1 st1 htm hw Dl hD
      have gg : GoodG X.K cl W m fm Xs os σ H Q (dcompGo vs tgt cond kx vx ds [] (forgetS vs s1)) := by
        cases q2 : dcompGo vs tgt cond kx vx ds [] (forgetS vs s1) with
        | ok acc s2 =>
          rw [q2] at gg
          simp only [Out.bind_ok] at gg
          split at gg
          case isFalse => exact gg.elim
          rename_i hu
          refine ⟨hu, fun p kv H1 r1 st fr hp rg => gg (.ref p) _ (r1.lessX fr.no fr.nd fr.n0 fr.nx) st ?_⟩
          exact ⟨p, kv, rfl, .inl ⟨hu, hp, fr.nx⟩, (RG.less (fun d v h => Rp.less (fun x h => List.mem_cons_of_mem _ h) d v h) rg).toK⟩
        | exc c t s2 =>
          rw [q2] at gg
          exact (dcomp_noexc ds [] _ q2).elim
        | no => rw [q2] at gg; exact gg
      have fr := r1.frsh hD
      have nMu : Dl ∉ Mu fm.dka os m := fun z => fr.nx (Mu.sub r1 m Dl z)
      have hDH : H Dl = none := by
        cases e : H Dl with
        | none => rfl
        | some o => rw [st1 Dl o e nMu] at hD; cases hD
      have r2 : Rel X.K { fm with tmp := tmp ++ fm.tmp } (Dl :: Xs) os (forgetS vs s1) (wipe σ vs) (upd H1 Dl (.dK [])) := (((r1.holds tmp htm).laidO (o := .dK []) hD).forgets vs).wiped wipe_wipe
      refine ⟨fun i k H2 => i ≤ ds.length ∧ k = ds.length - i ∧ ∃ s2 acc kv, Rel X.K { fm with tmp := tmp ++ fm.tmp } (Dl :: Xs) os (forgetS vs s2) (wipe σ vs) H2 ∧ Stay (Mu fm.dka os m) H H2 ∧ H2 Dl = some (.dK kv) ∧ RG X.K H2 (Dl :: Xs) acc kv ∧
        GoodG X.K cl W m fm Xs os σ H Q (dcompGo vs tgt cond kx vx (ds.drop i) acc (forgetS vs s2)), ⟨_, Nat.zero_le _, rfl, s1, [], [], r2, st1.trans (Stay.laid hD), upd_same, rfl, gg⟩, ?_⟩
      rintro i k H2 ⟨hle, hk, s2, acc, kv, r, st, hDl, ra, g⟩
      obtain ⟨hgo, hstop⟩ := hw (Dl :: Xs) i H2 (fun p hp => r.tm p (List.mem_append_left _ hp)) r.xt
      by_cases hlt : i < ds.length
      · rw [List.drop_eq_getElem_cons hlt] at g
        obtain ⟨go, yl⟩ := hgo _ (List.getElem?_eq_getElem hlt)
        refine .inr ⟨go, fun H2 => ∃ s2 acc kv, Rel X.K { fm with tmp := tmp ++ fm.tmp } (Dl :: Xs) os (forgetS vs s2) (wipe σ vs) H2 ∧ Stay (Mu fm.dka os m) H H2 ∧ H2 Dl = some (.dK kv) ∧ RG X.K H2 (Dl :: Xs) acc kv ∧
          GoodG X.K cl W m fm Xs os σ H Q (dcompGo vs tgt cond kx vx (ds.drop (i + 1)) acc (forgetS vs s2)), fun H' z => ⟨ds.length - (i + 1), by omega, hlt, rfl, z⟩, fun x H3 hy => ?_⟩
        obtain ⟨st3, px⟩ := yl x H3 hy
        have r3 := r.stay st3
        have hD3 := st3 _ _ hDl (by simp)
        have ra3 : RG X.K H3 (Dl :: Xs) acc kv := RG.less (fun d v h => Rp.stay st3 (fun a h => absurd h (by simp)) d v h) ra
        have sA := st.trans st3.any
        unfold dcompGo at g
        cases q2 : tgt ds[i] (forgetS vs s2) with
        | none => rw [q2] at g; exact g.elim
        | some s4 =>
          rw [q2] at g
          dsimp only at g
          refine ht _ (Dl :: Xs) os _ s4 _ H3 _ x _ r3 px q2 fun σ4 r4 hw4 => ?_
          have hw4' : wipe σ4 vs = wipe σ vs := by rw [hw4, wipe_wipe]
          refine ⟨hw4', _, Dl :: Xs, os, s4, r4, ?_⟩
          cases q3 : cond s4 with
          | ok b s5 =>
            rw [q3] at g
            dsimp only at g
            intro H5 r5 st5
            have hD5 := st5 _ _ hD3 nMu
            have ra5 : RG X.K H5 (Dl :: Xs) acc kv := RG.less (fun d v h => Rp.stay st5 (Mu.sub r4 m) d v h) ra3
            cases b with
            | true =>
              rw [if_pos rfl] at g ⊢
              refine ⟨_, Dl :: Xs, os, s5, r5, ?_⟩
              cases q4 : kx s5 with
              | ok y s6 =>
                rw [q4] at g
                dsimp only at g
                intro v H6 r6 st6 p6
                refine ⟨_, Dl :: Xs, os, s6, r6, ?_⟩
                cases q5 : keyOf y with
                | none => rw [q5] at g; exact g.elim
                | some kk =>
                  rw [q5] at g
                  dsimp only at g
                  cases q6 : vx s6 with
                  | ok z s7 =>
                    rw [q6] at g
                    dsimp only at g
                    intro w H7 r7 st7 p7
                    split at g
                    · rename_i hl
                      have hD7 := st7 _ _ (st6 _ _ hD5 nMu) nMu
                      have ra7 : RG X.K H7 (Dl :: Xs) acc kv := RG.less (fun d v h => Rp.stay st7 (Mu.sub r6 m) d v (Rp.stay st6 (Mu.sub r5 m) d v h)) ra5
                      have ek := kV_of (os := []) (.inl p6) q5
                      refine ⟨kv, kk, ek, hD7, by rw [ra7.len]; exact line1M hl, s7, putG acc kk z, putK kv kk w, ?_, ?_, upd_same, ?_, g⟩
                      · have a := r7.putXO (u1 := .dK (putK kv kk w)) List.mem_cons_self fr.no fr.nd fr.n0 hD7 trivial
                        refine (a.forgets vs).wiped ?_
                        rw [wipe_wipe, hw4']
                      · have sB := ((sA.trans st5).trans st6).trans st7
                        intro a o h n
                        have na : a ≠ Dl := fun e => by rw [e, hDH] at h; cases h
                        rw [upd_ne na]
                        exact sB a o h n
                      · exact RG.less (fun d v h => Rp.stay (M := [Dl]) (Stay.put List.mem_cons_self) (fun a h => by rw [List.mem_singleton.mp h]; exact List.mem_cons_self) d v h) (ra7.put p7)
                    · exact g.elim
                  | exc c t s7 => rw [q6] at g; exact g.elim
                  | no => rw [q6] at g; exact g.elim
              | exc c t s6 => rw [q4] at g; exact g.elim
              | no => rw [q4] at g; exact g.elim
            | false =>
              rw [if_neg Bool.false_ne_true] at g ⊢
              refine ⟨s5, acc, kv, ?_, sA.trans st5, hD5, ra5, g⟩
              refine (r5.forgets vs).wiped ?_
              rw [wipe_wipe, hw4']
          | exc c t s5 => rw [q3] at g; exact g.elim
          | no => rw [q3] at g; exact g.elim
      · have e : i = ds.length := by omega
        subst e
        rw [List.drop_length] at g
        refine .inl ⟨hstop (Nat.le_refl _), ?_⟩
        exact g.2 Dl kv H2 (r.drops.wiped wipe_wipe.symm) st fr hDl ra
    | exc c t s1 => rw [q] at gg; exact gg
    | no => rw [q] at gg; exact gg.elim
where
  dcomp_noexc {vs : List Nat} {tgt : D → Ms → Option Ms} {cond : Ms → Out Bool} {kx vx : Ev} {c : Nat} {t : D} {s2 : Ms} : ∀ (ds : List D) (acc : List (Key × D)) (s : Ms), dcompGo vs tgt cond kx vx ds acc s = .exc c t s2 → False
    | [], acc, s, h => by simp [dcompGo] at h
    | d :: ds, acc, s, h => by
      simp only [dcompGo] at h
      split at h
      · cases h
      · split at h
        · split at h
          · split at h
            · split at h
              · split at h
                · split at h
                  · exact dcomp_noexc ds _ _ h
                  · cases h
                · cases h
              · cases h
            · cases h
          · exact dcomp_noexc ds _ _ h
        · cases h
theorem se_dcomp {u : Bool} {g : TG} {vs : List Nat} {src : Evs} {tgt : D → Ms → Option Ms} {cond : Ms → Out Bool} {kx vx : Ev} (ht : TgSem u X.K g vs tgt) (hP : PE X e (tDc (tI X.K cl W m u src) g (tT X.K cl W0 m cond) (tE X.K cl W0 m kx) (tE X.K cl W0 m vx) vs)) : SE cl X W m e (evDComp vs src tgt cond kx vx) := pe_imp hP (tdc_of ht)
end
end Zo
/-! ZW5: a dict comprehension over the empty dict; d.update([]). -/
namespace Zo
open PySem PySem.Spec PyProof.Rows L2
theorem upd_id {H : Hp} {a : Addr} {o : HO} (h : H a = some o) : upd H a o = H := by
  funext b
  by_cases e : b = a
  · rw [e, upd_same, h]
  · rw [upd_ne e]
def evD0 (i : Nat) : Ev := fun s => match s.env[i]? with
  | some (.fz (.dict [])) => .ok (.dict []) s
  | _ => .no
section
variable {cl : Nat → Addr} {X : Cx} {W : WX} {m : Bool} {e e2 : Expr} {ev : Ev}
theorem tdc0_of {g : TG} {cond : Ms → Out Bool} {kx vx : Ev} {vs : List Nat} (i : Nat) : ∀ (σ : L2.St) (H : Hp) (Q : VK), tE X.K cl W m (evD0 i) σ H Q → tLockE (tDc (iKeys (tVar i)) g (tT X.K cl W0 true cond) (tE X.K cl W0 true kx) (tE X.K cl W0 true vx) vs) σ H Q :=
  fun σ H Q ⟨fm, Xs, os, s, R, gg⟩ => by
    unfold evD0 at gg
    split at gg
    case h_2 => exact gg.elim
    rename_i q0
    obtain ⟨v, e1, p1⟩ := R.slot i _ q0
    obtain ⟨a, kvs, ev, ha, ax, ra⟩ := Rp.dict p1 rfl
    cases ra
    subst ev
    refine ⟨a, _, ha, trivial, fun od => ?_⟩
    refine ⟨.ref a, join_some e1, a, od, rfl, .inl ⟨[], upd_same, ?_⟩⟩
    intro D hD
    have hDa : a ≠ D := fun e => by rw [← e, upd_same] at hD; cases hD
    have hDH : H D = none := by rw [upd_ne hDa.symm] at hD; exact hD
    refine ⟨fun i m H2 => i = 0 ∧ H2 = upd (upd H a (.frz od (.dK []))) D (.dK []), ⟨0, rfl, rfl⟩, ?_⟩
    rintro i m H2 ⟨rfl, rfl⟩
    refine .inl ⟨⟨by rw [upd_ne hDa, upd_same], Nat.le_refl _⟩, by rw [upd_ne hDa, upd_same], ?_⟩
    have eH : upd (upd (upd H a (.frz od (.dK []))) D (.dK [])) a (.dK []) = upd H D (.dK []) := by
      funext b
      by_cases e1 : b = a
      · subst e1
        rw [upd_same, upd_ne hDa, ha]
      · rw [upd_ne e1]
        by_cases e2 : b = D
        · subst e2; rw [upd_same, upd_same]
        · rw [upd_ne e2, upd_ne e2, upd_ne e1]
    rw [eH]
    exact gg (.ref D) _ (R.laid hDH) (Stay.laid hDH) ⟨D, [], rfl, .inl ⟨rfl, upd_same, R.nx hDH⟩, rfl⟩
theorem se_dcomp0 {g : TG} {cond : Ms → Out Bool} {kx vx : Ev} {vs : List Nat} (i : Nat) (hP : PE X e (tDc (iKeys (tVar i)) g (tT X.K cl W0 true cond) (tE X.K cl W0 true kx) (tE X.K cl W0 true vx) vs)) : SE cl X W m e (evD0 i) := pe_imp (pe_lock hP) (tdc0_of i)
/-! ### x = {.. for ..} -/
theorem set_asg {i : Nat} {Dn : Ends} {σ : L2.St} {H : Hp} (h : tS X.K cl W (setS i ev) Dn σ H) : tE X.K cl W m ev σ H fun x H1 => gName i x σ H1 Dn.nx := by
  obtain ⟨fm, Xs, os, s, r, g⟩ := h
  unfold setS at g
  refine ⟨fm, Xs, os, s, r, ?_⟩
  cases q : ev s with
  | ok d s1 =>
    rw [q] at g
    simp only [Out.bind_ok] at g
    exact fun v H1 r1 st1 p1 => g Xs _ _ H1 (r1.setfz p1)
  | exc c t s1 => rw [q] at g; exact g Xs os σ
  | no => rw [q] at g; exact g.elim
theorem ss_setD {st : Stmt} {u : Bool} {g : TG} {vs : List Nat} {src : Evs} {tgt : D → Ms → Option Ms} {cond : Ms → Out Bool} {kx vx : Ev} {i : Nat} (ht : TgSem u X.K g vs tgt) (hP : PS X st (tAsg (tDc (tI X.K cl W m u src) g (tT X.K cl W0 m cond) (tE X.K cl W0 m kx) (tE X.K cl W0 m vx) vs) (gName i))) : SS cl X W st (setS i (evDComp vs src tgt cond kx vx)) := ps_imp hP fun Dn σ H h => tdc_of ht σ H _ (set_asg h)
theorem ss_setD0 {st : Stmt} {g : TG} {cond : Ms → Out Bool} {kx vx : Ev} {vs : List Nat} {i : Nat} (j : Nat) (hP : PS X st (tAsg (tDc (iKeys (tVar j)) g (tT X.K cl W0 true cond) (tE X.K cl W0 true kx) (tE X.K cl W0 true vx) vs) (gName i))) : SS cl X W st (setS i (evD0 j)) := ps_imp (ps_lock hP) fun Dn σ H h => tdc0_of j σ H _ (set_asg (m := false) h)
theorem ps_setDc {i : Nat} {y : Str} {py : Pos} {kx vx tg iter : Expr} {ifs : List Expr} {scope : Scope} {own : List (Str × Nat)} {pos spos : Pos} {wi : TI} {g : TG} {tt : TT} {tk tv : TE} (hc : X.calm = true) (hN : X.N.Nodup) (hy : X.N[i]? = some y) (hyl : X.env.scope.names.lookup y = some .local)
    (hsw : swapsWith (.DictComp kx vx [⟨tg, iter, ifs, 0⟩] scope pos) (some (.Name y py)) spos.line X.env = pure true) (hi : PI X tg iter wi) (ok : BlkOk X.N X.env.scope scope own)
    (hg : ∀ (s : Shared) (H : Hp) (C : Addr) (cl : List (Str × Addr)) (fp : List Addr), PG (X.blk s H scope (compEnvC scope cl C X.env) fp) tg g) (ht : ∀ (s : Shared) (H : Hp) (C : Addr) (cl : List (Str × Addr)) (fp : List Addr), PTs (X.blk s H scope (compEnvC scope cl C X.env) fp) ifs tt)
    (hk : ∀ (s : Shared) (H : Hp) (C : Addr) (cl : List (Str × Addr)) (fp : List Addr), PE (X.blk s H scope (compEnvC scope cl C X.env) fp) kx tk) (hv : ∀ (s : Shared) (H : Hp) (C : Addr) (cl : List (Str × Addr)) (fp : List Addr), PE (X.blk s H scope (compEnvC scope cl C X.env) fp) vx tv) (hs : ∀ x, foldedSetIterable iter X.env x = pure x := by intro _; rfl) :
    PS X (.Assign [.Name y py] (.DictComp kx vx [⟨tg, iter, ifs, 0⟩] scope pos) spos) (tAsg (tDc wi g tt tk tv (own.map (·.2))) (gName i)) := by
  refine ⟨fun pins s σ H Dn I wish => ?_⟩
  rw [exec_Assign_Name_used _ _ _ _ hsw]
  refine wpAny_bind (wpAny_standAt (wpAny_bind ?_))
  show wpAny _ X.A (do let _ ← comprehension (.DictComp kx vx [⟨tg, iter, ifs, 0⟩] scope pos) scope X.env (firstIterPos [⟨tg, iter, ifs, 0⟩] pos) newDict false (eval iter X.env) (some (assign (.Name y py) X.env))) _ _ s
  have wish : tDc wi g tt tk tv (own.map (·.2)) σ H (fun x H1 => gName i x σ H1 Dn.nx) := wish
  refine wpAny_bind (thn (dc_core (Qf := fun _ s' => L2.SP X pins Dn .next s') hc hN I hi ok hg ht hk hv hs wish fun La C s' m0 H' I' q hn f => ?_) fun _ s' hq => wpAny_pure (wpAny_pure hq))
  show wpAny _ _ (assign (.Name y py) X.env (.ref La)) _ _ _
  refine wpAny_assign_Name (store_ok2 (v := V.ref La) I' hN hy (.inl hyl) rfl (fun s2 I2 ⟨a, sb, ha⟩ => ?_) (.inr hyl))
  obtain ⟨f0, f1, f2, f3, f4, f5⟩ := f
  have ne : C ≠ a := ha.elim (fun z => by rw [z]; exact f1) fun z e => f4 y a z e.symm
  refine ⟨m0, hn.sameBut sb ne, fun h3 sb3 => ?_⟩
  exact ⟨_, H', I2.turned (t' := s2.toks) (fun b o hb e => (sb3.2 b hb).trans e) f0 f1 f3 f4 f5, q⟩
/-! ### d.update([]) -/
def rUpd0 : V → List V → Hp → VK → Prop := fun x xs H Q => ∃ d kvs b, x = .ref d ∧ xs = [.ref b] ∧ H d = some (.dK kvs) ∧ H b = some (.lst []) ∧ Q .non H
theorem mt_upd0 (hcalm : X.calm = true) : MtR X "dict.update" rUpd0 := by
  intro pins s σ H x xs v us Q I rx rv h
  obtain ⟨d, kvs, b, rfl, rfl, hd, hb, q⟩ := h
  obtain ⟨u, eu, ru⟩ := vals1 rv
  subst eu
  cases rx
  cases ru
  obtain ⟨z, lo, vs, rel, dd⟩ := dk_rd I.hok (.inl hd)
  obtain ⟨its, rvs, ⟨o, n, ho, hc, hdn, hdat⟩, _⟩ := I.list (SqL.of hb)
  cases rvs
  have hne : d ≠ b := fun e => by rw [e, hb] at hd; cases hd
  refine PySem.call_update_pairs (knd := mixKind X.prog X.w) (acc := vs) (kvs := []) (PairArg.list b #[] (fun _ => 0) []) (I.ok.hd hcalm) ⟨⟨o, n, ho, hc, hdn, hdat⟩, rfl, fun j k v e => by simp at e⟩ (by simp [hne]) ⟨rfl, fun i k v e => by simp [PairRel] at e⟩ dd (by rw [← rel.length]; simpa using z) fun h' tk hd' keep => ?_
  have hex : ∃ ob, h'.get? d = some ob := by
    obtain ⟨ob, _, _, e, _⟩ := hd'
    exact ⟨ob, e⟩
  have I2 : Inv X pins σ (upd H d (.dK kvs)) { s with heap := h', toks := tk } := I.write (x := d) (e := d) (by rw [hd]; exact True.intro) (.inl rfl) (fun b' q' hb' z' => keep b' q' hb' (by simp) z') hex (dk_new z lo rel hd')
  rw [upd_id hd] at I2
  exact ⟨.non, H, I2, rfl, q⟩
def evUpd0 (i : Nat) (a : Ev) : Ev := fun s => match s.env[i]? with
  | some (.fz (.dict es)) => if unm es = true then (a s).bind fun d s1 => match d with
    | .list [] => .ok .none s1
    | _ => .no
    else .no
  | _ => .no
theorem se_upd0 {o : Expr} {p pos : Pos} (i : Nat) (hc : X.calm = true) (ha : SE cl X W m e ev)
    (hP : ∀ {t : TA}, PA X [e] t → PE X (.Call (.Attribute o "update" p) [e] [] pos) (tBM X.K "dict" rUpd0 (tVar i) t)) (hs : starEach [e] X.env = (false, eval e X.env) :: starEach [] X.env := by rfl) :
    SE cl X W m (.Call (.Attribute o "update" p) [e] [] pos) (evUpd0 i ev) :=
  pe_imp (hP (pa_cons ha pa_nil hs)) fun σ H Q ⟨fm, Xs, os, s, R, gg⟩ => by
    unfold evUpd0 at gg
    split at gg
    case h_2 => exact gg.elim
    rename_i es q0
    split at gg
    case isFalse => exact gg.elim
    rename_i hu
    obtain ⟨v, e1, p1⟩ := R.slot i _ q0
    obtain ⟨a, kvs, ev', ha', ax, ra⟩ := Rp.dict p1 hu
    subst ev'
    refine ⟨.ref a, join_some e1, .inr (.inr (.inl ⟨rfl, .inl ⟨kvs, ha'⟩⟩)), fm, Xs, os, s, R, ?_⟩
    cases q : ev s with
    | ok d s1 =>
      rw [q] at gg
      simp only [Out.bind_ok] at gg
      intro v1 H1 r1 st1 p1
      split at gg
      case h_2 => exact gg.elim
      obtain ⟨b, ws, eb, hf, rb⟩ := id p1
      cases rb
      subst eb
      exact ⟨a, kvs, b, rfl, rfl, st1 _ _ ha' (fun z => ax (Mu.sub R m a z)), hf.1, gg .non H1 r1 st1 rfl⟩
    | exc c t s1 => rw [q] at gg; exact gg
    | no => rw [q] at gg; exact gg.elim
end
end Zo
/-! ZW6: list comprehensions with two fors. -/
namespace Zo
open PySem PySem.Spec PyProof.Rows L2
def thenGo (o : Out (List D)) (k : List D → Ms → Out (List D)) : Out (List D) := match o with
  | .ok acc s => k acc s
  | _ => .no
def comp2Go (vs vs1 : List Nat) (tgt : D → Ms → Option Ms) (cond : Ms → Out Bool) (src1 : Evs) (tgt1 : D → Ms → Option Ms) (cond1 : Ms → Out Bool) (elt : Ev) : List D → List D → Evs
  | [], acc => fun s => .ok acc s
  | d :: ds, acc => fun s => match tgt d s with
    | none => .no
    | some s1 => match cond s1 with
      | .ok k s2 => if k = true then (match src1 s2 with
          | .ok ds1 s3 => thenGo (compGo vs1 tgt1 cond1 elt ds1 acc (forgetS vs1 s3)) fun acc' s4 => comp2Go vs vs1 tgt cond src1 tgt1 cond1 elt ds acc' (forgetS vs s4)
          | _ => .no)
        else comp2Go vs vs1 tgt cond src1 tgt1 cond1 elt ds acc (forgetS vs s2)
      | _ => .no
def evComp2 (vs vs1 : List Nat) (src : Evs) (tgt : D → Ms → Option Ms) (cond : Ms → Out Bool) (src1 : Evs) (tgt1 : D → Ms → Option Ms) (cond1 : Ms → Out Bool) (elt : Ev) : Evs := fun s => (src s).bind fun ds s1 => comp2Go vs vs1 tgt cond src1 tgt1 cond1 elt ds [] (forgetS vs s1)
theorem wipe_sub {σ : L2.St} {vs vs1 : List Nat} (h : ∀ i ∈ vs1, i ∈ vs) : wipe (wipe σ vs1) vs = wipe σ vs := by
  apply List.ext_getElem?
  intro j
  rw [wipe_get, wipe_get, wipe_get, wipe_length]
  by_cases hj : j ∈ vs ∧ j < σ.length
  · rw [if_pos hj, if_pos hj]
  · rw [if_neg hj, if_neg hj, if_neg fun z => hj ⟨h j z.1, z.2⟩]
section
variable {cl : Nat → Addr} {X : Cx} {W : WX} {m : Bool} {e : Expr}
theorem tlc2_of {u u1 : Bool} {g g1 : TG} {vs vs1 : List Nat} {src src1 : Evs} {tgt tgt1 : D → Ms → Option Ms} {cond cond1 : Ms → Out Bool} {elt : Ev} (hsub : ∀ i ∈ vs1, i ∈ vs) (ht : TgSem u X.K g vs tgt) (ht1 : TgSem u1 X.K g1 vs1 tgt1)
    : ∀ (σ : L2.St) (H : Hp) (Q : VK), tF X.K cl W m (evComp2 vs vs1 src tgt cond src1 tgt1 cond1 elt) σ H Q → tLc2 (tI X.K cl W m u src) g (tT X.K cl W0 m cond) (tI X.K cl W0 m u1 src1) g1 (tT X.K cl W0 m cond1) (tE X.K cl W0 m elt) vs vs1 σ H Q :=
  fun σ H Q ⟨fm, Xs, os, s, R, gg⟩ => by
    unfold evComp2 at gg
    refine ⟨fm, Xs, os, s, R, ?_⟩
    cases q : src s with
    | ok ds s1 =>
      rw [q] at gg
      simp only [Out.bind_ok] at gg
      intro J H1 tmp r1 st1 htm hw Dl hD
      have fr := r1.frsh hD
      have nMu : Dl ∉ Mu fm.dka os m := fun z => fr.nx (Mu.sub r1 m Dl z)
      have hDH : H Dl = none := by
        cases e : H Dl with
        | none => rfl
        | some o => rw [st1 Dl o e nMu] at hD; cases hD
      have r2 : Rel X.K { fm with tmp := tmp ++ fm.tmp } (Dl :: Xs) os (forgetS vs s1) (wipe σ vs) (upd H1 Dl (.lst [])) := (((r1.holds tmp htm).laidL (vs := []) hD).forgets vs).wiped wipe_wipe
      refine ⟨fun i k H2 => i ≤ ds.length ∧ k = ds.length - i ∧ ∃ s2 acc ws, Rel X.K { fm with tmp := tmp ++ fm.tmp } (Dl :: Xs) os (forgetS vs s2) (wipe σ vs) H2 ∧ Stay (Mu fm.dka os m) H H2 ∧ H2 Dl = some (.lst ws) ∧ RpA X.K H2 (Dl :: Xs) acc ws ∧
        GoodF X.K cl W m fm Xs os σ H Q (comp2Go vs vs1 tgt cond src1 tgt1 cond1 elt (ds.drop i) acc (forgetS vs s2)), ⟨_, Nat.zero_le _, rfl, s1, [], [], r2, st1.trans (Stay.laid hD), upd_same, rfl, gg⟩, ?_⟩
      rintro i k H2 ⟨hle, hk, s2, acc, ws, r, st, hDl, ra, g⟩
      obtain ⟨hgo, hstop⟩ := hw (Dl :: Xs) i H2 (fun p hp => r.tm p (List.mem_append_left _ hp)) r.xt
      by_cases hlt : i < ds.length
      · rw [List.drop_eq_getElem_cons hlt] at g
        obtain ⟨go, yl⟩ := hgo _ (List.getElem?_eq_getElem hlt)
        refine .inr ⟨go, fun H2 => ∃ s2 acc ws, Rel X.K { fm with tmp := tmp ++ fm.tmp } (Dl :: Xs) os (forgetS vs s2) (wipe σ vs) H2 ∧ Stay (Mu fm.dka os m) H H2 ∧ H2 Dl = some (.lst ws) ∧ RpA X.K H2 (Dl :: Xs) acc ws ∧
          GoodF X.K cl W m fm Xs os σ H Q (comp2Go vs vs1 tgt cond src1 tgt1 cond1 elt (ds.drop (i + 1)) acc (forgetS vs s2)), fun H' z => ⟨ds.length - (i + 1), by omega, hlt, rfl, z⟩, fun x H3 hy => ?_⟩
        obtain ⟨st3, px⟩ := yl x H3 hy
        have r3 := r.stay st3
        have hD3 := st3 _ _ hDl (by simp)
        have ra3 : RpA X.K H3 (Dl :: Xs) acc ws := RpA.stay st3 (fun a h => absurd h (by simp)) acc ws ra
        have sA := st.trans st3.any
        unfold comp2Go at g
        cases q2 : tgt ds[i] (forgetS vs s2) with
        | none => rw [q2] at g; exact g.elim
        | some s4 =>
          rw [q2] at g
          dsimp only at g
          refine ht _ (Dl :: Xs) os _ s4 _ H3 _ x _ r3 px q2 fun σ4 r4 hw4 => ?_
          have hw4' : wipe σ4 vs = wipe σ vs := by rw [hw4, wipe_wipe]
          refine ⟨hw4', _, Dl :: Xs, os, s4, r4, ?_⟩
          cases q3 : cond s4 with
          | ok b s5 =>
            rw [q3] at g
            dsimp only at g
            intro H5 r5 st5
            have hD5 := st5 _ _ hD3 nMu
            have ra5 : RpA X.K H5 (Dl :: Xs) acc ws := RpA.stay st5 (Mu.sub r4 m) acc ws ra3
            cases b with
            | false =>
              rw [if_neg Bool.false_ne_true] at g ⊢
              refine ⟨s5, acc, ws, ?_, sA.trans st5, hD5, ra5, g⟩
              refine (r5.forgets vs).wiped ?_
              rw [wipe_wipe, hw4']
            | true =>
              rw [if_pos rfl] at g ⊢
              refine ⟨_, Dl :: Xs, os, s5, r5, ?_⟩
              cases q4 : src1 s5 with
              | exc c t s6 => rw [q4] at g; exact g.elim
              | no => rw [q4] at g; exact g.elim
              | ok ds1 s6 =>
                rw [q4] at g
                dsimp only at g
                intro J1 H6 tmp1 r6 st6 htm1 hw1
                have sB := (sA.trans st5).trans st6
                have hD6 := st6 _ _ hD5 nMu
                have ra6 : RpA X.K H6 (Dl :: Xs) acc ws := RpA.stay st6 (Mu.sub r5 m) acc ws ra5
                have r7 : Rel X.K { fm with tmp := tmp1 ++ (tmp ++ fm.tmp) } (Dl :: Xs) os (forgetS vs1 s6) (wipe σ4 vs1) H6 := ((r6.holds tmp1 htm1).forgets vs1).wiped wipe_wipe
                refine ⟨fun j k H2 => j ≤ ds1.length ∧ k = ds1.length - j ∧ ∃ s7 acc ws, Rel X.K { fm with tmp := tmp1 ++ (tmp ++ fm.tmp) } (Dl :: Xs) os (forgetS vs1 s7) (wipe σ4 vs1) H2 ∧ Stay (Mu fm.dka os m) H H2 ∧ H2 Dl = some (.lst ws) ∧ RpA X.K H2 (Dl :: Xs) acc ws ∧
                  GoodF X.K cl W m fm Xs os σ H Q (thenGo (compGo vs1 tgt1 cond1 elt (ds1.drop j) acc (forgetS vs1 s7)) fun acc' s4 => comp2Go vs vs1 tgt cond src1 tgt1 cond1 elt (ds.drop (i + 1)) acc' (forgetS vs s4)), ⟨_, Nat.zero_le _, rfl, s6, acc, ws, r7, sB, hD6, ra6, g⟩, ?_⟩
                rintro j k1 H7 ⟨hle1, hk1, s7, acc1, ws1, r8, st8, hD8, ra8, g8⟩
                obtain ⟨hgo1, hstop1⟩ := hw1 (Dl :: Xs) j H7 (fun p hp => r8.tm p (List.mem_append_left _ hp)) r8.xt
                by_cases hlt1 : j < ds1.length
                · rw [List.drop_eq_getElem_cons hlt1] at g8
                  obtain ⟨go1, yl1⟩ := hgo1 _ (List.getElem?_eq_getElem hlt1)
                  refine .inr ⟨go1, fun H2 => ∃ s7 acc ws, Rel X.K { fm with tmp := tmp1 ++ (tmp ++ fm.tmp) } (Dl :: Xs) os (forgetS vs1 s7) (wipe σ4 vs1) H2 ∧ Stay (Mu fm.dka os m) H H2 ∧ H2 Dl = some (.lst ws) ∧ RpA X.K H2 (Dl :: Xs) acc ws ∧
                    GoodF X.K cl W m fm Xs os σ H Q (thenGo (compGo vs1 tgt1 cond1 elt (ds1.drop (j + 1)) acc (forgetS vs1 s7)) fun acc' s4 => comp2Go vs vs1 tgt cond src1 tgt1 cond1 elt (ds.drop (i + 1)) acc' (forgetS vs s4)), fun H' z => ⟨ds1.length - (j + 1), by omega, hlt1, rfl, z⟩, fun x1 H9 hy1 => ?_⟩
                  obtain ⟨st9, px1⟩ := yl1 x1 H9 hy1
                  have r9 := r8.stay st9
                  have hD9 := st9 _ _ hD8 (by simp)
                  have ra9 : RpA X.K H9 (Dl :: Xs) acc1 ws1 := RpA.stay st9 (fun a h => absurd h (by simp)) acc1 ws1 ra8
                  have sC := st8.trans st9.any
                  unfold compGo at g8
                  cases q5 : tgt1 ds1[j] (forgetS vs1 s7) with
                  | none => rw [q5] at g8; exact g8.elim
                  | some s10 =>
                    rw [q5] at g8
                    dsimp only at g8
                    refine ht1 _ (Dl :: Xs) os _ s10 _ H9 _ x1 _ r9 px1 q5 fun σ10 r10 hw10 => ?_
                    have hw10' : wipe σ10 vs1 = wipe σ4 vs1 := by rw [hw10, wipe_wipe]
                    refine ⟨hw10', _, Dl :: Xs, os, s10, r10, ?_⟩
                    cases q6 : cond1 s10 with
                    | exc c t s11 => rw [q6] at g8; exact g8.elim
                    | no => rw [q6] at g8; exact g8.elim
                    | ok b1 s11 =>
                      rw [q6] at g8
                      dsimp only at g8
                      intro H11 r11 st11
                      have hD11 := st11 _ _ hD9 nMu
                      have ra11 : RpA X.K H11 (Dl :: Xs) acc1 ws1 := RpA.stay st11 (Mu.sub r10 m) acc1 ws1 ra9
                      cases b1 with
                      | false =>
                        rw [if_neg Bool.false_ne_true] at g8 ⊢
                        refine ⟨s11, acc1, ws1, ?_, sC.trans st11, hD11, ra11, g8⟩
                        refine (r11.forgets vs1).wiped ?_
                        rw [wipe_wipe, hw10']
                      | true =>
                        rw [if_pos rfl] at g8 ⊢
                        refine ⟨_, Dl :: Xs, os, s11, r11, ?_⟩
                        cases q7 : elt s11 with
                        | exc c t s12 => rw [q7] at g8; exact g8.elim
                        | no => rw [q7] at g8; exact g8.elim
                        | ok y s12 =>
                          rw [q7] at g8
                          dsimp only at g8
                          intro v H12 r12 st12 p12
                          split at g8
                          · rename_i hl
                            have hD12 := st12 _ _ hD11 nMu
                            have ra12 : RpA X.K H12 (Dl :: Xs) acc1 ws1 := RpA.stay st12 (Mu.sub r11 m) acc1 ws1 ra11
                            refine ⟨ws1, hD12, by rw [ra12.len]; exact line1M hl, s12, acc1 ++ [y], ws1 ++ [v], ?_, ?_, upd_same, ?_, g8⟩
                            · have a := r12.putX (ws' := ws1 ++ [v]) List.mem_cons_self fr.no fr.nd fr.n0 hD12
                              refine (a.forgets vs1).wiped ?_
                              rw [wipe_wipe, hw10']
                            · have sD := (sC.trans st11).trans st12
                              intro a o h n
                              have na : a ≠ Dl := fun e => by rw [e, hDH] at h; cases h
                              rw [upd_ne na]
                              exact sD a o h n
                            · exact RpA.stay (M := [Dl]) (Stay.put List.mem_cons_self) (fun a h => by rw [List.mem_singleton.mp h]; exact List.mem_cons_self) _ _ (ra12.app (RpA.one p12))
                          · exact g8.elim
                · have e : j = ds1.length := by omega
                  subst e
                  rw [List.drop_length] at g8
                  refine .inl ⟨hstop1 (Nat.le_refl _), ?_⟩
                  refine ⟨forgetS vs1 s7, acc1, ws1, ?_, st8, hD8, ra8, g8⟩
                  refine (r8.drops.forgets vs).wiped ?_
                  rw [wipe_wipe, wipe_sub hsub, hw4']
          | exc c t s5 => rw [q3] at g; exact g.elim
          | no => rw [q3] at g; exact g.elim
      · have e : i = ds.length := by omega
        subst e
        rw [List.drop_length] at g
        refine .inl ⟨hstop (Nat.le_refl _), ?_⟩
        exact g Dl ws H2 (r.drops.wiped wipe_wipe.symm) st fr hDl ra
    | exc c t s1 => rw [q] at gg; exact gg
    | no => rw [q] at gg; exact gg.elim
theorem sf_comp2 {u u1 : Bool} {g g1 : TG} {vs vs1 : List Nat} {src src1 : Evs} {tgt tgt1 : D → Ms → Option Ms} {cond cond1 : Ms → Out Bool} {elt : Ev} (hsub : ∀ i ∈ vs1, i ∈ vs) (ht : TgSem u X.K g vs tgt) (ht1 : TgSem u1 X.K g1 vs1 tgt1)
    (hP : PE X e (tLc2 (tI X.K cl W m u src) g (tT X.K cl W0 m cond) (tI X.K cl W0 m u1 src1) g1 (tT X.K cl W0 m cond1) (tE X.K cl W0 m elt) vs vs1)) : SF cl X W m e (evComp2 vs vs1 src tgt cond src1 tgt1 cond1 elt) := pe_imp hP (tlc2_of hsub ht ht1)
/-! ### x = [.. for ..] -/
theorem own_asg {i : Nat} {evs : Evs} {Dn : Ends} {σ : L2.St} {H : Hp} (h : tS X.K cl W (ownS i evs) Dn σ H) : tAsg (tF X.K cl W m evs) (gName i) Dn σ H := by
  obtain ⟨fm, Xs, os, s, r, g⟩ := h
  unfold ownS at g
  refine ⟨fm, Xs, os, s, r, ?_⟩
  cases q : evs s with
  | ok d s1 =>
    rw [q] at g
    simp only [Out.bind_ok] at g
    exact fun p vs H1 r1 st1 fp hp ra => g _ _ _ _ (r1.setown (i := i) List.mem_cons_self hp fp.no fp.nd fp.n0 ra)
  | exc c t s1 => rw [q] at g; exact g Xs os σ
  | no => rw [q] at g; exact g.elim
theorem lst_asg {i : Nat} {evs : Evs} {Dn : Ends} {σ : L2.St} {H : Hp} (h : tS X.K cl W (setS i (lstOf evs)) Dn σ H) : tAsg (tF X.K cl W m evs) (gName i) Dn σ H := by
  obtain ⟨fm, Xs, os, s, r, g⟩ := h
  unfold setS lstOf at g
  refine ⟨fm, Xs, os, s, r, ?_⟩
  cases q : evs s with
  | ok ds s1 =>
    rw [q] at g
    simp only [Out.bind_ok] at g
    refine fun p vs H1 r1 st1 fp hp ra => g _ _ _ _ ((r1.lessX fp.no fp.nd fp.n0 fp.nx).setfz (i := i) ?_)
    exact ⟨p, vs, rfl, ⟨hp, fp.nx⟩, RpA.less (fun x h => List.mem_cons_of_mem _ h) ds vs ra⟩
  | exc c t s1 => rw [q] at g; exact g Xs os σ
  | no => rw [q] at g; exact g.elim
variable {st : Stmt} {u u1 : Bool} {g g1 : TG} {vs vs1 : List Nat} {src src1 : Evs} {tgt tgt1 : D → Ms → Option Ms} {cond cond1 : Ms → Out Bool} {elt : Ev} {i : Nat}
theorem ss_ownC (ht : TgSem u X.K g vs tgt) (hP : PS X st (tAsg (tLc (tI X.K cl W m u src) g (tT X.K cl W0 m cond) (tE X.K cl W0 m elt) vs) (gName i))) : SS cl X W st (ownS i (evComp vs src tgt cond elt)) := ps_imp hP fun Dn σ H h => tlc_of ht σ H _ (own_asg h)
theorem ss_setC (ht : TgSem u X.K g vs tgt) (hP : PS X st (tAsg (tLc (tI X.K cl W m u src) g (tT X.K cl W0 m cond) (tE X.K cl W0 m elt) vs) (gName i))) : SS cl X W st (setS i (lstOf (evComp vs src tgt cond elt))) := ps_imp hP fun Dn σ H h => tlc_of ht σ H _ (lst_asg h)
theorem ss_ownC2 (hsub : ∀ i ∈ vs1, i ∈ vs) (ht : TgSem u X.K g vs tgt) (ht1 : TgSem u1 X.K g1 vs1 tgt1) (hP : PS X st (tAsg (tLc2 (tI X.K cl W m u src) g (tT X.K cl W0 m cond) (tI X.K cl W0 m u1 src1) g1 (tT X.K cl W0 m cond1) (tE X.K cl W0 m elt) vs vs1) (gName i))) : SS cl X W st (ownS i (evComp2 vs vs1 src tgt cond src1 tgt1 cond1 elt)) := ps_imp hP fun Dn σ H h => tlc2_of hsub ht ht1 σ H _ (own_asg h)
theorem ss_setC2 (hsub : ∀ i ∈ vs1, i ∈ vs) (ht : TgSem u X.K g vs tgt) (ht1 : TgSem u1 X.K g1 vs1 tgt1) (hP : PS X st (tAsg (tLc2 (tI X.K cl W m u src) g (tT X.K cl W0 m cond) (tI X.K cl W0 m u1 src1) g1 (tT X.K cl W0 m cond1) (tE X.K cl W0 m elt) vs vs1) (gName i))) : SS cl X W st (setS i (lstOf (evComp2 vs vs1 src tgt cond src1 tgt1 cond1 elt))) := ps_imp hP fun Dn σ H h => tlc2_of hsub ht ht1 σ H _ (lst_asg h)
end
end Zo
/-! ZW7: a def that says repr, called where the guards are known; an own error whose thing is shown. -/
namespace Zo
open PySem PySem.Spec PyProof.Rows L2
/-! ### repr of None too -/
def reprN (d : D) : Option D := match d with
  | .none => some (.str "None")
  | _ => reprD d
def txN (d : D) : Str := match d with
  | .none => "None"
  | _ => d.shown
theorem reprN_some {d d' : D} (h : reprN d = some d') : d' = .str (txN d) ∧ ((d = .none) ∨ reprD d = some d') := by
  unfold reprN at h
  split at h
  · cases h; exact ⟨rfl, .inl rfl⟩
  · rename_i hn
    refine ⟨?_, .inr h⟩
    unfold reprD at h
    split at h
    · cases h
      unfold txN
      split
      · exact absurd rfl hn
      · rfl
    · cases h
def rReprN (K : Fr) : List V → Hp → VK → Prop := fun xs H Q => ∃ v Xs d d', xs = [v] ∧ Rp K H Xs d v ∧ reprN d = some d' ∧ Q (.str (txN d)) H
theorem call_reprN {X : Cx} (hg : X.A.guards = some []) (hu : X.A.units + 64 < cLine) : CallR X (.builtin "repr") (rReprN X.K) := by
  intro pins s σ H xs us Q I r h
  obtain ⟨v, Xs, d, d', rfl, p, e, q⟩ := h
  obtain ⟨u, eu, ru⟩ := vals1 r
  subst eu
  obtain ⟨e1, e2⟩ := reprN_some e
  by_cases hn : d = .none
  · subst hn
    cases p
    cases ru
    exact PySem.P.repr_of_none ⟨.str "None", H, I.tok _, ⟨_, rfl⟩, q⟩
  · have e3 := e2.resolve_left hn
    have et : txN d = d.shown := by
      cases d <;> first | rfl | exact absurd rfl hn
    rw [et] at q
    exact sem_repr_at hg hu I ru d d' p e3 q
/-! ### a def, called where the guards are known -/
theorem bodyG {P : Program} {w : World} {K : Fr} {mg : Str → Option Value} {base : Heap} {cl : Nat → Addr} {qual : Str} {st : Stmt} {N : List Str} {n : Nat} {run : Ex} {cdv : Value} {f : Addr} {A : Around} {outer : List Env} {s : Shared} {H : Hp} {E : XK} {vs : List V} {Q : VK} (hN : n ≤ N.length)
    (hb : SSs cl (cxOf (L2.CX P w) P w K mg base N qual (defScope st) f cdv A outer s H E) (fun c d _ H => E c d H) (defBody st) run) (h : spP K cl n (runFn N.length run) vs H Q E) :
    ∃ t, PSs (cxOf (L2.CX P w) P w K mg base N qual (defScope st) f cdv A outer s H E) (defBody st) t ∧ t { nx := fun _ H' => Q .non H', rt := Q } (start N vs) H := by
  refine ⟨_, hb, ?_⟩
  obtain ⟨Xs, ds, ra, hl, xt, hm⟩ := h
  refine ⟨_, Xs, [], _, rel_start ra (by omega) xt, ?_⟩
  unfold runFn at hm
  cases q : run ⟨envOf0 N.length ds, dk0, false⟩ with
  | ok fl s' =>
    rw [q] at hm
    intro X os σ' H' r
    cases fl with
    | nx => exact hm .non H' r.ent rfl
    | rt d => exact fun v p => hm v H' r.ent (Rp.less r.x0 d v p)
    | bk => exact hm.elim
    | ct => exact hm.elim
  | exc c t s' =>
    rw [q] at hm
    exact fun X os σ' v dd H' r p hd => hm v dd H' r.ent (Rp.less r.x0 t v p) hd
  | no => rw [q] at hm; exact hm.elim
section
variable {cl : Nat → Addr} {X : Cx} {W : WX} {m : Bool} {e : Expr} {es : List Expr} {evs : Evs} {k n : Nat} {f : Addr} {fd : FuncData} {N ps : List Str} {x qual : Str} {st : Stmt} {p pos : Pos} {run : Ex}
theorem se_callG (F : Fun X.K x qual st f fd) (S : FnScope N ps (defScope st)) (hps : ps.length = n) (hN : ps.length ≤ N.length) (hr : Room (k + 1) X.A) (hgu : X.A.guards = some []) (hg : Gl X x) (hm : X.mg x = some (.ref f)) (hb : Binds X.K fd ps []) (tk : Takes X W)
    (body : ∀ (cdv : Value) (A : Around) (s : Shared) (H : Hp) (E : XK), Room k (A.deeper (envOfC qual (defScope st) s.heap.objs.size f cdv)) → A.guards = some [] → SSs cl (cxOf (L2.CX X.prog X.w) X.prog X.w X.K X.mg X.base N qual (defScope st) f cdv A X.stack s H E) (fun c d _ H => E c d H) (defBody st) run)
    (ha : SA cl X W m (e :: es) evs) (hn : ∀ s ds s1, evs s = .ok ds s1 → ds.length = n) (hdb : (x == ("__debug__" : Str)) = false := by decide) (he : starEach (e :: es) X.env = (false, eval e X.env) :: starEach es X.env := by rfl) (hpl : (backTo pos (starEach es X.env)).any (·.1) = false := by rfl) :
    SE cl X W m (.Call (.Name x p) (e :: es) [] pos) (evCall (runFn N.length run) evs) := by
  refine ⟨fun pins s σ H Q I h => ?_⟩
  obtain ⟨fm, Xs, os, ms, R, h⟩ := h
  unfold evCall at h
  refine wpAny_Call_Name_kw (ld_glob I hg hm ?_ hdb)
  refine PySem.W.callWith_K (h₀ := X.base) I.ok.mod.kin F.kp (thn (ha.run pos pins s σ H (fun vs H2 => spP X.K cl n (runFn N.length run) vs H2 Q (WE W σ)) I ⟨fm, Xs, os, ms, R, ?_⟩) fun us s1 ⟨vs, H1, I1, r, q⟩ => ⟨I1.kIn, ?_⟩) he hpl
  · cases q : evs ms with
    | ok ds s1 =>
      rw [q] at h
      simp only [Out.bind_ok] at h
      exact fun vs H1 r1 st1 ra => GoodE.call r1 st1 ra (hn _ _ _ q) h
    | exc c t s1 => rw [q] at h; exact h
    | no => rw [q] at h; exact h.elim
  · have hvl : vs.length = ps.length := by
      obtain ⟨Xs', ds, ra, hl, _⟩ := id q
      rw [ra.len, hl, hps]
    have b := hb s1 us I1.kIn (by rw [List.append_nil, ← r.length]; exact hvl)
    rw [List.append_nil] at b
    refine wpAny_call (codeAny_mono (run_at (E := WE W σ) (Q := Q) F S hr I1.env0 b r hvl fun cdv => bodyG (by omega) (body cdv X.A s1 H1 (WE W σ) (hr.deeper _) hgu) q) fun r s' hq => ?_)
    cases r with
    | error e => exact passAt tk σ pins H1 s1 e s' I1 hq
    | ok fl =>
      cases fl with
      | ret u => exact I1.after hq
      | next => exact hq.elim
      | brk => exact hq.elim
      | cont => exact hq.elim
end
/-! ### return repr(e.thing) == repr(thing) and isinstance(e, ZonesError) -/
def refusedS (c i j : Nat) (b : Ex) : Ex := fun s => match b s with
  | .exc c' t s1 => if c' = c then (match s1.env[i]?, s1.env[j]? with
    | some .un, some (.fz d) => (match reprN t, reprN d with
      | some (.str x), some (.str y) => .ok (.rt (.bool (decide (x = y)))) s1
      | _, _ => .no)
    | _, _ => .no) else .no
  | o => o
section
variable {X : Cx} {x q : Str} {Z fI : Addr}
theorem ss_refused {cl : Nat → Addr} {Wout : WX} {n y : Str} {i j c : Nat} {body : List Stmt} {b : Ex} {pos pos' np p1 p2 p3 p4 p5 p6 p7 p8 p9 p10 p11 p12 p13 p14 : Pos} (hij : i ≠ j) (hgu : X.A.guards = some []) (hu : X.A.units + 64 < cLine)
    (hs : X.stack = X.env :: X.outer) (hf : X.env.frame = some X.env.locals) (hN : X.N.Nodup) (hi : X.N[i]? = some n) (hln : X.env.kindOf n = some .local) (hc : Names X x (.ref (cl c))) (tk : Takes X Wout)
    (T : PySem.Zx.ExTxt X.K X.mg x q (cl c) Z fI) (S : ExIs X.K (cl c)) (hk : PySem.W.kitOne X.K (.ref (cl c)) (.ref Z) = some true) (hZ : X.mg "ZonesError" = some (.ref Z)) (gZ : Gl X "ZonesError") (hgi : Gl X "isinstance") (hmi : X.mg "isinstance" = none) (hgr : Gl X "repr") (hmr : X.mg "repr" = none)
    (hb : ∀ (W : WX) (pn : List (Addr × Obj)) (xe : Value → Shared → Prop), Takes (X.tr pn xe) W → PassesOwn (model X.prog X.w) X.A X.env xe → SSs cl (X.tr pn xe) W body b)
    (hv : ∀ (a : Addr) (oe : Obj) (pn : List (Addr × Obj)) (p : Pos), PE (X.suite a ((a, oe) :: pn)) (.Name n p) (tVar i))
    (hv2 : ∀ (a : Addr) (oe : Obj) (pn : List (Addr × Obj)) (p : Pos), PE (X.suite a ((a, oe) :: pn)) (.Name y p) (tVar j)) :
    SS cl X Wout (.Try body [.ExceptHandler (some (.Name x np)) (some n) [.Return (some (.BoolOp .And [.Compare (.Call (.Name "repr" p1) [.Attribute (.Name n p2) "thing" p3] [] p4) [.Eq] [.Call (.Name "repr" p5) [.Name y p6] [] p7] p8, .Call (.Name "isinstance" p9) [.Name n p10, .Name "ZonesError" p11] [] p12] p13)) p14] pos'] [] [] pos) (refusedS c i j b) := by
  refine ps_imp (ps_try_as (i := i) (tb := fun W => tS X.K cl W b) (ts := fun a cls d => tRet (tAndV (tOp rEq (tCB (rReprN X.K) (tCons (tThing (cl c) a cls d (tVar i)) tNil)) (tCB (rReprN X.K) (tCons (tVar j) tNil))) (tCB (rIsZ (cl c) Z cls d a) (tCons (tVar i) (tCons (tC (.ref Z)) tNil))))) (Wout := Wout) hs hf hN hi hln hc tk hb ?_) ?_
  · intro a oe cls d pn hz hvs
    have r1 := call_reprN (X := X.suite a ((a, oe) :: pn)) hgu hu
    refine pss_one (ps_ret (pe_and (pe_cmpR op_eq (pe_callB r1 hgr hmr (show bootBuiltins "repr" = some (.builtin "repr") by decide +kernel) (pa_cons (pe_thing T hz hvs (hv a oe pn p2)) pa_nil)) (pe_callB r1 hgr hmr (show bootBuiltins "repr" = some (.builtin "repr") by decide +kernel) (pa_cons (hv2 a oe pn p6) pa_nil)) (nomark _))
      (pe_one (pe_callB (call_isZ T S hk hz hvs) hgi hmi PyProof.Rows.boot_isinstance (pa_cons (hv a oe pn p10) (pa_cons ?_ pa_nil))))))
    exact pe_glob (v := V.ref Z) gZ hZ rfl
  · intro Dn σ H ⟨fm, Xs, os, s, r, g⟩
    refine ⟨fm, Xs, os, s, r, ?_⟩
    unfold refusedS at g
    cases qb : b s with
    | ok fl s1 => rw [qb] at g; exact g
    | no => rw [qb] at g; exact g.elim
    | exc c' t s1 =>
      rw [qb] at g
      dsimp only at g
      split at g
      case isFalse => exact g.elim
      rename_i ec
      subst ec
      split at g
      case h_2 => exact g.elim
      rename_i d hun hd2
      split at g
      case h_2 => exact g.elim
      rename_i tx ty e1 e2
      intro X' os' σ' v dd H' r' pv hd
      refine ⟨true, T.te, fun _ a na => ?_, fun z => Bool.noConfusion z⟩
      have hlt : i < σ'.length := by
        rw [← r'.len]
        exact (List.getElem?_eq_some_iff.mp hun).1
      have hget : (σ'.set i (some (.ref a)))[i]? = some (some (.ref a)) := List.getElem?_set_self hlt
      obtain ⟨v2, f1, f2⟩ := r'.slot j _ hd2
      have hget2 : (σ'.set i (some (.ref a)))[j]? = some (some v2) := by rw [List.getElem?_set_ne hij]; exact join_some f1
      obtain ⟨h1, _⟩ := reprN_some e1
      obtain ⟨h2, _⟩ := reprN_some e2
      cases h1
      cases h2
      refine ⟨_, hget, rfl, rfl, dd, v, rfl, hd, v, X', t, _, rfl, pv, e1, v2, hget2, v2, X', d, _, rfl, f2, e2, ?_⟩
      have gg := g X' os' σ' H' r'
      refine ⟨rfl, decide (V.str (txN t) = V.str (txN d)), rfl, ?_⟩
      by_cases ce : txN t = txN d
      · have c1 : decide (V.str (txN t) = V.str (txN d)) = true := by rw [ce]; simp
        rw [c1, if_pos rfl]
        refine ⟨_, hget, rfl, rfl, ⟨dd, v, rfl, hd⟩, ?_⟩
        exact gg _ (by rw [decide_eq_true ce]; rfl)
      · have c1 : decide (V.str (txN t) = V.str (txN d)) = false := by
          refine decide_eq_false fun z => ce ?_
          injection z
        rw [c1, if_neg Bool.false_ne_true]
        exact gg _ (by rw [decide_eq_false ce]; rfl)
end
end Zo
/-! ZX1: a dict whose keys are nested tuples, each with True. -/
namespace Zo
open PySem PySem.Spec PyProof.Rows L2
mutual
def nkey : D → Option NestedKey
  | .none => some .none
  | .bool b => some (.num (if b = true then 1 else 0))
  | .int i => some (.num i)
  | .str x => some (.text x)
  | .tuple ds => (nkeys ds).map .tup
  | _ => none
def nkeys : List D → Option (List NestedKey)
  | [] => some []
  | d :: ds => match nkey d, nkeys ds with
    | some k, some ks => some (k :: ks)
    | _, _ => none
end
section
variable {X : Cx} {pins : List (Addr × Obj)} {σ : L2.St} {H : Hp} {s : Shared} {Xs : List Addr}
mutual
theorem Rp.nested (I : Inv X pins σ H s) : ∀ (d : D) (v : V) (u : Value) (k : NestedKey), Rp X.K H Xs d v → RelV v u → nkey d = some k → NestedIs s.heap k u ∧ Reads s.heap u d []
  | .none, _, _, k, h, r, e => by cases h; cases r; simp only [nkey] at e; cases e; exact ⟨.none, .none⟩
  | .bool b, _, _, k, h, r, e => by cases h; cases r; simp only [nkey] at e; cases e; exact ⟨.bool rfl, .bool b⟩
  | .int i, _, _, k, h, r, e => by cases h; obtain ⟨t, rfl⟩ := r; simp only [nkey] at e; cases e; exact ⟨.int i t, .int i t⟩
  | .str x, _, _, k, h, r, e => by cases h; obtain ⟨t, rfl⟩ := r; simp only [nkey] at e; cases e; exact ⟨.text x t, .str x t⟩
  | .list ds, _, _, k, h, r, e => by simp [nkey] at e
  | .dict es, _, _, k, h, r, e => by simp [nkey] at e
  | .tuple ds, _, _, k, h, r, e => by
    simp only [nkey] at e
    obtain ⟨ks, e1, e2⟩ := Option.map_eq_some_iff.mp e
    subst e2
    obtain ⟨a, vs, ev, f, q⟩ := h
    subst ev
    cases r
    obtain ⟨its, rv, ⟨o, ho, hc, n, hd⟩, _⟩ := I.tuple f.sq
    obtain ⟨n1, n2⟩ := RpA.nested I ds vs its ks q rv e1
    exact ⟨.tup ho hc hd n1, .tuple ho hc hd n2⟩
theorem RpA.nested (I : Inv X pins σ H s) : ∀ (ds : List D) (vs : List V) (us : List Value) (ks : List NestedKey), RpA X.K H Xs ds vs → Vals vs us → nkeys ds = some ks → NestedAll s.heap ks us ∧ ReadsAll s.heap us ds []
  | [], _, _, ks, h, r, e => by cases h; cases r; simp only [nkeys] at e; cases e; exact ⟨.nil, .nil⟩
  | d :: ds, _, _, ks, h, r, e => by
    obtain ⟨v, vs, ev, q, t⟩ := h
    subst ev
    cases r with
    | cons r1 r2 =>
      simp only [nkeys] at e
      cases e1 : nkey d with
      | none => rw [e1] at e; cases e
      | some k =>
        cases e2 : nkeys ds with
        | none => rw [e1, e2] at e; cases e
        | some ks' =>
          rw [e1, e2] at e
          cases e
          obtain ⟨a1, a2⟩ := Rp.nested I d v _ k q r1 e1
          obtain ⟨b1, b2⟩ := RpA.nested I ds vs _ ks' t r2 e2
          exact ⟨.cons a1 b1, .cons a2 b2⟩
end
end
/-- the keys, each with its tuple -/
abbrev NL := List (NestedKey × Addr)
def nTrue (l : NL) : List (NestedKey × Addr × Value) := l.map fun p => (p.1, p.2, Value.bool true)
def ndP (P : Program) (w : World) (Dd : Addr) (l : NL) (h : Heap) : Prop := ∃ o es ep, h.get? Dd = some o ∧ o.ExactDict ∧ o.data = .dict es ep ∧ es.toList = (nTrue l).map (entryOfKey (nestedKind P w)) ∧ (l.map (·.1)).Nodup ∧ (Dd == sysModules) = false
abbrev ndO (P : Program) (w : World) (Dd : Addr) (l : NL) : HO := .ext (ndP P w Dd l)
theorem ndP.keep {P : Program} {w : World} {Dd : Addr} {l : NL} : ∀ h1 h2 : Heap, ndP P w Dd l h1 → (∀ o, h1.get? Dd = some o → h2.get? Dd = some o) → ndP P w Dd l h2 := fun h1 h2 ⟨o, es, ep, e, r⟩ k => ⟨o, es, ep, k _ e, r⟩
def storeN (l : NL) (k : NestedKey) (a : Addr) : NL := if (l.any fun p => decide (p.1 = k)) = true then l else l ++ [(k, a)]
theorem nTrue_store (l : NL) (k : NestedKey) (a : Addr) : storedH (nTrue l) k a (.bool true) = nTrue (storeN l k a) := by
  have e1 : (atKey (nTrue l) k).isSome = (l.any fun p => decide (p.1 = k)) := by
    unfold atKey nTrue
    induction l with
    | nil => rfl
    | cons p l ih =>
      simp only [List.map_cons, List.find?_cons, List.any_cons]
      by_cases c : p.1 = k
      · simp [c]
      · simp only [c, decide_false, Bool.false_or]
        exact ih
  have e2 : (nTrue l).map (putAt k (.bool true)) = nTrue l := by
    unfold nTrue
    rw [List.map_map]
    refine List.map_congr_left fun p _ => ?_
    simp only [Function.comp, putAt]
    split <;> rfl
  unfold storedH storeN
  rw [e1]
  by_cases c : (l.any fun p => decide (p.1 = k)) = true
  · rw [if_pos c, if_pos c, e2]
  · rw [if_neg c, if_neg c]
    simp [nTrue]
/-- the keys stand -/
def RN (K : Fr) (H : Hp) (Xs : List Addr) : List D → NL → Prop
  | [], l => l = []
  | d :: ds, l => ∃ k a r, l = (k, a) :: r ∧ nkey d = some k ∧ k.depth ≤ 8 ∧ Rp K H Xs d (.ref a) ∧ RN K H Xs ds r
theorem RN.mono {K : Fr} {H H' : Hp} {Xs Ys : List Addr} (f : ∀ d v, Rp K H Xs d v → Rp K H' Ys d v) : ∀ {ds : List D} {l : NL}, RN K H Xs ds l → RN K H' Ys ds l
  | [], _, h => h
  | d :: ds, _, h => by
    obtain ⟨k, a, r, e, h1, h2, h3, h4⟩ := h
    exact ⟨k, a, r, e, h1, h2, f _ _ h3, RN.mono f h4⟩
theorem RN.len {K : Fr} {H : Hp} {Xs : List Addr} : ∀ {ds : List D} {l : NL}, RN K H Xs ds l → l.length = ds.length
  | [], _, h => by cases h; rfl
  | d :: ds, _, h => by
    obtain ⟨k, a, r, e, _, _, _, h4⟩ := h
    subst e
    simp [RN.len h4]
theorem RN.app {K : Fr} {H : Hp} {Xs : List Addr} {d : D} {k : NestedKey} {a : Addr} (h1 : nkey d = some k) (h2 : k.depth ≤ 8) (h3 : Rp K H Xs d (.ref a)) : ∀ {ds : List D} {l : NL}, RN K H Xs ds l → RN K H Xs (ds ++ [d]) (l ++ [(k, a)])
  | [], _, h => by cases h; exact ⟨k, a, [], rfl, h1, h2, h3, rfl⟩
  | d' :: ds, _, h => by
    obtain ⟨k', a', r, e, q1, q2, q3, q4⟩ := h
    subst e
    exact ⟨k', a', _, rfl, q1, q2, q3, RN.app h1 h2 h3 q4⟩
def storeD (ds : List D) (d : D) : List D := if (ds.any fun x => decide (nkey x = nkey d)) = true then ds else ds ++ [d]
theorem RN.store {K : Fr} {H : Hp} {Xs : List Addr} {d : D} {k : NestedKey} {a : Addr} (h1 : nkey d = some k) (h2 : k.depth ≤ 8) (h3 : Rp K H Xs d (.ref a)) {ds : List D} {l : NL} (h : RN K H Xs ds l) : RN K H Xs (storeD ds d) (storeN l k a) := by
  have e : ∀ {ds : List D} {l : NL}, RN K H Xs ds l → (ds.any fun x => decide (nkey x = nkey d)) = (l.any fun p => decide (p.1 = k)) := by
    intro ds
    induction ds with
    | nil => intro l h; cases h; rfl
    | cons d' ds ih =>
      intro l h
      obtain ⟨k', a', r, e, q1, q2, q3, q4⟩ := h
      subst e
      have i2 := ih q4
      simp only [h1] at i2
      simp only [List.any_cons, q1, h1, Option.some.injEq, i2]
  unfold storeD storeN
  rw [e h]
  split
  · exact h
  · exact RN.app h1 h2 h3 h
section
variable {X : Cx} {pins : List (Addr × Obj)} {σ : L2.St} {H : Hp} {s : Shared} {Xs : List Addr} {Dd : Addr} {ds : List D} {l : NL}
theorem RN.are (I : Inv X pins σ H s) : ∀ {ds : List D} {l : NL}, RN X.K H Xs ds l → ∀ p ∈ l, (nestedKind X.prog X.w).is s.heap p.1 p.2
  | [], _, h, p, hp => by cases h; cases hp
  | d :: ds, _, h, p, hp => by
    obtain ⟨k, a, r, e, h1, h2, h3, h4⟩ := h
    subst e
    rcases List.mem_cons.mp hp with rfl | hp
    · exact ⟨(Rp.nested I d _ (.ref a) k h3 rfl h1).1, h2⟩
    · exact RN.are I h4 p hp
theorem nd_at (I : Inv X pins σ H s) (hD : H Dd = some (ndO X.prog X.w Dd l)) (h : RN X.K H Xs ds l) : s.heap.DictOfH (nestedKind X.prog X.w) Dd (nTrue l) := by
  obtain ⟨⟨o, es, ep, e, h1, h2, h3, h4, _⟩, _⟩ := (show ObjOk X.prog X.w H s.heap Dd (ndO X.prog X.w Dd l) from I.hok Dd _ hD)
  refine ⟨o, es, ep, e, h1, h2, h3, fun x hx => ?_, ?_⟩
  · obtain ⟨p, hp, ex⟩ := List.mem_map.mp hx
    subst ex
    exact h.are I p hp
  · unfold nTrue
    rw [List.map_map]
    exact h4
theorem nd_lo (I : Inv X pins σ H s) (hD : H Dd = some (ndO X.prog X.w Dd l)) : (Dd == sysModules) = false := by
  obtain ⟨⟨o, es, ep, e, h1, h2, h3, h4, h5⟩, _⟩ := (show ObjOk X.prog X.w H s.heap Dd (ndO X.prog X.w Dd l) from I.hok Dd _ hD)
  exact h5
/-- d[x] = True -/
theorem nd_set {E : Value → Shared → Prop} {d : D} {k : NestedKey} {a : Addr} {u w : Value} {Q : Unit → Shared → Prop} (I : Inv X pins σ H s) (hu : X.A.units + 64 < cLine) (hD : H Dd = some (ndO X.prog X.w Dd l)) (h : RN X.K H Xs ds l) (hz : l.length < sizeLine)
    (h1 : nkey d = some k) (h2 : k.depth ≤ 8) (h3 : Rp X.K H Xs d (.ref a)) (ru : RelV (.ref a) u) (rw' : RelV (.bl true) w) (q : ∀ s', Inv X pins σ (upd H Dd (ndO X.prog X.w Dd (storeN l k a))) s' → Q () s') : wpAny (model X.prog X.w) X.A (dictSet Dd u w) Q E s := by
  cases ru
  cases rw'
  have key : (nestedKind X.prog X.w).is s.heap k a := ⟨(Rp.nested I d _ (.ref a) k h3 rfl h1).1, h2⟩
  refine wpAny_dictSet_heap (show X.A.units + 8 < cLine by omega) key (nd_at I hD h) (fun h' hm' hs => q _ ?_) (by unfold nTrue; rw [List.length_map]; exact Nat.le_of_lt hz)
  rw [nTrue_store] at hm'
  obtain ⟨o, es, ep, e, g1, g2, g3, g4, g5⟩ := hm'
  refine d_write I (by rw [hD]; exact True.intro) hs ⟨o, e⟩ ?_
  refine ⟨⟨o, es, ep, e, g1, g2, g3, ?_, nd_lo I hD⟩, ⟨o, e⟩, ndP.keep⟩
  unfold nTrue at g5
  rw [List.map_map] at g5
  exact g5
end
end Zo
/-! ZX2: {x: True for x in ..}, keys nested tuples. -/
namespace Zo
open PySem PySem.Spec PyProof.Rows L2
/-- the walk of such a comprehension; Dd the new dict -/
def tNd (P : Program) (w : World) (K : Fr) (wi : TI) (g : TG) (tt : TT) (tk tv : TE) (vs : List Nat) : TE := fun σ H Q => wi σ H fun J H1 => ∀ Dd, H1 Dd = none → ∃ B : Nat → Nat → Hp → Prop, (∃ m, B 0 m (upd H1 Dd (ndO P w Dd []))) ∧ ∀ i m H, B i m H →
  (J.stop i H ∧ Q (.ref Dd) H) ∨ (J.go i H ∧ ∃ Nx : Hp → Prop, (∀ H', Nx H' → ∃ m', m' < m ∧ B (i + 1) m' H') ∧ ∀ x H', J.yld i H x H' → g x (wipe σ vs) H' fun σ2 H2 => wipe σ2 vs = wipe σ vs ∧ tt σ2 H2 fun b H3 => if b = true then tk σ2 H3 fun y H4 => tv σ2 H4 fun z H5 =>
    ∃ (Xs : List Addr) (ds : List D) (l : NL) (d : D) (k : NestedKey) (a : Addr), y = .ref a ∧ z = .bl true ∧ H5 Dd = some (ndO P w Dd l) ∧ RN K H5 Xs ds l ∧ l.length < sizeLine ∧ nkey d = some k ∧ k.depth ≤ 8 ∧ Rp K H5 Xs d (.ref a) ∧ Nx (upd H5 Dd (ndO P w Dd (storeN l k a))) else Nx H3)
theorem ndP.none {P : Program} {w : World} (h : Heap) (big : (h.objs.size == sysModules) = false) : ndP P w h.objs.size [] (h.push { cls := .type "dict", data := .dict #[] }) := by
  obtain ⟨o, es, ep, e, h1, h2, h3, _, h4⟩ := Heap.DictOfH.new (knd := nestedKind P w) h
  exact ⟨o, es, ep, e, h1, h2, h3, h4, big⟩
section
variable {X : Cx} {kx vx tg iter : Expr} {ifs : List Expr} {scope : Scope} {own : List (Str × Nat)} {wi : TI} {g : TG} {tt : TT} {tk tv : TE}
theorem pe_nd {pos : Pos} (hc : X.calm = true) (hu : X.A.units + 64 < cLine) (hN : X.N.Nodup) (hi : PI X tg iter wi) (okB : BlkOk X.N X.env.scope scope own)
    (hg : ∀ (s : Shared) (H : Hp) (C : Addr) (cl : List (Str × Addr)) (fp : List Addr), PG (X.blk s H scope (compEnvC scope cl C X.env) fp) tg g)
    (ht : ∀ (s : Shared) (H : Hp) (C : Addr) (cl : List (Str × Addr)) (fp : List Addr), PTs (X.blk s H scope (compEnvC scope cl C X.env) fp) ifs tt)
    (hk : ∀ (s : Shared) (H : Hp) (C : Addr) (cl : List (Str × Addr)) (fp : List Addr), PE (X.blk s H scope (compEnvC scope cl C X.env) fp) kx tk)
    (hv : ∀ (s : Shared) (H : Hp) (C : Addr) (cl : List (Str × Addr)) (fp : List Addr), PE (X.blk s H scope (compEnvC scope cl C X.env) fp) vx tv) (hs : ∀ x, foldedSetIterable iter X.env x = pure x := by intro _; rfl) :
    PE X (.DictComp kx vx [⟨tg, iter, ifs, 0⟩] scope pos) (tNd X.prog X.w X.K wi g tt tk tv (own.map (·.2))) := by
  refine ⟨fun pins s σ H Q I wish => ?_⟩
  rw [arm_eval_DictComp]
  have closed : ∀ y ∈ scope.names, y.2 = .free → ∃ c, X.env.cells.lookup y.1 = some c := by
    intro y hy e
    rcases okB.free y hy e with z | z
    · exact I.ok.has _ (.inl z)
    · exact I.ok.has _ (.inr z)
  refine wpAny_comprehension_free (use := none) rfl hs (closure_ok closed) okB.kind (fun y hy e => by rw [okB.uniq y hy, e])
    (thn (hi.run pins s σ H _ I wish) fun xv s1 walk0 => thn walk0 fun itv s2 walk1 => ?_)
  obtain ⟨it, fp, tn, J, H2, eit, I2, T, st2, free2, wish2⟩ := walk1
  subst eit
  refine wpAny_newObj_type (newEnv_comp ?_)
  generalize eD : s2.heap.objs.size = Dd
  have newD : H2 Dd = none := I2.hok.fresh (Nat.le_of_eq eD)
  obtain ⟨B, ⟨m0, b0⟩, turn⟩ := wish2 Dd newD
  generalize es3 : ({ s2 with heap := s2.heap.push { cls := .type "dict", data := .dict #[] } } : Shared) = s3
  have I3 : Inv X pins σ (upd H2 Dd (ndO X.prog X.w Dd [])) s3 := by
    rw [← es3]
    refine I2.laid (t' := s2.toks) (fun b o e => Heap.get?_push_of_some _ e) (Nat.le_of_eq eD) ?_
    rw [← eD]
    exact ⟨ndP.none s2.heap (beq_eq_false_iff_ne.mpr (Nat.ne_of_gt I2.big)), ⟨_, Heap.get?_push_size _ rfl⟩, ndP.keep⟩
  have heap3 : s3.heap = s2.heap.push { cls := .type "dict", data := .dict #[] } := by rw [← es3]
  have low : ∀ b ∈ fp, b < s2.heap.objs.size := by
    intro b hb
    obtain ⟨o, e, _⟩ := T.obj _ _ st2 b hb
    exact Heap.lt_size e
  have free3 : ∀ b ∈ fp, FpOk X pins (upd H2 Dd (ndO X.prog X.w Dd [])) b ∧ b < s3.heap.objs.size := by
    intro b hb
    have hlt := low b hb
    refine ⟨⟨?_, (free2 b hb).2⟩, by rw [heap3, Heap.size_push]; exact Nat.lt_succ_of_lt hlt⟩
    rw [upd_ne (by rw [← eD]; exact Nat.ne_of_lt hlt)]
    exact (free2 b hb).1
  have st3 : tn 0 s3.heap := T.keep _ _ _ st2 fun b _ o e => by rw [heap3]; exact Heap.get?_push_of_some _ e
  have I4 := block_start I3 okB hN free3
  have pg := hg s3 (upd H2 Dd (ndO X.prog X.w Dd [])) s3.heap.objs.size (cellsFrom (s3.heap.objs.size + 1) scope.names (cloFrom X.env.cells scope.names [])) fp
  have pt := ht s3 (upd H2 Dd (ndO X.prog X.w Dd [])) s3.heap.objs.size (cellsFrom (s3.heap.objs.size + 1) scope.names (cloFrom X.env.cells scope.names [])) fp
  have pk := hk s3 (upd H2 Dd (ndO X.prog X.w Dd [])) s3.heap.objs.size (cellsFrom (s3.heap.objs.size + 1) scope.names (cloFrom X.env.cells scope.names [])) fp
  have pv := hv s3 (upd H2 Dd (ndO X.prog X.w Dd [])) s3.heap.objs.size (cellsFrom (s3.heap.objs.size + 1) scope.names (cloFrom X.env.cells scope.names [])) fp
  show codeAny _ _ (.compStart (.DictComp kx vx [⟨tg, iter, ifs, 0⟩] scope pos) 0 (.ref it) (.ref Dd) (compEnvC scope (cellsFrom (s3.heap.objs.size + 1) scope.names (cloFrom X.env.cells scope.names [])) s3.heap.objs.size X.env)) (compPost (model X.prog X.w) X.A X.xe none (EP X pins σ Q) (.ref Dd) s3.heap.objs.size) { s3 with heap := pushCells (s3.heap.push { cls := .type "dict", data := .dict #[] }) scope.names }
  have unheld : ∀ b ∈ fp, (upd H2 Dd (ndO X.prog X.w Dd [])) b = none := fun b hb => (free3 b hb).1.1
  generalize ece : compEnvC scope (cellsFrom (s3.heap.objs.size + 1) scope.names (cloFrom X.env.cells scope.names [])) s3.heap.objs.size X.env = ce at I4 pg pt pk pv ⊢
  have ceL : ce.locals = s3.heap.objs.size := by subst ece; rfl
  generalize eH3 : upd H2 Dd (ndO X.prog X.w Dd []) = H3 at I3 I4 pg pt pk pv b0 unheld free3
  generalize es4 : ({ s3 with heap := pushCells (s3.heap.push { cls := .type "dict", data := .dict #[] }) scope.names } : Shared) = s4 at I4 ⊢
  have st4 : tn 0 s4.heap := T.keep _ _ _ st3 fun b _ o e => by rw [← es4]; exact pushCells_keeps _ _ _ _ (Heap.get?_push_of_some _ e)
  have still : ∀ {τ : L2.St} {G : Hp} {t : Shared}, Inv (X.blk s3 H3 scope ce fp) [] τ G t → (∀ b ∈ fp, G b = none) → ∀ b ∈ fp, FpOk (X.blk s3 H3 scope ce fp) [] G b := by
    intro τ G t It hn b hb
    exact ⟨hn b hb, (It.ok.exf b hb).1, It.ok.exfs b hb, .inl hb, fun x c e => (It.ok.exf b hb).2 x c e, fun p hp => absurd (show p ∈ ([] : List (Addr × Obj)) ++ [] from hp) (by simp)⟩
  have rounds : codeAny (model X.prog X.w) X.A (.compLoop (.DictComp kx vx [⟨tg, iter, ifs, 0⟩] scope pos) 0 (.ref it) (.ref Dd) ce) (compPost (model X.prog X.w) X.A X.xe none (EP X pins σ Q) (.ref Dd) s3.heap.objs.size) s4 := by
    refine compLoop_anyD (fun n t => ∃ i G, Inv (X.blk s3 H3 scope ce fp) [] (wipe σ (own.map (·.2))) G t ∧ tn i t.heap ∧ (∀ b ∈ fp, G b = none) ∧ B i n G) ?_ m0 ⟨0, H3, I4, st4, unheld, b0⟩
    rintro n s5 ⟨i, H5, I5, st5, n5, b5⟩
    rcases turn i n H5 b5 with ⟨stop, qq⟩ | ⟨go, Nx, fewer, step⟩
    · refine thnF (T.done (X.blk s3 H3 scope ce fp) rfl rfl rfl hc i [] s5 _ H5 (fun _ _ => False) I5 (still I5 n5) st5 stop) fun r s6 ⟨hr, I6⟩ => ?_
      subst hr
      have I7 : Inv X pins σ H5 s6 := I3.call' (ch := fp) I6.os I6.base I6.hok I6.bare fun b hb => ⟨(free3 b hb).1.2.2.2.1, (free3 b hb).1.2.1, (free3 b hb).1.2.2.2.2.1, (free3 b hb).1.2.2.2.2.2⟩
      have unC : H5 s3.heap.objs.size = none := by
        have z : H5 ce.locals = none := I6.free
        rwa [ceL] at z
      obtain ⟨mm, hn, _⟩ := I6.loc
      have hn : s6.heap.Ns ce.locals mm := hn
      rw [ceL] at hn
      refine ⟨mm, hn, fun h'' sb => ?_⟩
      obtain ⟨f0, f1, f2, f3, f4, f5⟩ := I3.fpOk (Nat.le_refl _) unC
      exact ⟨.ref Dd, H5, I7.turned (t' := s6.toks) (fun b o hb e => (sb.2 b hb).trans e) f0 f1 f3 f4 f5, rfl, qq⟩
    · refine thnF (T.item (X.blk s3 H3 scope ce fp) rfl rfl rfl hc i [] s5 _ H5 (fun _ _ => False) I5 (still I5 n5) st5 go) fun r s6 ⟨u, hr, h6⟩ => ?_
      subst hr
      refine thnF h6 fun _ s7 ⟨x, H7, I7, r7, y7, st7, n7⟩ => ?_
      have I7' := I7.pinned (still I7 n7) (T.obj _ _ st7)
      refine thnF (pg.run _ s7 _ H7 x u _ I7' r7 (step x H7 y7)) fun _ s8 ⟨σ8, H8, I8, hw8, q8⟩ => ?_
      refine thnF (pt.run _ s8 σ8 H8 _ I8 q8) fun b s9 ⟨H9, I9, q9⟩ => ?_
      have over : ∀ {t : Shared} {G : Hp}, Inv (X.blk s3 H3 scope ce fp) ([] ++ pinsAt fp s7.heap) σ8 G t → Nx G → ∃ m, m < n ∧ ∃ i G, Inv (X.blk s3 H3 scope ce fp) [] (wipe σ (own.map (·.2))) G t ∧ tn i t.heap ∧ (∀ b ∈ fp, G b = none) ∧ B i m G := by
        intro t G It nx
        obtain ⟨m', hm, b'⟩ := fewer G nx
        have held : ∀ b ∈ fp, ∀ o, s7.heap.get? b = some o → t.heap.get? b = some o ∧ G b = none := fun b hb o e =>
          let z := It.pin (b, o) (List.mem_append_right _ (List.mem_append_right _ (mem_pinsAt hb e)))
          ⟨z.1, z.2.1⟩
        have hl : (wipe σ (own.map (·.2))).length = σ8.length := by rw [← hw8, wipe_length]
        refine ⟨m', hm, i + 1, G, (It.unpinned (pins := [])).weak hl (fun j v e => ?_), T.keep _ _ _ st7 fun b hb o e => (held b hb o e).1, fun b hb => ?_, b'⟩
        · rw [← hw8] at e
          exact (wipe_some e).1
        · obtain ⟨o, e, _⟩ := T.obj _ _ st7 b hb
          exact (held b hb o e).2
      cases b with
      | false =>
        simp only [Bool.false_eq_true, if_false] at q9 ⊢
        exact over I9 q9
      | true =>
        simp only [if_true] at q9 ⊢
        refine thnF (pk.run _ s9 σ8 H9 _ I9 q9) fun z s10 ⟨yk, H10, I10, r10, q10⟩ => ?_
        refine thnF (pv.run _ s10 σ8 H10 _ I10 q10) fun z2 s11 ⟨yv, H11, I11, r11, Xs, ds, l, d, k, a, e1, e2, h1, h2, h3, h4, h5, h6', h7⟩ => ?_
        subst e1 e2
        exact nd_set (X := X.blk s3 H3 scope ce fp) I11 hu h1 h2 h3 h4 h5 h6' r10 r11 fun s12 I12 => over I12 h7
  exact codeAny_compStart_dict rounds (T.self X.A 0 _ _ _ st4 rounds)
end
end Zo
/-! ZX3: sorted({x: True for x in ..}). -/
namespace Zo
open PySem PySem.Spec PyProof.Rows L2
theorem kdlRaw {P : Program} {w : World} {d : Addr} {es : Array DictEntry} {ep : Nat} (lo : (d == sysModules) = false) : PySem.W.KdlSrc P w "dict" d d es.size (fun i v => ∃ hi : i < es.size, v = es[i].key) (fun h => h.DictRaw d es ep) where
  type := fun _ hm => hm.typeIs
  there := fun _ hm => by
    obtain ⟨o, ho, _⟩ := hm
    exact ⟨Heap.lt_size ho, Heap.lt_size ho⟩
  keep := fun _ _ hm hk => hm.at fun o e => hk d (.inl rfl) o e
  notList := by decide
  notTuple := by decide
  hint := fun _ _ _ _ hm hq => PySem.W.kdl_hint_dict hm.typeIs hq
  iter := fun A s hh hm => by
    obtain ⟨o, ho, _⟩ := id hm
    exact ⟨_, _, fun _ _ hq => wpAny_pyIter_dict_raw lo hm hq, PySem.Walks.rawKeys hh _ d (Nat.ne_of_lt (Heap.lt_size ho)) es ep, ⟨⟨_, Heap.get?_push_size _ rfl, rfl, rfl⟩, hm.at fun o e => Heap.get?_push_of_some _ e⟩⟩
def tupQ : D → Bool
  | .tuple (_ :: _) => true
  | _ => false
def sortable (ds : List D) : Bool := ds.all (fun a => ds.all fun b => PySem.W.alike a b) && ds.all tupQ && ds.all (fun a => decide (a.depth ≤ 60)) && decide (ds.length ≤ 1000)
def sortU (ds : List D) : Option (List D) := if sortable ds = true then some (ds.mergeSort (PySem.W.dataLe false fun d => d)) else none
def RpV (K : Fr) (H : Hp) (Xs : List Addr) (v : Value) (d : D) : Prop := ∃ a, v = .ref a ∧ Rp K H Xs d (.ref a)
theorem RN.each {K : Fr} {H : Hp} {Xs : List Addr} : ∀ {ds : List D} {l : NL}, RN K H Xs ds l → PySem.W.EachIs (RpV K H Xs) (l.map fun p => Value.ref p.2) ds
  | [], _, h => by cases h; exact .nil
  | d :: ds, _, h => by
    obtain ⟨k, a, r, e, _, _, h3, h4⟩ := h
    subst e
    exact .cons ⟨a, rfl, h3⟩ (RN.each h4)
theorem RN.eachR {X : Cx} {pins : List (Addr × Obj)} {σ : L2.St} {H : Hp} {s : Shared} {Xs : List Addr} {b : Addr} (I : Inv X pins σ H s) : ∀ {ds : List D} {l : NL}, RN X.K H Xs ds l → PySem.W.EachIs (fun v d => ∃ as, Reads s.heap v d as ∧ b ∉ as) (l.map fun p => Value.ref p.2) ds
  | [], _, h => by cases h; exact .nil
  | d :: ds, _, h => by
    obtain ⟨k, a, r, e, h1, _, h3, h4⟩ := h
    subst e
    exact .cons ⟨[], (Rp.nested I d _ (.ref a) k h3 rfl h1).2, by simp⟩ (RN.eachR I h4)
theorem each_vals {K : Fr} {H : Hp} {Xs : List Addr} : ∀ {us : List Value} {ds : List D}, PySem.W.EachIs (RpV K H Xs) us ds → ∃ vs, Vals vs us ∧ RpA K H Xs ds vs
  | _, _, .nil => ⟨[], .nil, rfl⟩
  | _, _, .cons ⟨a, e, p⟩ t => by
    obtain ⟨vs, h1, h2⟩ := each_vals t
    subst e
    exact ⟨.ref a :: vs, .cons rfl h1, .ref a, vs, rfl, p, h2⟩
theorem call_sortedN {X : Cx} (hcalm : X.calm = true) (hu : X.A.units + 66 < cLine) : CallR X (.builtin "sorted") (fun xs H Q => ∃ Dd l Xs ds es, xs = [.ref Dd] ∧ H Dd = some (ndO X.prog X.w Dd l) ∧ RN X.K H Xs ds l ∧ sortU ds = some es ∧ ∀ p vs, H p = none → RpA X.K H Xs es vs → Q (.ref p) (upd H p (.lst vs))) := by
  intro pins s σ H xs us Q I r q
  obtain ⟨Dd, l, Xs, ds, es, rfl, hD, rn, hso, q⟩ := q
  obtain ⟨u, eu, rx⟩ := vals1 r
  subst eu
  cases rx
  have hd := nd_at I hD rn
  have lo := nd_lo I hD
  unfold sortU at hso
  split at hso
  case isFalse => cases hso
  rename_i hs
  cases hso
  unfold sortable at hs
  simp only [Bool.and_eq_true, List.all_eq_true, decide_eq_true_eq] at hs
  obtain ⟨⟨⟨hs1, hs2⟩, hs3⟩, hs4⟩ := hs
  obtain ⟨ens, ep, raw, hsz, hent⟩ := hd.raw
  have hlen : l.length = ds.length := rn.len
  have hsz' : ens.size = l.length := by rw [hsz]; simp [nTrue]
  have h16 : ens.size ≤ sizeLine := by rw [hsz', hlen]; exact size1000 hs4
  refine Calls.call_function_entry PyProof.Rows.kind_sorted PyProof.Rows.plain_sorted PyProof.Rows.entry_sorted (PyProof.Rows.args_sorted1 _) ?_
  unfold Builtin.«sorted»
  refine wpAny_bind (m := checkCount "sorted" 1 1 _) (wpAny_pure ?_)
  refine wpAny_bind (PySem.W.kdu_collect (A := X.A.in1) (kdlRaw lo) (I.ok.hd hcalm) raw h16 fun h' tk acc hk hacc => ?_)
  have eacc : acc.toList = l.map fun p => Value.ref p.2 := by
    apply List.ext_getElem?
    intro j
    by_cases hj : j < ens.size
    · obtain ⟨y, hy, h1, _, _⟩ := hent j hj
      have hj2 : j < acc.size := by rw [hacc.1]; exact hj
      obtain ⟨_, e2⟩ := hacc.2 j acc[j] (Array.getElem?_eq_getElem hj2)
      have e3 : acc.toList[j]? = some acc[j] := by rw [Array.getElem?_toList, Array.getElem?_eq_getElem hj2]
      rw [e3, e2, h1]
      unfold nTrue at hy
      rw [List.getElem?_map] at hy
      obtain ⟨p, hp, ep⟩ := Option.map_eq_some_iff.mp hy
      subst ep
      rw [List.getElem?_map, hp]
      rfl
    · rw [List.getElem?_eq_none (by rw [Array.length_toList, hacc.1]; omega), List.getElem?_eq_none (by rw [List.length_map]; omega)]
  have I1 : Inv X pins σ H { s with heap := h', toks := tk } := I.kept hk
  refine wpAny_bind (wpAny_newList ?_ (by rw [eacc, List.length_map, hlen]; exact size1000 hs4))
  have hoL : (h'.push (seqObj "list" acc.toList.toArray 0)).get? h'.objs.size = some (seqObj "list" acc.toList.toArray 0) := Heap.get?_push_size _ rfl
  have I2 : Inv X pins σ H { s with heap := h'.push (seqObj "list" acc.toList.toArray 0), toks := tk } := I1.kept (t' := tk) fun b o e => Heap.get?_push_of_some _ e
  have er0 := rn.eachR (b := h'.objs.size) I2
  rw [← eacc] at er0
  show wpAny _ _ _ _ _ { s with heap := h'.push (seqObj "list" acc.toList.toArray 0), toks := tk }
  refine wpAny_bind (wpAny_holding (PySem.W.list_sort_data (s := { s with heap := h'.push (seqObj "list" acc.toList.toArray 0), toks := tk }) (R := RpV X.K H Xs) (enc := fun d : D => d) (bs := ds) hoL (by rw [eacc]; exact rn.each) er0 ?_ ?_ (size1000 hs4) ?_ fun out ho eo => ?_))
  · intro d hd d' hd'
    rw [List.map_id'] at hd hd'
    exact hs1 d hd d' hd'
  · refine .inl fun d hd => ?_
    rw [List.map_id'] at hd
    have := hs2 d hd
    unfold tupQ at this
    split at this
    · exact ⟨_, _, rfl⟩
    · cases this
  · intro d hd
    have := hs3 d hd
    show X.A.units + 1 + 1 + d.depth < cLine
    omega
  · obtain ⟨vs, v1, v2⟩ := each_vals eo
    obtain ⟨e', he'⟩ := PyProof.Rows.sortedHeap_at (vs := acc.toList) (out := List.toArray out) hoL
    have hlv : vs.length ≤ sizeLine := by rw [v1.length, ho]; exact size1000 hs4
    refine wpAny_pure ⟨_, rfl, .ref h'.objs.size, upd H h'.objs.size (.lst vs), I1.laid (t' := tk) (fun b u e => ?_) (Nat.le_refl _)
      (show ObjOk X.prog X.w _ _ _ (.lst vs) from ⟨hlv, out, e', v1, he'⟩), rfl, q _ vs (I1.hok.fresh (Nat.le_refl _)) v2⟩
    have hb : b < h'.objs.size := Heap.lt_size e
    rw [PyProof.Rows.sortedHeap_old (Nat.ne_of_lt hb) (by rw [size_push']; exact Nat.lt_succ_of_lt hb)]
    exact Heap.get?_push_of_some _ e
end Zo
/-! ZX4: sorted({x: True for x in ..}): the rule. -/
namespace Zo
open PySem PySem.Spec PyProof.Rows L2
def ndGo (vs : List Nat) (tgt : D → Ms → Option Ms) (cond : Ms → Out Bool) (kx : Ev) : List D → List D → Evs
  | [], acc => fun s => .ok acc s
  | d :: ds, acc => fun s => match tgt d s with
    | none => .no
    | some s1 => match cond s1 with
      | .ok k s2 => if k = true then (match kx s2 with
          | .ok y s3 => (match nkey y with
            | some kk => if kk.depth ≤ 8 ∧ tupQ y = true ∧ acc.length < 1000000 then ndGo vs tgt cond kx ds (storeD acc y) (forgetS vs s3) else .no
            | none => .no)
          | _ => .no)
        else ndGo vs tgt cond kx ds acc (forgetS vs s2)
      | _ => .no
def evSortSet (vs : List Nat) (src : Evs) (tgt : D → Ms → Option Ms) (cond : Ms → Out Bool) (kx : Ev) : Evs := fun s => (src s).bind fun ds s1 => (ndGo vs tgt cond kx ds [] (forgetS vs s1)).bind fun acc s2 => toOut (sortU acc) s2
section
variable {cl : Nat → Addr} {X : Cx} {W : WX} {m : Bool} {e : Expr}
theorem tup_ref {K : Fr} {H : Hp} {Xs : List Addr} {d : D} {v : V} (h : Rp K H Xs d v) (t : tupQ d = true) : ∃ a, v = .ref a := by
  unfold tupQ at t
  split at t
  · obtain ⟨a, vs, e, _⟩ := h
    exact ⟨a, e⟩
  · cases t
theorem sf_sortSet {u : Bool} {g : TG} {vs : List Nat} {src : Evs} {tgt : D → Ms → Option Ms} {cond : Ms → Out Bool} {kx : Ev} {p pos : Pos} (hc : X.calm = true) (hu : X.A.units + 66 < cLine) (hgl : Gl X "sorted") (hm : X.mg "sorted" = none) (ht : TgSem u X.K g vs tgt)
    (hP : PE X e (tNd X.prog X.w X.K (tI X.K cl W m u src) g (tT X.K cl W0 m cond) (tE X.K cl W0 m kx) (tC (.bl true)) vs)) (he : starEach [e] X.env = (false, eval e X.env) :: starEach [] X.env := by rfl) : SF cl X W m (.Call (.Name "sorted" p) [e] [] pos) (evSortSet vs src tgt cond kx) :=
  pe_imp (pe_callB (call_sortedN hc hu) hgl hm (show bootBuiltins "sorted" = some (.builtin "sorted") by decide +kernel) (pa_cons hP pa_nil he) (by decide) (by decide) he) fun σ H Q ⟨fm, Xs, os, s, R, gg⟩ => by
    unfold evSortSet at gg
    refine ⟨fm, Xs, os, s, R, ?_⟩
    cases q : src s with
    | ok ds s1 =>
      rw [q] at gg
      simp only [Out.bind_ok] at gg
      intro J H1 tmp r1 st1 htm hw Dl hD
      have fr := r1.frsh hD
      have nMu : Dl ∉ Mu fm.dka os m := fun z => fr.nx (Mu.sub r1 m Dl z)
      have hDH : H Dl = none := by
        cases e : H Dl with
        | none => rfl
        | some o => rw [st1 Dl o e nMu] at hD; cases hD
      have r2 : Rel X.K { fm with tmp := tmp ++ fm.tmp } (Dl :: Xs) os (forgetS vs s1) (wipe σ vs) (upd H1 Dl (ndO X.prog X.w Dl [])) := (((r1.holds tmp htm).laidO (o := ndO X.prog X.w Dl []) hD).forgets vs).wiped wipe_wipe
      refine ⟨fun i k H2 => i ≤ ds.length ∧ k = ds.length - i ∧ ∃ s2 acc l, Rel X.K { fm with tmp := tmp ++ fm.tmp } (Dl :: Xs) os (forgetS vs s2) (wipe σ vs) H2 ∧ Stay (Mu fm.dka os m) H H2 ∧ H2 Dl = some (ndO X.prog X.w Dl l) ∧ RN X.K H2 (Dl :: Xs) acc l ∧
        GoodF X.K cl W m fm Xs os σ H Q ((ndGo vs tgt cond kx (ds.drop i) acc (forgetS vs s2)).bind fun acc s2 => toOut (sortU acc) s2), ⟨_, Nat.zero_le _, rfl, s1, [], [], r2, st1.trans (Stay.laid hD), upd_same, rfl, gg⟩, ?_⟩
      rintro i k H2 ⟨hle, hk, s2, acc, l, r, st, hDl, ra, g⟩
      obtain ⟨hgo, hstop⟩ := hw (Dl :: Xs) i H2 (fun p hp => r.tm p (List.mem_append_left _ hp)) r.xt
      by_cases hlt : i < ds.length
      · rw [List.drop_eq_getElem_cons hlt] at g
        obtain ⟨go, yl⟩ := hgo _ (List.getElem?_eq_getElem hlt)
        refine .inr ⟨go, fun H2 => ∃ s2 acc l, Rel X.K { fm with tmp := tmp ++ fm.tmp } (Dl :: Xs) os (forgetS vs s2) (wipe σ vs) H2 ∧ Stay (Mu fm.dka os m) H H2 ∧ H2 Dl = some (ndO X.prog X.w Dl l) ∧ RN X.K H2 (Dl :: Xs) acc l ∧
          GoodF X.K cl W m fm Xs os σ H Q ((ndGo vs tgt cond kx (ds.drop (i + 1)) acc (forgetS vs s2)).bind fun acc s2 => toOut (sortU acc) s2), fun H' z => ⟨ds.length - (i + 1), by omega, hlt, rfl, z⟩, fun x H3 hy => ?_⟩
        obtain ⟨st3, px⟩ := yl x H3 hy
        have r3 := r.stay st3
        have hD3 := st3 _ _ hDl (by simp)
        have ra3 : RN X.K H3 (Dl :: Xs) acc l := RN.mono (fun d v h => Rp.stay st3 (fun a h => absurd h (by simp)) d v h) ra
        have sA := st.trans st3.any
        unfold ndGo at g
        cases q2 : tgt ds[i] (forgetS vs s2) with
        | none => rw [q2] at g; exact g.elim
        | some s4 =>
          rw [q2] at g
          dsimp only at g
          refine ht _ (Dl :: Xs) os _ s4 _ H3 _ x _ r3 px q2 fun σ4 r4 hw4 => ?_
          have hw4' : wipe σ4 vs = wipe σ vs := by rw [hw4, wipe_wipe]
          refine ⟨hw4', _, Dl :: Xs, os, s4, r4, ?_⟩
          cases q3 : cond s4 with
          | ok b s5 =>
            rw [q3] at g
            dsimp only at g
            intro H5 r5 st5
            have hD5 := st5 _ _ hD3 nMu
            have ra5 : RN X.K H5 (Dl :: Xs) acc l := RN.mono (fun d v h => Rp.stay st5 (Mu.sub r4 m) d v h) ra3
            cases b with
            | true =>
              rw [if_pos rfl] at g ⊢
              refine ⟨_, Dl :: Xs, os, s5, r5, ?_⟩
              cases q4 : kx s5 with
              | ok y s6 =>
                rw [q4] at g
                dsimp only at g
                intro v H6 r6 st6 p6
                cases q5 : nkey y with
                | none => rw [q5] at g; exact g.elim
                | some kk =>
                  rw [q5] at g
                  dsimp only at g
                  split at g
                  case isFalse => exact g.elim
                  rename_i hcnd
                  obtain ⟨c1, c2, c3⟩ := hcnd
                  obtain ⟨a, ea⟩ := tup_ref p6 c2
                  subst ea
                  have hD6 := st6 _ _ hD5 nMu
                  have ra6 : RN X.K H6 (Dl :: Xs) acc l := RN.mono (fun d v h => Rp.stay st6 (Mu.sub r5 m) d v h) ra5
                  refine ⟨Dl :: Xs, acc, l, y, kk, a, rfl, rfl, hD6, ra6, by rw [ra6.len]; exact line1M c3, q5, c1, p6, s6, storeD acc y, storeN l kk a, ?_, ?_, upd_same, ?_, g⟩
                  · have a := r6.putXO (u1 := ndO X.prog X.w Dl (storeN l kk a)) List.mem_cons_self fr.no fr.nd fr.n0 hD6 trivial
                    refine (a.forgets vs).wiped ?_
                    rw [wipe_wipe, hw4']
                  · have sB := (sA.trans st5).trans st6
                    intro a o h n
                    have na : a ≠ Dl := fun e => by rw [e, hDH] at h; cases h
                    rw [upd_ne na]
                    exact sB a o h n
                  · exact RN.mono (fun d v h => Rp.stay (M := [Dl]) (Stay.put List.mem_cons_self) (fun a h => by rw [List.mem_singleton.mp h]; exact List.mem_cons_self) d v h) (RN.store q5 c1 p6 ra6)
              | exc c t s6 => rw [q4] at g; exact g.elim
              | no => rw [q4] at g; exact g.elim
            | false =>
              rw [if_neg Bool.false_ne_true] at g ⊢
              refine ⟨s5, acc, l, ?_, sA.trans st5, hD5, ra5, g⟩
              refine (r5.forgets vs).wiped ?_
              rw [wipe_wipe, hw4']
          | exc c t s5 => rw [q3] at g; exact g.elim
          | no => rw [q3] at g; exact g.elim
      · have e : i = ds.length := by omega
        subst e
        rw [List.drop_length] at g
        simp only [ndGo, Out.bind_ok] at g
        refine .inl ⟨hstop (Nat.le_refl _), ?_⟩
        cases q8 : sortU acc with
        | none => rw [q8] at g; exact g.elim
        | some es =>
          rw [q8] at g
          have r9 : Rel X.K fm Xs os (forgetS vs s2) σ H2 := (r.drops.lessX fr.no fr.nd fr.n0 fr.nx).wiped wipe_wipe.symm
          refine ⟨Dl, l, Dl :: Xs, acc, es, rfl, hDl, ra, q8, fun p ws hp rw' => ?_⟩
          exact useF g r9 st hp (RpA.less (fun x h => List.mem_cons_of_mem _ h) es ws rw')
    | exc c t s1 => rw [q] at gg; exact gg
    | no => rw [q] at gg; exact gg.elim
end
end Zo
/-! ZX5: small things that the printed texts name. -/
namespace Zo
open PySem PySem.Spec PyProof.Rows L2
/-- a def of a class's body -/
def meth (c : Stmt) (j : Nat) : Stmt := match c with
  | .ClassDef _ _ _ b _ _ _ _ _ _ _ => b.getD j (.Pass ⟨0, 0, 0, 0⟩)
  | _ => .Pass ⟨0, 0, 0, 0⟩
theorem few66 {k : Nat} {A : Around} (r : Room k A) : A.units + 66 < cLine := by have := r.un; omega
section
variable {X : Cx} {cl : Nat → Addr} {k n : Nat}
theorem defv_nil : ∀ (y : Str) (g : List D → Ro), ([] : List (Str × (List D → Ro))).lookup y = some g → DefV X cl k n y g := fun y g h => by cases h
theorem defv_cons {y0 : Str} {g0 : List D → Ro} {tab : List (Str × (List D → Ro))} (h0 : DefV X cl k n y0 g0) (hr : ∀ y g, tab.lookup y = some g → DefV X cl k n y g) : ∀ (y : Str) (g : List D → Ro), ((y0, g0) :: tab).lookup y = some g → DefV X cl k n y g := by
  intro y g h
  rw [List.lookup_cons] at h
  split at h
  · rename_i e
    have := beq_iff_eq.mp e
    subst this
    cases h
    exact h0
  · exact hr y g h
theorem defv {y0 : Str} {g0 : List D → Ro} {f : Addr} {fd : FuncData} {ps : List Str} {j : Nat} (h : PySem.W.nsIn X.K mainGlobals y0 = some (some (.ref f))) (F : FnOk X.prog X.w X.K X.mg X.base (L2.CX X.prog X.w) j f fd ps (spP X.K cl n g0)) (hj : j ≤ k) (hk : PySem.W.keepIn X.K (.ref f) = true) (hb : Binds X.K fd ps []) : DefV X cl k n y0 g0 :=
  ⟨f, fd, ps, h, F.mono hj, hk, hb⟩
end
section
variable {cl : Nat → Addr} {X : Cx} {W : WX} {m : Bool} {pos : Pos}
/-- a, b = x, [..] -/
def par2M (i j : Nat) (a : Ev) (b : Evs) : Ex := fun s => (a s).bind fun d s1 => (b s1).bind fun d2 s2 => .ok .nx { s2 with env := (s2.env.set i (.fz d)).set j (.own d2) }
theorem par2m_rel {fm : Fm} {Xs : List Addr} {os : List (Nat × Addr)} {s : Ms} {σ : L2.St} {H : Hp} {i j : Nat} {a : Ev} {b : Evs} {Dn : Ends} (r : Rel X.K fm Xs os s σ H) (g : GoodS X.K cl W fm Dn (par2M i j a b s)) :
    tCons (tE X.K cl W m a) (tCons (tF X.K cl W m b) tNil) σ H fun vs H1 => ∃ v w, vs = [v, w] ∧ Dn.nx ((σ.set i (some v)).set j (some w)) H1 := by
  unfold par2M at g
  refine ⟨fm, Xs, os, s, r, ?_⟩
  cases q : a s with
  | ok d s1 =>
    rw [q] at g
    simp only [Out.bind_ok] at g
    refine fun v H1 r1 st1 p1 => ⟨{ fm with tmp := [(d, v)] ++ fm.tmp }, Xs, os, s1, r1.holds _ (fun x hx => ?_), ?_⟩
    · simp only [List.mem_cons, List.not_mem_nil, or_false] at hx
      subst hx
      exact p1
    cases q2 : b s1 with
    | ok d2 s2 =>
      rw [q2] at g
      simp only [Out.bind_ok] at g
      refine fun p vs H3 r3' st3 fp' hp ra => ⟨v, .ref p, rfl, g (p :: Xs) ((j, p) :: rid (rid os i) j) _ H3 ?_⟩
      have k1 : Rp X.K H3 (p :: Xs) d v := r3'.tm (d, v) (by simp)
      have r3 := r3'.drops
      refine (r3.setfz (i := i) k1).setown (i := j) List.mem_cons_self hp (fun z => ?_) fp'.nd fp'.n0 ra
      obtain ⟨x, hx, e⟩ := List.mem_map.mp z
      exact fp'.no (List.mem_map.mpr ⟨x, (rid_mem.mp hx).1, e⟩)
    | exc c' t s3 =>
      rw [q2] at g
      exact fun v dd H' r' p' hd => g Xs os σ v dd H' r'.drops p' hd
    | no => rw [q2] at g; exact g.elim
  | exc c t s1 => rw [q] at g; exact g Xs os σ
  | no => rw [q] at g; exact g.elim
theorem ss_par2m {i j : Nat} {x y : Str} {ea eb : Expr} {a : Ev} {b : Evs} {px py pt : Pos} {kt k2 pt2} (ha : SE cl X W m ea a) (hb : SF cl X W m eb b)
    (hP : ∀ ta, PA X [ea, eb] ta → PS X (.Assign [.Tuple [.Name x px, .Name y py] kt pt] (.Tuple [ea, eb] k2 pt2) pos) (tPar i j ta))
    (he : starEach [ea, eb] X.env = (false, eval ea X.env) :: starEach [eb] X.env := by rfl) (he2 : starEach [eb] X.env = (false, eval eb X.env) :: starEach [] X.env := by rfl) :
    SS cl X W (.Assign [.Tuple [.Name x px, .Name y py] kt pt] (.Tuple [ea, eb] k2 pt2) pos) (par2M i j a b) :=
  ps_imp (hP _ (pa_cons ha (pa_cons hb pa_nil he2) he)) fun Dn σ H ⟨fm, Xs, os, s, r, g⟩ => par2m_rel r g
/-! ### the same, by a tuple (a name of them is a block's, too) -/
theorem par2t_rel {fm : Fm} {Xs : List Addr} {os : List (Nat × Addr)} {s : Ms} {σ : L2.St} {H : Hp} {i j : Nat} {a : Ev} {b : Evs} {Dn : Ends} {Q : List V → Hp → Prop} (r : Rel X.K fm Xs os s σ H) (g : GoodS X.K cl W fm Dn (par2M i j a b s))
    (hQ : ∀ v w H1, (∀ H2, Stay [] H1 H2 → Dn.nx ((σ.set i (some v)).set j (some w)) H2) → Q [v, w] H1) : tCons (tE X.K cl W m a) (tCons (tF X.K cl W m b) tNil) σ H Q := by
  unfold par2M at g
  refine ⟨fm, Xs, os, s, r, ?_⟩
  cases q : a s with
  | ok d s1 =>
    rw [q] at g
    simp only [Out.bind_ok] at g
    refine fun v H1 r1 st1 p1 => ⟨{ fm with tmp := [(d, v)] ++ fm.tmp }, Xs, os, s1, r1.holds _ (fun x hx => ?_), ?_⟩
    · simp only [List.mem_cons, List.not_mem_nil, or_false] at hx
      subst hx
      exact p1
    cases q2 : b s1 with
    | ok d2 s2 =>
      rw [q2] at g
      simp only [Out.bind_ok] at g
      refine fun p vs H3 r3' st3 fp' hp ra => hQ v (.ref p) H3 fun H4 st4 => g (p :: Xs) ((j, p) :: rid (rid os i) j) _ H4 (Rel.stay ?_ st4)
      have k1 : Rp X.K H3 (p :: Xs) d v := r3'.tm (d, v) (by simp)
      have r3 := r3'.drops
      refine (r3.setfz (i := i) k1).setown (i := j) List.mem_cons_self hp (fun z => ?_) fp'.nd fp'.n0 ra
      obtain ⟨x, hx, e⟩ := List.mem_map.mp z
      exact fp'.no (List.mem_map.mpr ⟨x, (rid_mem.mp hx).1, e⟩)
    | exc c' t s3 =>
      rw [q2] at g
      exact fun v dd H' r' p' hd => g Xs os σ v dd H' r'.drops p' hd
    | no => rw [q2] at g; exact g.elim
  | exc c t s1 => rw [q] at g; exact g Xs os σ
  | no => rw [q] at g; exact g.elim
theorem ss_tup2m {i j : Nat} {a : Ev} {b : Evs} {st : Stmt} (hP : PS X st (tAsg (tTupF (tCons (tE X.K cl W m a) (tCons (tF X.K cl W m b) tNil))) (gTup X.K 2 (gNames [i, j])))) : SS cl X W st (par2M i j a b) :=
  ps_imp hP fun Dn σ H ⟨fm, Xs, os, s, r, g⟩ => by
    unfold tAsg tTupF
    exact par2t_rel r g fun v w H1 k => ⟨size1000 (show 2 ≤ 1000 by decide), fun p o hp hd => ⟨p, [v, w], rfl, .inl (.inr ⟨o, upd_same⟩), rfl, v, [w], rfl, w, [], rfl, rfl, k _ (Stay.laid hp)⟩⟩
theorem par3t_rel {fm : Fm} {Xs : List Addr} {os : List (Nat × Addr)} {s : Ms} {σ : L2.St} {H : Hp} {i j l : Nat} {a b : Ev} {c : Evs} {Dn : Ends} {Q : List V → Hp → Prop} (r : Rel X.K fm Xs os s σ H) (g : GoodS X.K cl W fm Dn (par3S i j l a b c s))
    (hQ : ∀ u v w H1, (∀ H2, Stay [] H1 H2 → Dn.nx (((σ.set i (some u)).set j (some v)).set l (some w)) H2) → Q [u, v, w] H1) : tCons (tE X.K cl W m a) (tCons (tE X.K cl W m b) (tCons (tF X.K cl W m c) tNil)) σ H Q := by
  unfold par3S at g
  refine ⟨fm, Xs, os, s, r, ?_⟩
  cases q : a s with
  | ok d s1 =>
    rw [q] at g
    simp only [Out.bind_ok] at g
    refine fun v H1 r1 st1 p1 => ⟨fm, Xs, os, s1, r1, ?_⟩
    cases q2 : b s1 with
    | ok d2 s2 =>
      rw [q2] at g
      simp only [Out.bind_ok] at g
      refine fun v2 H2 r2 st2 p2 => ⟨{ fm with tmp := [(d, v), (d2, v2)] ++ fm.tmp }, Xs, os, s2, r2.holds _ (fun x hx => ?_), ?_⟩
      · simp only [List.mem_cons, List.not_mem_nil, or_false] at hx
        rcases hx with rfl | rfl
        · exact Rp.stay st2 r1.sx d v p1
        · exact p2
      cases q3 : c s2 with
      | ok d3 s3 =>
        rw [q3] at g
        simp only [Out.bind_ok] at g
        refine fun p vs H3 r3' st3 fp' hp ra => hQ v v2 (.ref p) H3 fun H4 st4 => g (p :: Xs) ((l, p) :: rid (rid (rid os i) j) l) _ H4 (Rel.stay ?_ st4)
        have k1 : Rp X.K H3 (p :: Xs) d v := r3'.tm (d, v) (by simp)
        have k2 : Rp X.K H3 (p :: Xs) d2 v2 := r3'.tm (d2, v2) (by simp)
        have r3 := r3'.drops
        refine ((r3.setfz (i := i) k1).setfz (i := j) k2).setown (i := l) List.mem_cons_self hp (fun z => ?_) fp'.nd fp'.n0 ra
        obtain ⟨x, hx, e⟩ := List.mem_map.mp z
        exact fp'.no (List.mem_map.mpr ⟨x, (rid_mem.mp (rid_mem.mp hx).1).1, e⟩)
      | exc c' t s3 =>
        rw [q3] at g
        exact fun v dd H' r' p' hd => g Xs os σ v dd H' r'.drops p' hd
      | no => rw [q3] at g; exact g.elim
    | exc c t s2 => rw [q2] at g; exact g Xs os σ
    | no => rw [q2] at g; exact g.elim
  | exc c t s1 => rw [q] at g; exact g Xs os σ
  | no => rw [q] at g; exact g.elim
theorem ss_tup3m {i j l : Nat} {a b : Ev} {c : Evs} {st : Stmt} (hP : PS X st (tAsg (tTupF (tCons (tE X.K cl W m a) (tCons (tE X.K cl W m b) (tCons (tF X.K cl W m c) tNil)))) (gTup X.K 3 (gNames [i, j, l])))) : SS cl X W st (par3S i j l a b c) :=
  ps_imp hP fun Dn σ H ⟨fm, Xs, os, s, r, g⟩ => by
    unfold tAsg tTupF
    exact par3t_rel r g fun u v w H1 k => ⟨size1000 (show 3 ≤ 1000 by decide), fun p o hp hd => ⟨p, [u, v, w], rfl, .inl (.inr ⟨o, upd_same⟩), rfl, u, [v, w], rfl, v, [w], rfl, w, [], rfl, rfl, k _ (Stay.laid hp)⟩⟩
end
section
variable {cl : Nat → Addr} {X : Cx} {W : WX} {m : Bool} {e : Expr} {es : List Expr} {evs : Evs} {k n : Nat} {f : Addr} {fd : FuncData} {N ps : List Str} {x qual : Str} {st : Stmt} {p pos : Pos} {run : Ex}
/-- a def whose body is run where the guards are known -/
structure BodyG (P : Program) (w : World) (K : Fr) (mg : Str → Option Value) (base : Heap) (cl : Nat → Addr) (k n : Nat) (f : Addr) (fd : FuncData) (x : Str) (g : List D → Ro) : Prop where
  has : ∃ (N ps : List Str) (qual : Str) (st : Stmt) (run : Ex), Fun K x qual st f fd ∧ FnScope N ps (defScope st) ∧ ps.length = n ∧ ps.length ≤ N.length ∧ Binds K fd ps [] ∧ g = runFn N.length run ∧
    ∀ (outer : List Env) (cdv : Value) (A : Around) (s : Shared) (H : Hp) (E : XK), Room k (A.deeper (envOfC qual (defScope st) s.heap.objs.size f cdv)) → A.guards = some [] → SSs cl (cxOf (L2.CX P w) P w K mg base N qual (defScope st) f cdv A outer s H E) (fun c d _ H => E c d H) (defBody st) run
theorem se_callGG {g : List D → Ro} (B : BodyG X.prog X.w X.K X.mg X.base cl k n f fd x g) (hr : Room (k + 1) X.A) (hgu : X.A.guards = some []) (hg : Gl X x) (hm : X.mg x = some (.ref f)) (tk : Takes X W)
    (ha : SA cl X W m (e :: es) evs) (hn : ∀ s ds s1, evs s = .ok ds s1 → ds.length = n) (hdb : (x == ("__debug__" : Str)) = false := by decide) (he : starEach (e :: es) X.env = (false, eval e X.env) :: starEach es X.env := by rfl) (hpl : (backTo pos (starEach es X.env)).any (·.1) = false := by rfl) :
    SE cl X W m (.Call (.Name x p) (e :: es) [] pos) (evCall g evs) := by
  obtain ⟨N, ps, qual, st, run, F, S, h1, h2, hb, hgq, body⟩ := B.has
  subst hgq
  exact se_callG F S h1 h2 hr hgu hg hm hb tk (body X.stack) ha hn hdb he hpl
end
/-! ### a slice of a tuple, a text or a list -/
def slU : D → Option Int → Option Int → Option D
  | .list xs, lo, hi => some (.list (cutL xs lo hi))
  | x, lo, hi => slD x lo hi
def evSlU (a : Ev) (lo hi : Pt) : Ev := fun s => (a s).bind fun x s1 => (lo s1).bind fun l s2 => (hi s2).bind fun u s3 => toOut (slU x l u) s3
section
variable {cl : Nat → Addr} {X : Cx} {W : WX} {m : Bool} {e : Expr} {ev : Ev}
theorem se_sliceU {lo hi : Option Expr} {pl pu : Pt} {p2 pos} (h : SB cl X W m e ev) (hl : SP cl X W true lo pl) (hu : SP cl X W true hi pu) : SE cl X W m (.Subscript e (.Slice lo hi none p2) pos) (evSlU ev pl pu) :=
  pe_imp (pe_slice ((sl_tupF.or sl_str).or sl_list) h hl hu) fun σ H Q ⟨fm, Xs, os, s, R, g⟩ => by
    unfold evSlU at g
    refine ⟨fm, Xs, os, s, R, ?_⟩
    cases q : ev s with
    | ok x s1 =>
      rw [q] at g
      simp only [Out.bind_ok] at g
      refine fun v1 H1 r1 st1 p1 => ⟨fm, Xs, os, s1, r1, ?_⟩
      cases q2 : pl s1 with
      | ok l s2 =>
        rw [q2] at g
        simp only [Out.bind_ok] at g
        refine fun H2 r2 st2 => ⟨fm, Xs, os, s2, r2, ?_⟩
        cases q3 : pu s2 with
        | ok u s3 =>
          rw [q3] at g
          simp only [Out.bind_ok] at g
          refine fun H3 r3 st3 => ?_
          have p3 := (p1.still r1 st2).still r2 st3
          have st := st1.trans ((st2.more Mu.still).trans (st3.more Mu.still))
          cases x with
          | tuple xs =>
            simp only [slU, slD, toOut_some] at g
            obtain ⟨a, vs, ev, ha, ra⟩ := p3.tuple
            subst ev
            refine .inl (.inl ⟨a, vs, rfl, ha, fun hw => ?_, fun hw p o hp hd => ?_⟩)
            · have e0 : cutL xs l u = xs := by
                obtain ⟨h1, h2⟩ := hw
                rw [ra.len] at h1 h2
                unfold cutL
                rw [h1, h2]
                simp
              rw [e0] at g
              exact g _ H3 r3 st p3.tup
            · exact g _ _ (r3.laid hp) (st.trans (Stay.laid hp)) (rp_newF hp (r3.nx hp) hd (ra.cut l u))
          | str z =>
            simp only [slU, slD] at g
            split at g
            · rename_i hz
              exact .inl (.inr ⟨z, p3.str, hz, g _ H3 r3 st rfl⟩)
            · exact g.elim
          | list xs =>
            simp only [slU, toOut_some] at g
            obtain ⟨a, vs, ev, ha, ra⟩ := p3.list
            subst ev
            exact .inr ⟨a, vs, rfl, SqL.of ha, fun p hp => g (.ref p) _ (r3.laid hp) (st.trans (Stay.laid hp)) ⟨p, _, rfl, ⟨upd_same, r3.nx hp⟩, RpA.laid hp (ra.cut l u)⟩⟩
          | _ => exact g.elim
        | exc c t s3 => rw [q3] at g; exact g
        | no => rw [q3] at g; exact g.elim
      | exc c t s2 => rw [q2] at g; exact g
      | no => rw [q2] at g; exact g.elim
    | exc c t s1 => rw [q] at g; exact g
    | no => rw [q] at g; exact g.elim
end
end Zo
namespace Zo
open PySem PySem.Spec PyProof.Rows L2
noncomputable section
abbrev s_is_whole : Stmt := top 8
abbrev s_params_told : Stmt := top 60
abbrev s_amount_names : Stmt := top 61
abbrev s_less_names : Stmt := top 62
abbrev s_is_arg_wrong : Stmt := top 63
abbrev s_part_words : Stmt := top 64
abbrev s_Names_word_for : Stmt := meth (top 54) 1
abbrev s_Names_word_for_amount : Stmt := meth (top 54) 2
abbrev s_place_words : Stmt := top 55
abbrev s_is_deaf : Stmt := top 58
abbrev s_ask_words : Stmt := top 56
abbrev s_is_far : Stmt := top 57
abbrev s_Names_word_for_channel : Stmt := meth (top 54) 3
abbrev s_parts_of : Stmt := top 19
abbrev s_names_of : Stmt := top 20
abbrev s_Names_words_in_expr : Stmt := meth (top 54) 4
abbrev s_edge_words : Stmt := top 59
abbrev s_is_channel_all : Stmt := top 66
abbrev s_Names_init : Stmt := meth (top 54) 0
abbrev s_all_channels : Stmt := top 65
abbrev s_module_faults : Stmt := top 67
abbrev s_faults_in : Stmt := top 68
abbrev s_is_tuple_of : Stmt := top 10
abbrev s_is_name : Stmt := top 14
abbrev s_are_rising : Stmt := top 15
abbrev s_rise_by_name : Stmt := top 31
abbrev s_are_names : Stmt := top 30
abbrev s_is_one_of : Stmt := top 12
abbrev s_is_param : Stmt := top 34
abbrev s_is_whole_from : Stmt := top 9
abbrev s_is_amount : Stmt := top 32
abbrev s_is_limit : Stmt := top 36
abbrev s_is_keep : Stmt := top 37
abbrev s_is_place : Stmt := top 38
abbrev s_is_word : Stmt := top 11
abbrev s_is_named : Stmt := top 13
abbrev s_is_deed : Stmt := top 39
abbrev s_is_difference : Stmt := top 33
abbrev s_is_ask : Stmt := top 40
abbrev s_is_expr_value : Stmt := top 18
abbrev s_is_test : Stmt := top 41
abbrev s_is_set : Stmt := top 42
abbrev s_are_tests_and_sets : Stmt := top 43
abbrev s_is_edge : Stmt := top 44
abbrev s_is_number : Stmt := top 35
abbrev s_are_numbers : Stmt := top 45
abbrev s_is_module : Stmt := top 46
abbrev s_is_channel : Stmt := top 71
abbrev s_is_part : Stmt := top 72
abbrev s_is_list_of : Stmt := top 73
abbrev s_is_written_value : Stmt := top 74
abbrev s_is_program_value : Stmt := top 75
abbrev s_is_program : Stmt := top 77
abbrev s_need_written : Stmt := top 76
abbrev s_faults_of : Stmt := top 79
abbrev s_law_begun : Stmt := sBegun
abbrev s_law_draw : Stmt := sDraw
abbrev s_law_pick : Stmt := top 83
abbrev s_law_asks : Stmt := top 84
abbrev s_law_is_far : Stmt := top 85
abbrev s_law_refused : Stmt := top 86
abbrev s_law : Stmt := top 87
/-- what the top has written -/
structure Txt (K : Fr) (mg : Str → Option Value) (cl ad : Nat → Addr) (fd : Nat → FuncData) (fi : Nat → Addr) (za : Addr) : Prop where
  g0 : mg "is_whole" = some (.ref (ad 0))
  F0 : Fun K "is_whole" "is_whole" s_is_whole (ad 0) (fd 0)
  B0 : Binds K (fd 0) ["thing"] []
  g33 : mg "params_told" = some (.ref (ad 33))
  F33 : Fun K "params_told" "params_told" s_params_told (ad 33) (fd 33)
  B33 : Binds K (fd 33) ["module", "args"] []
  g34 : mg "amount_names" = some (.ref (ad 34))
  F34 : Fun K "amount_names" "amount_names" s_amount_names (ad 34) (fd 34)
  B34 : Binds K (fd 34) ["module"] []
  g35 : mg "less_names" = some (.ref (ad 35))
  F35 : Fun K "less_names" "less_names" s_less_names (ad 35) (fd 35)
  B35 : Binds K (fd 35) ["module"] []
  g36 : mg "is_arg_wrong" = some (.ref (ad 36))
  F36 : Fun K "is_arg_wrong" "is_arg_wrong" s_is_arg_wrong (ad 36) (fd 36)
  B36 : Binds K (fd 36) ["param", "arg", "channels", "amounts"] []
  g37 : mg "part_words" = some (.ref (ad 37))
  F37 : Fun K "part_words" "part_words" s_part_words (ad 37) (fd 37)
  B37 : Binds K (fd 37) ["module", "args", "channels"] []
  M58 : Meth K (cl 1) "word_for" (ad 58)
  F58 : Fun K "word_for" "Names.word_for" s_Names_word_for (ad 58) (fd 58)
  B58 : Binds K (fd 58) ["self", "name", "sorts"] []
  M59 : Meth K (cl 1) "word_for_amount" (ad 59)
  F59 : Fun K "word_for_amount" "Names.word_for_amount" s_Names_word_for_amount (ad 59) (fd 59)
  B59 : Binds K (fd 59) ["self", "amount"] []
  g28 : mg "place_words" = some (.ref (ad 28))
  F28 : Fun K "place_words" "place_words" s_place_words (ad 28) (fd 28)
  B28 : Binds K (fd 28) ["names", "place"] []
  g31 : mg "is_deaf" = some (.ref (ad 31))
  F31 : Fun K "is_deaf" "is_deaf" s_is_deaf (ad 31) (fd 31)
  B31 : Binds K (fd 31) ["edge", "places", "heard"] []
  g29 : mg "ask_words" = some (.ref (ad 29))
  F29 : Fun K "ask_words" "ask_words" s_ask_words (ad 29) (fd 29)
  B29 : Binds K (fd 29) ["names", "ask"] []
  g30 : mg "is_far" = some (.ref (ad 30))
  F30 : Fun K "is_far" "is_far" s_is_far (ad 30) (fd 30)
  B30 : Binds K (fd 30) ["asks", "ask"] []
  M60 : Meth K (cl 1) "word_for_channel" (ad 60)
  F60 : Fun K "word_for_channel" "Names.word_for_channel" s_Names_word_for_channel (ad 60) (fd 60)
  B60 : Binds K (fd 60) ["self", "name"] []
  g9 : mg "parts_of" = some (.ref (ad 9))
  F9 : Fun K "parts_of" "parts_of" s_parts_of (ad 9) (fd 9)
  B9 : Binds K (fd 9) ["expr"] []
  g10 : mg "names_of" = some (.ref (ad 10))
  F10 : Fun K "names_of" "names_of" s_names_of (ad 10) (fd 10)
  B10 : Binds K (fd 10) ["expr"] []
  M61 : Meth K (cl 1) "words_in_expr" (ad 61)
  F61 : Fun K "words_in_expr" "Names.words_in_expr" s_Names_words_in_expr (ad 61) (fd 61)
  B61 : Binds K (fd 61) ["self", "expr"] []
  g32 : mg "edge_words" = some (.ref (ad 32))
  F32 : Fun K "edge_words" "edge_words" s_edge_words (ad 32) (fd 32)
  B32 : Binds K (fd 32) ["names", "edge"] []
  g39 : mg "is_channel_all" = some (.ref (ad 39))
  F39 : Fun K "is_channel_all" "is_channel_all" s_is_channel_all (ad 39) (fd 39)
  B39 : Binds K (fd 39) ["how", "arg"] []
  M57 : Mk K (cl 1) (ad 57)
  F57 : Fun K "__init__" "Names.__init__" s_Names_init (ad 57) (fd 57)
  B57 : Binds K (fd 57) ["self", "module", "channels"] []
  g38 : mg "all_channels" = some (.ref (ad 38))
  F38 : Fun K "all_channels" "all_channels" s_all_channels (ad 38) (fd 38)
  B38 : Binds K (fd 38) ["program", "module"] []
  g40 : mg "module_faults" = some (.ref (ad 40))
  F40 : Fun K "module_faults" "module_faults" s_module_faults (ad 40) (fd 40)
  B40 : Binds K (fd 40) ["program", "module"] []
  g41 : mg "faults_in" = some (.ref (ad 41))
  F41 : Fun K "faults_in" "faults_in" s_faults_in (ad 41) (fd 41)
  B41 : Binds K (fd 41) ["program"] []
  g2 : mg "is_tuple_of" = some (.ref (ad 2))
  F2 : Fun K "is_tuple_of" "is_tuple_of" s_is_tuple_of (ad 2) (fd 2)
  B2 : Binds K (fd 2) ["thing", "many"] []
  g6 : mg "is_name" = some (.ref (ad 6))
  F6 : Fun K "is_name" "is_name" s_is_name (ad 6) (fd 6)
  B6 : Binds K (fd 6) ["thing"] []
  g7 : mg "are_rising" = some (.ref (ad 7))
  F7 : Fun K "are_rising" "are_rising" s_are_rising (ad 7) (fd 7)
  B7 : Binds K (fd 7) ["things"] []
  g12 : mg "rise_by_name" = some (.ref (ad 12))
  F12 : Fun K "rise_by_name" "rise_by_name" s_rise_by_name (ad 12) (fd 12)
  B12 : Binds K (fd 12) ["things"] []
  g11 : mg "are_names" = some (.ref (ad 11))
  F11 : Fun K "are_names" "are_names" s_are_names (ad 11) (fd 11)
  B11 : Binds K (fd 11) ["thing"] []
  g4 : mg "is_one_of" = some (.ref (ad 4))
  F4 : Fun K "is_one_of" "is_one_of" s_is_one_of (ad 4) (fd 4)
  B4 : Binds K (fd 4) ["thing", "words"] []
  g15 : mg "is_param" = some (.ref (ad 15))
  F15 : Fun K "is_param" "is_param" s_is_param (ad 15) (fd 15)
  B15 : Binds K (fd 15) ["thing"] []
  g1 : mg "is_whole_from" = some (.ref (ad 1))
  F1 : Fun K "is_whole_from" "is_whole_from" s_is_whole_from (ad 1) (fd 1)
  B1 : Binds K (fd 1) ["thing", "least"] []
  g13 : mg "is_amount" = some (.ref (ad 13))
  F13 : Fun K "is_amount" "is_amount" s_is_amount (ad 13) (fd 13)
  B13 : Binds K (fd 13) ["thing"] []
  g17 : mg "is_limit" = some (.ref (ad 17))
  F17 : Fun K "is_limit" "is_limit" s_is_limit (ad 17) (fd 17)
  B17 : Binds K (fd 17) ["thing"] []
  g18 : mg "is_keep" = some (.ref (ad 18))
  F18 : Fun K "is_keep" "is_keep" s_is_keep (ad 18) (fd 18)
  B18 : Binds K (fd 18) ["thing"] []
  g19 : mg "is_place" = some (.ref (ad 19))
  F19 : Fun K "is_place" "is_place" s_is_place (ad 19) (fd 19)
  B19 : Binds K (fd 19) ["thing"] []
  g3 : mg "is_word" = some (.ref (ad 3))
  F3 : Fun K "is_word" "is_word" s_is_word (ad 3) (fd 3)
  B3 : Binds K (fd 3) ["thing", "word"] []
  g5 : mg "is_named" = some (.ref (ad 5))
  F5 : Fun K "is_named" "is_named" s_is_named (ad 5) (fd 5)
  B5 : Binds K (fd 5) ["thing", "word", "many"] []
  g20 : mg "is_deed" = some (.ref (ad 20))
  F20 : Fun K "is_deed" "is_deed" s_is_deed (ad 20) (fd 20)
  B20 : Binds K (fd 20) ["thing"] []
  g14 : mg "is_difference" = some (.ref (ad 14))
  F14 : Fun K "is_difference" "is_difference" s_is_difference (ad 14) (fd 14)
  B14 : Binds K (fd 14) ["thing"] []
  g21 : mg "is_ask" = some (.ref (ad 21))
  F21 : Fun K "is_ask" "is_ask" s_is_ask (ad 21) (fd 21)
  B21 : Binds K (fd 21) ["thing"] []
  g8 : mg "is_expr_value" = some (.ref (ad 8))
  F8 : Fun K "is_expr_value" "is_expr_value" s_is_expr_value (ad 8) (fd 8)
  B8 : Binds K (fd 8) ["thing"] []
  g22 : mg "is_test" = some (.ref (ad 22))
  F22 : Fun K "is_test" "is_test" s_is_test (ad 22) (fd 22)
  B22 : Binds K (fd 22) ["thing"] []
  g23 : mg "is_set" = some (.ref (ad 23))
  F23 : Fun K "is_set" "is_set" s_is_set (ad 23) (fd 23)
  B23 : Binds K (fd 23) ["thing"] []
  g24 : mg "are_tests_and_sets" = some (.ref (ad 24))
  F24 : Fun K "are_tests_and_sets" "are_tests_and_sets" s_are_tests_and_sets (ad 24) (fd 24)
  B24 : Binds K (fd 24) ["tests", "resets", "sets"] []
  g25 : mg "is_edge" = some (.ref (ad 25))
  F25 : Fun K "is_edge" "is_edge" s_is_edge (ad 25) (fd 25)
  B25 : Binds K (fd 25) ["thing"] []
  g16 : mg "is_number" = some (.ref (ad 16))
  F16 : Fun K "is_number" "is_number" s_is_number (ad 16) (fd 16)
  B16 : Binds K (fd 16) ["thing"] []
  g26 : mg "are_numbers" = some (.ref (ad 26))
  F26 : Fun K "are_numbers" "are_numbers" s_are_numbers (ad 26) (fd 26)
  B26 : Binds K (fd 26) ["thing"] []
  g27 : mg "is_module" = some (.ref (ad 27))
  n27 : PySem.W.nsIn K mainGlobals "is_module" = some (some (.ref (ad 27)))
  F27 : Fun K "is_module" "is_module" s_is_module (ad 27) (fd 27)
  B27 : Binds K (fd 27) ["thing"] []
  g42 : mg "is_channel" = some (.ref (ad 42))
  n42 : PySem.W.nsIn K mainGlobals "is_channel" = some (some (.ref (ad 42)))
  F42 : Fun K "is_channel" "is_channel" s_is_channel (ad 42) (fd 42)
  B42 : Binds K (fd 42) ["thing"] []
  g43 : mg "is_part" = some (.ref (ad 43))
  n43 : PySem.W.nsIn K mainGlobals "is_part" = some (some (.ref (ad 43)))
  F43 : Fun K "is_part" "is_part" s_is_part (ad 43) (fd 43)
  B43 : Binds K (fd 43) ["thing"] []
  g44 : mg "is_list_of" = some (.ref (ad 44))
  F44 : Fun K "is_list_of" "is_list_of" s_is_list_of (ad 44) (fd 44)
  B44 : Binds K (fd 44) ["thing", "is_one"] []
  g45 : mg "is_written_value" = some (.ref (ad 45))
  F45 : Fun K "is_written_value" "is_written_value" s_is_written_value (ad 45) (fd 45)
  B45 : Binds K (fd 45) ["thing"] []
  g46 : mg "is_program_value" = some (.ref (ad 46))
  F46 : Fun K "is_program_value" "is_program_value" s_is_program_value (ad 46) (fd 46)
  B46 : Binds K (fd 46) ["thing"] []
  g48 : mg "is_program" = some (.ref (ad 48))
  F48 : Fun K "is_program" "is_program" s_is_program (ad 48) (fd 48)
  B48 : Binds K (fd 48) ["thing"] []
  g47 : mg "need_written" = some (.ref (ad 47))
  F47 : Fun K "need_written" "need_written" s_need_written (ad 47) (fd 47)
  B47 : Binds K (fd 47) ["program"] []
  g49 : mg "faults_of" = some (.ref (ad 49))
  F49 : Fun K "faults_of" "faults_of" s_faults_of (ad 49) (fd 49)
  B49 : Binds K (fd 49) ["program"] []
  k49_program : KwB (fd 49) ["program"] ["program"] [0]
  g50 : mg "_law_begun" = some (.ref (ad 50))
  F50 : Fun K "_law_begun" "_law_begun" s_law_begun (ad 50) (fd 50)
  B50 : Binds K (fd 50) ["script", "salt"] []
  g51 : mg "_law_draw" = some (.ref (ad 51))
  F51 : Fun K "_law_draw" "_law_draw" s_law_draw (ad 51) (fd 51)
  B51 : Binds K (fd 51) ["deck", "below"] []
  g52 : mg "_law_pick" = some (.ref (ad 52))
  F52 : Fun K "_law_pick" "_law_pick" s_law_pick (ad 52) (fd 52)
  B52 : Binds K (fd 52) ["deck", "some"] []
  g53 : mg "_law_asks" = some (.ref (ad 53))
  F53 : Fun K "_law_asks" "_law_asks" s_law_asks (ad 53) (fd 53)
  B53 : Binds K (fd 53) ["deck"] []
  g54 : mg "_law_is_far" = some (.ref (ad 54))
  F54 : Fun K "_law_is_far" "_law_is_far" s_law_is_far (ad 54) (fd 54)
  B54 : Binds K (fd 54) ["asks"] []
  g55 : mg "_law_refused" = some (.ref (ad 55))
  F55 : Fun K "_law_refused" "_law_refused" s_law_refused (ad 55) (fd 55)
  B55 : Binds K (fd 55) ["thing"] []
  g56 : mg "law" = some (.ref (ad 56))
  F56 : Fun K "law" "law" s_law (ad 56) (fd 56)
  B56 : Binds K (fd 56) ["script"] []
  K_Names : ClsN K "Names" (cl 1)
  G_Names : mg "Names" = some (.ref (cl 1))
  na_channels : NoAttr K (cl 1) "channels"
  na_is_twice : NoAttr K (cl 1) "is_twice"
  na_sorts : NoAttr K (cl 1) "sorts"
  n_all : mg "all" = none
  n_any : mg "any" = none
  n_bool : mg "bool" = none
  n_dict : mg "dict" = none
  n_enumerate : mg "enumerate" = none
  n_int : mg "int" = none
  n_isinstance : mg "isinstance" = none
  n_len : mg "len" = none
  n_list : mg "list" = none
  n_max : mg "max" = none
  n_range : mg "range" = none
  n_repr : mg "repr" = none
  n_reversed : mg "reversed" = none
  n_sorted : mg "sorted" = none
  n_str : mg "str" = none
  n_tuple : mg "tuple" = none
  n_zip : mg "zip" = none
  c_ALL : GCon K mg "ALL" (.str "all")
  c_CHANNEL_PARAM : GCon K mg "CHANNEL_PARAM" (.str "channel param")
  c_CLOCK : GCon K mg "CLOCK" (.str "clock")
  c_EDGE_PARTS : GCon K mg "EDGE_PARTS" (.int 8)
  c_FIGURES : GCon K mg "FIGURES" (.str "0123456789")
  c_GREATEST : GCon K mg "GREATEST" (.int 1000000000000000000000000000000000000000000000000000000000000)
  c_HOW : GCon K mg "HOW" (.tuple [(.str "pair"), (.str "all")])
  c_MARKS : GCon K mg "MARKS" (.tuple [(.str "time"), (.str "urgent"), (.str "committed"), (.str "reply")])
  c_MODULE_PARTS : GCon K mg "MODULE_PARTS" (.int 6)
  c_MOST_SIGNS : GCon K mg "MOST_SIGNS" (.int 12)
  c_NUMBER : GCon K mg "NUMBER" (.str "number")
  c_NUMBER_PARAM : GCon K mg "NUMBER_PARAM" (.str "number param")
  c_OPS : GCon K mg "OPS" (.tuple [(.str "<"), (.str "<="), (.str ">"), (.str ">=")])
  c_PARAM_SORTS : GCon K mg "PARAM_SORTS" (.tuple [(.str "number"), (.str "channel")])
  c_PLACE : GCon K mg "PLACE" (.str "place")
  c_PLACE_PARTS : GCon K mg "PLACE_PARTS" (.int 5)
  c_SIGNS : GCon K mg "SIGNS" (.tuple [(.str "+"), (.str "-")])
  c_SMALL : GCon K mg "SMALL" (.str "abcdefghijklmnopqrstuvwxyz")
  c_TESTS : GCon K mg "TESTS" (.tuple [(.str "<"), (.str "<="), (.str ">"), (.str ">="), (.str "="), (.str "#")])
  c_UPPER : GCon K mg "UPPER" (.tuple [(.str "<"), (.str "<=")])
  e0 : PySem.Zx.ExTxt K mg "BadProgram" "BadProgram.__init__" (cl 0) za (fi 0)
  i0 : ExIs K (cl 0)
  z0 : PySem.W.kitOne K (.ref (cl 0)) (.ref za) = some true
  gZ : mg "ZonesError" = some (.ref za)
/-! ### is_whole -/
def b_is_whole : Ex := (retS (evAnd (ev1 (isiD "int") (evVarB 0)) (evAnd (evNot (ev1 (isiD "bool") (evVarB 0))) (evChain (cmpI (fun i j => decide (i < j))) (cmpI (fun i j => decide (i < j))) (ev1 negD (evLit (.int 1000000000000000000000000000000000000000000000000000000000000))) (evVarB 0) (evLit (.int 1000000000000000000000000000000000000000000000000000000000000))))))
def f_is_whole : List D → Ro := runFn 1 b_is_whole
theorem sc_is_whole : FnScope ["thing"] ["thing"] (defScope s_is_whole) := ⟨rfl, rfl, rfl, by decide +kernel, rfl, by decide +kernel, by decide +kernel⟩
theorem ok_is_whole {P : Program} {w : World} {K : Fr} {mg : Str → Option Value} {base : Heap} {cl ad : Nat → Addr} {fd : Nat → FuncData} {fi : Nat → Addr} {za : Addr} (T : Txt K mg cl ad fd fi za) : FnOk P w K mg base (L2.CX P w) 3 (ad 0) (fd 0) ["thing"] (spP K cl 1 f_is_whole) :=
  fn_pure (cl := cl) (k := 2) T.F0 sc_is_whole rfl (by decide) fun cdv A outer s H E hr => by exact (ss_one (ss_ret (m := false) (se_and (se_isi tyok_int rfl T.n_isinstance (pe_bltn (v := V.ty "int") rfl T.n_int bt_int rfl) (sb_var 0 (pv 0))) (se_and (se_not (se_isi tyok_bool rfl T.n_isinstance (pe_bltn (v := V.ty "bool") rfl T.n_bool bt_bool rfl) (sb_var 0 (pv 0)))) (se_one (se_chain op_lt (sem_cmpI (fun i j => decide (i < j))) op_lt (sem_cmpI (fun i j => decide (i < j))) (sb_of (se_neg (sb_of (se_glob T.c_GREATEST rfl)))) (sb_var 0 (pv 0)) (sb_of (se_glob T.c_GREATEST rfl))))))))
/-! ### params_told -/
def b_params_told : Ex := (retS (ev1 dictRevD (lstOf (evComp [2, 3] (evZip (evBin ixD (evVarB 0) (evLit (.int 1))) (evVar 1)) (tgT [2, 3]) evYes (evTup (evCons (evBin ixD (evVarB 2) (evLit (.int 0))) (evCons (evVar 3) evNil)))))))
def f_params_told : List D → Ro := runFn 4 b_params_told
theorem sc_params_told : FnScope ["module", "args", "param", "arg"] ["module", "args"] (defScope s_params_told) := ⟨rfl, rfl, rfl, by decide +kernel, rfl, by decide +kernel, by decide +kernel⟩
theorem ok_params_told {P : Program} {w : World} {K : Fr} {mg : Str → Option Value} {base : Heap} {cl ad : Nat → Addr} {fd : Nat → FuncData} {fi : Nat → Addr} {za : Addr} (T : Txt K mg cl ad fd fi za) : FnOk P w K mg base (L2.CX P w) 3 (ad 33) (fd 33) ["module", "args"] (spP K cl 2 f_params_told) :=
  fn_pure (cl := cl) (k := 2) T.F33 sc_params_told rfl (by decide) fun cdv A outer s H E hr => by exact (ss_one (ss_ret (m := false) (se_dictRev rfl rfl T.n_dict rfl T.n_reversed (sf_of (sf_comp (tgT_sem (is := [2, 3]) (vs := [2, 3]) (n := 2) rfl (by decide)) (pe_lc (own := [("param", 2), ("arg", 3)]) rfl sc_params_told.nd (si_zip rfl T.n_zip (se_ix (sb_var 0 (pv 0)) (sb_of se_int)) (se_var 1 (pv 1))) (blkOk_by (by show blkC ["module", "args", "param", "arg"] (defScope s_params_told) _ _ = true; decide +kernel)) (fun _ _ _ _ _ => (pg_tup (n := 2) rfl (pgs_cons (pg_name (i := 2) sc_params_told.nd rfl (by first | exact Or.inl rfl | exact Or.inr rfl)) (pgs_cons (pg_name (i := 3) sc_params_told.nd rfl (by first | exact Or.inl rfl | exact Or.inr rfl)) pgs_nil)))) (fun _ _ _ _ _ => pts_yes) (fun _ _ _ _ _ => (se_tup (sa_cons (se_ix (sb_var 2 (pv 2)) (sb_of se_int)) (sa_cons (se_var 3 (pv 3)) sa_nil))))))))))
/-! ### amount_names -/
def b_amount_names : Ex := (seqS (ownS 1 (evBinL addL (lstOf (evComp [2] (evItT (evBin ixD (evVarB 0) (evLit (.int 4)))) (tgN 2) evYes (evBin ixD (evVarB 2) (evLit (.int 4))))) (lstOf (evComp2 [2, 3] [3] (evItT (evBin ixD (evVarB 0) (evLit (.int 4)))) (tgN 2) evYes (evItT (evBin ixD (evVarB 2) (evLit (.int 2)))) (tgN 3) evYes (evBin ixD (evVarB 3) (evLit (.int 2))))))) (seqS (doS (evExt 1 (lstOf (evComp [4] (evItT (evBin ixD (evVarB 0) (evLit (.int 5)))) (tgN 4) evYes (evBin ixD (evVarB 4) (evLit (.int 7))))))) (seqS (doS (evExt 1 (lstOf (evComp2 [4, 5] [5] (evItT (evBin ixD (evVarB 0) (evLit (.int 5)))) (tgN 4) evYes (evItT (evBin ixD (evVarB 4) (evLit (.int 3)))) (tgN 5) (evT (evBin eqD (ev1 lenD (evVarB 5)) (evLit (.int 3)))) (evBin ixD (evVarB 5) (evLit (.int 2))))))) (fixS 1 (retS (lstOf (evComp [6] (evItL (evVar 1)) (tgN 6) (evT (ev1 (isiD "str") (evVarB 6))) (evVar 6))))))))
def f_amount_names : List D → Ro := runFn 7 b_amount_names
theorem sc_amount_names : FnScope ["module", "found", "place", "item", "edge", "ask", "name"] ["module"] (defScope s_amount_names) := ⟨rfl, rfl, rfl, by decide +kernel, rfl, by decide +kernel, by decide +kernel⟩
theorem ok_amount_names {P : Program} {w : World} {K : Fr} {mg : Str → Option Value} {base : Heap} {cl ad : Nat → Addr} {fd : Nat → FuncData} {fi : Nat → Addr} {za : Addr} (T : Txt K mg cl ad fd fi za) : FnOk P w K mg base (L2.CX P w) 3 (ad 34) (fd 34) ["module"] (spP K cl 1 f_amount_names) :=
  fn_pure (cl := cl) (k := 2) T.F34 sc_amount_names rfl (by decide) fun cdv A outer s H E hr => by exact (ss_cons (ss_own (m := false) (i := 1) sc_amount_names.nd rfl (by first | exact Or.inl rfl | exact Or.inr rfl) (sf_bin op_cat sem_addL (sb_of (sf_of (sf_comp (tgN_sem (vs := [2]) (i := 2) (by decide)) (pe_lc (own := [("place", 2)]) rfl sc_amount_names.nd (si_tup (se_ix (sb_var 0 (pv 0)) (sb_of se_int))) (blkOk_by (by show blkC ["module", "found", "place", "item", "edge", "ask", "name"] (defScope s_amount_names) _ _ = true; decide +kernel)) (fun _ _ _ _ _ => (pg_name (i := 2) sc_amount_names.nd rfl (by first | exact Or.inl rfl | exact Or.inr rfl))) (fun _ _ _ _ _ => pts_yes) (fun _ _ _ _ _ => (se_ix (sb_var 2 (pv 2)) (sb_of se_int))))))) (sb_of (sf_of (sf_comp2 (vs := [2, 3]) (vs1 := [3]) (by decide) (tgN_sem (vs := [2, 3]) (i := 2) (by decide)) (tgN_sem (vs := [3]) (i := 3) (by decide)) (pe_lc2 (own := [("place", 2), ("item", 3)]) (vs1 := [3]) rfl sc_amount_names.nd (si_tup (se_ix (sb_var 0 (pv 0)) (sb_of se_int))) (blkOk_by (by show blkC ["module", "found", "place", "item", "edge", "ask", "name"] (defScope s_amount_names) _ _ = true; decide +kernel)) (by decide) (fun _ _ _ _ _ => (pg_name (i := 2) sc_amount_names.nd rfl (by first | exact Or.inl rfl | exact Or.inr rfl))) (fun _ _ _ _ _ => pts_yes) (fun _ _ _ _ _ => (si_tup (se_ix (sb_var 2 (pv 2)) (sb_of se_int)))) (fun _ _ _ _ _ => (pg_name (i := 3) sc_amount_names.nd rfl (by first | exact Or.inl rfl | exact Or.inr rfl))) (fun _ _ _ _ _ => pts_yes) (fun _ _ _ _ _ => (se_ix (sb_var 3 (pv 3)) (sb_of se_int))))))))) (ss_cons (ss_do (m := false) (se_ext 1 (pv 1) (sf_of (sf_comp (tgN_sem (vs := [4]) (i := 4) (by decide)) (pe_lc (own := [("edge", 4)]) rfl sc_amount_names.nd (si_tup (se_ix (sb_var 0 (pv 0)) (sb_of se_int))) (blkOk_by (by show blkC ["module", "found", "place", "item", "edge", "ask", "name"] (defScope s_amount_names) _ _ = true; decide +kernel)) (fun _ _ _ _ _ => (pg_name (i := 4) sc_amount_names.nd rfl (by first | exact Or.inl rfl | exact Or.inr rfl))) (fun _ _ _ _ _ => pts_yes) (fun _ _ _ _ _ => (se_ix (sb_var 4 (pv 4)) (sb_of se_int)))))) (fun t h => pe_bm PySem.F.plainAttrs_list PySem.F.slot_list_extend PySem.F.type_list_extend mt_extend (pv 1) h))) (ss_cons (ss_do (m := false) (se_ext 1 (pv 1) (sf_of (sf_comp2 (vs := [4, 5]) (vs1 := [5]) (by decide) (tgN_sem (vs := [4, 5]) (i := 4) (by decide)) (tgN_sem (vs := [5]) (i := 5) (by decide)) (pe_lc2 (own := [("edge", 4), ("ask", 5)]) (vs1 := [5]) rfl sc_amount_names.nd (si_tup (se_ix (sb_var 0 (pv 0)) (sb_of se_int))) (blkOk_by (by show blkC ["module", "found", "place", "item", "edge", "ask", "name"] (defScope s_amount_names) _ _ = true; decide +kernel)) (by decide) (fun _ _ _ _ _ => (pg_name (i := 4) sc_amount_names.nd rfl (by first | exact Or.inl rfl | exact Or.inr rfl))) (fun _ _ _ _ _ => pts_yes) (fun _ _ _ _ _ => (si_tup (se_ix (sb_var 4 (pv 4)) (sb_of se_int)))) (fun _ _ _ _ _ => (pg_name (i := 5) sc_amount_names.nd rfl (by first | exact Or.inl rfl | exact Or.inr rfl))) (fun _ _ _ _ _ => (pts_one (st_cmp (op_eqD hr.units) sem_eqD (sb_of (se_b L2.call_len sem_len rfl T.n_len bt_len (sb_var 5 (pv 5)))) (sb_of se_int) (nomark _)))) (fun _ _ _ _ _ => (se_ix (sb_var 5 (pv 5)) (sb_of se_int)))))) (fun t h => pe_bm PySem.F.plainAttrs_list PySem.F.slot_list_extend PySem.F.type_list_extend mt_extend (pv 1) h))) (ss_fix 1 (ss_one (ss_ret (m := false) (sf_of (sf_comp (tgN_sem (vs := [6]) (i := 6) (by decide)) (pe_lc (own := [("name", 6)]) rfl sc_amount_names.nd (si_list (se_var 1 (pv 1))) (blkOk_by (by show blkC ["module", "found", "place", "item", "edge", "ask", "name"] (defScope s_amount_names) _ _ = true; decide +kernel)) (fun _ _ _ _ _ => (pg_name (i := 6) sc_amount_names.nd rfl (by first | exact Or.inl rfl | exact Or.inr rfl))) (fun _ _ _ _ _ => (pts_one (st_val (se_isi tyok_str rfl T.n_isinstance (pe_bltn (v := V.ty "str") rfl T.n_str bt_str rfl) (sb_var 6 (pv 6)))))) (fun _ _ _ _ _ => (se_var 6 (pv 6))))))))))))
/-! ### less_names -/
def b_less_names : Ex := (retS (lstOf (evComp2 [1, 2] [2] (evItT (evBin ixD (evVarB 0) (evLit (.int 4)))) (tgN 1) evYes (evItT (evBin ixD (evVarB 1) (evLit (.int 2)))) (tgN 2) (evTand (evT (evBin eqD (evBin ixD (evVarB 2) (evLit (.int 1))) (evLit (.str "<")))) (evT (ev1 (isiD "str") (evBin ixD (evVarB 2) (evLit (.int 2)))))) (evBin ixD (evVarB 2) (evLit (.int 2))))))
def f_less_names : List D → Ro := runFn 3 b_less_names
theorem sc_less_names : FnScope ["module", "place", "item"] ["module"] (defScope s_less_names) := ⟨rfl, rfl, rfl, by decide +kernel, rfl, by decide +kernel, by decide +kernel⟩
theorem ok_less_names {P : Program} {w : World} {K : Fr} {mg : Str → Option Value} {base : Heap} {cl ad : Nat → Addr} {fd : Nat → FuncData} {fi : Nat → Addr} {za : Addr} (T : Txt K mg cl ad fd fi za) : FnOk P w K mg base (L2.CX P w) 3 (ad 35) (fd 35) ["module"] (spP K cl 1 f_less_names) :=
  fn_pure (cl := cl) (k := 2) T.F35 sc_less_names rfl (by decide) fun cdv A outer s H E hr => by exact (ss_one (ss_ret (m := false) (sf_of (sf_comp2 (vs := [1, 2]) (vs1 := [2]) (by decide) (tgN_sem (vs := [1, 2]) (i := 1) (by decide)) (tgN_sem (vs := [2]) (i := 2) (by decide)) (pe_lc2 (own := [("place", 1), ("item", 2)]) (vs1 := [2]) rfl sc_less_names.nd (si_tup (se_ix (sb_var 0 (pv 0)) (sb_of se_int))) (blkOk_by (by show blkC ["module", "place", "item"] (defScope s_less_names) _ _ = true; decide +kernel)) (by decide) (fun _ _ _ _ _ => (pg_name (i := 1) sc_less_names.nd rfl (by first | exact Or.inl rfl | exact Or.inr rfl))) (fun _ _ _ _ _ => pts_yes) (fun _ _ _ _ _ => (si_tup (se_ix (sb_var 1 (pv 1)) (sb_of se_int)))) (fun _ _ _ _ _ => (pg_name (i := 2) sc_less_names.nd rfl (by first | exact Or.inl rfl | exact Or.inr rfl))) (fun _ _ _ _ _ => (pts_one (st_pw (sw_and (st_cmp (op_eqD hr.units) sem_eqD (sb_of (se_ix (sb_var 2 (pv 2)) (sb_of se_int))) (sb_of se_str) (nomark _)) (sw_and1 (st_val (se_isi tyok_str rfl T.n_isinstance (pe_bltn (v := V.ty "str") rfl T.n_str bt_str rfl) (sb_of (se_ix (sb_var 2 (pv 2)) (sb_of se_int)))))))))) (fun _ _ _ _ _ => (se_ix (sb_var 2 (pv 2)) (sb_of se_int))))))))
/-! ### is_arg_wrong -/
def b_is_arg_wrong : Ex := (seqS (unpS [4, 5] (evVar 0)) (seqS (ifS (evT (evBin eqD (evVarB 5) (evLit (.str "channel")))) (retS (evBin (inK true) (evVarB 1) (evVarB 2))) skipS) (retS (evOr (evNot (evCall f_is_whole (evCons (evVar 1) evNil))) (evAnd (evBin (cmpI (fun i j => decide (i < j))) (evVarB 1) (evLit (.int 0))) (evBin (inSeq false) (evVarB 4) (evVarB 3)))))))
def f_is_arg_wrong : List D → Ro := runFn 6 b_is_arg_wrong
theorem sc_is_arg_wrong : FnScope ["param", "arg", "channels", "amounts", "name", "sort"] ["param", "arg", "channels", "amounts"] (defScope s_is_arg_wrong) := ⟨rfl, rfl, rfl, by decide +kernel, rfl, by decide +kernel, by decide +kernel⟩
theorem ok_is_arg_wrong {P : Program} {w : World} {K : Fr} {mg : Str → Option Value} {base : Heap} {cl ad : Nat → Addr} {fd : Nat → FuncData} {fi : Nat → Addr} {za : Addr} (T : Txt K mg cl ad fd fi za) : FnOk P w K mg base (L2.CX P w) 4 (ad 36) (fd 36) ["param", "arg", "channels", "amounts"] (spP K cl 4 f_is_arg_wrong) :=
  fn_pure (cl := cl) (k := 3) T.F36 sc_is_arg_wrong rfl (by decide) fun cdv A outer s H E hr => by exact (ss_cons (ss_unp (m := false) (is := [4, 5]) (n := 2) rfl (ps_asg (se_var 0 (pv 0)) (pg_tup rfl (pgs_cons (pg_name (i := 4) sc_is_arg_wrong.nd rfl (by first | exact Or.inl rfl | exact Or.inr rfl)) (pgs_cons (pg_name (i := 5) sc_is_arg_wrong.nd rfl (by first | exact Or.inl rfl | exact Or.inr rfl)) pgs_nil))))) (ss_cons (ss_if (m := false) (st_cmp (op_eqD hr.units) sem_eqD (sb_var 5 (pv 5)) (sb_of se_str) (nomark _)) (ss_one (ss_ret (m := false) (se_cmp (op_notInK (few_units hr)) sem_notInK (sb_var 1 (pv 1)) (sb_var 2 (pv 2)) (by rfl)))) ss_nil) (ss_one (ss_ret (m := false) (se_or (se_not (se_call (ok_is_whole T) (hr.mono (by decide)) rfl T.g0 T.F0.kp T.B0 (takes_of rfl rfl rfl rfl) (sa_cons (se_var 1 (pv 1)) sa_nil) (evCons_len evNil_len))) (se_one (se_and (se_cmp op_lt (sem_cmpI (fun i j => decide (i < j))) (sb_var 1 (pv 1)) (sb_of se_int) (nomark _)) (se_one (se_cmp op_in_seq (sem_inSeq false) (sb_var 4 (pv 4)) (sb_var 3 (pv 3)) (by rfl))))))))))
/-! ### part_words -/
def b_part_words : Ex := (seqS (par3S 3 4 5 (evCall f_amount_names (evCons (evVar 0) evNil)) (evCall f_params_told (evCons (evVar 0) (evCons (evVar 1) evNil))) (evLst evNil)) (seqS (setS 6 (ev1 anyD (lstOf (evComp [7, 8] (evZip (evBin ixD (evVarB 0) (evLit (.int 1))) (evVar 1)) (tgT [7, 8]) evYes (evCall f_is_arg_wrong (evCons (evVar 7) (evCons (evVar 8) (evCons (evVar 2) (evCons (evVar 3) evNil))))))))) (seqS (ifS (evTor (evT (evVar 6)) (evT (evBin neD (ev1 lenD (evVarB 1)) (ev1 lenD (evBin ixD (evVarB 0) (evLit (.int 1))))))) (doS (evApp 5 (evLit (.str "args")))) skipS) (seqS (ifS (evT (ev1 anyD (lstOf (evComp [9] (evItL (evCall f_less_names (evCons (evVar 0) evNil))) (tgN 9) evYes (evAnd (evCall f_is_whole (evCons (evGet1 (evVar 4) (evVar 9)) evNil)) (evBin eqD (evBin getK (evVarB 4) (evVarB 9)) (evLit (.int 0)))))))) (doS (evApp 5 (evLit (.str "less")))) skipS) (fixS 5 (retS (evVar 5)))))))
def f_part_words : List D → Ro := runFn 10 b_part_words
theorem sc_part_words : FnScope ["module", "args", "channels", "amounts", "told", "found", "is_wrong", "param", "arg", "name"] ["module", "args", "channels"] (defScope s_part_words) := ⟨rfl, rfl, rfl, by decide +kernel, rfl, by decide +kernel, by decide +kernel⟩
theorem ok_part_words {P : Program} {w : World} {K : Fr} {mg : Str → Option Value} {base : Heap} {cl ad : Nat → Addr} {fd : Nat → FuncData} {fi : Nat → Addr} {za : Addr} (T : Txt K mg cl ad fd fi za) : FnOk P w K mg base (L2.CX P w) 5 (ad 37) (fd 37) ["module", "args", "channels"] (spP K cl 3 f_part_words) :=
  fn_pure (cl := cl) (k := 4) T.F37 sc_part_words rfl (by decide) fun cdv A outer s H E hr => by exact (ss_cons (ss_tup3m (m := false) (i := 3) (j := 4) (l := 5) (ps_asg (pe_tupF (pa_cons (se_call (ok_amount_names T) (hr.mono (by decide)) rfl T.g34 T.F34.kp T.B34 (takes_of rfl rfl rfl rfl) (sa_cons (se_var 0 (pv 0)) sa_nil) (evCons_len evNil_len)) (pa_cons (se_call (ok_params_told T) (hr.mono (by decide)) rfl T.g33 T.F33.kp T.B33 (takes_of rfl rfl rfl rfl) (sa_cons (se_var 0 (pv 0)) (sa_cons (se_var 1 (pv 1)) sa_nil)) (evCons_len (evCons_len evNil_len))) (pa_cons (sf_lst sa_nil) pa_nil)))) (pg_tup rfl (pgs_cons (pg_name (i := 3) sc_part_words.nd rfl (by first | exact Or.inl rfl | exact Or.inr rfl)) (pgs_cons (pg_name (i := 4) sc_part_words.nd rfl (by first | exact Or.inl rfl | exact Or.inr rfl)) (pgs_cons (pg_name (i := 5) sc_part_words.nd rfl (by first | exact Or.inl rfl | exact Or.inr rfl)) pgs_nil)))))) (ss_cons (ss_set (m := false) (i := 6) sc_part_words.nd rfl (by first | exact Or.inl rfl | exact Or.inr rfl) (se_b (cr_any rfl) sem_any rfl T.n_any bt_any (sb_of (sf_of (sf_comp (tgT_sem (is := [7, 8]) (vs := [7, 8]) (n := 2) rfl (by decide)) (pe_lc (own := [("param", 7), ("arg", 8)]) rfl sc_part_words.nd (si_zip rfl T.n_zip (se_ix (sb_var 0 (pv 0)) (sb_of se_int)) (se_var 1 (pv 1))) (blkOk_by (by show blkC ["module", "args", "channels", "amounts", "told", "found", "is_wrong", "param", "arg", "name"] (defScope s_part_words) _ _ = true; decide +kernel)) (fun _ _ _ _ _ => (pg_tup (n := 2) rfl (pgs_cons (pg_name (i := 7) sc_part_words.nd rfl (by first | exact Or.inl rfl | exact Or.inr rfl)) (pgs_cons (pg_name (i := 8) sc_part_words.nd rfl (by first | exact Or.inl rfl | exact Or.inr rfl)) pgs_nil)))) (fun _ _ _ _ _ => pts_yes) (fun _ _ _ _ _ => (se_call (ok_is_arg_wrong T) (hr.mono (by decide)) rfl T.g36 T.F36.kp T.B36 (takes0) (sa_cons (se_var 7 (pv 7)) (sa_cons (se_var 8 (pv 8)) (sa_cons (se_var 2 (pv 2)) (sa_cons (se_var 3 (pv 3)) sa_nil)))) (evCons_len (evCons_len (evCons_len (evCons_len evNil_len)))))))))))) (ss_cons (ss_if (m := false) (st_pw (sw_or (st_val (se_var 6 (pv 6))) (sw_or1 (st_cmp (op_neD hr.units) sem_neD (sb_of (se_b L2.call_len sem_len rfl T.n_len bt_len (sb_var 1 (pv 1)))) (sb_of (se_b L2.call_len sem_len rfl T.n_len bt_len (sb_of (se_ix (sb_var 0 (pv 0)) (sb_of se_int))))) (nomark _))))) (ss_one (ss_do (m := false) (se_app 5 (pv 5) se_str rfl (fun t h => pe_bm PySem.F.plainAttrs_list PySem.F.slot_list_append PySem.F.type_list_append mt_append (pv 5) h)))) ss_nil) (ss_cons (ss_if (m := false) (st_val (se_b (cr_any rfl) sem_any rfl T.n_any bt_any (sb_of (sf_of (sf_comp (tgN_sem (vs := [9]) (i := 9) (by decide)) (pe_lc (own := [("name", 9)]) rfl sc_part_words.nd (si_list (se_call (ok_less_names T) (hr.mono (by decide)) rfl T.g35 T.F35.kp T.B35 (takes_of rfl rfl rfl rfl) (sa_cons (se_var 0 (pv 0)) sa_nil) (evCons_len evNil_len))) (blkOk_by (by show blkC ["module", "args", "channels", "amounts", "told", "found", "is_wrong", "param", "arg", "name"] (defScope s_part_words) _ _ = true; decide +kernel)) (fun _ _ _ _ _ => (pg_name (i := 9) sc_part_words.nd rfl (by first | exact Or.inl rfl | exact Or.inr rfl))) (fun _ _ _ _ _ => pts_yes) (fun _ _ _ _ _ => (se_and (se_call (ok_is_whole T) (hr.mono (by decide)) rfl T.g0 T.F0.kp T.B0 (takes0) (sa_cons (se_get1 (few_units hr) (se_var 4 (pv 4)) (se_var 9 (pv 9)) ⟨rfl, rfl, rfl, rfl⟩) sa_nil) (evCons_len evNil_len)) (se_one (se_cmp (op_eqD hr.units) sem_eqD (sb_of (se_getK (few_units hr) (sb_var 4 (pv 4)) (sb_var 9 (pv 9)))) (sb_of se_int) (nomark _))))))))))) (ss_one (ss_do (m := false) (se_app 5 (pv 5) se_str rfl (fun t h => pe_bm PySem.F.plainAttrs_list PySem.F.slot_list_append PySem.F.type_list_append mt_append (pv 5) h)))) ss_nil) (ss_fix 5 (ss_one (ss_ret (m := false) (se_var 5 (pv 5)))))))))
end
end Zo
namespace Zo
open PySem PySem.Spec PyProof.Rows L2
noncomputable section
/-! ### Names.word_for -/
def b_Names_word_for : Ex := (seqS (ifS (evT (evBin (inK true) (evVarB 1) (ev1 (attrD "Names" "sorts") (evVar 0)))) (retS (evLit (.str "name"))) skipS) (retS (evIf (evT (evBin (inSeq false) (evBin getK (ev1 (attrD "Names" "sorts") (evVar 0)) (evVarB 1)) (evVarB 2))) (evLit (.str "")) (evLit (.str "kind")))))
def f_Names_word_for : List D → Ro := runFn 3 b_Names_word_for
theorem sc_Names_word_for : FnScope ["self", "name", "sorts"] ["self", "name", "sorts"] (defScope s_Names_word_for) := ⟨rfl, rfl, rfl, by decide +kernel, rfl, by decide +kernel, by decide +kernel⟩
theorem ok_Names_word_for {P : Program} {w : World} {K : Fr} {mg : Str → Option Value} {base : Heap} {cl ad : Nat → Addr} {fd : Nat → FuncData} {fi : Nat → Addr} {za : Addr} (T : Txt K mg cl ad fd fi za) : FnOk P w K mg base (L2.CX P w) 3 (ad 58) (fd 58) ["self", "name", "sorts"] (spP K cl 3 f_Names_word_for) :=
  fn_pure (cl := cl) (k := 2) T.F58 sc_Names_word_for rfl (by decide) fun cdv A outer s H E hr => by exact (ss_cons (ss_if (m := false) (st_cmp (op_notInK (few_units hr)) sem_notInK (sb_var 1 (pv 1)) (sb_of (se_attr T.K_Names T.na_sorts (se_var 0 (pv 0)))) (by rfl)) (ss_one (ss_ret (m := false) se_str)) ss_nil) (ss_one (ss_ret (m := false) (se_if (st_cmp op_in_seq (sem_inSeq false) (sb_of (se_getK (few_units hr) (sb_of (se_attr T.K_Names T.na_sorts (se_var 0 (pv 0)))) (sb_var 1 (pv 1)))) (sb_var 2 (pv 2)) (by rfl)) se_str se_str))))
/-! ### Names.word_for_amount -/
def b_Names_word_for_amount : Ex := (retS (evIf (evT (evCall f_is_whole (evCons (evVar 1) evNil))) (evLit (.str "")) (evMeth "Names" "word_for" f_Names_word_for (evVar 0) (evCons (evVar 1) (evCons (evTup (evCons (evLit (.str "number param")) evNil)) evNil)))))
def f_Names_word_for_amount : List D → Ro := runFn 2 b_Names_word_for_amount
theorem sc_Names_word_for_amount : FnScope ["self", "amount"] ["self", "amount"] (defScope s_Names_word_for_amount) := ⟨rfl, rfl, rfl, by decide +kernel, rfl, by decide +kernel, by decide +kernel⟩
theorem ok_Names_word_for_amount {P : Program} {w : World} {K : Fr} {mg : Str → Option Value} {base : Heap} {cl ad : Nat → Addr} {fd : Nat → FuncData} {fi : Nat → Addr} {za : Addr} (T : Txt K mg cl ad fd fi za) : FnOk P w K mg base (L2.CX P w) 4 (ad 59) (fd 59) ["self", "amount"] (spP K cl 2 f_Names_word_for_amount) :=
  fn_pure (cl := cl) (k := 3) T.F59 sc_Names_word_for_amount rfl (by decide) fun cdv A outer s H E hr => by exact (ss_one (ss_ret (m := false) (se_if (st_val (se_call (ok_is_whole T) (hr.mono (by decide)) rfl T.g0 T.F0.kp T.B0 (takes_of rfl rfl rfl rfl) (sa_cons (se_var 1 (pv 1)) sa_nil) (evCons_len evNil_len))) se_str (se_meth T.K_Names T.M58 (ok_Names_word_for T) (hr.mono (by decide)) T.B58 (se_var 0 (pv 0)) (sa_cons (se_var 1 (pv 1)) (sa_cons (se_tup (sa_cons (se_glob T.c_NUMBER_PARAM rfl) sa_nil)) sa_nil)) (evCons_len (evCons_len evNil_len))))))
/-! ### place_words -/
def b_place_words : Ex := (seqS (unpS [2, 3, 4, 5, 6] (evVar 1)) (seqS (ownS 7 (evLst (evCons (evMeth "Names" "word_for_amount" f_Names_word_for_amount (evVar 0) (evCons (evVar 6) evNil)) (evCons (evIf (evTand (evT (evBin neD (evVarB 3) (evLit (.str "time")))) (evT (evBin neD (evVarB 6) (evLit (.int 0))))) (evLit (.str "rate")) (evLit (.str ""))) evNil)))) (seqS (forS (evItT (evVar 4)) (tgT [8, 9, 10]) (seqS (doS (evExt 7 (lstOf (evLst (evCons (evMeth "Names" "word_for" f_Names_word_for (evVar 0) (evCons (evVar 8) (evCons (evTup (evCons (evLit (.str "clock")) evNil)) evNil))) (evCons (evMeth "Names" "word_for_amount" f_Names_word_for_amount (evVar 0) (evCons (evVar 10) evNil)) evNil)))))) (doS (evApp 7 (evIf (evTand (evT (evBin eqD (evVarB 9) (evLit (.str "<")))) (evT (evBin eqD (evVarB 10) (evLit (.int 0))))) (evLit (.str "less")) (evLit (.str ""))))))) (fixS 7 (retS (evVar 7))))))
def f_place_words : List D → Ro := runFn 11 b_place_words
theorem sc_place_words : FnScope ["names", "place", "name", "mark", "keep", "shows", "rate", "found", "clock", "op", "amount"] ["names", "place"] (defScope s_place_words) := ⟨rfl, rfl, rfl, by decide +kernel, rfl, by decide +kernel, by decide +kernel⟩
theorem ok_place_words {P : Program} {w : World} {K : Fr} {mg : Str → Option Value} {base : Heap} {cl ad : Nat → Addr} {fd : Nat → FuncData} {fi : Nat → Addr} {za : Addr} (T : Txt K mg cl ad fd fi za) : FnOk P w K mg base (L2.CX P w) 5 (ad 28) (fd 28) ["names", "place"] (spP K cl 2 f_place_words) :=
  fn_pure (cl := cl) (k := 4) T.F28 sc_place_words rfl (by decide) fun cdv A outer s H E hr => by exact (ss_cons (ss_unp (m := false) (is := [2, 3, 4, 5, 6]) (n := 5) rfl (ps_asg (se_var 1 (pv 1)) (pg_tup rfl (pgs_cons (pg_name (i := 2) sc_place_words.nd rfl (by first | exact Or.inl rfl | exact Or.inr rfl)) (pgs_cons (pg_name (i := 3) sc_place_words.nd rfl (by first | exact Or.inl rfl | exact Or.inr rfl)) (pgs_cons (pg_name (i := 4) sc_place_words.nd rfl (by first | exact Or.inl rfl | exact Or.inr rfl)) (pgs_cons (pg_name (i := 5) sc_place_words.nd rfl (by first | exact Or.inl rfl | exact Or.inr rfl)) (pgs_cons (pg_name (i := 6) sc_place_words.nd rfl (by first | exact Or.inl rfl | exact Or.inr rfl)) pgs_nil)))))))) (ss_cons (ss_own (m := false) (i := 7) sc_place_words.nd rfl (by first | exact Or.inl rfl | exact Or.inr rfl) (sf_lst (sa_cons (se_meth T.K_Names T.M59 (ok_Names_word_for_amount T) (hr.mono (by decide)) T.B59 (se_var 0 (pv 0)) (sa_cons (se_var 6 (pv 6)) sa_nil) (evCons_len evNil_len)) (sa_cons (se_if (st_pw (sw_and (st_cmp (op_neD hr.units) sem_neD (sb_var 3 (pv 3)) (sb_of se_str) (nomark _)) (sw_and1 (st_cmp (op_neD hr.units) sem_neD (sb_var 6 (pv 6)) (sb_of se_int) (nomark _))))) se_str se_str) sa_nil)))) (ss_cons (ss_for (m := false) (passes_of rfl) rfl (si_tup (se_var 4 (pv 4))) (pg_tup (n := 3) rfl (pgs_cons (pg_name (i := 8) sc_place_words.nd rfl (by first | exact Or.inl rfl | exact Or.inr rfl)) (pgs_cons (pg_name (i := 9) sc_place_words.nd rfl (by first | exact Or.inl rfl | exact Or.inr rfl)) (pgs_cons (pg_name (i := 10) sc_place_words.nd rfl (by first | exact Or.inl rfl | exact Or.inr rfl)) pgs_nil)))) (tgT_sem (is := [8, 9, 10]) (vs := [8, 9, 10]) (n := 3) rfl (by decide)) (ss_cons (ss_do (m := false) (se_ext 7 (pv 7) (sf_of (sf_lst (sa_cons (se_meth T.K_Names T.M58 (ok_Names_word_for T) (hr.mono (by decide)) T.B58 (se_var 0 (pv 0)) (sa_cons (se_var 8 (pv 8)) (sa_cons (se_tup (sa_cons (se_glob T.c_CLOCK rfl) sa_nil)) sa_nil)) (evCons_len (evCons_len evNil_len))) (sa_cons (se_meth T.K_Names T.M59 (ok_Names_word_for_amount T) (hr.mono (by decide)) T.B59 (se_var 0 (pv 0)) (sa_cons (se_var 10 (pv 10)) sa_nil) (evCons_len evNil_len)) sa_nil)))) (fun t h => pe_bm PySem.F.plainAttrs_list PySem.F.slot_list_extend PySem.F.type_list_extend mt_extend (pv 7) h))) (ss_one (ss_do (m := false) (se_app 7 (pv 7) (se_if (st_pw (sw_and (st_cmp (op_eqD hr.units) sem_eqD (sb_var 9 (pv 9)) (sb_of se_str) (nomark _)) (sw_and1 (st_cmp (op_eqD hr.units) sem_eqD (sb_var 10 (pv 10)) (sb_of se_int) (nomark _))))) se_str se_str) rfl (fun t h => pe_bm PySem.F.plainAttrs_list PySem.F.slot_list_append PySem.F.type_list_append mt_append (pv 7) h)))))) (ss_fix 7 (ss_one (ss_ret (m := false) (se_var 7 (pv 7))))))))
/-! ### is_deaf -/
def b_is_deaf : Ex := (seqS (ifS (evTor (evT (evBin neD (evBin ixD (evBin ixD (evVarB 0) (evLit (.int 2))) (evLit (.int 0))) (evLit (.str "hear")))) (evT (evBin (inK true) (evBin ixD (evBin ixD (evVarB 0) (evLit (.int 2))) (evLit (.int 1))) (evVarB 2)))) (retS (evLit (.bool false))) skipS) (seqS (setS 3 (lstOf (evComp [4] (evItT (evVar 1)) (tgN 4) (evT (evBin eqD (evBin ixD (evVarB 4) (evLit (.int 0))) (evBin ixD (evVarB 0) (evLit (.int 1))))) (evVar 4)))) (seqS (setS 5 (lstOf (evComp2 [4, 6] [6] (evItL (lstOf (evSlL (evVarB 3) ptNo (ptOf (evLit (.int 1)))))) (tgN 4) evYes (evItT (evBin ixD (evVarB 4) (evLit (.int 2)))) (tgN 6) evYes (evBin ixD (evVarB 6) (evLit (.int 0)))))) (retS (evOr (evBin neD (evBin ixD (evVarB 0) (evLit (.int 3))) (evTup evNil)) (ev1 anyD (lstOf (evComp [7] (evItL (evVar 5)) (tgN 7) evYes (evBin (inSeq true) (evVarB 7) (evBin ixD (evVarB 0) (evLit (.int 5))))))))))))
def f_is_deaf : List D → Ro := runFn 8 b_is_deaf
theorem sc_is_deaf : FnScope ["edge", "places", "heard", "targets", "place", "kept", "item", "clock"] ["edge", "places", "heard"] (defScope s_is_deaf) := ⟨rfl, rfl, rfl, by decide +kernel, rfl, by decide +kernel, by decide +kernel⟩
theorem ok_is_deaf {P : Program} {w : World} {K : Fr} {mg : Str → Option Value} {base : Heap} {cl ad : Nat → Addr} {fd : Nat → FuncData} {fi : Nat → Addr} {za : Addr} (T : Txt K mg cl ad fd fi za) : FnOk P w K mg base (L2.CX P w) 3 (ad 31) (fd 31) ["edge", "places", "heard"] (spP K cl 3 f_is_deaf) :=
  fn_pure (cl := cl) (k := 2) T.F31 sc_is_deaf rfl (by decide) fun cdv A outer s H E hr => by exact (ss_cons (ss_if (m := false) (st_pw (sw_or (st_cmp (op_neD hr.units) sem_neD (sb_of (se_ix (sb_of (se_ix (sb_var 0 (pv 0)) (sb_of se_int))) (sb_of se_int))) (sb_of se_str) (nomark _)) (sw_or1 (st_cmp (op_notInK (few_units hr)) sem_notInK (sb_of (se_ix (sb_of (se_ix (sb_var 0 (pv 0)) (sb_of se_int))) (sb_of se_int))) (sb_var 2 (pv 2)) (by rfl))))) (ss_one (ss_ret (m := false) se_bool)) ss_nil) (ss_cons (ss_setC (m := false) (i := 3) (tgN_sem (vs := [4]) (i := 4) (by decide)) (ps_setLc (i := 3) (own := [("place", 4)]) rfl sc_is_deaf.nd rfl rfl (by rfl) (si_tup (se_var 1 (pv 1))) (blkOk_by (by show blkC ["edge", "places", "heard", "targets", "place", "kept", "item", "clock"] (defScope s_is_deaf) _ _ = true; decide +kernel)) (fun _ _ _ _ _ => (pg_name (i := 4) sc_is_deaf.nd rfl (by first | exact Or.inl rfl | exact Or.inr rfl))) (fun _ _ _ _ _ => (pts_one (st_cmp (op_eqD hr.units) sem_eqD (sb_of (se_ix (sb_var 4 (pv 4)) (sb_of se_int))) (sb_of (se_ix (sb_var 0 (pv 0)) (sb_of se_int))) (nomark _)))) (fun _ _ _ _ _ => (se_var 4 (pv 4))))) (ss_cons (ss_setC2 (m := false) (i := 5) (vs := [4, 6]) (vs1 := [6]) (by decide) (tgN_sem (vs := [4, 6]) (i := 4) (by decide)) (tgN_sem (vs := [6]) (i := 6) (by decide)) (ps_setLc2 (i := 5) (own := [("place", 4), ("item", 6)]) (vs1 := [6]) rfl sc_is_deaf.nd rfl rfl (by rfl) (si_list (sf_of (sf_slice (sb_var 3 (pv 3)) sp_none (sp_some (sb_of se_int))))) (blkOk_by (by show blkC ["edge", "places", "heard", "targets", "place", "kept", "item", "clock"] (defScope s_is_deaf) _ _ = true; decide +kernel)) (by decide) (fun _ _ _ _ _ => (pg_name (i := 4) sc_is_deaf.nd rfl (by first | exact Or.inl rfl | exact Or.inr rfl))) (fun _ _ _ _ _ => pts_yes) (fun _ _ _ _ _ => (si_tup (se_ix (sb_var 4 (pv 4)) (sb_of se_int)))) (fun _ _ _ _ _ => (pg_name (i := 6) sc_is_deaf.nd rfl (by first | exact Or.inl rfl | exact Or.inr rfl))) (fun _ _ _ _ _ => pts_yes) (fun _ _ _ _ _ => (se_ix (sb_var 6 (pv 6)) (sb_of se_int))))) (ss_one (ss_ret (m := false) (se_or (se_cmp (op_neD hr.units) sem_neD (sb_of (se_ix (sb_var 0 (pv 0)) (sb_of se_int))) (sb_of (se_tup sa_nil)) (nomark _)) (se_one (se_b (cr_any rfl) sem_any rfl T.n_any bt_any (sb_of (sf_of (sf_comp (tgN_sem (vs := [7]) (i := 7) (by decide)) (pe_lc (own := [("clock", 7)]) rfl sc_is_deaf.nd (si_list (se_var 5 (pv 5))) (blkOk_by (by show blkC ["edge", "places", "heard", "targets", "place", "kept", "item", "clock"] (defScope s_is_deaf) _ _ = true; decide +kernel)) (fun _ _ _ _ _ => (pg_name (i := 7) sc_is_deaf.nd rfl (by first | exact Or.inl rfl | exact Or.inr rfl))) (fun _ _ _ _ _ => pts_yes) (fun _ _ _ _ _ => (se_cmp op_notIn_seq (sem_inSeq true) (sb_var 7 (pv 7)) (sb_of (se_ix (sb_var 0 (pv 0)) (sb_of se_int))) (by rfl)))))))))))))))
end
end Zo
namespace Zo
open PySem PySem.Spec PyProof.Rows L2
noncomputable section
/-! ### ask_words -/
def b_ask_words : Ex := (seqS (setS 2 (lstOf (evComp [3] (evItT (evSl (evVarB 1) ptNo (ptOf (ev1 negD (evLit (.int 2)))))) (tgN 3) evYes (evMeth "Names" "word_for" f_Names_word_for (evVar 0) (evCons (evVar 3) (evCons (evTup (evCons (evLit (.str "clock")) evNil)) evNil)))))) (retS (lstOf (evBinL addL (evVarB 2) (lstOf (evLst (evCons (evMeth "Names" "word_for_amount" f_Names_word_for_amount (evVar 0) (evCons (evBin ixD (evVarB 1) (ev1 negD (evLit (.int 1)))) evNil)) evNil)))))))
def f_ask_words : List D → Ro := runFn 4 b_ask_words
theorem sc_ask_words : FnScope ["names", "ask", "found", "clock"] ["names", "ask"] (defScope s_ask_words) := ⟨rfl, rfl, rfl, by decide +kernel, rfl, by decide +kernel, by decide +kernel⟩
theorem ok_ask_words {P : Program} {w : World} {K : Fr} {mg : Str → Option Value} {base : Heap} {cl ad : Nat → Addr} {fd : Nat → FuncData} {fi : Nat → Addr} {za : Addr} (T : Txt K mg cl ad fd fi za) : FnOk P w K mg base (L2.CX P w) 5 (ad 29) (fd 29) ["names", "ask"] (spP K cl 2 f_ask_words) :=
  fn_pure (cl := cl) (k := 4) T.F29 sc_ask_words rfl (by decide) fun cdv A outer s H E hr => by exact (ss_cons (ss_setC (m := false) (i := 2) (tgN_sem (vs := [3]) (i := 3) (by decide)) (ps_setLc (i := 2) (own := [("clock", 3)]) rfl sc_ask_words.nd rfl rfl (by rfl) (si_tup (se_slice (sb_var 1 (pv 1)) sp_none (sp_some (sb_of (se_neg (sb_of se_int)))))) (blkOk_by (by show blkC ["names", "ask", "found", "clock"] (defScope s_ask_words) _ _ = true; decide +kernel)) (fun _ _ _ _ _ => (pg_name (i := 3) sc_ask_words.nd rfl (by first | exact Or.inl rfl | exact Or.inr rfl))) (fun _ _ _ _ _ => pts_yes) (fun _ _ _ _ _ => (se_meth T.K_Names T.M58 (ok_Names_word_for T) (hr.mono (by decide)) T.B58 (se_var 0 (pv 0)) (sa_cons (se_var 3 (pv 3)) (sa_cons (se_tup (sa_cons (se_glob T.c_CLOCK rfl) sa_nil)) sa_nil)) (evCons_len (evCons_len evNil_len)))))) (ss_one (ss_ret (m := false) (sf_of (sf_bin op_cat sem_addL (sb_var 2 (pv 2)) (sb_of (sf_of (sf_lst (sa_cons (se_meth T.K_Names T.M59 (ok_Names_word_for_amount T) (hr.mono (by decide)) T.B59 (se_var 0 (pv 0)) (sa_cons (se_ix (sb_var 1 (pv 1)) (sb_of (se_neg (sb_of se_int)))) sa_nil) (evCons_len evNil_len)) sa_nil)))))))))
/-! ### is_far -/
def b_is_far : Ex := (seqS (ifS (evT (evBin eqD (ev1 lenD (evVarB 1)) (evLit (.int 3)))) (retS (evLit (.bool false))) skipS) (seqS (setS 2 (lstOf (evComp [3] (evItT (evVar 0)) (tgN 3) (evTand (evT (evBin eqD (ev1 lenD (evVarB 3)) (evLit (.int 3)))) (evT (evBin (inSeq false) (evBin ixD (evVarB 3) (evLit (.int 1))) (evLit (.tuple [(.str "<"), (.str "<=")]))))) (evBin ixD (evVarB 3) (evLit (.int 0)))))) (retS (evOr (evBin eqD (evBin ixD (evVarB 1) (evLit (.int 0))) (evBin ixD (evVarB 1) (evLit (.int 1)))) (evOr (evBin (inSeq true) (evBin ixD (evVarB 1) (evLit (.int 0))) (evVarB 2)) (evBin (inSeq true) (evBin ixD (evVarB 1) (evLit (.int 1))) (evVarB 2)))))))
def f_is_far : List D → Ro := runFn 4 b_is_far
theorem sc_is_far : FnScope ["asks", "ask", "bounded", "other"] ["asks", "ask"] (defScope s_is_far) := ⟨rfl, rfl, rfl, by decide +kernel, rfl, by decide +kernel, by decide +kernel⟩
theorem ok_is_far {P : Program} {w : World} {K : Fr} {mg : Str → Option Value} {base : Heap} {cl ad : Nat → Addr} {fd : Nat → FuncData} {fi : Nat → Addr} {za : Addr} (T : Txt K mg cl ad fd fi za) : FnOk P w K mg base (L2.CX P w) 3 (ad 30) (fd 30) ["asks", "ask"] (spP K cl 2 f_is_far) :=
  fn_pure (cl := cl) (k := 2) T.F30 sc_is_far rfl (by decide) fun cdv A outer s H E hr => by exact (ss_cons (ss_if (m := false) (st_cmp (op_eqD hr.units) sem_eqD (sb_of (se_b L2.call_len sem_len rfl T.n_len bt_len (sb_var 1 (pv 1)))) (sb_of se_int) (nomark _)) (ss_one (ss_ret (m := false) se_bool)) ss_nil) (ss_cons (ss_setC (m := false) (i := 2) (tgN_sem (vs := [3]) (i := 3) (by decide)) (ps_setLc (i := 2) (own := [("other", 3)]) rfl sc_is_far.nd rfl rfl (by rfl) (si_tup (se_var 0 (pv 0))) (blkOk_by (by show blkC ["asks", "ask", "bounded", "other"] (defScope s_is_far) _ _ = true; decide +kernel)) (fun _ _ _ _ _ => (pg_name (i := 3) sc_is_far.nd rfl (by first | exact Or.inl rfl | exact Or.inr rfl))) (fun _ _ _ _ _ => (pts_one (st_pw (sw_and (st_cmp (op_eqD hr.units) sem_eqD (sb_of (se_b L2.call_len sem_len rfl T.n_len bt_len (sb_var 3 (pv 3)))) (sb_of se_int) (nomark _)) (sw_and1 (st_cmp op_in_seq (sem_inSeq false) (sb_of (se_ix (sb_var 3 (pv 3)) (sb_of se_int))) (sb_of (se_glob T.c_UPPER rfl)) (by rfl))))))) (fun _ _ _ _ _ => (se_ix (sb_var 3 (pv 3)) (sb_of se_int))))) (ss_one (ss_ret (m := false) (se_or (se_cmp (op_eqD hr.units) sem_eqD (sb_of (se_ix (sb_var 1 (pv 1)) (sb_of se_int))) (sb_of (se_ix (sb_var 1 (pv 1)) (sb_of se_int))) (nomark _)) (se_or (se_cmp op_notIn_seq (sem_inSeq true) (sb_of (se_ix (sb_var 1 (pv 1)) (sb_of se_int))) (sb_var 2 (pv 2)) (by rfl)) (se_one (se_cmp op_notIn_seq (sem_inSeq true) (sb_of (se_ix (sb_var 1 (pv 1)) (sb_of se_int))) (sb_var 2 (pv 2)) (by rfl)))))))))
/-! ### Names.word_for_channel -/
def b_Names_word_for_channel : Ex := (seqS (ifS (evTand (evT (evBin (inK true) (evVarB 1) (ev1 (attrD "Names" "sorts") (evVar 0)))) (evT (evBin (inK false) (evVarB 1) (ev1 (attrD "Names" "channels") (evVar 0))))) (retS (evLit (.str ""))) skipS) (retS (evMeth "Names" "word_for" f_Names_word_for (evVar 0) (evCons (evVar 1) (evCons (evTup (evCons (evLit (.str "channel param")) evNil)) evNil)))))
def f_Names_word_for_channel : List D → Ro := runFn 2 b_Names_word_for_channel
theorem sc_Names_word_for_channel : FnScope ["self", "name"] ["self", "name"] (defScope s_Names_word_for_channel) := ⟨rfl, rfl, rfl, by decide +kernel, rfl, by decide +kernel, by decide +kernel⟩
theorem ok_Names_word_for_channel {P : Program} {w : World} {K : Fr} {mg : Str → Option Value} {base : Heap} {cl ad : Nat → Addr} {fd : Nat → FuncData} {fi : Nat → Addr} {za : Addr} (T : Txt K mg cl ad fd fi za) : FnOk P w K mg base (L2.CX P w) 4 (ad 60) (fd 60) ["self", "name"] (spP K cl 2 f_Names_word_for_channel) :=
  fn_pure (cl := cl) (k := 3) T.F60 sc_Names_word_for_channel rfl (by decide) fun cdv A outer s H E hr => by exact (ss_cons (ss_if (m := false) (st_pw (sw_and (st_cmp (op_notInK (few_units hr)) sem_notInK (sb_var 1 (pv 1)) (sb_of (se_attr T.K_Names T.na_sorts (se_var 0 (pv 0)))) (by rfl)) (sw_and1 (st_cmp (op_inK (few_units hr)) sem_inK (sb_var 1 (pv 1)) (sb_of (se_attr T.K_Names T.na_channels (se_var 0 (pv 0)))) (by rfl))))) (ss_one (ss_ret (m := false) se_str)) ss_nil) (ss_one (ss_ret (m := false) (se_meth T.K_Names T.M58 (ok_Names_word_for T) (hr.mono (by decide)) T.B58 (se_var 0 (pv 0)) (sa_cons (se_var 1 (pv 1)) (sa_cons (se_tup (sa_cons (se_glob T.c_CHANNEL_PARAM rfl) sa_nil)) sa_nil)) (evCons_len (evCons_len evNil_len))))))
/-! ### parts_of -/
def b_parts_of : Ex := (seqS (parOS 1 2 (evLst evNil) (evLst (evCons (evVar 0) evNil))) (seqS (whileS 100000 (evT (evBin neD (evVarB 2) (lstOf (evLst evNil)))) (seqS (setS 3 (evPop 2)) (seqS (doS (evApp 1 (evVar 3))) (ifS (evT (ev1 (isiD "tuple") (evVarB 3))) (doS (evExt 2 (lstOf (ev1L listD (evSl (evVarB 3) (ptOf (evLit (.int 1))) ptNo))))) skipS)))) (fixS 1 (retS (evVar 1)))))
def f_parts_of : List D → Ro := runFn 4 b_parts_of
theorem sc_parts_of : FnScope ["expr", "found", "waiting", "part"] ["expr"] (defScope s_parts_of) := ⟨rfl, rfl, rfl, by decide +kernel, rfl, by decide +kernel, by decide +kernel⟩
theorem ok_parts_of {P : Program} {w : World} {K : Fr} {mg : Str → Option Value} {base : Heap} {cl ad : Nat → Addr} {fd : Nat → FuncData} {fi : Nat → Addr} {za : Addr} (T : Txt K mg cl ad fd fi za) : FnOk P w K mg base (L2.CX P w) 3 (ad 9) (fd 9) ["expr"] (spP K cl 1 f_parts_of) :=
  fn_pure (cl := cl) (k := 2) T.F9 sc_parts_of rfl (by decide) fun cdv A outer s H E hr => by exact (ss_cons (ss_parO (m := false) (i := 1) (j := 2) (by decide) (sf_lst sa_nil) (sf_lst (sa_cons (se_var 0 (pv 0)) sa_nil)) (fun ta h => ps_par rfl sc_parts_of.nd rfl rfl (by decide) rfl rfl h rfl)) (ss_cons (ss_while (m := false) 100000 (passes_of rfl) (st_cmp (op_neD hr.units) sem_neD (sb_var 2 (pv 2)) (sb_of (sf_of (sf_lst sa_nil))) (nomark _)) (ss_cons (ss_set (m := false) (i := 3) sc_parts_of.nd rfl (by first | exact Or.inl rfl | exact Or.inr rfl) (se_pop 2 (pv 2))) (ss_cons (ss_do (m := false) (se_app 1 (pv 1) (se_var 3 (pv 3)) rfl (fun t h => pe_bm PySem.F.plainAttrs_list PySem.F.slot_list_append PySem.F.type_list_append mt_append (pv 1) h))) (ss_one (ss_if (m := false) (st_val (se_isi tyok_tuple rfl T.n_isinstance (pe_bltn (v := V.ty "tuple") rfl T.n_tuple bt_tuple rfl) (sb_var 3 (pv 3)))) (ss_one (ss_do (m := false) (se_ext 2 (pv 2) (sf_of (sf_ty L2.call_list_of sem_list rfl T.n_list bt_list (sb_of (se_slice (sb_var 3 (pv 3)) (sp_some (sb_of se_int)) sp_none)))) (fun t h => pe_bm PySem.F.plainAttrs_list PySem.F.slot_list_extend PySem.F.type_list_extend mt_extend (pv 2) h)))) ss_nil))))) (ss_fix 1 (ss_one (ss_ret (m := false) (se_var 1 (pv 1)))))))
/-! ### names_of -/
def b_names_of : Ex := (retS (lstOf (evComp [1] (evItL (evCall f_parts_of (evCons (evVar 0) evNil))) (tgN 1) (evT (ev1 (isiD "str") (evVarB 1))) (evVar 1))))
def f_names_of : List D → Ro := runFn 2 b_names_of
theorem sc_names_of : FnScope ["expr", "part"] ["expr"] (defScope s_names_of) := ⟨rfl, rfl, rfl, by decide +kernel, rfl, by decide +kernel, by decide +kernel⟩
theorem ok_names_of {P : Program} {w : World} {K : Fr} {mg : Str → Option Value} {base : Heap} {cl ad : Nat → Addr} {fd : Nat → FuncData} {fi : Nat → Addr} {za : Addr} (T : Txt K mg cl ad fd fi za) : FnOk P w K mg base (L2.CX P w) 4 (ad 10) (fd 10) ["expr"] (spP K cl 1 f_names_of) :=
  fn_pure (cl := cl) (k := 3) T.F10 sc_names_of rfl (by decide) fun cdv A outer s H E hr => by exact (ss_one (ss_ret (m := false) (sf_of (sf_comp (tgN_sem (vs := [1]) (i := 1) (by decide)) (pe_lc (own := [("part", 1)]) rfl sc_names_of.nd (si_list (se_call (ok_parts_of T) (hr.mono (by decide)) rfl T.g9 T.F9.kp T.B9 (takes_of rfl rfl rfl rfl) (sa_cons (se_var 0 (pv 0)) sa_nil) (evCons_len evNil_len))) (blkOk_by (by show blkC ["expr", "part"] (defScope s_names_of) _ _ = true; decide +kernel)) (fun _ _ _ _ _ => (pg_name (i := 1) sc_names_of.nd rfl (by first | exact Or.inl rfl | exact Or.inr rfl))) (fun _ _ _ _ _ => (pts_one (st_val (se_isi tyok_str rfl T.n_isinstance (pe_bltn (v := V.ty "str") rfl T.n_str bt_str rfl) (sb_var 1 (pv 1)))))) (fun _ _ _ _ _ => (se_var 1 (pv 1))))))))
/-! ### Names.words_in_expr -/
def b_Names_words_in_expr : Ex := (retS (lstOf (evComp [2] (evItL (evCall f_names_of (evCons (evVar 1) evNil))) (tgN 2) evYes (evMeth "Names" "word_for" f_Names_word_for (evVar 0) (evCons (evVar 2) (evCons (evTup (evCons (evLit (.str "number")) (evCons (evLit (.str "number param")) evNil))) evNil))))))
def f_Names_words_in_expr : List D → Ro := runFn 3 b_Names_words_in_expr
theorem sc_Names_words_in_expr : FnScope ["self", "expr", "name"] ["self", "expr"] (defScope s_Names_words_in_expr) := ⟨rfl, rfl, rfl, by decide +kernel, rfl, by decide +kernel, by decide +kernel⟩
theorem ok_Names_words_in_expr {P : Program} {w : World} {K : Fr} {mg : Str → Option Value} {base : Heap} {cl ad : Nat → Addr} {fd : Nat → FuncData} {fi : Nat → Addr} {za : Addr} (T : Txt K mg cl ad fd fi za) : FnOk P w K mg base (L2.CX P w) 5 (ad 61) (fd 61) ["self", "expr"] (spP K cl 2 f_Names_words_in_expr) :=
  fn_pure (cl := cl) (k := 4) T.F61 sc_Names_words_in_expr rfl (by decide) fun cdv A outer s H E hr => by exact (ss_one (ss_ret (m := false) (sf_of (sf_comp (tgN_sem (vs := [2]) (i := 2) (by decide)) (pe_lc (own := [("name", 2)]) rfl sc_Names_words_in_expr.nd (si_list (se_call (ok_names_of T) (hr.mono (by decide)) rfl T.g10 T.F10.kp T.B10 (takes_of rfl rfl rfl rfl) (sa_cons (se_var 1 (pv 1)) sa_nil) (evCons_len evNil_len))) (blkOk_by (by show blkC ["self", "expr", "name"] (defScope s_Names_words_in_expr) _ _ = true; decide +kernel)) (fun _ _ _ _ _ => (pg_name (i := 2) sc_Names_words_in_expr.nd rfl (by first | exact Or.inl rfl | exact Or.inr rfl))) (fun _ _ _ _ _ => pts_yes) (fun _ _ _ _ _ => (se_meth T.K_Names T.M58 (ok_Names_word_for T) (hr.mono (by decide)) T.B58 (se_var 0 (pv 0)) (sa_cons (se_var 2 (pv 2)) (sa_cons (se_tup (sa_cons (se_glob T.c_NUMBER rfl) (sa_cons (se_glob T.c_NUMBER_PARAM rfl) sa_nil))) sa_nil)) (evCons_len (evCons_len evNil_len)))))))))
/-! ### edge_words -/
def b_edge_words : Ex := (seqS (unpS [2, 3, 4, 5, 6, 7, 8, 9] (evVar 1)) (seqS (ownS 10 (evLst (evCons (evMeth "Names" "word_for" f_Names_word_for (evVar 0) (evCons (evVar 2) (evCons (evTup (evCons (evLit (.str "place")) evNil)) evNil))) (evCons (evMeth "Names" "word_for" f_Names_word_for (evVar 0) (evCons (evVar 3) (evCons (evTup (evCons (evLit (.str "place")) evNil)) evNil))) (evCons (evMeth "Names" "word_for_amount" f_Names_word_for_amount (evVar 0) (evCons (evVar 9) evNil)) evNil))))) (seqS (ifS (evT (evBin neD (evBin ixD (evVarB 4) (evLit (.int 0))) (evLit (.str "own")))) (doS (evApp 10 (evMeth "Names" "word_for_channel" f_Names_word_for_channel (evVar 0) (evCons (evBin ixD (evVarB 4) (evLit (.int 1))) evNil)))) skipS) (seqS (forS (evItT (evVar 5)) (tgN 11) (seqS (doS (evExt 10 (evCall f_ask_words (evCons (evVar 0) (evCons (evVar 11) evNil))))) (doS (evApp 10 (evIf (evT (evCall f_is_far (evCons (evVar 5) (evCons (evVar 11) evNil)))) (evLit (.str "far")) (evLit (.str ""))))))) (seqS (forS (evItT (evVar 6)) (tgT [12, 13, 14]) (doS (evExt 10 (lstOf (evBinL addL (evMeth "Names" "words_in_expr" f_Names_words_in_expr (evVar 0) (evCons (evVar 12) evNil)) (evMeth "Names" "words_in_expr" f_Names_words_in_expr (evVar 0) (evCons (evVar 14) evNil))))))) (seqS (doS (evExt 10 (lstOf (evComp [15] (evItT (evVar 7)) (tgN 15) evYes (evMeth "Names" "word_for" f_Names_word_for (evVar 0) (evCons (evVar 15) (evCons (evTup (evCons (evLit (.str "clock")) evNil)) evNil))))))) (seqS (forS (evItT (evVar 8)) (tgT [16, 17]) (seqS (doS (evApp 10 (evMeth "Names" "word_for" f_Names_word_for (evVar 0) (evCons (evVar 16) (evCons (evTup (evCons (evLit (.str "number")) evNil)) evNil))))) (doS (evExt 10 (evMeth "Names" "words_in_expr" f_Names_words_in_expr (evVar 0) (evCons (evVar 17) evNil)))))) (fixS 10 (retS (evVar 10))))))))))
def f_edge_words : List D → Ro := runFn 18 b_edge_words
theorem sc_edge_words : FnScope ["names", "edge", "source", "target", "deed", "asks", "tests", "resets", "sets", "price", "found", "ask", "one", "op", "other", "clock", "number", "expr"] ["names", "edge"] (defScope s_edge_words) := ⟨rfl, rfl, rfl, by decide +kernel, rfl, by decide +kernel, by decide +kernel⟩
theorem ok_edge_words {P : Program} {w : World} {K : Fr} {mg : Str → Option Value} {base : Heap} {cl ad : Nat → Addr} {fd : Nat → FuncData} {fi : Nat → Addr} {za : Addr} (T : Txt K mg cl ad fd fi za) : FnOk P w K mg base (L2.CX P w) 6 (ad 32) (fd 32) ["names", "edge"] (spP K cl 2 f_edge_words) :=
  fn_pure (cl := cl) (k := 5) T.F32 sc_edge_words rfl (by decide) fun cdv A outer s H E hr => by exact (ss_cons (ss_unp (m := false) (is := [2, 3, 4, 5, 6, 7, 8, 9]) (n := 8) rfl (ps_asg (se_var 1 (pv 1)) (pg_tup rfl (pgs_cons (pg_name (i := 2) sc_edge_words.nd rfl (by first | exact Or.inl rfl | exact Or.inr rfl)) (pgs_cons (pg_name (i := 3) sc_edge_words.nd rfl (by first | exact Or.inl rfl | exact Or.inr rfl)) (pgs_cons (pg_name (i := 4) sc_edge_words.nd rfl (by first | exact Or.inl rfl | exact Or.inr rfl)) (pgs_cons (pg_name (i := 5) sc_edge_words.nd rfl (by first | exact Or.inl rfl | exact Or.inr rfl)) (pgs_cons (pg_name (i := 6) sc_edge_words.nd rfl (by first | exact Or.inl rfl | exact Or.inr rfl)) (pgs_cons (pg_name (i := 7) sc_edge_words.nd rfl (by first | exact Or.inl rfl | exact Or.inr rfl)) (pgs_cons (pg_name (i := 8) sc_edge_words.nd rfl (by first | exact Or.inl rfl | exact Or.inr rfl)) (pgs_cons (pg_name (i := 9) sc_edge_words.nd rfl (by first | exact Or.inl rfl | exact Or.inr rfl)) pgs_nil))))))))))) (ss_cons (ss_own (m := false) (i := 10) sc_edge_words.nd rfl (by first | exact Or.inl rfl | exact Or.inr rfl) (sf_lst (sa_cons (se_meth T.K_Names T.M58 (ok_Names_word_for T) (hr.mono (by decide)) T.B58 (se_var 0 (pv 0)) (sa_cons (se_var 2 (pv 2)) (sa_cons (se_tup (sa_cons (se_glob T.c_PLACE rfl) sa_nil)) sa_nil)) (evCons_len (evCons_len evNil_len))) (sa_cons (se_meth T.K_Names T.M58 (ok_Names_word_for T) (hr.mono (by decide)) T.B58 (se_var 0 (pv 0)) (sa_cons (se_var 3 (pv 3)) (sa_cons (se_tup (sa_cons (se_glob T.c_PLACE rfl) sa_nil)) sa_nil)) (evCons_len (evCons_len evNil_len))) (sa_cons (se_meth T.K_Names T.M59 (ok_Names_word_for_amount T) (hr.mono (by decide)) T.B59 (se_var 0 (pv 0)) (sa_cons (se_var 9 (pv 9)) sa_nil) (evCons_len evNil_len)) sa_nil))))) (ss_cons (ss_if (m := false) (st_cmp (op_neD hr.units) sem_neD (sb_of (se_ix (sb_var 4 (pv 4)) (sb_of se_int))) (sb_of se_str) (nomark _)) (ss_one (ss_do (m := false) (se_app 10 (pv 10) (se_meth T.K_Names T.M60 (ok_Names_word_for_channel T) (hr.mono (by decide)) T.B60 (se_var 0 (pv 0)) (sa_cons (se_ix (sb_var 4 (pv 4)) (sb_of se_int)) sa_nil) (evCons_len evNil_len)) rfl (fun t h => pe_bm PySem.F.plainAttrs_list PySem.F.slot_list_append PySem.F.type_list_append mt_append (pv 10) h)))) ss_nil) (ss_cons (ss_for (m := false) (passes_of rfl) rfl (si_tup (se_var 5 (pv 5))) (pg_name (i := 11) sc_edge_words.nd rfl (by first | exact Or.inl rfl | exact Or.inr rfl)) (tgN_sem (vs := [11]) (i := 11) (by decide)) (ss_cons (ss_do (m := false) (se_ext 10 (pv 10) (se_call (ok_ask_words T) (hr.mono (by decide)) rfl T.g29 T.F29.kp T.B29 (takes_of rfl rfl rfl rfl) (sa_cons (se_var 0 (pv 0)) (sa_cons (se_var 11 (pv 11)) sa_nil)) (evCons_len (evCons_len evNil_len))) (fun t h => pe_bm PySem.F.plainAttrs_list PySem.F.slot_list_extend PySem.F.type_list_extend mt_extend (pv 10) h))) (ss_one (ss_do (m := false) (se_app 10 (pv 10) (se_if (st_val (se_call (ok_is_far T) (hr.mono (by decide)) rfl T.g30 T.F30.kp T.B30 (takes_of rfl rfl rfl rfl) (sa_cons (se_var 5 (pv 5)) (sa_cons (se_var 11 (pv 11)) sa_nil)) (evCons_len (evCons_len evNil_len)))) se_str se_str) rfl (fun t h => pe_bm PySem.F.plainAttrs_list PySem.F.slot_list_append PySem.F.type_list_append mt_append (pv 10) h)))))) (ss_cons (ss_for (m := false) (passes_of rfl) rfl (si_tup (se_var 6 (pv 6))) (pg_tup (n := 3) rfl (pgs_cons (pg_name (i := 12) sc_edge_words.nd rfl (by first | exact Or.inl rfl | exact Or.inr rfl)) (pgs_cons (pg_name (i := 13) sc_edge_words.nd rfl (by first | exact Or.inl rfl | exact Or.inr rfl)) (pgs_cons (pg_name (i := 14) sc_edge_words.nd rfl (by first | exact Or.inl rfl | exact Or.inr rfl)) pgs_nil)))) (tgT_sem (is := [12, 13, 14]) (vs := [12, 13, 14]) (n := 3) rfl (by decide)) (ss_one (ss_do (m := false) (se_ext 10 (pv 10) (sf_of (sf_bin op_cat sem_addL (sb_of (se_meth T.K_Names T.M61 (ok_Names_words_in_expr T) (hr.mono (by decide)) T.B61 (se_var 0 (pv 0)) (sa_cons (se_var 12 (pv 12)) sa_nil) (evCons_len evNil_len))) (sb_of (se_meth T.K_Names T.M61 (ok_Names_words_in_expr T) (hr.mono (by decide)) T.B61 (se_var 0 (pv 0)) (sa_cons (se_var 14 (pv 14)) sa_nil) (evCons_len evNil_len))))) (fun t h => pe_bm PySem.F.plainAttrs_list PySem.F.slot_list_extend PySem.F.type_list_extend mt_extend (pv 10) h))))) (ss_cons (ss_do (m := false) (se_ext 10 (pv 10) (sf_of (sf_comp (tgN_sem (vs := [15]) (i := 15) (by decide)) (pe_lc (own := [("clock", 15)]) rfl sc_edge_words.nd (si_tup (se_var 7 (pv 7))) (blkOk_by (by show blkC ["names", "edge", "source", "target", "deed", "asks", "tests", "resets", "sets", "price", "found", "ask", "one", "op", "other", "clock", "number", "expr"] (defScope s_edge_words) _ _ = true; decide +kernel)) (fun _ _ _ _ _ => (pg_name (i := 15) sc_edge_words.nd rfl (by first | exact Or.inl rfl | exact Or.inr rfl))) (fun _ _ _ _ _ => pts_yes) (fun _ _ _ _ _ => (se_meth T.K_Names T.M58 (ok_Names_word_for T) (hr.mono (by decide)) T.B58 (se_var 0 (pv 0)) (sa_cons (se_var 15 (pv 15)) (sa_cons (se_tup (sa_cons (se_glob T.c_CLOCK rfl) sa_nil)) sa_nil)) (evCons_len (evCons_len evNil_len))))))) (fun t h => pe_bm PySem.F.plainAttrs_list PySem.F.slot_list_extend PySem.F.type_list_extend mt_extend (pv 10) h))) (ss_cons (ss_for (m := false) (passes_of rfl) rfl (si_tup (se_var 8 (pv 8))) (pg_tup (n := 2) rfl (pgs_cons (pg_name (i := 16) sc_edge_words.nd rfl (by first | exact Or.inl rfl | exact Or.inr rfl)) (pgs_cons (pg_name (i := 17) sc_edge_words.nd rfl (by first | exact Or.inl rfl | exact Or.inr rfl)) pgs_nil))) (tgT_sem (is := [16, 17]) (vs := [16, 17]) (n := 2) rfl (by decide)) (ss_cons (ss_do (m := false) (se_app 10 (pv 10) (se_meth T.K_Names T.M58 (ok_Names_word_for T) (hr.mono (by decide)) T.B58 (se_var 0 (pv 0)) (sa_cons (se_var 16 (pv 16)) (sa_cons (se_tup (sa_cons (se_glob T.c_NUMBER rfl) sa_nil)) sa_nil)) (evCons_len (evCons_len evNil_len))) rfl (fun t h => pe_bm PySem.F.plainAttrs_list PySem.F.slot_list_append PySem.F.type_list_append mt_append (pv 10) h))) (ss_one (ss_do (m := false) (se_ext 10 (pv 10) (se_meth T.K_Names T.M61 (ok_Names_words_in_expr T) (hr.mono (by decide)) T.B61 (se_var 0 (pv 0)) (sa_cons (se_var 17 (pv 17)) sa_nil) (evCons_len evNil_len)) (fun t h => pe_bm PySem.F.plainAttrs_list PySem.F.slot_list_extend PySem.F.type_list_extend mt_extend (pv 10) h)))))) (ss_fix 10 (ss_one (ss_ret (m := false) (se_var 10 (pv 10))))))))))))
/-! ### is_channel_all -/
def b_is_channel_all : Ex := (retS (evAnd (ev1 (isiD "str") (evVarB 1)) (evBin eqD (evGet1 (evVar 0) (evVar 1)) (evLit (.str "all")))))
def f_is_channel_all : List D → Ro := runFn 2 b_is_channel_all
theorem sc_is_channel_all : FnScope ["how", "arg"] ["how", "arg"] (defScope s_is_channel_all) := ⟨rfl, rfl, rfl, by decide +kernel, rfl, by decide +kernel, by decide +kernel⟩
theorem ok_is_channel_all {P : Program} {w : World} {K : Fr} {mg : Str → Option Value} {base : Heap} {cl ad : Nat → Addr} {fd : Nat → FuncData} {fi : Nat → Addr} {za : Addr} (T : Txt K mg cl ad fd fi za) : FnOk P w K mg base (L2.CX P w) 3 (ad 39) (fd 39) ["how", "arg"] (spP K cl 2 f_is_channel_all) :=
  fn_pure (cl := cl) (k := 2) T.F39 sc_is_channel_all rfl (by decide) fun cdv A outer s H E hr => by exact (ss_one (ss_ret (m := false) (se_and (se_isi tyok_str rfl T.n_isinstance (pe_bltn (v := V.ty "str") rfl T.n_str bt_str rfl) (sb_var 1 (pv 1))) (se_one (se_cmp (op_eqD hr.units) sem_eqD (sb_of (se_get1 (few_units hr) (se_var 0 (pv 0)) (se_var 1 (pv 1)) ⟨rfl, rfl, rfl, rfl⟩)) (sb_of (se_glob T.c_ALL rfl)) (nomark _))))))
end
end Zo
namespace Zo
open PySem PySem.Spec PyProof.Rows L2
noncomputable section
/-! ### Names.__init__ -/
def b_Names_init : Ex := (seqS (unpS [3, 4, 5, 6, 7, 8] (evVar 1)) (seqS (ownS 9 (evComp [10, 11] (evItT (evVar 4)) (tgT [10, 11]) evYes (evTup (evCons (evVar 10) (evCons (evIf (evT (evBin eqD (evVarB 11) (evLit (.str "number")))) (evLit (.str "number param")) (evLit (.str "channel param"))) evNil))))) (seqS (doS (evExt 9 (lstOf (evBinL addL (lstOf (evComp [12] (evItT (evVar 5)) (tgN 12) evYes (evTup (evCons (evVar 12) (evCons (evLit (.str "clock")) evNil))))) (lstOf (evComp [13] (evItT (evVar 6)) (tgN 13) evYes (evTup (evCons (evBin ixD (evVarB 13) (evLit (.int 0))) (evCons (evLit (.str "number")) evNil))))))))) (seqS (doS (evExt 9 (lstOf (evComp [14] (evItT (evVar 7)) (tgN 14) evYes (evTup (evCons (evBin ixD (evVarB 14) (evLit (.int 0))) (evCons (evLit (.str "place")) evNil))))))) (fixS 9 (seqS (attrS "Names" 0 "is_twice" (evOr (evBin (cmpI (fun i j => decide (i < j))) (ev1 lenK (ev1 dictD (evVar 9))) (ev1 lenD (evVarB 9))) (ev1 anyD (lstOf (evComp [10, 11] (evItL (evVar 9)) (tgT [10, 11]) evYes (evBin (inK false) (evVarB 10) (evVarB 2))))))) (seqS (attrS "Names" 0 "sorts" (ev1 dictRevD (evVar 9))) (attrS "Names" 0 "channels" (evVar 2)))))))))
theorem sc_Names_init : FnScope ["self", "module", "channels", "name", "params", "clocks", "numbers", "places", "edges", "pairs", "own", "sort", "clock", "number", "place"] ["self", "module", "channels"] (defScope s_Names_init) := ⟨rfl, rfl, rfl, by decide +kernel, rfl, by decide +kernel, by decide +kernel⟩
noncomputable def f_Names_init : List D → Option (List (D × D)) := initFn 15 b_Names_init "Names"
theorem ok_Names_init {P : Program} {w : World} {K : Fr} {mg : Str → Option Value} {base : Heap} {cl ad : Nat → Addr} {fd : Nat → FuncData} {fi : Nat → Addr} {za : Addr} (T : Txt K mg cl ad fd fi za) : FnOk P w K mg base (L2.CX P w) 3 (ad 57) (fd 57) ["self", "module", "channels"] (spI K "Names" 2 f_Names_init) :=
  fn_init (cl := cl) (k := 2) T.F57 sc_Names_init rfl (by decide) fun cdv A outer s H E hr => by exact (ss_cons (ss_unp (m := false) (is := [3, 4, 5, 6, 7, 8]) (n := 6) rfl (ps_asg (se_var 1 (pv 1)) (pg_tup rfl (pgs_cons (pg_name (i := 3) sc_Names_init.nd rfl (by first | exact Or.inl rfl | exact Or.inr rfl)) (pgs_cons (pg_name (i := 4) sc_Names_init.nd rfl (by first | exact Or.inl rfl | exact Or.inr rfl)) (pgs_cons (pg_name (i := 5) sc_Names_init.nd rfl (by first | exact Or.inl rfl | exact Or.inr rfl)) (pgs_cons (pg_name (i := 6) sc_Names_init.nd rfl (by first | exact Or.inl rfl | exact Or.inr rfl)) (pgs_cons (pg_name (i := 7) sc_Names_init.nd rfl (by first | exact Or.inl rfl | exact Or.inr rfl)) (pgs_cons (pg_name (i := 8) sc_Names_init.nd rfl (by first | exact Or.inl rfl | exact Or.inr rfl)) pgs_nil))))))))) (ss_cons (ss_ownC (m := false) (i := 9) (tgT_sem (is := [10, 11]) (vs := [10, 11]) (n := 2) rfl (by decide)) (ps_setLc (i := 9) (own := [("own", 10), ("sort", 11)]) rfl sc_Names_init.nd rfl rfl (by rfl) (si_tup (se_var 4 (pv 4))) (blkOk_by (by show blkC ["self", "module", "channels", "name", "params", "clocks", "numbers", "places", "edges", "pairs", "own", "sort", "clock", "number", "place"] (defScope s_Names_init) _ _ = true; decide +kernel)) (fun _ _ _ _ _ => (pg_tup (n := 2) rfl (pgs_cons (pg_name (i := 10) sc_Names_init.nd rfl (by first | exact Or.inl rfl | exact Or.inr rfl)) (pgs_cons (pg_name (i := 11) sc_Names_init.nd rfl (by first | exact Or.inl rfl | exact Or.inr rfl)) pgs_nil)))) (fun _ _ _ _ _ => pts_yes) (fun _ _ _ _ _ => (se_tup (sa_cons (se_var 10 (pv 10)) (sa_cons (se_if (st_cmp (op_eqD hr.units) sem_eqD (sb_var 11 (pv 11)) (sb_of se_str) (nomark _)) (se_glob T.c_NUMBER_PARAM rfl) (se_glob T.c_CHANNEL_PARAM rfl)) sa_nil)))))) (ss_cons (ss_do (m := false) (se_ext 9 (pv 9) (sf_of (sf_bin op_cat sem_addL (sb_of (sf_of (sf_comp (tgN_sem (vs := [12]) (i := 12) (by decide)) (pe_lc (own := [("clock", 12)]) rfl sc_Names_init.nd (si_tup (se_var 5 (pv 5))) (blkOk_by (by show blkC ["self", "module", "channels", "name", "params", "clocks", "numbers", "places", "edges", "pairs", "own", "sort", "clock", "number", "place"] (defScope s_Names_init) _ _ = true; decide +kernel)) (fun _ _ _ _ _ => (pg_name (i := 12) sc_Names_init.nd rfl (by first | exact Or.inl rfl | exact Or.inr rfl))) (fun _ _ _ _ _ => pts_yes) (fun _ _ _ _ _ => (se_tup (sa_cons (se_var 12 (pv 12)) (sa_cons (se_glob T.c_CLOCK rfl) sa_nil)))))))) (sb_of (sf_of (sf_comp (tgN_sem (vs := [13]) (i := 13) (by decide)) (pe_lc (own := [("number", 13)]) rfl sc_Names_init.nd (si_tup (se_var 6 (pv 6))) (blkOk_by (by show blkC ["self", "module", "channels", "name", "params", "clocks", "numbers", "places", "edges", "pairs", "own", "sort", "clock", "number", "place"] (defScope s_Names_init) _ _ = true; decide +kernel)) (fun _ _ _ _ _ => (pg_name (i := 13) sc_Names_init.nd rfl (by first | exact Or.inl rfl | exact Or.inr rfl))) (fun _ _ _ _ _ => pts_yes) (fun _ _ _ _ _ => (se_tup (sa_cons (se_ix (sb_var 13 (pv 13)) (sb_of se_int)) (sa_cons (se_glob T.c_NUMBER rfl) sa_nil)))))))))) (fun t h => pe_bm PySem.F.plainAttrs_list PySem.F.slot_list_extend PySem.F.type_list_extend mt_extend (pv 9) h))) (ss_cons (ss_do (m := false) (se_ext 9 (pv 9) (sf_of (sf_comp (tgN_sem (vs := [14]) (i := 14) (by decide)) (pe_lc (own := [("place", 14)]) rfl sc_Names_init.nd (si_tup (se_var 7 (pv 7))) (blkOk_by (by show blkC ["self", "module", "channels", "name", "params", "clocks", "numbers", "places", "edges", "pairs", "own", "sort", "clock", "number", "place"] (defScope s_Names_init) _ _ = true; decide +kernel)) (fun _ _ _ _ _ => (pg_name (i := 14) sc_Names_init.nd rfl (by first | exact Or.inl rfl | exact Or.inr rfl))) (fun _ _ _ _ _ => pts_yes) (fun _ _ _ _ _ => (se_tup (sa_cons (se_ix (sb_var 14 (pv 14)) (sb_of se_int)) (sa_cons (se_glob T.c_PLACE rfl) sa_nil))))))) (fun t h => pe_bm PySem.F.plainAttrs_list PySem.F.slot_list_extend PySem.F.type_list_extend mt_extend (pv 9) h))) (ss_fix 9 (ss_cons (ss_attr (m := false) T.K_Names T.na_is_twice (pv 0) (se_or (se_cmp op_lt (sem_cmpI (fun i j => decide (i < j))) (sb_of (se_b call_lenK sem_lenK rfl T.n_len bt_len (sb_of (se_dict rfl rfl T.n_dict (se_var 9 (pv 9)))))) (sb_of (se_b L2.call_len sem_len rfl T.n_len bt_len (sb_var 9 (pv 9)))) (nomark _)) (se_one (se_b (cr_any rfl) sem_any rfl T.n_any bt_any (sb_of (sf_of (sf_comp (tgT_sem (is := [10, 11]) (vs := [10, 11]) (n := 2) rfl (by decide)) (pe_lc (own := [("own", 10), ("sort", 11)]) rfl sc_Names_init.nd (si_list (se_var 9 (pv 9))) (blkOk_by (by show blkC ["self", "module", "channels", "name", "params", "clocks", "numbers", "places", "edges", "pairs", "own", "sort", "clock", "number", "place"] (defScope s_Names_init) _ _ = true; decide +kernel)) (fun _ _ _ _ _ => (pg_tup (n := 2) rfl (pgs_cons (pg_name (i := 10) sc_Names_init.nd rfl (by first | exact Or.inl rfl | exact Or.inr rfl)) (pgs_cons (pg_name (i := 11) sc_Names_init.nd rfl (by first | exact Or.inl rfl | exact Or.inr rfl)) pgs_nil)))) (fun _ _ _ _ _ => pts_yes) (fun _ _ _ _ _ => (se_cmp (op_inK (few_units hr)) sem_inK (sb_var 10 (pv 10)) (sb_var 2 (pv 2)) (by rfl))))))))))) (ss_cons (ss_attr (m := false) T.K_Names T.na_sorts (pv 0) (se_dictRev rfl rfl T.n_dict rfl T.n_reversed (se_var 9 (pv 9)))) (ss_one (ss_attr (m := false) T.K_Names T.na_channels (pv 0) (se_var 2 (pv 2)))))))))))
end
end Zo
namespace Zo
open PySem PySem.Spec PyProof.Rows L2
noncomputable section
/-! ### all_channels -/
def b_all_channels : Ex := (seqS (setS 2 (ev1 dictD (evBin ixD (evVarB 0) (evLit (.int 1))))) (seqS (unpS [3, 4] (evTup (evCons (lstOf (evComp [5] (evItT (evBin ixD (evVarB 1) (evLit (.int 1)))) (tgN 5) evYes (evBin ixD (evVarB 5) (evLit (.int 0))))) (evCons (ev1 (attrD "Names" "sorts") (evNew "Names" f_Names_init (evCons (evVar 1) (evCons (evVar 2) evNil)))) evNil)))) (seqS (setS 6 (evD0 2)) (seqS (forS (evItT (evBin ixD (evVarB 0) (evLit (.int 3)))) (tgT [7, 8, 9]) (ifS (evT (evBin eqD (evVarB 8) (evBin ixD (evVarB 1) (evLit (.int 0))))) (seqS (setS 10 (evCall f_params_told (evCons (evVar 1) (evCons (evVar 9) evNil)))) (doS (evUpd0 6 (lstOf (evComp [5] (evItL (evVar 3)) (tgN 5) (evT (evCall f_is_channel_all (evCons (evVar 2) (evCons (evGet1 (evVar 10) (evVar 5)) evNil)))) (evTup (evCons (evVar 5) (evCons (evLit (.bool true)) evNil)))))))) skipS)) (retS (evVar 6))))))
def f_all_channels : List D → Ro := runFn 11 b_all_channels
theorem sc_all_channels : FnScope ["program", "module", "how", "own", "taken", "param", "found", "name", "called", "args", "told"] ["program", "module"] (defScope s_all_channels) := ⟨rfl, rfl, rfl, by decide +kernel, rfl, by decide +kernel, by decide +kernel⟩
theorem ok_all_channels {P : Program} {w : World} {K : Fr} {mg : Str → Option Value} {base : Heap} {cl ad : Nat → Addr} {fd : Nat → FuncData} {fi : Nat → Addr} {za : Addr} (T : Txt K mg cl ad fd fi za) : FnOk P w K mg base (L2.CX P w) 5 (ad 38) (fd 38) ["program", "module"] (spP K cl 2 f_all_channels) :=
  fn_pure (cl := cl) (k := 4) T.F38 sc_all_channels rfl (by decide) fun cdv A outer s H E hr => by exact (ss_cons (ss_set (m := false) (i := 2) sc_all_channels.nd rfl (by first | exact Or.inl rfl | exact Or.inr rfl) (se_dict rfl rfl T.n_dict (se_ix (sb_var 0 (pv 0)) (sb_of se_int)))) (ss_cons (ss_unp (m := false) (is := [3, 4]) (n := 2) rfl (ps_asg (se_tup (sa_cons (sf_of (sf_comp (tgN_sem (vs := [5]) (i := 5) (by decide)) (pe_lc (own := [("param", 5)]) rfl sc_all_channels.nd (si_tup (se_ix (sb_var 1 (pv 1)) (sb_of se_int))) (blkOk_by (by show blkC ["program", "module", "how", "own", "taken", "param", "found", "name", "called", "args", "told"] (defScope s_all_channels) _ _ = true; decide +kernel)) (fun _ _ _ _ _ => (pg_name (i := 5) sc_all_channels.nd rfl (by first | exact Or.inl rfl | exact Or.inr rfl))) (fun _ _ _ _ _ => pts_yes) (fun _ _ _ _ _ => (se_ix (sb_var 5 (pv 5)) (sb_of se_int)))))) (sa_cons (se_attr T.K_Names T.na_sorts (se_new T.K_Names T.M57 (ok_Names_init T) (hr.mono (by decide)) T.B57 rfl T.G_Names (sa_cons (se_var 1 (pv 1)) (sa_cons (se_var 2 (pv 2)) sa_nil)) (evCons_len (evCons_len evNil_len)))) sa_nil))) (pg_tup rfl (pgs_cons (pg_name (i := 3) sc_all_channels.nd rfl (by first | exact Or.inl rfl | exact Or.inr rfl)) (pgs_cons (pg_name (i := 4) sc_all_channels.nd rfl (by first | exact Or.inl rfl | exact Or.inr rfl)) pgs_nil))))) (ss_cons (ss_setD0 (i := 6) 2 (ps_setDc (i := 6) (own := [("name", 7)]) rfl sc_all_channels.nd rfl rfl (by rfl) (pi_keys (pv 2)) (blkOk_by (by show blkC ["program", "module", "how", "own", "taken", "param", "found", "name", "called", "args", "told"] (defScope s_all_channels) _ _ = true; decide +kernel)) (fun _ _ _ _ _ => (pg_name (i := 7) sc_all_channels.nd rfl (by first | exact Or.inl rfl | exact Or.inr rfl))) (fun _ _ _ _ _ => (pts_one (st_pw (sw_and (st_cmp (op_eqD hr.units) sem_eqD (sb_of (se_getK (few_units hr) (sb_var 2 (pv 2)) (sb_var 7 (pv 7)))) (sb_of (se_glob T.c_ALL rfl)) (nomark _)) (sw_and1 (st_cmp (op_notInK (few_units hr)) sem_notInK (sb_var 7 (pv 7)) (sb_var 4 (pv 4)) (by rfl))))))) (fun _ _ _ _ _ => (se_var 7 (pv 7))) (fun _ _ _ _ _ => se_bool))) (ss_cons (ss_for (m := false) (passes_of rfl) rfl (si_tup (se_ix (sb_var 0 (pv 0)) (sb_of se_int))) (pg_tup (n := 3) rfl (pgs_cons (pg_name (i := 7) sc_all_channels.nd rfl (by first | exact Or.inl rfl | exact Or.inr rfl)) (pgs_cons (pg_name (i := 8) sc_all_channels.nd rfl (by first | exact Or.inl rfl | exact Or.inr rfl)) (pgs_cons (pg_name (i := 9) sc_all_channels.nd rfl (by first | exact Or.inl rfl | exact Or.inr rfl)) pgs_nil)))) (tgT_sem (is := [7, 8, 9]) (vs := [7, 8, 9]) (n := 3) rfl (by decide)) (ss_one (ss_if (m := false) (st_cmp (op_eqD hr.units) sem_eqD (sb_var 8 (pv 8)) (sb_of (se_ix (sb_var 1 (pv 1)) (sb_of se_int))) (nomark _)) (ss_cons (ss_set (m := false) (i := 10) sc_all_channels.nd rfl (by first | exact Or.inl rfl | exact Or.inr rfl) (se_call (ok_params_told T) (hr.mono (by decide)) rfl T.g33 T.F33.kp T.B33 (takes_of rfl rfl rfl rfl) (sa_cons (se_var 1 (pv 1)) (sa_cons (se_var 9 (pv 9)) sa_nil)) (evCons_len (evCons_len evNil_len)))) (ss_one (ss_do (m := false) (se_upd0 6 rfl (sf_of (sf_comp (tgN_sem (vs := [5]) (i := 5) (by decide)) (pe_lc (own := [("param", 5)]) rfl sc_all_channels.nd (si_list (se_var 3 (pv 3))) (blkOk_by (by show blkC ["program", "module", "how", "own", "taken", "param", "found", "name", "called", "args", "told"] (defScope s_all_channels) _ _ = true; decide +kernel)) (fun _ _ _ _ _ => (pg_name (i := 5) sc_all_channels.nd rfl (by first | exact Or.inl rfl | exact Or.inr rfl))) (fun _ _ _ _ _ => (pts_one (st_val (se_call (ok_is_channel_all T) (hr.mono (by decide)) rfl T.g39 T.F39.kp T.B39 (takes0) (sa_cons (se_var 2 (pv 2)) (sa_cons (se_get1 (few_units hr) (se_var 10 (pv 10)) (se_var 5 (pv 5)) ⟨rfl, rfl, rfl, rfl⟩) sa_nil)) (evCons_len (evCons_len evNil_len)))))) (fun _ _ _ _ _ => (se_tup (sa_cons (se_var 5 (pv 5)) (sa_cons se_bool sa_nil))))))) (fun h => pe_bm PySem.F.plainAttrs_dict PySem.F.slot_dict_update PySem.F.type_dict_update (mt_upd0 rfl) (pv 6) h))))) ss_nil))) (ss_one (ss_ret (m := false) (se_var 6 (pv 6))))))))
/-! ### module_faults -/
def b_module_faults : Ex := (seqS (par2M 2 3 (evNew "Names" f_Names_init (evCons (evVar 1) (evCons (ev1 dictD (evBin ixD (evVarB 0) (evLit (.int 1)))) evNil))) (evLst evNil)) (seqS (setS 4 (evCall f_all_channels (evCons (evVar 0) (evCons (evVar 1) evNil)))) (seqS (ifS (evT (ev1 (attrD "Names" "is_twice") (evVar 2))) (doS (evApp 3 (evTup (evCons (evTup (evCons (evLit (.str "module")) (evCons (evBin ixD (evVarB 1) (evLit (.int 0))) evNil))) (evCons (evLit (.str "twice")) evNil))))) skipS) (seqS (ifS (evT (ev1 anyD (lstOf (evComp [5, 6, 7, 8] (evItT (evBin ixD (evVarB 1) (evLit (.int 3)))) (tgT [5, 6, 7, 8]) evYes (evNot (evChain (cmpI (fun i j => decide (i ≤ j))) (cmpI (fun i j => decide (i ≤ j))) (evVarB 6) (evVarB 8) (evVarB 7))))))) (doS (evApp 3 (evTup (evCons (evTup (evCons (evLit (.str "module")) (evCons (evBin ixD (evVarB 1) (evLit (.int 0))) evNil))) (evCons (evLit (.str "first")) evNil))))) skipS) (seqS (forS (evEnumT (evBin ixD (evVarB 1) (evLit (.int 4)))) (tgT [9, 10]) (doS (evExt 3 (lstOf (evComp [11] (evItL (evCall f_place_words (evCons (evVar 2) (evCons (evVar 10) evNil)))) (tgN 11) (evT (evBin neD (evVarB 11) (evLit (.str "")))) (evTup (evCons (evTup (evCons (evLit (.str "place")) (evCons (evBin ixD (evVarB 1) (evLit (.int 0))) (evCons (evVar 9) evNil)))) (evCons (evVar 11) evNil)))))))) (seqS (forS (evEnumT (evBin ixD (evVarB 1) (evLit (.int 5)))) (tgT [9, 12]) (seqS (setS 13 (lstOf (evBinL addL (evCall f_edge_words (evCons (evVar 2) (evCons (evVar 12) evNil))) (lstOf (evLst (evCons (evIf (evT (evCall f_is_deaf (evCons (evVar 12) (evCons (evBin ixD (evVarB 1) (evLit (.int 4))) (evCons (evVar 4) evNil))))) (evLit (.str "hear")) (evLit (.str ""))) evNil)))))) (doS (evExt 3 (lstOf (evComp [11] (evItL (evVar 13)) (tgN 11) (evT (evBin neD (evVarB 11) (evLit (.str "")))) (evTup (evCons (evTup (evCons (evLit (.str "edge")) (evCons (evBin ixD (evVarB 1) (evLit (.int 0))) (evCons (evVar 9) evNil)))) (evCons (evVar 11) evNil))))))))) (fixS 3 (retS (evVar 3)))))))))
def f_module_faults : List D → Ro := runFn 14 b_module_faults
theorem sc_module_faults : FnScope ["program", "module", "names", "found", "heard", "name", "low", "high", "first", "number", "place", "word", "edge", "words"] ["program", "module"] (defScope s_module_faults) := ⟨rfl, rfl, rfl, by decide +kernel, rfl, by decide +kernel, by decide +kernel⟩
theorem ok_module_faults {P : Program} {w : World} {K : Fr} {mg : Str → Option Value} {base : Heap} {cl ad : Nat → Addr} {fd : Nat → FuncData} {fi : Nat → Addr} {za : Addr} (T : Txt K mg cl ad fd fi za) : FnOk P w K mg base (L2.CX P w) 8 (ad 40) (fd 40) ["program", "module"] (spP K cl 2 f_module_faults) :=
  fn_pure (cl := cl) (k := 7) T.F40 sc_module_faults rfl (by decide) fun cdv A outer s H E hr => by exact (ss_cons (ss_par2m (m := false) (i := 2) (j := 3) (se_new T.K_Names T.M57 (ok_Names_init T) (hr.mono (by decide)) T.B57 rfl T.G_Names (sa_cons (se_var 1 (pv 1)) (sa_cons (se_dict rfl rfl T.n_dict (se_ix (sb_var 0 (pv 0)) (sb_of se_int))) sa_nil)) (evCons_len (evCons_len evNil_len))) (sf_lst sa_nil) (fun ta h => ps_par rfl sc_module_faults.nd rfl rfl (by decide) rfl rfl h rfl)) (ss_cons (ss_set (m := false) (i := 4) sc_module_faults.nd rfl (by first | exact Or.inl rfl | exact Or.inr rfl) (se_call (ok_all_channels T) (hr.mono (by decide)) rfl T.g38 T.F38.kp T.B38 (takes_of rfl rfl rfl rfl) (sa_cons (se_var 0 (pv 0)) (sa_cons (se_var 1 (pv 1)) sa_nil)) (evCons_len (evCons_len evNil_len)))) (ss_cons (ss_if (m := false) (st_val (se_attr T.K_Names T.na_is_twice (se_var 2 (pv 2)))) (ss_one (ss_do (m := false) (se_app 3 (pv 3) (se_tup (sa_cons (se_tup (sa_cons se_str (sa_cons (se_ix (sb_var 1 (pv 1)) (sb_of se_int)) sa_nil))) (sa_cons se_str sa_nil))) rfl (fun t h => pe_bm PySem.F.plainAttrs_list PySem.F.slot_list_append PySem.F.type_list_append mt_append (pv 3) h)))) ss_nil) (ss_cons (ss_if (m := false) (st_val (se_b (cr_any rfl) sem_any rfl T.n_any bt_any (sb_of (sf_of (sf_comp (tgT_sem (is := [5, 6, 7, 8]) (vs := [5, 6, 7, 8]) (n := 4) rfl (by decide)) (pe_lc (own := [("name", 5), ("low", 6), ("high", 7), ("first", 8)]) rfl sc_module_faults.nd (si_tup (se_ix (sb_var 1 (pv 1)) (sb_of se_int))) (blkOk_by (by show blkC ["program", "module", "names", "found", "heard", "name", "low", "high", "first", "number", "place", "word", "edge", "words"] (defScope s_module_faults) _ _ = true; decide +kernel)) (fun _ _ _ _ _ => (pg_tup (n := 4) rfl (pgs_cons (pg_name (i := 5) sc_module_faults.nd rfl (by first | exact Or.inl rfl | exact Or.inr rfl)) (pgs_cons (pg_name (i := 6) sc_module_faults.nd rfl (by first | exact Or.inl rfl | exact Or.inr rfl)) (pgs_cons (pg_name (i := 7) sc_module_faults.nd rfl (by first | exact Or.inl rfl | exact Or.inr rfl)) (pgs_cons (pg_name (i := 8) sc_module_faults.nd rfl (by first | exact Or.inl rfl | exact Or.inr rfl)) pgs_nil)))))) (fun _ _ _ _ _ => pts_yes) (fun _ _ _ _ _ => (se_not (se_chain op_le (sem_cmpI (fun i j => decide (i ≤ j))) op_le (sem_cmpI (fun i j => decide (i ≤ j))) (sb_var 6 (pv 6)) (sb_var 8 (pv 8)) (sb_var 7 (pv 7))))))))))) (ss_one (ss_do (m := false) (se_app 3 (pv 3) (se_tup (sa_cons (se_tup (sa_cons se_str (sa_cons (se_ix (sb_var 1 (pv 1)) (sb_of se_int)) sa_nil))) (sa_cons se_str sa_nil))) rfl (fun t h => pe_bm PySem.F.plainAttrs_list PySem.F.slot_list_append PySem.F.type_list_append mt_append (pv 3) h)))) ss_nil) (ss_cons (ss_for (m := false) (passes_of rfl) rfl (si_enumT rfl T.n_enumerate (se_ix (sb_var 1 (pv 1)) (sb_of se_int))) (pg_tup (n := 2) rfl (pgs_cons (pg_name (i := 9) sc_module_faults.nd rfl (by first | exact Or.inl rfl | exact Or.inr rfl)) (pgs_cons (pg_name (i := 10) sc_module_faults.nd rfl (by first | exact Or.inl rfl | exact Or.inr rfl)) pgs_nil))) (tgT_sem (is := [9, 10]) (vs := [9, 10]) (n := 2) rfl (by decide)) (ss_one (ss_do (m := false) (se_ext 3 (pv 3) (sf_of (sf_comp (tgN_sem (vs := [11]) (i := 11) (by decide)) (pe_lc (own := [("word", 11)]) rfl sc_module_faults.nd (si_list (se_call (ok_place_words T) (hr.mono (by decide)) rfl T.g28 T.F28.kp T.B28 (takes_of rfl rfl rfl rfl) (sa_cons (se_var 2 (pv 2)) (sa_cons (se_var 10 (pv 10)) sa_nil)) (evCons_len (evCons_len evNil_len)))) (blkOk_by (by show blkC ["program", "module", "names", "found", "heard", "name", "low", "high", "first", "number", "place", "word", "edge", "words"] (defScope s_module_faults) _ _ = true; decide +kernel)) (fun _ _ _ _ _ => (pg_name (i := 11) sc_module_faults.nd rfl (by first | exact Or.inl rfl | exact Or.inr rfl))) (fun _ _ _ _ _ => (pts_one (st_cmp (op_neD hr.units) sem_neD (sb_var 11 (pv 11)) (sb_of se_str) (nomark _)))) (fun _ _ _ _ _ => (se_tup (sa_cons (se_tup (sa_cons se_str (sa_cons (se_ix (sb_var 1 (pv 1)) (sb_of se_int)) (sa_cons (se_var 9 (pv 9)) sa_nil)))) (sa_cons (se_var 11 (pv 11)) sa_nil))))))) (fun t h => pe_bm PySem.F.plainAttrs_list PySem.F.slot_list_extend PySem.F.type_list_extend mt_extend (pv 3) h))))) (ss_cons (ss_for (m := false) (passes_of rfl) rfl (si_enumT rfl T.n_enumerate (se_ix (sb_var 1 (pv 1)) (sb_of se_int))) (pg_tup (n := 2) rfl (pgs_cons (pg_name (i := 9) sc_module_faults.nd rfl (by first | exact Or.inl rfl | exact Or.inr rfl)) (pgs_cons (pg_name (i := 12) sc_module_faults.nd rfl (by first | exact Or.inl rfl | exact Or.inr rfl)) pgs_nil))) (tgT_sem (is := [9, 12]) (vs := [9, 12]) (n := 2) rfl (by decide)) (ss_cons (ss_set (m := false) (i := 13) sc_module_faults.nd rfl (by first | exact Or.inl rfl | exact Or.inr rfl) (sf_of (sf_bin op_cat sem_addL (sb_of (se_call (ok_edge_words T) (hr.mono (by decide)) rfl T.g32 T.F32.kp T.B32 (takes_of rfl rfl rfl rfl) (sa_cons (se_var 2 (pv 2)) (sa_cons (se_var 12 (pv 12)) sa_nil)) (evCons_len (evCons_len evNil_len)))) (sb_of (sf_of (sf_lst (sa_cons (se_if (st_val (se_call (ok_is_deaf T) (hr.mono (by decide)) rfl T.g31 T.F31.kp T.B31 (takes_of rfl rfl rfl rfl) (sa_cons (se_var 12 (pv 12)) (sa_cons (se_ix (sb_var 1 (pv 1)) (sb_of se_int)) (sa_cons (se_var 4 (pv 4)) sa_nil))) (evCons_len (evCons_len (evCons_len evNil_len))))) se_str se_str) sa_nil))))))) (ss_one (ss_do (m := false) (se_ext 3 (pv 3) (sf_of (sf_comp (tgN_sem (vs := [11]) (i := 11) (by decide)) (pe_lc (own := [("word", 11)]) rfl sc_module_faults.nd (si_list (se_var 13 (pv 13))) (blkOk_by (by show blkC ["program", "module", "names", "found", "heard", "name", "low", "high", "first", "number", "place", "word", "edge", "words"] (defScope s_module_faults) _ _ = true; decide +kernel)) (fun _ _ _ _ _ => (pg_name (i := 11) sc_module_faults.nd rfl (by first | exact Or.inl rfl | exact Or.inr rfl))) (fun _ _ _ _ _ => (pts_one (st_cmp (op_neD hr.units) sem_neD (sb_var 11 (pv 11)) (sb_of se_str) (nomark _)))) (fun _ _ _ _ _ => (se_tup (sa_cons (se_tup (sa_cons se_str (sa_cons (se_ix (sb_var 1 (pv 1)) (sb_of se_int)) (sa_cons (se_var 9 (pv 9)) sa_nil)))) (sa_cons (se_var 11 (pv 11)) sa_nil))))))) (fun t h => pe_bm PySem.F.plainAttrs_list PySem.F.slot_list_extend PySem.F.type_list_extend mt_extend (pv 3) h)))))) (ss_fix 3 (ss_one (ss_ret (m := false) (se_var 3 (pv 3)))))))))))
/-! ### faults_in -/
def b_faults_in : Ex := (seqS (setS 1 (evDComp [2] (evItT (evBin ixD (evVarB 0) (evLit (.int 2)))) (tgN 2) evYes (evBin ixD (evVarB 2) (evLit (.int 0))) (evVar 2))) (seqS (ownS 3 (evComp2 [2, 4] [4] (evItT (evBin ixD (evVarB 0) (evLit (.int 2)))) (tgN 2) evYes (evItL (evCall f_module_faults (evCons (evVar 0) (evCons (evVar 2) evNil)))) (tgN 4) evYes (evVar 4))) (seqS (forS (evEnumT (evBin ixD (evVarB 0) (evLit (.int 3)))) (tgX (.t [.n 5, .t [.n 6, .n 7, .n 8]])) (ifS (evT (evBin (inK true) (evVarB 7) (evVarB 1))) (doS (evApp 3 (evTup (evCons (evTup (evCons (evLit (.str "part")) (evCons (evVar 5) evNil))) (evCons (evLit (.str "name")) evNil))))) (seqS (setS 9 (evCall f_part_words (evCons (evBin getK (evVarB 1) (evVarB 7)) (evCons (evVar 8) (evCons (ev1 dictD (evBin ixD (evVarB 0) (evLit (.int 1)))) evNil))))) (doS (evExt 3 (lstOf (evComp [10] (evItL (evVar 9)) (tgN 10) evYes (evTup (evCons (evTup (evCons (evLit (.str "part")) (evCons (evVar 5) evNil))) (evCons (evVar 10) evNil)))))))))) (fixS 3 (retS (lstOf (evSortSet [4] (evItL (evVar 3)) (tgN 4) evYes (evVar 4))))))))
def f_faults_in : List D → Ro := runFn 11 b_faults_in
theorem sc_faults_in : FnScope ["program", "modules", "module", "found", "fault", "number", "name", "called", "args", "words", "word"] ["program"] (defScope s_faults_in) := ⟨rfl, rfl, rfl, by decide +kernel, rfl, by decide +kernel, by decide +kernel⟩
theorem ok_faults_in {P : Program} {w : World} {K : Fr} {mg : Str → Option Value} {base : Heap} {cl ad : Nat → Addr} {fd : Nat → FuncData} {fi : Nat → Addr} {za : Addr} (T : Txt K mg cl ad fd fi za) : FnOk P w K mg base (L2.CX P w) 9 (ad 41) (fd 41) ["program"] (spP K cl 1 f_faults_in) :=
  fn_pure (cl := cl) (k := 8) T.F41 sc_faults_in rfl (by decide) fun cdv A outer s H E hr => by exact (ss_cons (ss_setD (m := false) (i := 1) (tgN_sem (vs := [2]) (i := 2) (by decide)) (ps_setDc (i := 1) (own := [("module", 2)]) rfl sc_faults_in.nd rfl rfl (by rfl) (si_tup (se_ix (sb_var 0 (pv 0)) (sb_of se_int))) (blkOk_by (by show blkC ["program", "modules", "module", "found", "fault", "number", "name", "called", "args", "words", "word"] (defScope s_faults_in) _ _ = true; decide +kernel)) (fun _ _ _ _ _ => (pg_name (i := 2) sc_faults_in.nd rfl (by first | exact Or.inl rfl | exact Or.inr rfl))) (fun _ _ _ _ _ => pts_yes) (fun _ _ _ _ _ => (se_ix (sb_var 2 (pv 2)) (sb_of se_int))) (fun _ _ _ _ _ => (se_var 2 (pv 2))))) (ss_cons (ss_ownC2 (m := false) (i := 3) (vs := [2, 4]) (vs1 := [4]) (by decide) (tgN_sem (vs := [2, 4]) (i := 2) (by decide)) (tgN_sem (vs := [4]) (i := 4) (by decide)) (ps_setLc2 (i := 3) (own := [("module", 2), ("fault", 4)]) (vs1 := [4]) rfl sc_faults_in.nd rfl rfl (by rfl) (si_tup (se_ix (sb_var 0 (pv 0)) (sb_of se_int))) (blkOk_by (by show blkC ["program", "modules", "module", "found", "fault", "number", "name", "called", "args", "words", "word"] (defScope s_faults_in) _ _ = true; decide +kernel)) (by decide) (fun _ _ _ _ _ => (pg_name (i := 2) sc_faults_in.nd rfl (by first | exact Or.inl rfl | exact Or.inr rfl))) (fun _ _ _ _ _ => pts_yes) (fun _ _ _ _ _ => (si_list (se_call (ok_module_faults T) (hr.mono (by decide)) rfl T.g40 T.F40.kp T.B40 (takes0) (sa_cons (se_var 0 (pv 0)) (sa_cons (se_var 2 (pv 2)) sa_nil)) (evCons_len (evCons_len evNil_len))))) (fun _ _ _ _ _ => (pg_name (i := 4) sc_faults_in.nd rfl (by first | exact Or.inl rfl | exact Or.inr rfl))) (fun _ _ _ _ _ => pts_yes) (fun _ _ _ _ _ => (se_var 4 (pv 4))))) (ss_cons (ss_for (m := false) (passes_of rfl) rfl (si_enumT rfl T.n_enumerate (se_ix (sb_var 0 (pv 0)) (sb_of se_int))) (pg_tup (n := 2) rfl (pgs_cons (pg_name (i := 5) sc_faults_in.nd rfl (by first | exact Or.inl rfl | exact Or.inr rfl)) (pgs_cons (pg_tup (n := 3) rfl (pgs_cons (pg_name (i := 6) sc_faults_in.nd rfl (by first | exact Or.inl rfl | exact Or.inr rfl)) (pgs_cons (pg_name (i := 7) sc_faults_in.nd rfl (by first | exact Or.inl rfl | exact Or.inr rfl)) (pgs_cons (pg_name (i := 8) sc_faults_in.nd rfl (by first | exact Or.inl rfl | exact Or.inr rfl)) pgs_nil)))) pgs_nil))) (tgX_sem (ts := [.n 5, .t [.n 6, .n 7, .n 8]]) (vs := [5, 6, 7, 8]) (by decide)) (ss_one (ss_if (m := false) (st_cmp (op_notInK (few_units hr)) sem_notInK (sb_var 7 (pv 7)) (sb_var 1 (pv 1)) (by rfl)) (ss_one (ss_do (m := false) (se_app 3 (pv 3) (se_tup (sa_cons (se_tup (sa_cons se_str (sa_cons (se_var 5 (pv 5)) sa_nil))) (sa_cons se_str sa_nil))) rfl (fun t h => pe_bm PySem.F.plainAttrs_list PySem.F.slot_list_append PySem.F.type_list_append mt_append (pv 3) h)))) (ss_cons (ss_set (m := false) (i := 9) sc_faults_in.nd rfl (by first | exact Or.inl rfl | exact Or.inr rfl) (se_call (ok_part_words T) (hr.mono (by decide)) rfl T.g37 T.F37.kp T.B37 (takes_of rfl rfl rfl rfl) (sa_cons (se_getK (few_units hr) (sb_var 1 (pv 1)) (sb_var 7 (pv 7))) (sa_cons (se_var 8 (pv 8)) (sa_cons (se_dict rfl rfl T.n_dict (se_ix (sb_var 0 (pv 0)) (sb_of se_int))) sa_nil))) (evCons_len (evCons_len (evCons_len evNil_len))))) (ss_one (ss_do (m := false) (se_ext 3 (pv 3) (sf_of (sf_comp (tgN_sem (vs := [10]) (i := 10) (by decide)) (pe_lc (own := [("word", 10)]) rfl sc_faults_in.nd (si_list (se_var 9 (pv 9))) (blkOk_by (by show blkC ["program", "modules", "module", "found", "fault", "number", "name", "called", "args", "words", "word"] (defScope s_faults_in) _ _ = true; decide +kernel)) (fun _ _ _ _ _ => (pg_name (i := 10) sc_faults_in.nd rfl (by first | exact Or.inl rfl | exact Or.inr rfl))) (fun _ _ _ _ _ => pts_yes) (fun _ _ _ _ _ => (se_tup (sa_cons (se_tup (sa_cons se_str (sa_cons (se_var 5 (pv 5)) sa_nil))) (sa_cons (se_var 10 (pv 10)) sa_nil))))))) (fun t h => pe_bm PySem.F.plainAttrs_list PySem.F.slot_list_extend PySem.F.type_list_extend mt_extend (pv 3) h)))))))) (ss_fix 3 (ss_one (ss_ret (m := false) (sf_of (sf_sortSet rfl (few66 hr) rfl T.n_sorted (tgN_sem (vs := [4]) (i := 4) (by decide)) (pe_nd (own := [("fault", 4)]) rfl hr.units sc_faults_in.nd (si_list (se_var 3 (pv 3))) (blkOk_by (by show blkC ["program", "modules", "module", "found", "fault", "number", "name", "called", "args", "words", "word"] (defScope s_faults_in) _ _ = true; decide +kernel)) (fun _ _ _ _ _ => (pg_name (i := 4) sc_faults_in.nd rfl (by first | exact Or.inl rfl | exact Or.inr rfl))) (fun _ _ _ _ _ => pts_yes) (fun _ _ _ _ _ => (se_var 4 (pv 4))) (fun _ _ _ _ _ => pe_bl))))))))))
end
end Zo
namespace Zo
open PySem PySem.Spec PyProof.Rows L2
noncomputable section
/-! ### is_tuple_of -/
def b_is_tuple_of : Ex := (retS (evAnd (ev1 (isiD "tuple") (evVarB 0)) (evBin eqD (ev1 lenD (evVarB 0)) (evVarB 1))))
def f_is_tuple_of : List D → Ro := runFn 2 b_is_tuple_of
theorem sc_is_tuple_of : FnScope ["thing", "many"] ["thing", "many"] (defScope s_is_tuple_of) := ⟨rfl, rfl, rfl, by decide +kernel, rfl, by decide +kernel, by decide +kernel⟩
theorem ok_is_tuple_of {P : Program} {w : World} {K : Fr} {mg : Str → Option Value} {base : Heap} {cl ad : Nat → Addr} {fd : Nat → FuncData} {fi : Nat → Addr} {za : Addr} (T : Txt K mg cl ad fd fi za) : FnOk P w K mg base (L2.CX P w) 3 (ad 2) (fd 2) ["thing", "many"] (spP K cl 2 f_is_tuple_of) :=
  fn_pure (cl := cl) (k := 2) T.F2 sc_is_tuple_of rfl (by decide) fun cdv A outer s H E hr => by exact (ss_one (ss_ret (m := false) (se_and (se_isi tyok_tuple rfl T.n_isinstance (pe_bltn (v := V.ty "tuple") rfl T.n_tuple bt_tuple rfl) (sb_var 0 (pv 0))) (se_one (se_cmp (op_eqD hr.units) sem_eqD (sb_of (se_b L2.call_len sem_len rfl T.n_len bt_len (sb_var 0 (pv 0)))) (sb_var 1 (pv 1)) (nomark _))))))
/-! ### is_name -/
def b_is_name : Ex := (seqS (ifS (evTor (evTnot (evT (ev1 (isiD "str") (evVarB 0)))) (evTor (evTnot (evT (evChain (cmpI (fun i j => decide (i ≤ j))) (cmpI (fun i j => decide (i ≤ j))) (evLit (.int 1)) (ev1 lenD (evVarB 0)) (evLit (.int 12))))) (evT (evBin (inSign true) (evBin ixD (evVarB 0) (evLit (.int 0))) (evLit (.str "abcdefghijklmnopqrstuvwxyz")))))) (retS (evLit (.bool false))) skipS) (retS (ev1 allD (lstOf (evComp [1] (evItS (evVar 0)) (tgN 1) evYes (evBin (inSign false) (evVarB 1) (evBin addS (evLit (.str "abcdefghijklmnopqrstuvwxyz")) (evLit (.str "0123456789")))))))))
def f_is_name : List D → Ro := runFn 2 b_is_name
theorem sc_is_name : FnScope ["thing", "sign"] ["thing"] (defScope s_is_name) := ⟨rfl, rfl, rfl, by decide +kernel, rfl, by decide +kernel, by decide +kernel⟩
theorem ok_is_name {P : Program} {w : World} {K : Fr} {mg : Str → Option Value} {base : Heap} {cl ad : Nat → Addr} {fd : Nat → FuncData} {fi : Nat → Addr} {za : Addr} (T : Txt K mg cl ad fd fi za) : FnOk P w K mg base (L2.CX P w) 3 (ad 6) (fd 6) ["thing"] (spP K cl 1 f_is_name) :=
  fn_pure (cl := cl) (k := 2) T.F6 sc_is_name rfl (by decide) fun cdv A outer s H E hr => by exact (ss_cons (ss_if (m := false) (st_pw (sw_or (st_not (st_val (se_isi tyok_str rfl T.n_isinstance (pe_bltn (v := V.ty "str") rfl T.n_str bt_str rfl) (sb_var 0 (pv 0))))) (sw_or (st_not (st_chain op_le (sem_cmpI (fun i j => decide (i ≤ j))) op_le (sem_cmpI (fun i j => decide (i ≤ j))) (sb_of se_int) (sb_of (se_b L2.call_len sem_len rfl T.n_len bt_len (sb_var 0 (pv 0)))) (sb_of (se_glob T.c_MOST_SIGNS rfl)))) (sw_or1 (st_cmp op_notIn_sign sem_notInSign (sb_of (se_ix (sb_var 0 (pv 0)) (sb_of se_int))) (sb_of (se_glob T.c_SMALL rfl)) (by rfl)))))) (ss_one (ss_ret (m := false) se_bool)) ss_nil) (ss_one (ss_ret (m := false) (se_b (cr_all rfl) sem_all rfl T.n_all bt_all (sb_of (sf_of (sf_comp (tgN_sem (vs := [1]) (i := 1) (by decide)) (pe_lc (own := [("sign", 1)]) rfl sc_is_name.nd (si_str (se_var 0 (pv 0))) (blkOk_by (by show blkC ["thing", "sign"] (defScope s_is_name) _ _ = true; decide +kernel)) (fun _ _ _ _ _ => (pg_name (i := 1) sc_is_name.nd rfl (by first | exact Or.inl rfl | exact Or.inr rfl))) (fun _ _ _ _ _ => pts_yes) (fun _ _ _ _ _ => (se_cmp op_in_sign sem_inSign (sb_var 1 (pv 1)) (sb_of (se_bin op_add_str sem_addS (sb_of (se_glob T.c_SMALL rfl)) (sb_of (se_glob T.c_FIGURES rfl)))) (by rfl)))))))))))
/-! ### are_rising -/
def b_are_rising : Ex := (retS (ev1 allD (lstOf (evComp [1, 2] (evZip (evVar 0) (evSlU (evVarB 0) (ptOf (evLit (.int 1))) ptNo)) (tgT [1, 2]) evYes (evBin ltU (evVarB 1) (evVarB 2))))))
def f_are_rising : List D → Ro := runFn 3 b_are_rising
theorem sc_are_rising : FnScope ["things", "one", "other"] ["things"] (defScope s_are_rising) := ⟨rfl, rfl, rfl, by decide +kernel, rfl, by decide +kernel, by decide +kernel⟩
theorem ok_are_rising {P : Program} {w : World} {K : Fr} {mg : Str → Option Value} {base : Heap} {cl ad : Nat → Addr} {fd : Nat → FuncData} {fi : Nat → Addr} {za : Addr} (T : Txt K mg cl ad fd fi za) : FnOk P w K mg base (L2.CX P w) 3 (ad 7) (fd 7) ["things"] (spP K cl 1 f_are_rising) :=
  fn_pure (cl := cl) (k := 2) T.F7 sc_are_rising rfl (by decide) fun cdv A outer s H E hr => by exact (ss_one (ss_ret (m := false) (se_b (cr_all rfl) sem_all rfl T.n_all bt_all (sb_of (sf_of (sf_comp (tgT_sem (is := [1, 2]) (vs := [1, 2]) (n := 2) rfl (by decide)) (pe_lc (own := [("one", 1), ("other", 2)]) rfl sc_are_rising.nd (si_zip rfl T.n_zip (se_var 0 (pv 0)) (se_sliceU (sb_var 0 (pv 0)) (sp_some (sb_of se_int)) sp_none)) (blkOk_by (by show blkC ["things", "one", "other"] (defScope s_are_rising) _ _ = true; decide +kernel)) (fun _ _ _ _ _ => (pg_tup (n := 2) rfl (pgs_cons (pg_name (i := 1) sc_are_rising.nd rfl (by first | exact Or.inl rfl | exact Or.inr rfl)) (pgs_cons (pg_name (i := 2) sc_are_rising.nd rfl (by first | exact Or.inl rfl | exact Or.inr rfl)) pgs_nil)))) (fun _ _ _ _ _ => pts_yes) (fun _ _ _ _ _ => (se_cmp (op_ltU hr.units) sem_ltU (sb_var 1 (pv 1)) (sb_var 2 (pv 2)) (nomark _))))))))))
/-! ### rise_by_name -/
def b_rise_by_name : Ex := (retS (evCall f_are_rising (evCons (lstOf (evComp [1] (evItT (evVar 0)) (tgN 1) evYes (evBin ixD (evVarB 1) (evLit (.int 0))))) evNil)))
def f_rise_by_name : List D → Ro := runFn 2 b_rise_by_name
theorem sc_rise_by_name : FnScope ["things", "thing"] ["things"] (defScope s_rise_by_name) := ⟨rfl, rfl, rfl, by decide +kernel, rfl, by decide +kernel, by decide +kernel⟩
theorem ok_rise_by_name {P : Program} {w : World} {K : Fr} {mg : Str → Option Value} {base : Heap} {cl ad : Nat → Addr} {fd : Nat → FuncData} {fi : Nat → Addr} {za : Addr} (T : Txt K mg cl ad fd fi za) : FnOk P w K mg base (L2.CX P w) 4 (ad 12) (fd 12) ["things"] (spP K cl 1 f_rise_by_name) :=
  fn_pure (cl := cl) (k := 3) T.F12 sc_rise_by_name rfl (by decide) fun cdv A outer s H E hr => by exact (ss_one (ss_ret (m := false) (se_call (ok_are_rising T) (hr.mono (by decide)) rfl T.g7 T.F7.kp T.B7 (takes_of rfl rfl rfl rfl) (sa_cons (sf_of (sf_comp (tgN_sem (vs := [1]) (i := 1) (by decide)) (pe_lc (own := [("thing", 1)]) rfl sc_rise_by_name.nd (si_tup (se_var 0 (pv 0))) (blkOk_by (by show blkC ["things", "thing"] (defScope s_rise_by_name) _ _ = true; decide +kernel)) (fun _ _ _ _ _ => (pg_name (i := 1) sc_rise_by_name.nd rfl (by first | exact Or.inl rfl | exact Or.inr rfl))) (fun _ _ _ _ _ => pts_yes) (fun _ _ _ _ _ => (se_ix (sb_var 1 (pv 1)) (sb_of se_int)))))) sa_nil) (evCons_len evNil_len))))
/-! ### are_names -/
def b_are_names : Ex := (retS (evAnd (ev1 (isiD "tuple") (evVarB 0)) (evAnd (ev1 allD (lstOf (evComp [1] (evItT (evVar 0)) (tgN 1) evYes (evCall f_is_name (evCons (evVar 1) evNil))))) (evCall f_are_rising (evCons (evVar 0) evNil)))))
def f_are_names : List D → Ro := runFn 2 b_are_names
theorem sc_are_names : FnScope ["thing", "name"] ["thing"] (defScope s_are_names) := ⟨rfl, rfl, rfl, by decide +kernel, rfl, by decide +kernel, by decide +kernel⟩
theorem ok_are_names {P : Program} {w : World} {K : Fr} {mg : Str → Option Value} {base : Heap} {cl ad : Nat → Addr} {fd : Nat → FuncData} {fi : Nat → Addr} {za : Addr} (T : Txt K mg cl ad fd fi za) : FnOk P w K mg base (L2.CX P w) 4 (ad 11) (fd 11) ["thing"] (spP K cl 1 f_are_names) :=
  fn_pure (cl := cl) (k := 3) T.F11 sc_are_names rfl (by decide) fun cdv A outer s H E hr => by exact (ss_one (ss_ret (m := false) (se_and (se_isi tyok_tuple rfl T.n_isinstance (pe_bltn (v := V.ty "tuple") rfl T.n_tuple bt_tuple rfl) (sb_var 0 (pv 0))) (se_and (se_b (cr_all rfl) sem_all rfl T.n_all bt_all (sb_of (sf_of (sf_comp (tgN_sem (vs := [1]) (i := 1) (by decide)) (pe_lc (own := [("name", 1)]) rfl sc_are_names.nd (si_tup (se_var 0 (pv 0))) (blkOk_by (by show blkC ["thing", "name"] (defScope s_are_names) _ _ = true; decide +kernel)) (fun _ _ _ _ _ => (pg_name (i := 1) sc_are_names.nd rfl (by first | exact Or.inl rfl | exact Or.inr rfl))) (fun _ _ _ _ _ => pts_yes) (fun _ _ _ _ _ => (se_call (ok_is_name T) (hr.mono (by decide)) rfl T.g6 T.F6.kp T.B6 (takes0) (sa_cons (se_var 1 (pv 1)) sa_nil) (evCons_len evNil_len)))))))) (se_one (se_call (ok_are_rising T) (hr.mono (by decide)) rfl T.g7 T.F7.kp T.B7 (takes_of rfl rfl rfl rfl) (sa_cons (se_var 0 (pv 0)) sa_nil) (evCons_len evNil_len)))))))
/-! ### is_one_of -/
def b_is_one_of : Ex := (retS (evAnd (ev1 (isiD "str") (evVarB 0)) (evBin (inSeq false) (evVarB 0) (evVarB 1))))
def f_is_one_of : List D → Ro := runFn 2 b_is_one_of
theorem sc_is_one_of : FnScope ["thing", "words"] ["thing", "words"] (defScope s_is_one_of) := ⟨rfl, rfl, rfl, by decide +kernel, rfl, by decide +kernel, by decide +kernel⟩
theorem ok_is_one_of {P : Program} {w : World} {K : Fr} {mg : Str → Option Value} {base : Heap} {cl ad : Nat → Addr} {fd : Nat → FuncData} {fi : Nat → Addr} {za : Addr} (T : Txt K mg cl ad fd fi za) : FnOk P w K mg base (L2.CX P w) 3 (ad 4) (fd 4) ["thing", "words"] (spP K cl 2 f_is_one_of) :=
  fn_pure (cl := cl) (k := 2) T.F4 sc_is_one_of rfl (by decide) fun cdv A outer s H E hr => by exact (ss_one (ss_ret (m := false) (se_and (se_isi tyok_str rfl T.n_isinstance (pe_bltn (v := V.ty "str") rfl T.n_str bt_str rfl) (sb_var 0 (pv 0))) (se_one (se_cmp op_in_seq (sem_inSeq false) (sb_var 0 (pv 0)) (sb_var 1 (pv 1)) (by rfl))))))
/-! ### is_param -/
def b_is_param : Ex := (retS (evAnd (evCall f_is_tuple_of (evCons (evVar 0) (evCons (evLit (.int 2)) evNil))) (evAnd (evCall f_is_name (evCons (evBin ixD (evVarB 0) (evLit (.int 0))) evNil)) (evCall f_is_one_of (evCons (evBin ixD (evVarB 0) (evLit (.int 1))) (evCons (evLit (.tuple [(.str "number"), (.str "channel")])) evNil))))))
def f_is_param : List D → Ro := runFn 1 b_is_param
theorem sc_is_param : FnScope ["thing"] ["thing"] (defScope s_is_param) := ⟨rfl, rfl, rfl, by decide +kernel, rfl, by decide +kernel, by decide +kernel⟩
theorem ok_is_param {P : Program} {w : World} {K : Fr} {mg : Str → Option Value} {base : Heap} {cl ad : Nat → Addr} {fd : Nat → FuncData} {fi : Nat → Addr} {za : Addr} (T : Txt K mg cl ad fd fi za) : FnOk P w K mg base (L2.CX P w) 4 (ad 15) (fd 15) ["thing"] (spP K cl 1 f_is_param) :=
  fn_pure (cl := cl) (k := 3) T.F15 sc_is_param rfl (by decide) fun cdv A outer s H E hr => by exact (ss_one (ss_ret (m := false) (se_and (se_call (ok_is_tuple_of T) (hr.mono (by decide)) rfl T.g2 T.F2.kp T.B2 (takes_of rfl rfl rfl rfl) (sa_cons (se_var 0 (pv 0)) (sa_cons se_int sa_nil)) (evCons_len (evCons_len evNil_len))) (se_and (se_call (ok_is_name T) (hr.mono (by decide)) rfl T.g6 T.F6.kp T.B6 (takes_of rfl rfl rfl rfl) (sa_cons (se_ix (sb_var 0 (pv 0)) (sb_of se_int)) sa_nil) (evCons_len evNil_len)) (se_one (se_call (ok_is_one_of T) (hr.mono (by decide)) rfl T.g4 T.F4.kp T.B4 (takes_of rfl rfl rfl rfl) (sa_cons (se_ix (sb_var 0 (pv 0)) (sb_of se_int)) (sa_cons (se_glob T.c_PARAM_SORTS rfl) sa_nil)) (evCons_len (evCons_len evNil_len))))))))
/-! ### is_whole_from -/
def b_is_whole_from : Ex := (retS (evAnd (evCall f_is_whole (evCons (evVar 0) evNil)) (evBin (cmpI (fun i j => decide (j ≤ i))) (evVarB 0) (evVarB 1))))
def f_is_whole_from : List D → Ro := runFn 2 b_is_whole_from
theorem sc_is_whole_from : FnScope ["thing", "least"] ["thing", "least"] (defScope s_is_whole_from) := ⟨rfl, rfl, rfl, by decide +kernel, rfl, by decide +kernel, by decide +kernel⟩
theorem ok_is_whole_from {P : Program} {w : World} {K : Fr} {mg : Str → Option Value} {base : Heap} {cl ad : Nat → Addr} {fd : Nat → FuncData} {fi : Nat → Addr} {za : Addr} (T : Txt K mg cl ad fd fi za) : FnOk P w K mg base (L2.CX P w) 4 (ad 1) (fd 1) ["thing", "least"] (spP K cl 2 f_is_whole_from) :=
  fn_pure (cl := cl) (k := 3) T.F1 sc_is_whole_from rfl (by decide) fun cdv A outer s H E hr => by exact (ss_one (ss_ret (m := false) (se_and (se_call (ok_is_whole T) (hr.mono (by decide)) rfl T.g0 T.F0.kp T.B0 (takes_of rfl rfl rfl rfl) (sa_cons (se_var 0 (pv 0)) sa_nil) (evCons_len evNil_len)) (se_one (se_cmp op_ge (sem_cmpI (fun i j => decide (j ≤ i))) (sb_var 0 (pv 0)) (sb_var 1 (pv 1)) (nomark _))))))
/-! ### is_amount -/
def b_is_amount : Ex := (retS (evOr (evCall f_is_whole_from (evCons (evVar 0) (evCons (evLit (.int 0)) evNil))) (evCall f_is_name (evCons (evVar 0) evNil))))
def f_is_amount : List D → Ro := runFn 1 b_is_amount
theorem sc_is_amount : FnScope ["thing"] ["thing"] (defScope s_is_amount) := ⟨rfl, rfl, rfl, by decide +kernel, rfl, by decide +kernel, by decide +kernel⟩
theorem ok_is_amount {P : Program} {w : World} {K : Fr} {mg : Str → Option Value} {base : Heap} {cl ad : Nat → Addr} {fd : Nat → FuncData} {fi : Nat → Addr} {za : Addr} (T : Txt K mg cl ad fd fi za) : FnOk P w K mg base (L2.CX P w) 5 (ad 13) (fd 13) ["thing"] (spP K cl 1 f_is_amount) :=
  fn_pure (cl := cl) (k := 4) T.F13 sc_is_amount rfl (by decide) fun cdv A outer s H E hr => by exact (ss_one (ss_ret (m := false) (se_or (se_call (ok_is_whole_from T) (hr.mono (by decide)) rfl T.g1 T.F1.kp T.B1 (takes_of rfl rfl rfl rfl) (sa_cons (se_var 0 (pv 0)) (sa_cons se_int sa_nil)) (evCons_len (evCons_len evNil_len))) (se_one (se_call (ok_is_name T) (hr.mono (by decide)) rfl T.g6 T.F6.kp T.B6 (takes_of rfl rfl rfl rfl) (sa_cons (se_var 0 (pv 0)) sa_nil) (evCons_len evNil_len))))))
/-! ### is_limit -/
def b_is_limit : Ex := (retS (evAnd (evCall f_is_tuple_of (evCons (evVar 0) (evCons (evLit (.int 3)) evNil))) (evAnd (evCall f_is_name (evCons (evBin ixD (evVarB 0) (evLit (.int 0))) evNil)) (evAnd (evCall f_is_one_of (evCons (evBin ixD (evVarB 0) (evLit (.int 1))) (evCons (evLit (.tuple [(.str "<"), (.str "<=")])) evNil))) (evCall f_is_amount (evCons (evBin ixD (evVarB 0) (evLit (.int 2))) evNil))))))
def f_is_limit : List D → Ro := runFn 1 b_is_limit
theorem sc_is_limit : FnScope ["thing"] ["thing"] (defScope s_is_limit) := ⟨rfl, rfl, rfl, by decide +kernel, rfl, by decide +kernel, by decide +kernel⟩
theorem ok_is_limit {P : Program} {w : World} {K : Fr} {mg : Str → Option Value} {base : Heap} {cl ad : Nat → Addr} {fd : Nat → FuncData} {fi : Nat → Addr} {za : Addr} (T : Txt K mg cl ad fd fi za) : FnOk P w K mg base (L2.CX P w) 6 (ad 17) (fd 17) ["thing"] (spP K cl 1 f_is_limit) :=
  fn_pure (cl := cl) (k := 5) T.F17 sc_is_limit rfl (by decide) fun cdv A outer s H E hr => by exact (ss_one (ss_ret (m := false) (se_and (se_call (ok_is_tuple_of T) (hr.mono (by decide)) rfl T.g2 T.F2.kp T.B2 (takes_of rfl rfl rfl rfl) (sa_cons (se_var 0 (pv 0)) (sa_cons se_int sa_nil)) (evCons_len (evCons_len evNil_len))) (se_and (se_call (ok_is_name T) (hr.mono (by decide)) rfl T.g6 T.F6.kp T.B6 (takes_of rfl rfl rfl rfl) (sa_cons (se_ix (sb_var 0 (pv 0)) (sb_of se_int)) sa_nil) (evCons_len evNil_len)) (se_and (se_call (ok_is_one_of T) (hr.mono (by decide)) rfl T.g4 T.F4.kp T.B4 (takes_of rfl rfl rfl rfl) (sa_cons (se_ix (sb_var 0 (pv 0)) (sb_of se_int)) (sa_cons (se_glob T.c_UPPER rfl) sa_nil)) (evCons_len (evCons_len evNil_len))) (se_one (se_call (ok_is_amount T) (hr.mono (by decide)) rfl T.g13 T.F13.kp T.B13 (takes_of rfl rfl rfl rfl) (sa_cons (se_ix (sb_var 0 (pv 0)) (sb_of se_int)) sa_nil) (evCons_len evNil_len))))))))
/-! ### is_keep -/
def b_is_keep : Ex := (seqS (ifS (evTor (evTnot (evT (ev1 (isiD "tuple") (evVarB 0)))) (evTnot (evT (ev1 allD (lstOf (evComp [1] (evItT (evVar 0)) (tgN 1) evYes (evCall f_is_limit (evCons (evVar 1) evNil)))))))) (retS (evLit (.bool false))) skipS) (retS (evCall f_are_rising (evCons (lstOf (evComp [1] (evItT (evVar 0)) (tgN 1) evYes (evSl (evVarB 1) ptNo (ptOf (evLit (.int 2)))))) evNil))))
def f_is_keep : List D → Ro := runFn 2 b_is_keep
theorem sc_is_keep : FnScope ["thing", "item"] ["thing"] (defScope s_is_keep) := ⟨rfl, rfl, rfl, by decide +kernel, rfl, by decide +kernel, by decide +kernel⟩
theorem ok_is_keep {P : Program} {w : World} {K : Fr} {mg : Str → Option Value} {base : Heap} {cl ad : Nat → Addr} {fd : Nat → FuncData} {fi : Nat → Addr} {za : Addr} (T : Txt K mg cl ad fd fi za) : FnOk P w K mg base (L2.CX P w) 7 (ad 18) (fd 18) ["thing"] (spP K cl 1 f_is_keep) :=
  fn_pure (cl := cl) (k := 6) T.F18 sc_is_keep rfl (by decide) fun cdv A outer s H E hr => by exact (ss_cons (ss_if (m := false) (st_pw (sw_or (st_not (st_val (se_isi tyok_tuple rfl T.n_isinstance (pe_bltn (v := V.ty "tuple") rfl T.n_tuple bt_tuple rfl) (sb_var 0 (pv 0))))) (sw_or1 (st_not (st_val (se_b (cr_all rfl) sem_all rfl T.n_all bt_all (sb_of (sf_of (sf_comp (tgN_sem (vs := [1]) (i := 1) (by decide)) (pe_lc (own := [("item", 1)]) rfl sc_is_keep.nd (si_tup (se_var 0 (pv 0))) (blkOk_by (by show blkC ["thing", "item"] (defScope s_is_keep) _ _ = true; decide +kernel)) (fun _ _ _ _ _ => (pg_name (i := 1) sc_is_keep.nd rfl (by first | exact Or.inl rfl | exact Or.inr rfl))) (fun _ _ _ _ _ => pts_yes) (fun _ _ _ _ _ => (se_call (ok_is_limit T) (hr.mono (by decide)) rfl T.g17 T.F17.kp T.B17 (takes0) (sa_cons (se_var 1 (pv 1)) sa_nil) (evCons_len evNil_len))))))))))))) (ss_one (ss_ret (m := false) se_bool)) ss_nil) (ss_one (ss_ret (m := false) (se_call (ok_are_rising T) (hr.mono (by decide)) rfl T.g7 T.F7.kp T.B7 (takes_of rfl rfl rfl rfl) (sa_cons (sf_of (sf_comp (tgN_sem (vs := [1]) (i := 1) (by decide)) (pe_lc (own := [("item", 1)]) rfl sc_is_keep.nd (si_tup (se_var 0 (pv 0))) (blkOk_by (by show blkC ["thing", "item"] (defScope s_is_keep) _ _ = true; decide +kernel)) (fun _ _ _ _ _ => (pg_name (i := 1) sc_is_keep.nd rfl (by first | exact Or.inl rfl | exact Or.inr rfl))) (fun _ _ _ _ _ => pts_yes) (fun _ _ _ _ _ => (se_slice (sb_var 1 (pv 1)) sp_none (sp_some (sb_of se_int))))))) sa_nil) (evCons_len evNil_len)))))
end
end Zo
namespace Zo
open PySem PySem.Spec PyProof.Rows L2
noncomputable section
/-! ### is_place -/
def b_is_place : Ex := (seqS (ifS (evTor (evTnot (evT (evCall f_is_tuple_of (evCons (evVar 0) (evCons (evLit (.int 5)) evNil))))) (evTor (evTnot (evT (evCall f_is_name (evCons (evBin ixD (evVarB 0) (evLit (.int 0))) evNil)))) (evTnot (evT (evCall f_is_one_of (evCons (evBin ixD (evVarB 0) (evLit (.int 1))) (evCons (evLit (.tuple [(.str "time"), (.str "urgent"), (.str "committed"), (.str "reply")])) evNil))))))) (retS (evLit (.bool false))) skipS) (retS (evAnd (evCall f_is_keep (evCons (evBin ixD (evVarB 0) (evLit (.int 2))) evNil)) (evAnd (evCall f_are_names (evCons (evBin ixD (evVarB 0) (evLit (.int 3))) evNil)) (evCall f_is_amount (evCons (evBin ixD (evVarB 0) (evLit (.int 4))) evNil))))))
def f_is_place : List D → Ro := runFn 1 b_is_place
theorem sc_is_place : FnScope ["thing"] ["thing"] (defScope s_is_place) := ⟨rfl, rfl, rfl, by decide +kernel, rfl, by decide +kernel, by decide +kernel⟩
theorem ok_is_place {P : Program} {w : World} {K : Fr} {mg : Str → Option Value} {base : Heap} {cl ad : Nat → Addr} {fd : Nat → FuncData} {fi : Nat → Addr} {za : Addr} (T : Txt K mg cl ad fd fi za) : FnOk P w K mg base (L2.CX P w) 8 (ad 19) (fd 19) ["thing"] (spP K cl 1 f_is_place) :=
  fn_pure (cl := cl) (k := 7) T.F19 sc_is_place rfl (by decide) fun cdv A outer s H E hr => by exact (ss_cons (ss_if (m := false) (st_pw (sw_or (st_not (st_val (se_call (ok_is_tuple_of T) (hr.mono (by decide)) rfl T.g2 T.F2.kp T.B2 (takes_of rfl rfl rfl rfl) (sa_cons (se_var 0 (pv 0)) (sa_cons (se_glob T.c_PLACE_PARTS rfl) sa_nil)) (evCons_len (evCons_len evNil_len))))) (sw_or (st_not (st_val (se_call (ok_is_name T) (hr.mono (by decide)) rfl T.g6 T.F6.kp T.B6 (takes_of rfl rfl rfl rfl) (sa_cons (se_ix (sb_var 0 (pv 0)) (sb_of se_int)) sa_nil) (evCons_len evNil_len)))) (sw_or1 (st_not (st_val (se_call (ok_is_one_of T) (hr.mono (by decide)) rfl T.g4 T.F4.kp T.B4 (takes_of rfl rfl rfl rfl) (sa_cons (se_ix (sb_var 0 (pv 0)) (sb_of se_int)) (sa_cons (se_glob T.c_MARKS rfl) sa_nil)) (evCons_len (evCons_len evNil_len))))))))) (ss_one (ss_ret (m := false) se_bool)) ss_nil) (ss_one (ss_ret (m := false) (se_and (se_call (ok_is_keep T) (hr.mono (by decide)) rfl T.g18 T.F18.kp T.B18 (takes_of rfl rfl rfl rfl) (sa_cons (se_ix (sb_var 0 (pv 0)) (sb_of se_int)) sa_nil) (evCons_len evNil_len)) (se_and (se_call (ok_are_names T) (hr.mono (by decide)) rfl T.g11 T.F11.kp T.B11 (takes_of rfl rfl rfl rfl) (sa_cons (se_ix (sb_var 0 (pv 0)) (sb_of se_int)) sa_nil) (evCons_len evNil_len)) (se_one (se_call (ok_is_amount T) (hr.mono (by decide)) rfl T.g13 T.F13.kp T.B13 (takes_of rfl rfl rfl rfl) (sa_cons (se_ix (sb_var 0 (pv 0)) (sb_of se_int)) sa_nil) (evCons_len evNil_len))))))))
/-! ### is_word -/
def b_is_word : Ex := (retS (evAnd (ev1 (isiD "str") (evVarB 0)) (evBin eqD (evVarB 0) (evVarB 1))))
def f_is_word : List D → Ro := runFn 2 b_is_word
theorem sc_is_word : FnScope ["thing", "word"] ["thing", "word"] (defScope s_is_word) := ⟨rfl, rfl, rfl, by decide +kernel, rfl, by decide +kernel, by decide +kernel⟩
theorem ok_is_word {P : Program} {w : World} {K : Fr} {mg : Str → Option Value} {base : Heap} {cl ad : Nat → Addr} {fd : Nat → FuncData} {fi : Nat → Addr} {za : Addr} (T : Txt K mg cl ad fd fi za) : FnOk P w K mg base (L2.CX P w) 3 (ad 3) (fd 3) ["thing", "word"] (spP K cl 2 f_is_word) :=
  fn_pure (cl := cl) (k := 2) T.F3 sc_is_word rfl (by decide) fun cdv A outer s H E hr => by exact (ss_one (ss_ret (m := false) (se_and (se_isi tyok_str rfl T.n_isinstance (pe_bltn (v := V.ty "str") rfl T.n_str bt_str rfl) (sb_var 0 (pv 0))) (se_one (se_cmp (op_eqD hr.units) sem_eqD (sb_var 0 (pv 0)) (sb_var 1 (pv 1)) (nomark _))))))
/-! ### is_named -/
def b_is_named : Ex := (retS (evAnd (evCall f_is_tuple_of (evCons (evVar 0) (evCons (evVar 2) evNil))) (evCall f_is_word (evCons (evBin ixD (evVarB 0) (evLit (.int 0))) (evCons (evVar 1) evNil)))))
def f_is_named : List D → Ro := runFn 3 b_is_named
theorem sc_is_named : FnScope ["thing", "word", "many"] ["thing", "word", "many"] (defScope s_is_named) := ⟨rfl, rfl, rfl, by decide +kernel, rfl, by decide +kernel, by decide +kernel⟩
theorem ok_is_named {P : Program} {w : World} {K : Fr} {mg : Str → Option Value} {base : Heap} {cl ad : Nat → Addr} {fd : Nat → FuncData} {fi : Nat → Addr} {za : Addr} (T : Txt K mg cl ad fd fi za) : FnOk P w K mg base (L2.CX P w) 4 (ad 5) (fd 5) ["thing", "word", "many"] (spP K cl 3 f_is_named) :=
  fn_pure (cl := cl) (k := 3) T.F5 sc_is_named rfl (by decide) fun cdv A outer s H E hr => by exact (ss_one (ss_ret (m := false) (se_and (se_call (ok_is_tuple_of T) (hr.mono (by decide)) rfl T.g2 T.F2.kp T.B2 (takes_of rfl rfl rfl rfl) (sa_cons (se_var 0 (pv 0)) (sa_cons (se_var 2 (pv 2)) sa_nil)) (evCons_len (evCons_len evNil_len))) (se_one (se_call (ok_is_word T) (hr.mono (by decide)) rfl T.g3 T.F3.kp T.B3 (takes_of rfl rfl rfl rfl) (sa_cons (se_ix (sb_var 0 (pv 0)) (sb_of se_int)) (sa_cons (se_var 1 (pv 1)) sa_nil)) (evCons_len (evCons_len evNil_len)))))))
/-! ### is_deed -/
def b_is_deed : Ex := (seqS (ifS (evT (evCall f_is_named (evCons (evVar 0) (evCons (evLit (.str "own")) (evCons (evLit (.int 2)) evNil))))) (retS (evOr (evCall f_is_name (evCons (evBin ixD (evVarB 0) (evLit (.int 1))) evNil)) (evCall f_is_one_of (evCons (evBin ixD (evVarB 0) (evLit (.int 1))) (evCons (evTup (evCons (evLit (.str "")) evNil)) evNil))))) skipS) (retS (evAnd (evOr (evCall f_is_named (evCons (evVar 0) (evCons (evLit (.str "send")) (evCons (evLit (.int 2)) evNil)))) (evCall f_is_named (evCons (evVar 0) (evCons (evLit (.str "hear")) (evCons (evLit (.int 2)) evNil))))) (evCall f_is_name (evCons (evBin ixD (evVarB 0) (evLit (.int 1))) evNil)))))
def f_is_deed : List D → Ro := runFn 1 b_is_deed
theorem sc_is_deed : FnScope ["thing"] ["thing"] (defScope s_is_deed) := ⟨rfl, rfl, rfl, by decide +kernel, rfl, by decide +kernel, by decide +kernel⟩
theorem ok_is_deed {P : Program} {w : World} {K : Fr} {mg : Str → Option Value} {base : Heap} {cl ad : Nat → Addr} {fd : Nat → FuncData} {fi : Nat → Addr} {za : Addr} (T : Txt K mg cl ad fd fi za) : FnOk P w K mg base (L2.CX P w) 5 (ad 20) (fd 20) ["thing"] (spP K cl 1 f_is_deed) :=
  fn_pure (cl := cl) (k := 4) T.F20 sc_is_deed rfl (by decide) fun cdv A outer s H E hr => by exact (ss_cons (ss_if (m := false) (st_val (se_call (ok_is_named T) (hr.mono (by decide)) rfl T.g5 T.F5.kp T.B5 (takes_of rfl rfl rfl rfl) (sa_cons (se_var 0 (pv 0)) (sa_cons se_str (sa_cons se_int sa_nil))) (evCons_len (evCons_len (evCons_len evNil_len))))) (ss_one (ss_ret (m := false) (se_or (se_call (ok_is_name T) (hr.mono (by decide)) rfl T.g6 T.F6.kp T.B6 (takes_of rfl rfl rfl rfl) (sa_cons (se_ix (sb_var 0 (pv 0)) (sb_of se_int)) sa_nil) (evCons_len evNil_len)) (se_one (se_call (ok_is_one_of T) (hr.mono (by decide)) rfl T.g4 T.F4.kp T.B4 (takes_of rfl rfl rfl rfl) (sa_cons (se_ix (sb_var 0 (pv 0)) (sb_of se_int)) (sa_cons (se_tup (sa_cons se_str sa_nil)) sa_nil)) (evCons_len (evCons_len evNil_len))))))) ss_nil) (ss_one (ss_ret (m := false) (se_and (se_or (se_call (ok_is_named T) (hr.mono (by decide)) rfl T.g5 T.F5.kp T.B5 (takes_of rfl rfl rfl rfl) (sa_cons (se_var 0 (pv 0)) (sa_cons se_str (sa_cons se_int sa_nil))) (evCons_len (evCons_len (evCons_len evNil_len)))) (se_one (se_call (ok_is_named T) (hr.mono (by decide)) rfl T.g5 T.F5.kp T.B5 (takes_of rfl rfl rfl rfl) (sa_cons (se_var 0 (pv 0)) (sa_cons se_str (sa_cons se_int sa_nil))) (evCons_len (evCons_len (evCons_len evNil_len)))))) (se_one (se_call (ok_is_name T) (hr.mono (by decide)) rfl T.g6 T.F6.kp T.B6 (takes_of rfl rfl rfl rfl) (sa_cons (se_ix (sb_var 0 (pv 0)) (sb_of se_int)) sa_nil) (evCons_len evNil_len)))))))
/-! ### is_difference -/
def b_is_difference : Ex := (retS (evOr (evCall f_is_whole (evCons (evVar 0) evNil)) (evCall f_is_name (evCons (evVar 0) evNil))))
def f_is_difference : List D → Ro := runFn 1 b_is_difference
theorem sc_is_difference : FnScope ["thing"] ["thing"] (defScope s_is_difference) := ⟨rfl, rfl, rfl, by decide +kernel, rfl, by decide +kernel, by decide +kernel⟩
theorem ok_is_difference {P : Program} {w : World} {K : Fr} {mg : Str → Option Value} {base : Heap} {cl ad : Nat → Addr} {fd : Nat → FuncData} {fi : Nat → Addr} {za : Addr} (T : Txt K mg cl ad fd fi za) : FnOk P w K mg base (L2.CX P w) 4 (ad 14) (fd 14) ["thing"] (spP K cl 1 f_is_difference) :=
  fn_pure (cl := cl) (k := 3) T.F14 sc_is_difference rfl (by decide) fun cdv A outer s H E hr => by exact (ss_one (ss_ret (m := false) (se_or (se_call (ok_is_whole T) (hr.mono (by decide)) rfl T.g0 T.F0.kp T.B0 (takes_of rfl rfl rfl rfl) (sa_cons (se_var 0 (pv 0)) sa_nil) (evCons_len evNil_len)) (se_one (se_call (ok_is_name T) (hr.mono (by decide)) rfl T.g6 T.F6.kp T.B6 (takes_of rfl rfl rfl rfl) (sa_cons (se_var 0 (pv 0)) sa_nil) (evCons_len evNil_len))))))
/-! ### is_ask -/
def b_is_ask : Ex := (seqS (ifS (evT (evCall f_is_tuple_of (evCons (evVar 0) (evCons (evLit (.int 3)) evNil)))) (retS (evAnd (evCall f_is_name (evCons (evBin ixD (evVarB 0) (evLit (.int 0))) evNil)) (evAnd (evCall f_is_one_of (evCons (evBin ixD (evVarB 0) (evLit (.int 1))) (evCons (evLit (.tuple [(.str "<"), (.str "<="), (.str ">"), (.str ">=")])) evNil))) (evCall f_is_amount (evCons (evBin ixD (evVarB 0) (evLit (.int 2))) evNil))))) skipS) (seqS (ifS (evTor (evTnot (evT (evCall f_is_tuple_of (evCons (evVar 0) (evCons (evLit (.int 4)) evNil))))) (evTor (evTnot (evT (evCall f_is_name (evCons (evBin ixD (evVarB 0) (evLit (.int 0))) evNil)))) (evTnot (evT (evCall f_is_name (evCons (evBin ixD (evVarB 0) (evLit (.int 1))) evNil)))))) (retS (evLit (.bool false))) skipS) (retS (evAnd (evCall f_is_one_of (evCons (evBin ixD (evVarB 0) (evLit (.int 2))) (evCons (evLit (.tuple [(.str "<"), (.str "<="), (.str ">"), (.str ">=")])) evNil))) (evCall f_is_difference (evCons (evBin ixD (evVarB 0) (evLit (.int 3))) evNil))))))
def f_is_ask : List D → Ro := runFn 1 b_is_ask
theorem sc_is_ask : FnScope ["thing"] ["thing"] (defScope s_is_ask) := ⟨rfl, rfl, rfl, by decide +kernel, rfl, by decide +kernel, by decide +kernel⟩
theorem ok_is_ask {P : Program} {w : World} {K : Fr} {mg : Str → Option Value} {base : Heap} {cl ad : Nat → Addr} {fd : Nat → FuncData} {fi : Nat → Addr} {za : Addr} (T : Txt K mg cl ad fd fi za) : FnOk P w K mg base (L2.CX P w) 6 (ad 21) (fd 21) ["thing"] (spP K cl 1 f_is_ask) :=
  fn_pure (cl := cl) (k := 5) T.F21 sc_is_ask rfl (by decide) fun cdv A outer s H E hr => by exact (ss_cons (ss_if (m := false) (st_val (se_call (ok_is_tuple_of T) (hr.mono (by decide)) rfl T.g2 T.F2.kp T.B2 (takes_of rfl rfl rfl rfl) (sa_cons (se_var 0 (pv 0)) (sa_cons se_int sa_nil)) (evCons_len (evCons_len evNil_len)))) (ss_one (ss_ret (m := false) (se_and (se_call (ok_is_name T) (hr.mono (by decide)) rfl T.g6 T.F6.kp T.B6 (takes_of rfl rfl rfl rfl) (sa_cons (se_ix (sb_var 0 (pv 0)) (sb_of se_int)) sa_nil) (evCons_len evNil_len)) (se_and (se_call (ok_is_one_of T) (hr.mono (by decide)) rfl T.g4 T.F4.kp T.B4 (takes_of rfl rfl rfl rfl) (sa_cons (se_ix (sb_var 0 (pv 0)) (sb_of se_int)) (sa_cons (se_glob T.c_OPS rfl) sa_nil)) (evCons_len (evCons_len evNil_len))) (se_one (se_call (ok_is_amount T) (hr.mono (by decide)) rfl T.g13 T.F13.kp T.B13 (takes_of rfl rfl rfl rfl) (sa_cons (se_ix (sb_var 0 (pv 0)) (sb_of se_int)) sa_nil) (evCons_len evNil_len))))))) ss_nil) (ss_cons (ss_if (m := false) (st_pw (sw_or (st_not (st_val (se_call (ok_is_tuple_of T) (hr.mono (by decide)) rfl T.g2 T.F2.kp T.B2 (takes_of rfl rfl rfl rfl) (sa_cons (se_var 0 (pv 0)) (sa_cons se_int sa_nil)) (evCons_len (evCons_len evNil_len))))) (sw_or (st_not (st_val (se_call (ok_is_name T) (hr.mono (by decide)) rfl T.g6 T.F6.kp T.B6 (takes_of rfl rfl rfl rfl) (sa_cons (se_ix (sb_var 0 (pv 0)) (sb_of se_int)) sa_nil) (evCons_len evNil_len)))) (sw_or1 (st_not (st_val (se_call (ok_is_name T) (hr.mono (by decide)) rfl T.g6 T.F6.kp T.B6 (takes_of rfl rfl rfl rfl) (sa_cons (se_ix (sb_var 0 (pv 0)) (sb_of se_int)) sa_nil) (evCons_len evNil_len)))))))) (ss_one (ss_ret (m := false) se_bool)) ss_nil) (ss_one (ss_ret (m := false) (se_and (se_call (ok_is_one_of T) (hr.mono (by decide)) rfl T.g4 T.F4.kp T.B4 (takes_of rfl rfl rfl rfl) (sa_cons (se_ix (sb_var 0 (pv 0)) (sb_of se_int)) (sa_cons (se_glob T.c_OPS rfl) sa_nil)) (evCons_len (evCons_len evNil_len))) (se_one (se_call (ok_is_difference T) (hr.mono (by decide)) rfl T.g14 T.F14.kp T.B14 (takes_of rfl rfl rfl rfl) (sa_cons (se_ix (sb_var 0 (pv 0)) (sb_of se_int)) sa_nil) (evCons_len evNil_len))))))))
/-! ### is_expr_value -/
def b_is_expr_value : Ex := (seqS (ownS 1 (evLst (evCons (evVar 0) evNil))) (seqS (whileS 100000 (evT (evBin neD (evVarB 1) (lstOf (evLst evNil)))) (seqS (setS 2 (evPop 1)) (ifS (evTand (evT (evCall f_is_tuple_of (evCons (evVar 2) (evCons (evLit (.int 3)) evNil)))) (evT (evCall f_is_one_of (evCons (evBin ixD (evVarB 2) (evLit (.int 0))) (evCons (evLit (.tuple [(.str "+"), (.str "-")])) evNil))))) (doS (evExt 1 (lstOf (ev1L listD (evSl (evVarB 2) (ptOf (evLit (.int 1))) ptNo))))) (ifS (evTand (evTnot (evT (evCall f_is_whole (evCons (evVar 2) evNil)))) (evTnot (evT (evCall f_is_name (evCons (evVar 2) evNil))))) (retS (evLit (.bool false))) skipS)))) (retS (evLit (.bool true)))))
def f_is_expr_value : List D → Ro := runFn 3 b_is_expr_value
theorem sc_is_expr_value : FnScope ["thing", "waiting", "part"] ["thing"] (defScope s_is_expr_value) := ⟨rfl, rfl, rfl, by decide +kernel, rfl, by decide +kernel, by decide +kernel⟩
theorem ok_is_expr_value {P : Program} {w : World} {K : Fr} {mg : Str → Option Value} {base : Heap} {cl ad : Nat → Addr} {fd : Nat → FuncData} {fi : Nat → Addr} {za : Addr} (T : Txt K mg cl ad fd fi za) : FnOk P w K mg base (L2.CX P w) 4 (ad 8) (fd 8) ["thing"] (spP K cl 1 f_is_expr_value) :=
  fn_pure (cl := cl) (k := 3) T.F8 sc_is_expr_value rfl (by decide) fun cdv A outer s H E hr => by exact (ss_cons (ss_own (m := false) (i := 1) sc_is_expr_value.nd rfl (by first | exact Or.inl rfl | exact Or.inr rfl) (sf_lst (sa_cons (se_var 0 (pv 0)) sa_nil))) (ss_cons (ss_while (m := false) 100000 (passes_of rfl) (st_cmp (op_neD hr.units) sem_neD (sb_var 1 (pv 1)) (sb_of (sf_of (sf_lst sa_nil))) (nomark _)) (ss_cons (ss_set (m := false) (i := 2) sc_is_expr_value.nd rfl (by first | exact Or.inl rfl | exact Or.inr rfl) (se_pop 1 (pv 1))) (ss_one (ss_if (m := false) (st_pw (sw_and (st_val (se_call (ok_is_tuple_of T) (hr.mono (by decide)) rfl T.g2 T.F2.kp T.B2 (takes_of rfl rfl rfl rfl) (sa_cons (se_var 2 (pv 2)) (sa_cons se_int sa_nil)) (evCons_len (evCons_len evNil_len)))) (sw_and1 (st_val (se_call (ok_is_one_of T) (hr.mono (by decide)) rfl T.g4 T.F4.kp T.B4 (takes_of rfl rfl rfl rfl) (sa_cons (se_ix (sb_var 2 (pv 2)) (sb_of se_int)) (sa_cons (se_glob T.c_SIGNS rfl) sa_nil)) (evCons_len (evCons_len evNil_len))))))) (ss_one (ss_do (m := false) (se_ext 1 (pv 1) (sf_of (sf_ty L2.call_list_of sem_list rfl T.n_list bt_list (sb_of (se_slice (sb_var 2 (pv 2)) (sp_some (sb_of se_int)) sp_none)))) (fun t h => pe_bm PySem.F.plainAttrs_list PySem.F.slot_list_extend PySem.F.type_list_extend mt_extend (pv 1) h)))) (ss_one (ss_if (m := false) (st_pw (sw_and (st_not (st_val (se_call (ok_is_whole T) (hr.mono (by decide)) rfl T.g0 T.F0.kp T.B0 (takes_of rfl rfl rfl rfl) (sa_cons (se_var 2 (pv 2)) sa_nil) (evCons_len evNil_len)))) (sw_and1 (st_not (st_val (se_call (ok_is_name T) (hr.mono (by decide)) rfl T.g6 T.F6.kp T.B6 (takes_of rfl rfl rfl rfl) (sa_cons (se_var 2 (pv 2)) sa_nil) (evCons_len evNil_len))))))) (ss_one (ss_ret (m := false) se_bool)) ss_nil)))))) (ss_one (ss_ret (m := false) se_bool))))
/-! ### is_test -/
def b_is_test : Ex := (seqS (ifS (evTor (evTnot (evT (evCall f_is_tuple_of (evCons (evVar 0) (evCons (evLit (.int 3)) evNil))))) (evTnot (evT (evCall f_is_one_of (evCons (evBin ixD (evVarB 0) (evLit (.int 1))) (evCons (evLit (.tuple [(.str "<"), (.str "<="), (.str ">"), (.str ">="), (.str "="), (.str "#")])) evNil)))))) (retS (evLit (.bool false))) skipS) (retS (evAnd (evCall f_is_expr_value (evCons (evBin ixD (evVarB 0) (evLit (.int 0))) evNil)) (evCall f_is_expr_value (evCons (evBin ixD (evVarB 0) (evLit (.int 2))) evNil)))))
def f_is_test : List D → Ro := runFn 1 b_is_test
theorem sc_is_test : FnScope ["thing"] ["thing"] (defScope s_is_test) := ⟨rfl, rfl, rfl, by decide +kernel, rfl, by decide +kernel, by decide +kernel⟩
theorem ok_is_test {P : Program} {w : World} {K : Fr} {mg : Str → Option Value} {base : Heap} {cl ad : Nat → Addr} {fd : Nat → FuncData} {fi : Nat → Addr} {za : Addr} (T : Txt K mg cl ad fd fi za) : FnOk P w K mg base (L2.CX P w) 5 (ad 22) (fd 22) ["thing"] (spP K cl 1 f_is_test) :=
  fn_pure (cl := cl) (k := 4) T.F22 sc_is_test rfl (by decide) fun cdv A outer s H E hr => by exact (ss_cons (ss_if (m := false) (st_pw (sw_or (st_not (st_val (se_call (ok_is_tuple_of T) (hr.mono (by decide)) rfl T.g2 T.F2.kp T.B2 (takes_of rfl rfl rfl rfl) (sa_cons (se_var 0 (pv 0)) (sa_cons se_int sa_nil)) (evCons_len (evCons_len evNil_len))))) (sw_or1 (st_not (st_val (se_call (ok_is_one_of T) (hr.mono (by decide)) rfl T.g4 T.F4.kp T.B4 (takes_of rfl rfl rfl rfl) (sa_cons (se_ix (sb_var 0 (pv 0)) (sb_of se_int)) (sa_cons (se_glob T.c_TESTS rfl) sa_nil)) (evCons_len (evCons_len evNil_len)))))))) (ss_one (ss_ret (m := false) se_bool)) ss_nil) (ss_one (ss_ret (m := false) (se_and (se_call (ok_is_expr_value T) (hr.mono (by decide)) rfl T.g8 T.F8.kp T.B8 (takes_of rfl rfl rfl rfl) (sa_cons (se_ix (sb_var 0 (pv 0)) (sb_of se_int)) sa_nil) (evCons_len evNil_len)) (se_one (se_call (ok_is_expr_value T) (hr.mono (by decide)) rfl T.g8 T.F8.kp T.B8 (takes_of rfl rfl rfl rfl) (sa_cons (se_ix (sb_var 0 (pv 0)) (sb_of se_int)) sa_nil) (evCons_len evNil_len)))))))
/-! ### is_set -/
def b_is_set : Ex := (retS (evAnd (evCall f_is_tuple_of (evCons (evVar 0) (evCons (evLit (.int 2)) evNil))) (evAnd (evCall f_is_name (evCons (evBin ixD (evVarB 0) (evLit (.int 0))) evNil)) (evCall f_is_expr_value (evCons (evBin ixD (evVarB 0) (evLit (.int 1))) evNil)))))
def f_is_set : List D → Ro := runFn 1 b_is_set
theorem sc_is_set : FnScope ["thing"] ["thing"] (defScope s_is_set) := ⟨rfl, rfl, rfl, by decide +kernel, rfl, by decide +kernel, by decide +kernel⟩
theorem ok_is_set {P : Program} {w : World} {K : Fr} {mg : Str → Option Value} {base : Heap} {cl ad : Nat → Addr} {fd : Nat → FuncData} {fi : Nat → Addr} {za : Addr} (T : Txt K mg cl ad fd fi za) : FnOk P w K mg base (L2.CX P w) 5 (ad 23) (fd 23) ["thing"] (spP K cl 1 f_is_set) :=
  fn_pure (cl := cl) (k := 4) T.F23 sc_is_set rfl (by decide) fun cdv A outer s H E hr => by exact (ss_one (ss_ret (m := false) (se_and (se_call (ok_is_tuple_of T) (hr.mono (by decide)) rfl T.g2 T.F2.kp T.B2 (takes_of rfl rfl rfl rfl) (sa_cons (se_var 0 (pv 0)) (sa_cons se_int sa_nil)) (evCons_len (evCons_len evNil_len))) (se_and (se_call (ok_is_name T) (hr.mono (by decide)) rfl T.g6 T.F6.kp T.B6 (takes_of rfl rfl rfl rfl) (sa_cons (se_ix (sb_var 0 (pv 0)) (sb_of se_int)) sa_nil) (evCons_len evNil_len)) (se_one (se_call (ok_is_expr_value T) (hr.mono (by decide)) rfl T.g8 T.F8.kp T.B8 (takes_of rfl rfl rfl rfl) (sa_cons (se_ix (sb_var 0 (pv 0)) (sb_of se_int)) sa_nil) (evCons_len evNil_len)))))))
end
end Zo
namespace Zo
open PySem PySem.Spec PyProof.Rows L2
noncomputable section
/-! ### are_tests_and_sets -/
def b_are_tests_and_sets : Ex := (seqS (ifS (evTor (evTnot (evT (ev1 (isiD "tuple") (evVarB 0)))) (evTor (evTnot (evT (ev1 allD (lstOf (evComp [3] (evItT (evVar 0)) (tgN 3) evYes (evCall f_is_test (evCons (evVar 3) evNil))))))) (evTnot (evT (evCall f_are_names (evCons (evVar 1) evNil)))))) (retS (evLit (.bool false))) skipS) (retS (evAnd (ev1 (isiD "tuple") (evVarB 2)) (evAnd (ev1 allD (lstOf (evComp [4] (evItT (evVar 2)) (tgN 4) evYes (evCall f_is_set (evCons (evVar 4) evNil))))) (evCall f_rise_by_name (evCons (evVar 2) evNil))))))
def f_are_tests_and_sets : List D → Ro := runFn 5 b_are_tests_and_sets
theorem sc_are_tests_and_sets : FnScope ["tests", "resets", "sets", "test", "one"] ["tests", "resets", "sets"] (defScope s_are_tests_and_sets) := ⟨rfl, rfl, rfl, by decide +kernel, rfl, by decide +kernel, by decide +kernel⟩
theorem ok_are_tests_and_sets {P : Program} {w : World} {K : Fr} {mg : Str → Option Value} {base : Heap} {cl ad : Nat → Addr} {fd : Nat → FuncData} {fi : Nat → Addr} {za : Addr} (T : Txt K mg cl ad fd fi za) : FnOk P w K mg base (L2.CX P w) 6 (ad 24) (fd 24) ["tests", "resets", "sets"] (spP K cl 3 f_are_tests_and_sets) :=
  fn_pure (cl := cl) (k := 5) T.F24 sc_are_tests_and_sets rfl (by decide) fun cdv A outer s H E hr => by exact (ss_cons (ss_if (m := false) (st_pw (sw_or (st_not (st_val (se_isi tyok_tuple rfl T.n_isinstance (pe_bltn (v := V.ty "tuple") rfl T.n_tuple bt_tuple rfl) (sb_var 0 (pv 0))))) (sw_or (st_not (st_val (se_b (cr_all rfl) sem_all rfl T.n_all bt_all (sb_of (sf_of (sf_comp (tgN_sem (vs := [3]) (i := 3) (by decide)) (pe_lc (own := [("test", 3)]) rfl sc_are_tests_and_sets.nd (si_tup (se_var 0 (pv 0))) (blkOk_by (by show blkC ["tests", "resets", "sets", "test", "one"] (defScope s_are_tests_and_sets) _ _ = true; decide +kernel)) (fun _ _ _ _ _ => (pg_name (i := 3) sc_are_tests_and_sets.nd rfl (by first | exact Or.inl rfl | exact Or.inr rfl))) (fun _ _ _ _ _ => pts_yes) (fun _ _ _ _ _ => (se_call (ok_is_test T) (hr.mono (by decide)) rfl T.g22 T.F22.kp T.B22 (takes0) (sa_cons (se_var 3 (pv 3)) sa_nil) (evCons_len evNil_len)))))))))) (sw_or1 (st_not (st_val (se_call (ok_are_names T) (hr.mono (by decide)) rfl T.g11 T.F11.kp T.B11 (takes_of rfl rfl rfl rfl) (sa_cons (se_var 1 (pv 1)) sa_nil) (evCons_len evNil_len)))))))) (ss_one (ss_ret (m := false) se_bool)) ss_nil) (ss_one (ss_ret (m := false) (se_and (se_isi tyok_tuple rfl T.n_isinstance (pe_bltn (v := V.ty "tuple") rfl T.n_tuple bt_tuple rfl) (sb_var 2 (pv 2))) (se_and (se_b (cr_all rfl) sem_all rfl T.n_all bt_all (sb_of (sf_of (sf_comp (tgN_sem (vs := [4]) (i := 4) (by decide)) (pe_lc (own := [("one", 4)]) rfl sc_are_tests_and_sets.nd (si_tup (se_var 2 (pv 2))) (blkOk_by (by show blkC ["tests", "resets", "sets", "test", "one"] (defScope s_are_tests_and_sets) _ _ = true; decide +kernel)) (fun _ _ _ _ _ => (pg_name (i := 4) sc_are_tests_and_sets.nd rfl (by first | exact Or.inl rfl | exact Or.inr rfl))) (fun _ _ _ _ _ => pts_yes) (fun _ _ _ _ _ => (se_call (ok_is_set T) (hr.mono (by decide)) rfl T.g23 T.F23.kp T.B23 (takes0) (sa_cons (se_var 4 (pv 4)) sa_nil) (evCons_len evNil_len)))))))) (se_one (se_call (ok_rise_by_name T) (hr.mono (by decide)) rfl T.g12 T.F12.kp T.B12 (takes_of rfl rfl rfl rfl) (sa_cons (se_var 2 (pv 2)) sa_nil) (evCons_len evNil_len))))))))
/-! ### is_edge -/
def b_is_edge : Ex := (seqS (ifS (evTor (evTnot (evT (evCall f_is_tuple_of (evCons (evVar 0) (evCons (evLit (.int 8)) evNil))))) (evTor (evTnot (evT (evCall f_is_name (evCons (evBin ixD (evVarB 0) (evLit (.int 0))) evNil)))) (evTor (evTnot (evT (evCall f_is_name (evCons (evBin ixD (evVarB 0) (evLit (.int 1))) evNil)))) (evTnot (evT (evCall f_is_deed (evCons (evBin ixD (evVarB 0) (evLit (.int 2))) evNil))))))) (retS (evLit (.bool false))) skipS) (seqS (ifS (evTor (evTnot (evT (ev1 (isiD "tuple") (evBin ixD (evVarB 0) (evLit (.int 3)))))) (evTnot (evT (ev1 allD (lstOf (evComp [1] (evItT (evBin ixD (evVarB 0) (evLit (.int 3)))) (tgN 1) evYes (evCall f_is_ask (evCons (evVar 1) evNil)))))))) (retS (evLit (.bool false))) skipS) (retS (evAnd (evCall f_are_tests_and_sets (evCons (evBin ixD (evVarB 0) (evLit (.int 4))) (evCons (evBin ixD (evVarB 0) (evLit (.int 5))) (evCons (evBin ixD (evVarB 0) (evLit (.int 6))) evNil)))) (evCall f_is_amount (evCons (evBin ixD (evVarB 0) (evLit (.int 7))) evNil))))))
def f_is_edge : List D → Ro := runFn 2 b_is_edge
theorem sc_is_edge : FnScope ["thing", "ask"] ["thing"] (defScope s_is_edge) := ⟨rfl, rfl, rfl, by decide +kernel, rfl, by decide +kernel, by decide +kernel⟩
theorem ok_is_edge {P : Program} {w : World} {K : Fr} {mg : Str → Option Value} {base : Heap} {cl ad : Nat → Addr} {fd : Nat → FuncData} {fi : Nat → Addr} {za : Addr} (T : Txt K mg cl ad fd fi za) : FnOk P w K mg base (L2.CX P w) 7 (ad 25) (fd 25) ["thing"] (spP K cl 1 f_is_edge) :=
  fn_pure (cl := cl) (k := 6) T.F25 sc_is_edge rfl (by decide) fun cdv A outer s H E hr => by exact (ss_cons (ss_if (m := false) (st_pw (sw_or (st_not (st_val (se_call (ok_is_tuple_of T) (hr.mono (by decide)) rfl T.g2 T.F2.kp T.B2 (takes_of rfl rfl rfl rfl) (sa_cons (se_var 0 (pv 0)) (sa_cons (se_glob T.c_EDGE_PARTS rfl) sa_nil)) (evCons_len (evCons_len evNil_len))))) (sw_or (st_not (st_val (se_call (ok_is_name T) (hr.mono (by decide)) rfl T.g6 T.F6.kp T.B6 (takes_of rfl rfl rfl rfl) (sa_cons (se_ix (sb_var 0 (pv 0)) (sb_of se_int)) sa_nil) (evCons_len evNil_len)))) (sw_or (st_not (st_val (se_call (ok_is_name T) (hr.mono (by decide)) rfl T.g6 T.F6.kp T.B6 (takes_of rfl rfl rfl rfl) (sa_cons (se_ix (sb_var 0 (pv 0)) (sb_of se_int)) sa_nil) (evCons_len evNil_len)))) (sw_or1 (st_not (st_val (se_call (ok_is_deed T) (hr.mono (by decide)) rfl T.g20 T.F20.kp T.B20 (takes_of rfl rfl rfl rfl) (sa_cons (se_ix (sb_var 0 (pv 0)) (sb_of se_int)) sa_nil) (evCons_len evNil_len))))))))) (ss_one (ss_ret (m := false) se_bool)) ss_nil) (ss_cons (ss_if (m := false) (st_pw (sw_or (st_not (st_val (se_isi tyok_tuple rfl T.n_isinstance (pe_bltn (v := V.ty "tuple") rfl T.n_tuple bt_tuple rfl) (sb_of (se_ix (sb_var 0 (pv 0)) (sb_of se_int)))))) (sw_or1 (st_not (st_val (se_b (cr_all rfl) sem_all rfl T.n_all bt_all (sb_of (sf_of (sf_comp (tgN_sem (vs := [1]) (i := 1) (by decide)) (pe_lc (own := [("ask", 1)]) rfl sc_is_edge.nd (si_tup (se_ix (sb_var 0 (pv 0)) (sb_of se_int))) (blkOk_by (by show blkC ["thing", "ask"] (defScope s_is_edge) _ _ = true; decide +kernel)) (fun _ _ _ _ _ => (pg_name (i := 1) sc_is_edge.nd rfl (by first | exact Or.inl rfl | exact Or.inr rfl))) (fun _ _ _ _ _ => pts_yes) (fun _ _ _ _ _ => (se_call (ok_is_ask T) (hr.mono (by decide)) rfl T.g21 T.F21.kp T.B21 (takes0) (sa_cons (se_var 1 (pv 1)) sa_nil) (evCons_len evNil_len))))))))))))) (ss_one (ss_ret (m := false) se_bool)) ss_nil) (ss_one (ss_ret (m := false) (se_and (se_call (ok_are_tests_and_sets T) (hr.mono (by decide)) rfl T.g24 T.F24.kp T.B24 (takes_of rfl rfl rfl rfl) (sa_cons (se_ix (sb_var 0 (pv 0)) (sb_of se_int)) (sa_cons (se_ix (sb_var 0 (pv 0)) (sb_of se_int)) (sa_cons (se_ix (sb_var 0 (pv 0)) (sb_of se_int)) sa_nil))) (evCons_len (evCons_len (evCons_len evNil_len)))) (se_one (se_call (ok_is_amount T) (hr.mono (by decide)) rfl T.g13 T.F13.kp T.B13 (takes_of rfl rfl rfl rfl) (sa_cons (se_ix (sb_var 0 (pv 0)) (sb_of se_int)) sa_nil) (evCons_len evNil_len))))))))
/-! ### is_number -/
def b_is_number : Ex := (retS (evAnd (evCall f_is_tuple_of (evCons (evVar 0) (evCons (evLit (.int 4)) evNil))) (evAnd (evCall f_is_name (evCons (evBin ixD (evVarB 0) (evLit (.int 0))) evNil)) (ev1 allD (lstOf (evComp [1] (evItT (evSl (evVarB 0) (ptOf (evLit (.int 1))) ptNo)) (tgN 1) evYes (evCall f_is_whole (evCons (evVar 1) evNil))))))))
def f_is_number : List D → Ro := runFn 2 b_is_number
theorem sc_is_number : FnScope ["thing", "part"] ["thing"] (defScope s_is_number) := ⟨rfl, rfl, rfl, by decide +kernel, rfl, by decide +kernel, by decide +kernel⟩
theorem ok_is_number {P : Program} {w : World} {K : Fr} {mg : Str → Option Value} {base : Heap} {cl ad : Nat → Addr} {fd : Nat → FuncData} {fi : Nat → Addr} {za : Addr} (T : Txt K mg cl ad fd fi za) : FnOk P w K mg base (L2.CX P w) 4 (ad 16) (fd 16) ["thing"] (spP K cl 1 f_is_number) :=
  fn_pure (cl := cl) (k := 3) T.F16 sc_is_number rfl (by decide) fun cdv A outer s H E hr => by exact (ss_one (ss_ret (m := false) (se_and (se_call (ok_is_tuple_of T) (hr.mono (by decide)) rfl T.g2 T.F2.kp T.B2 (takes_of rfl rfl rfl rfl) (sa_cons (se_var 0 (pv 0)) (sa_cons se_int sa_nil)) (evCons_len (evCons_len evNil_len))) (se_and (se_call (ok_is_name T) (hr.mono (by decide)) rfl T.g6 T.F6.kp T.B6 (takes_of rfl rfl rfl rfl) (sa_cons (se_ix (sb_var 0 (pv 0)) (sb_of se_int)) sa_nil) (evCons_len evNil_len)) (se_one (se_b (cr_all rfl) sem_all rfl T.n_all bt_all (sb_of (sf_of (sf_comp (tgN_sem (vs := [1]) (i := 1) (by decide)) (pe_lc (own := [("part", 1)]) rfl sc_is_number.nd (si_tup (se_slice (sb_var 0 (pv 0)) (sp_some (sb_of se_int)) sp_none)) (blkOk_by (by show blkC ["thing", "part"] (defScope s_is_number) _ _ = true; decide +kernel)) (fun _ _ _ _ _ => (pg_name (i := 1) sc_is_number.nd rfl (by first | exact Or.inl rfl | exact Or.inr rfl))) (fun _ _ _ _ _ => pts_yes) (fun _ _ _ _ _ => (se_call (ok_is_whole T) (hr.mono (by decide)) rfl T.g0 T.F0.kp T.B0 (takes0) (sa_cons (se_var 1 (pv 1)) sa_nil) (evCons_len evNil_len)))))))))))))
/-! ### are_numbers -/
def b_are_numbers : Ex := (retS (evAnd (ev1 (isiD "tuple") (evVarB 0)) (evAnd (ev1 allD (lstOf (evComp [1] (evItT (evVar 0)) (tgN 1) evYes (evCall f_is_number (evCons (evVar 1) evNil))))) (evCall f_rise_by_name (evCons (evVar 0) evNil)))))
def f_are_numbers : List D → Ro := runFn 2 b_are_numbers
theorem sc_are_numbers : FnScope ["thing", "number"] ["thing"] (defScope s_are_numbers) := ⟨rfl, rfl, rfl, by decide +kernel, rfl, by decide +kernel, by decide +kernel⟩
theorem ok_are_numbers {P : Program} {w : World} {K : Fr} {mg : Str → Option Value} {base : Heap} {cl ad : Nat → Addr} {fd : Nat → FuncData} {fi : Nat → Addr} {za : Addr} (T : Txt K mg cl ad fd fi za) : FnOk P w K mg base (L2.CX P w) 5 (ad 26) (fd 26) ["thing"] (spP K cl 1 f_are_numbers) :=
  fn_pure (cl := cl) (k := 4) T.F26 sc_are_numbers rfl (by decide) fun cdv A outer s H E hr => by exact (ss_one (ss_ret (m := false) (se_and (se_isi tyok_tuple rfl T.n_isinstance (pe_bltn (v := V.ty "tuple") rfl T.n_tuple bt_tuple rfl) (sb_var 0 (pv 0))) (se_and (se_b (cr_all rfl) sem_all rfl T.n_all bt_all (sb_of (sf_of (sf_comp (tgN_sem (vs := [1]) (i := 1) (by decide)) (pe_lc (own := [("number", 1)]) rfl sc_are_numbers.nd (si_tup (se_var 0 (pv 0))) (blkOk_by (by show blkC ["thing", "number"] (defScope s_are_numbers) _ _ = true; decide +kernel)) (fun _ _ _ _ _ => (pg_name (i := 1) sc_are_numbers.nd rfl (by first | exact Or.inl rfl | exact Or.inr rfl))) (fun _ _ _ _ _ => pts_yes) (fun _ _ _ _ _ => (se_call (ok_is_number T) (hr.mono (by decide)) rfl T.g16 T.F16.kp T.B16 (takes0) (sa_cons (se_var 1 (pv 1)) sa_nil) (evCons_len evNil_len)))))))) (se_one (se_call (ok_rise_by_name T) (hr.mono (by decide)) rfl T.g12 T.F12.kp T.B12 (takes_of rfl rfl rfl rfl) (sa_cons (se_var 0 (pv 0)) sa_nil) (evCons_len evNil_len)))))))
/-! ### is_module -/
def b_is_module : Ex := (seqS (ifS (evTor (evTnot (evT (evCall f_is_tuple_of (evCons (evVar 0) (evCons (evLit (.int 6)) evNil))))) (evTor (evTnot (evT (evCall f_is_name (evCons (evBin ixD (evVarB 0) (evLit (.int 0))) evNil)))) (evTnot (evT (ev1 (isiD "tuple") (evBin ixD (evVarB 0) (evLit (.int 1)))))))) (retS (evLit (.bool false))) skipS) (seqS (ifS (evTor (evTnot (evT (ev1 allD (lstOf (evComp [1] (evItT (evBin ixD (evVarB 0) (evLit (.int 1)))) (tgN 1) evYes (evCall f_is_param (evCons (evVar 1) evNil))))))) (evTor (evTnot (evT (evCall f_are_names (evCons (evBin ixD (evVarB 0) (evLit (.int 2))) evNil)))) (evTnot (evT (evCall f_are_numbers (evCons (evBin ixD (evVarB 0) (evLit (.int 3))) evNil)))))) (retS (evLit (.bool false))) skipS) (seqS (ifS (evTor (evTnot (evT (ev1 (isiD "tuple") (evBin ixD (evVarB 0) (evLit (.int 4)))))) (evTor (evT (evBin eqD (evBin ixD (evVarB 0) (evLit (.int 4))) (evTup evNil))) (evTnot (evT (ev1 allD (lstOf (evComp [2] (evItT (evBin ixD (evVarB 0) (evLit (.int 4)))) (tgN 2) evYes (evCall f_is_place (evCons (evVar 2) evNil))))))))) (retS (evLit (.bool false))) skipS) (retS (evAnd (ev1 (isiD "tuple") (evBin ixD (evVarB 0) (evLit (.int 5)))) (ev1 allD (lstOf (evComp [3] (evItT (evBin ixD (evVarB 0) (evLit (.int 5)))) (tgN 3) evYes (evCall f_is_edge (evCons (evVar 3) evNil))))))))))
def f_is_module : List D → Ro := runFn 4 b_is_module
theorem sc_is_module : FnScope ["thing", "param", "place", "edge"] ["thing"] (defScope s_is_module) := ⟨rfl, rfl, rfl, by decide +kernel, rfl, by decide +kernel, by decide +kernel⟩
theorem ok_is_module {P : Program} {w : World} {K : Fr} {mg : Str → Option Value} {base : Heap} {cl ad : Nat → Addr} {fd : Nat → FuncData} {fi : Nat → Addr} {za : Addr} (T : Txt K mg cl ad fd fi za) : FnOk P w K mg base (L2.CX P w) 9 (ad 27) (fd 27) ["thing"] (spP K cl 1 f_is_module) :=
  fn_pure (cl := cl) (k := 8) T.F27 sc_is_module rfl (by decide) fun cdv A outer s H E hr => by exact (ss_cons (ss_if (m := false) (st_pw (sw_or (st_not (st_val (se_call (ok_is_tuple_of T) (hr.mono (by decide)) rfl T.g2 T.F2.kp T.B2 (takes_of rfl rfl rfl rfl) (sa_cons (se_var 0 (pv 0)) (sa_cons (se_glob T.c_MODULE_PARTS rfl) sa_nil)) (evCons_len (evCons_len evNil_len))))) (sw_or (st_not (st_val (se_call (ok_is_name T) (hr.mono (by decide)) rfl T.g6 T.F6.kp T.B6 (takes_of rfl rfl rfl rfl) (sa_cons (se_ix (sb_var 0 (pv 0)) (sb_of se_int)) sa_nil) (evCons_len evNil_len)))) (sw_or1 (st_not (st_val (se_isi tyok_tuple rfl T.n_isinstance (pe_bltn (v := V.ty "tuple") rfl T.n_tuple bt_tuple rfl) (sb_of (se_ix (sb_var 0 (pv 0)) (sb_of se_int)))))))))) (ss_one (ss_ret (m := false) se_bool)) ss_nil) (ss_cons (ss_if (m := false) (st_pw (sw_or (st_not (st_val (se_b (cr_all rfl) sem_all rfl T.n_all bt_all (sb_of (sf_of (sf_comp (tgN_sem (vs := [1]) (i := 1) (by decide)) (pe_lc (own := [("param", 1)]) rfl sc_is_module.nd (si_tup (se_ix (sb_var 0 (pv 0)) (sb_of se_int))) (blkOk_by (by show blkC ["thing", "param", "place", "edge"] (defScope s_is_module) _ _ = true; decide +kernel)) (fun _ _ _ _ _ => (pg_name (i := 1) sc_is_module.nd rfl (by first | exact Or.inl rfl | exact Or.inr rfl))) (fun _ _ _ _ _ => pts_yes) (fun _ _ _ _ _ => (se_call (ok_is_param T) (hr.mono (by decide)) rfl T.g15 T.F15.kp T.B15 (takes0) (sa_cons (se_var 1 (pv 1)) sa_nil) (evCons_len evNil_len)))))))))) (sw_or (st_not (st_val (se_call (ok_are_names T) (hr.mono (by decide)) rfl T.g11 T.F11.kp T.B11 (takes_of rfl rfl rfl rfl) (sa_cons (se_ix (sb_var 0 (pv 0)) (sb_of se_int)) sa_nil) (evCons_len evNil_len)))) (sw_or1 (st_not (st_val (se_call (ok_are_numbers T) (hr.mono (by decide)) rfl T.g26 T.F26.kp T.B26 (takes_of rfl rfl rfl rfl) (sa_cons (se_ix (sb_var 0 (pv 0)) (sb_of se_int)) sa_nil) (evCons_len evNil_len)))))))) (ss_one (ss_ret (m := false) se_bool)) ss_nil) (ss_cons (ss_if (m := false) (st_pw (sw_or (st_not (st_val (se_isi tyok_tuple rfl T.n_isinstance (pe_bltn (v := V.ty "tuple") rfl T.n_tuple bt_tuple rfl) (sb_of (se_ix (sb_var 0 (pv 0)) (sb_of se_int)))))) (sw_or (st_cmp (op_eqD hr.units) sem_eqD (sb_of (se_ix (sb_var 0 (pv 0)) (sb_of se_int))) (sb_of (se_tup sa_nil)) (nomark _)) (sw_or1 (st_not (st_val (se_b (cr_all rfl) sem_all rfl T.n_all bt_all (sb_of (sf_of (sf_comp (tgN_sem (vs := [2]) (i := 2) (by decide)) (pe_lc (own := [("place", 2)]) rfl sc_is_module.nd (si_tup (se_ix (sb_var 0 (pv 0)) (sb_of se_int))) (blkOk_by (by show blkC ["thing", "param", "place", "edge"] (defScope s_is_module) _ _ = true; decide +kernel)) (fun _ _ _ _ _ => (pg_name (i := 2) sc_is_module.nd rfl (by first | exact Or.inl rfl | exact Or.inr rfl))) (fun _ _ _ _ _ => pts_yes) (fun _ _ _ _ _ => (se_call (ok_is_place T) (hr.mono (by decide)) rfl T.g19 T.F19.kp T.B19 (takes0) (sa_cons (se_var 2 (pv 2)) sa_nil) (evCons_len evNil_len)))))))))))))) (ss_one (ss_ret (m := false) se_bool)) ss_nil) (ss_one (ss_ret (m := false) (se_and (se_isi tyok_tuple rfl T.n_isinstance (pe_bltn (v := V.ty "tuple") rfl T.n_tuple bt_tuple rfl) (sb_of (se_ix (sb_var 0 (pv 0)) (sb_of se_int)))) (se_one (se_b (cr_all rfl) sem_all rfl T.n_all bt_all (sb_of (sf_of (sf_comp (tgN_sem (vs := [3]) (i := 3) (by decide)) (pe_lc (own := [("edge", 3)]) rfl sc_is_module.nd (si_tup (se_ix (sb_var 0 (pv 0)) (sb_of se_int))) (blkOk_by (by show blkC ["thing", "param", "place", "edge"] (defScope s_is_module) _ _ = true; decide +kernel)) (fun _ _ _ _ _ => (pg_name (i := 3) sc_is_module.nd rfl (by first | exact Or.inl rfl | exact Or.inr rfl))) (fun _ _ _ _ _ => pts_yes) (fun _ _ _ _ _ => (se_call (ok_is_edge T) (hr.mono (by decide)) rfl T.g25 T.F25.kp T.B25 (takes0) (sa_cons (se_var 3 (pv 3)) sa_nil) (evCons_len evNil_len)))))))))))))))
end
end Zo
namespace Zo
open PySem PySem.Spec PyProof.Rows L2
noncomputable section
/-! ### is_channel -/
def b_is_channel : Ex := (retS (evAnd (evCall f_is_tuple_of (evCons (evVar 0) (evCons (evLit (.int 2)) evNil))) (evAnd (evCall f_is_name (evCons (evBin ixD (evVarB 0) (evLit (.int 0))) evNil)) (evCall f_is_one_of (evCons (evBin ixD (evVarB 0) (evLit (.int 1))) (evCons (evLit (.tuple [(.str "pair"), (.str "all")])) evNil))))))
def f_is_channel : List D → Ro := runFn 1 b_is_channel
theorem sc_is_channel : FnScope ["thing"] ["thing"] (defScope s_is_channel) := ⟨rfl, rfl, rfl, by decide +kernel, rfl, by decide +kernel, by decide +kernel⟩
theorem ok_is_channel {P : Program} {w : World} {K : Fr} {mg : Str → Option Value} {base : Heap} {cl ad : Nat → Addr} {fd : Nat → FuncData} {fi : Nat → Addr} {za : Addr} (T : Txt K mg cl ad fd fi za) : FnOk P w K mg base (L2.CX P w) 4 (ad 42) (fd 42) ["thing"] (spP K cl 1 f_is_channel) :=
  fn_pure (cl := cl) (k := 3) T.F42 sc_is_channel rfl (by decide) fun cdv A outer s H E hr => by exact (ss_one (ss_ret (m := false) (se_and (se_call (ok_is_tuple_of T) (hr.mono (by decide)) rfl T.g2 T.F2.kp T.B2 (takes_of rfl rfl rfl rfl) (sa_cons (se_var 0 (pv 0)) (sa_cons se_int sa_nil)) (evCons_len (evCons_len evNil_len))) (se_and (se_call (ok_is_name T) (hr.mono (by decide)) rfl T.g6 T.F6.kp T.B6 (takes_of rfl rfl rfl rfl) (sa_cons (se_ix (sb_var 0 (pv 0)) (sb_of se_int)) sa_nil) (evCons_len evNil_len)) (se_one (se_call (ok_is_one_of T) (hr.mono (by decide)) rfl T.g4 T.F4.kp T.B4 (takes_of rfl rfl rfl rfl) (sa_cons (se_ix (sb_var 0 (pv 0)) (sb_of se_int)) (sa_cons (se_glob T.c_HOW rfl) sa_nil)) (evCons_len (evCons_len evNil_len))))))))
/-! ### is_part -/
def b_is_part : Ex := (seqS (ifS (evTor (evTnot (evT (evCall f_is_tuple_of (evCons (evVar 0) (evCons (evLit (.int 3)) evNil))))) (evTor (evTnot (evT (evCall f_is_name (evCons (evBin ixD (evVarB 0) (evLit (.int 0))) evNil)))) (evTor (evTnot (evT (evCall f_is_name (evCons (evBin ixD (evVarB 0) (evLit (.int 1))) evNil)))) (evTnot (evT (ev1 (isiD "tuple") (evBin ixD (evVarB 0) (evLit (.int 2))))))))) (retS (evLit (.bool false))) skipS) (retS (ev1 allD (lstOf (evComp [1] (evItT (evBin ixD (evVarB 0) (evLit (.int 2)))) (tgN 1) evYes (evOr (evCall f_is_whole (evCons (evVar 1) evNil)) (evCall f_is_name (evCons (evVar 1) evNil))))))))
def f_is_part : List D → Ro := runFn 2 b_is_part
theorem sc_is_part : FnScope ["thing", "arg"] ["thing"] (defScope s_is_part) := ⟨rfl, rfl, rfl, by decide +kernel, rfl, by decide +kernel, by decide +kernel⟩
theorem ok_is_part {P : Program} {w : World} {K : Fr} {mg : Str → Option Value} {base : Heap} {cl ad : Nat → Addr} {fd : Nat → FuncData} {fi : Nat → Addr} {za : Addr} (T : Txt K mg cl ad fd fi za) : FnOk P w K mg base (L2.CX P w) 4 (ad 43) (fd 43) ["thing"] (spP K cl 1 f_is_part) :=
  fn_pure (cl := cl) (k := 3) T.F43 sc_is_part rfl (by decide) fun cdv A outer s H E hr => by exact (ss_cons (ss_if (m := false) (st_pw (sw_or (st_not (st_val (se_call (ok_is_tuple_of T) (hr.mono (by decide)) rfl T.g2 T.F2.kp T.B2 (takes_of rfl rfl rfl rfl) (sa_cons (se_var 0 (pv 0)) (sa_cons se_int sa_nil)) (evCons_len (evCons_len evNil_len))))) (sw_or (st_not (st_val (se_call (ok_is_name T) (hr.mono (by decide)) rfl T.g6 T.F6.kp T.B6 (takes_of rfl rfl rfl rfl) (sa_cons (se_ix (sb_var 0 (pv 0)) (sb_of se_int)) sa_nil) (evCons_len evNil_len)))) (sw_or (st_not (st_val (se_call (ok_is_name T) (hr.mono (by decide)) rfl T.g6 T.F6.kp T.B6 (takes_of rfl rfl rfl rfl) (sa_cons (se_ix (sb_var 0 (pv 0)) (sb_of se_int)) sa_nil) (evCons_len evNil_len)))) (sw_or1 (st_not (st_val (se_isi tyok_tuple rfl T.n_isinstance (pe_bltn (v := V.ty "tuple") rfl T.n_tuple bt_tuple rfl) (sb_of (se_ix (sb_var 0 (pv 0)) (sb_of se_int))))))))))) (ss_one (ss_ret (m := false) se_bool)) ss_nil) (ss_one (ss_ret (m := false) (se_b (cr_all rfl) sem_all rfl T.n_all bt_all (sb_of (sf_of (sf_comp (tgN_sem (vs := [1]) (i := 1) (by decide)) (pe_lc (own := [("arg", 1)]) rfl sc_is_part.nd (si_tup (se_ix (sb_var 0 (pv 0)) (sb_of se_int))) (blkOk_by (by show blkC ["thing", "arg"] (defScope s_is_part) _ _ = true; decide +kernel)) (fun _ _ _ _ _ => (pg_name (i := 1) sc_is_part.nd rfl (by first | exact Or.inl rfl | exact Or.inr rfl))) (fun _ _ _ _ _ => pts_yes) (fun _ _ _ _ _ => (se_or (se_call (ok_is_whole T) (hr.mono (by decide)) rfl T.g0 T.F0.kp T.B0 (takes0) (sa_cons (se_var 1 (pv 1)) sa_nil) (evCons_len evNil_len)) (se_one (se_call (ok_is_name T) (hr.mono (by decide)) rfl T.g6 T.F6.kp T.B6 (takes0) (sa_cons (se_var 1 (pv 1)) sa_nil) (evCons_len evNil_len)))))))))))))
/-! ### is_list_of -/
def b_is_list_of : Ex := (retS (evAnd (ev1 (isiD "tuple") (evVarB 0)) (evAnd (ev1 allD (lstOf (evComp [2] (evItT (evVar 0)) (tgN 2) evYes (evCallV 1 [("is_channel", f_is_channel), ("is_module", f_is_module), ("is_part", f_is_part)] (evCons (evVar 2) evNil))))) (evCall f_rise_by_name (evCons (evVar 0) evNil)))))
def f_is_list_of : List D → Ro := runFn 3 b_is_list_of
theorem sc_is_list_of : FnScope ["thing", "is_one", "part"] ["thing", "is_one"] (defScope s_is_list_of) := ⟨rfl, rfl, rfl, by decide +kernel, rfl, by decide +kernel, by decide +kernel⟩
theorem ok_is_list_of {P : Program} {w : World} {K : Fr} {mg : Str → Option Value} {base : Heap} {cl ad : Nat → Addr} {fd : Nat → FuncData} {fi : Nat → Addr} {za : Addr} (T : Txt K mg cl ad fd fi za) : FnOk P w K mg base (L2.CX P w) 10 (ad 44) (fd 44) ["thing", "is_one"] (spP K cl 2 f_is_list_of) :=
  fn_pure (cl := cl) (k := 9) T.F44 sc_is_list_of rfl (by decide) fun cdv A outer s H E hr => by exact (ss_one (ss_ret (m := false) (se_and (se_isi tyok_tuple rfl T.n_isinstance (pe_bltn (v := V.ty "tuple") rfl T.n_tuple bt_tuple rfl) (sb_var 0 (pv 0))) (se_and (se_b (cr_all rfl) sem_all rfl T.n_all bt_all (sb_of (sf_of (sf_comp (tgN_sem (vs := [2]) (i := 2) (by decide)) (pe_lc (own := [("part", 2)]) rfl sc_is_list_of.nd (si_tup (se_var 0 (pv 0))) (blkOk_by (by show blkC ["thing", "is_one", "part"] (defScope s_is_list_of) _ _ = true; decide +kernel)) (fun _ _ _ _ _ => (pg_name (i := 2) sc_is_list_of.nd rfl (by first | exact Or.inl rfl | exact Or.inr rfl))) (fun _ _ _ _ _ => pts_yes) (fun _ _ _ _ _ => (se_callV (k := 9) (tab := [("is_channel", f_is_channel), ("is_module", f_is_module), ("is_part", f_is_part)]) (pv 1) (defv_cons (defv (j := 4) T.n42 (ok_is_channel T) (by decide) T.F42.kp T.B42) (defv_cons (defv (j := 9) T.n27 (ok_is_module T) (by decide) T.F27.kp T.B27) (defv_cons (defv (j := 4) T.n43 (ok_is_part T) (by decide) T.F43.kp T.B43) defv_nil))) hr (takes0) (sa_cons (se_var 2 (pv 2)) sa_nil) (evCons_len evNil_len)))))))) (se_one (se_call (ok_rise_by_name T) (hr.mono (by decide)) rfl T.g12 T.F12.kp T.B12 (takes_of rfl rfl rfl rfl) (sa_cons (se_var 0 (pv 0)) sa_nil) (evCons_len evNil_len)))))))
/-! ### is_written_value -/
def b_is_written_value : Ex := (seqS (ifS (evTor (evTnot (evT (evCall f_is_tuple_of (evCons (evVar 0) (evCons (evLit (.int 4)) evNil))))) (evTor (evTnot (evT (evCall f_is_name (evCons (evBin ixD (evVarB 0) (evLit (.int 0))) evNil)))) (evTnot (evT (evCall f_is_list_of (evCons (evBin ixD (evVarB 0) (evLit (.int 1))) (evCons (evLit (.dict [(.str mkF, .str "is_channel")])) evNil))))))) (retS (evLit (.bool false))) skipS) (retS (evAnd (evCall f_is_list_of (evCons (evBin ixD (evVarB 0) (evLit (.int 2))) (evCons (evLit (.dict [(.str mkF, .str "is_module")])) evNil))) (evAnd (evCall f_is_list_of (evCons (evBin ixD (evVarB 0) (evLit (.int 3))) (evCons (evLit (.dict [(.str mkF, .str "is_part")])) evNil))) (evBin neD (evBin ixD (evVarB 0) (evLit (.int 3))) (evTup evNil))))))
def f_is_written_value : List D → Ro := runFn 1 b_is_written_value
theorem sc_is_written_value : FnScope ["thing"] ["thing"] (defScope s_is_written_value) := ⟨rfl, rfl, rfl, by decide +kernel, rfl, by decide +kernel, by decide +kernel⟩
theorem ok_is_written_value {P : Program} {w : World} {K : Fr} {mg : Str → Option Value} {base : Heap} {cl ad : Nat → Addr} {fd : Nat → FuncData} {fi : Nat → Addr} {za : Addr} (T : Txt K mg cl ad fd fi za) : FnOk P w K mg base (L2.CX P w) 11 (ad 45) (fd 45) ["thing"] (spP K cl 1 f_is_written_value) :=
  fn_pure (cl := cl) (k := 10) T.F45 sc_is_written_value rfl (by decide) fun cdv A outer s H E hr => by exact (ss_cons (ss_if (m := false) (st_pw (sw_or (st_not (st_val (se_call (ok_is_tuple_of T) (hr.mono (by decide)) rfl T.g2 T.F2.kp T.B2 (takes_of rfl rfl rfl rfl) (sa_cons (se_var 0 (pv 0)) (sa_cons se_int sa_nil)) (evCons_len (evCons_len evNil_len))))) (sw_or (st_not (st_val (se_call (ok_is_name T) (hr.mono (by decide)) rfl T.g6 T.F6.kp T.B6 (takes_of rfl rfl rfl rfl) (sa_cons (se_ix (sb_var 0 (pv 0)) (sb_of se_int)) sa_nil) (evCons_len evNil_len)))) (sw_or1 (st_not (st_val (se_call (ok_is_list_of T) (hr.mono (by decide)) rfl T.g44 T.F44.kp T.B44 (takes_of rfl rfl rfl rfl) (sa_cons (se_ix (sb_var 0 (pv 0)) (sb_of se_int)) (sa_cons (se_defv rfl T.g42 T.n42) sa_nil)) (evCons_len (evCons_len evNil_len))))))))) (ss_one (ss_ret (m := false) se_bool)) ss_nil) (ss_one (ss_ret (m := false) (se_and (se_call (ok_is_list_of T) (hr.mono (by decide)) rfl T.g44 T.F44.kp T.B44 (takes_of rfl rfl rfl rfl) (sa_cons (se_ix (sb_var 0 (pv 0)) (sb_of se_int)) (sa_cons (se_defv rfl T.g27 T.n27) sa_nil)) (evCons_len (evCons_len evNil_len))) (se_and (se_call (ok_is_list_of T) (hr.mono (by decide)) rfl T.g44 T.F44.kp T.B44 (takes_of rfl rfl rfl rfl) (sa_cons (se_ix (sb_var 0 (pv 0)) (sb_of se_int)) (sa_cons (se_defv rfl T.g43 T.n43) sa_nil)) (evCons_len (evCons_len evNil_len))) (se_one (se_cmp (op_neD hr.units) sem_neD (sb_of (se_ix (sb_var 0 (pv 0)) (sb_of se_int))) (sb_of (se_tup sa_nil)) (nomark _))))))))
/-! ### is_program_value -/
def b_is_program_value : Ex := (retS (evAnd (evCall f_is_written_value (evCons (evVar 0) evNil)) (evBin eqD (evCall f_faults_in (evCons (evVar 0) evNil)) (lstOf (evLst evNil)))))
def f_is_program_value : List D → Ro := runFn 1 b_is_program_value
theorem sc_is_program_value : FnScope ["thing"] ["thing"] (defScope s_is_program_value) := ⟨rfl, rfl, rfl, by decide +kernel, rfl, by decide +kernel, by decide +kernel⟩
theorem ok_is_program_value {P : Program} {w : World} {K : Fr} {mg : Str → Option Value} {base : Heap} {cl ad : Nat → Addr} {fd : Nat → FuncData} {fi : Nat → Addr} {za : Addr} (T : Txt K mg cl ad fd fi za) : FnOk P w K mg base (L2.CX P w) 12 (ad 46) (fd 46) ["thing"] (spP K cl 1 f_is_program_value) :=
  fn_pure (cl := cl) (k := 11) T.F46 sc_is_program_value rfl (by decide) fun cdv A outer s H E hr => by exact (ss_one (ss_ret (m := false) (se_and (se_call (ok_is_written_value T) (hr.mono (by decide)) rfl T.g45 T.F45.kp T.B45 (takes_of rfl rfl rfl rfl) (sa_cons (se_var 0 (pv 0)) sa_nil) (evCons_len evNil_len)) (se_one (se_cmp (op_eqD hr.units) sem_eqD (sb_of (se_call (ok_faults_in T) (hr.mono (by decide)) rfl T.g41 T.F41.kp T.B41 (takes_of rfl rfl rfl rfl) (sa_cons (se_var 0 (pv 0)) sa_nil) (evCons_len evNil_len))) (sb_of (sf_of (sf_lst sa_nil))) (nomark _))))))
/-! ### is_program -/
def b_is_program : Ex := (retS (evCall f_is_program_value (evCons (evVar 0) evNil)))
def f_is_program : List D → Ro := runFn 1 b_is_program
theorem sc_is_program : FnScope ["thing"] ["thing"] (defScope s_is_program) := ⟨rfl, rfl, rfl, by decide +kernel, rfl, by decide +kernel, by decide +kernel⟩
theorem ok_is_program {P : Program} {w : World} {K : Fr} {mg : Str → Option Value} {base : Heap} {cl ad : Nat → Addr} {fd : Nat → FuncData} {fi : Nat → Addr} {za : Addr} (T : Txt K mg cl ad fd fi za) : FnOk P w K mg base (L2.CX P w) 13 (ad 48) (fd 48) ["thing"] (spP K cl 1 f_is_program) :=
  fn_pure (cl := cl) (k := 12) T.F48 sc_is_program rfl (by decide) fun cdv A outer s H E hr => by exact (ss_one (ss_ret (m := false) (se_call (ok_is_program_value T) (hr.mono (by decide)) rfl T.g46 T.F46.kp T.B46 (takes_of rfl rfl rfl rfl) (sa_cons (se_var 0 (pv 0)) sa_nil) (evCons_len evNil_len))))
/-! ### need_written -/
def b_need_written : Ex := (ifS (evTnot (evT (evCall f_is_written_value (evCons (evVar 0) evNil)))) (raiseS 0 (evVar 0)) skipS)
def f_need_written : List D → Ro := runFn 1 b_need_written
theorem sc_need_written : FnScope ["program"] ["program"] (defScope s_need_written) := ⟨rfl, rfl, rfl, by decide +kernel, rfl, by decide +kernel, by decide +kernel⟩
theorem ok_need_written {P : Program} {w : World} {K : Fr} {mg : Str → Option Value} {base : Heap} {cl ad : Nat → Addr} {fd : Nat → FuncData} {fi : Nat → Addr} {za : Addr} (T : Txt K mg cl ad fd fi za) : FnOk P w K mg base (L2.CX P w) 12 (ad 47) (fd 47) ["program"] (spP K cl 1 f_need_written) :=
  fn_pure (cl := cl) (k := 11) T.F47 sc_need_written rfl (by decide) fun cdv A outer s H E hr => by exact (ss_one (ss_if (m := false) (st_not (st_val (se_call (ok_is_written_value T) (hr.mono (by decide)) rfl T.g45 T.F45.kp T.B45 (takes_of rfl rfl rfl rfl) (sa_cons (se_var 0 (pv 0)) sa_nil) (evCons_len evNil_len)))) (ss_one (ss_raise (m := false) 0 rfl T.e0 hr (takes_of rfl rfl rfl rfl) (se_var 0 (pv 0)) rfl)) ss_nil))
/-! ### faults_of -/
def b_faults_of : Ex := (seqS (doS (evCall f_need_written (evCons (evVar 0) evNil))) (retS (ev1 tupD (evCall f_faults_in (evCons (evVar 0) evNil)))))
def f_faults_of : List D → Ro := runFn 1 b_faults_of
theorem sc_faults_of : FnScope ["program"] ["program"] (defScope s_faults_of) := ⟨rfl, rfl, rfl, by decide +kernel, rfl, by decide +kernel, by decide +kernel⟩
theorem ok_faults_of {P : Program} {w : World} {K : Fr} {mg : Str → Option Value} {base : Heap} {cl ad : Nat → Addr} {fd : Nat → FuncData} {fi : Nat → Addr} {za : Addr} (T : Txt K mg cl ad fd fi za) : FnOk P w K mg base (L2.CX P w) 13 (ad 49) (fd 49) ["program"] (spP K cl 1 f_faults_of) :=
  fn_pure (cl := cl) (k := 12) T.F49 sc_faults_of rfl (by decide) fun cdv A outer s H E hr => by exact (ss_cons (ss_do (m := false) (se_call (ok_need_written T) (hr.mono (by decide)) rfl T.g47 T.F47.kp T.B47 (takes_of rfl rfl rfl rfl) (sa_cons (se_var 0 (pv 0)) sa_nil) (evCons_len evNil_len))) (ss_one (ss_ret (m := false) (se_ty call_tupF sem_tuple rfl T.n_tuple bt_tuple (sb_of (se_call (ok_faults_in T) (hr.mono (by decide)) rfl T.g41 T.F41.kp T.B41 (takes_of rfl rfl rfl rfl) (sa_cons (se_var 0 (pv 0)) sa_nil) (evCons_len evNil_len)))))))
end
end Zo
namespace Zo
open PySem PySem.Spec PyProof.Rows L2
noncomputable section
/-! ### _law_pick -/
def b_law_pick : Ex := (retS (evBin ixD (evVarB 1) (evCallD 0 drawF (evCons (ev1 lenD (evVarB 1)) evNil))))
def f_law_pick : List D → Dk → Rd := runFnD 2 b_law_pick
theorem sc_law_pick : FnScope ["deck", "some"] ["deck", "some"] (defScope s_law_pick) := ⟨rfl, rfl, rfl, by decide +kernel, rfl, by decide +kernel, by decide +kernel⟩
theorem ok_law_pick {P : Program} {w : World} {K : Fr} {mg : Str → Option Value} {base : Heap} {cl ad : Nat → Addr} {fd : Nat → FuncData} {fi : Nat → Addr} {za : Addr} (T : Txt K mg cl ad fd fi za) : FnOk P w K mg base (L2.CX P w) 4 (ad 52) (fd 52) ["deck", "some"] (spD K 1 f_law_pick) :=
  fn_deck (cl := cl) (k := 3) T.F52 sc_law_pick rfl (by decide) fun cdv A outer s H E hr => by exact (ss_one (ss_ret (m := false) (se_ix (sb_var 1 (pv 1)) (sb_of (se_callD 0 (ok_draw (k := 2) T.F51 T.n_max T.n_int) (hr.mono (by decide)) rfl T.g51 T.F51.kp T.B51 (takes0) (pv 0) (sa_cons (se_b L2.call_len sem_len rfl T.n_len bt_len (sb_var 1 (pv 1))) sa_nil) (evCons_len evNil_len))))))
/-! ### _law_asks -/
def b_law_asks : Ex := (seqS (ownS 1 (evLst evNil)) (seqS (forS (evRng1 (evCallD 0 drawF (evCons (evLit (.int 6)) evNil))) (tgN 2) (seqS (par2S 3 4 (evCallD 0 f_law_pick (evCons (lstOf (evLst (evCons (evLit (.str "x")) (evCons (evLit (.str "y")) evNil)))) evNil)) (evCallD 0 drawF (evCons (evLit (.int 5)) evNil))) (ifS (evT (evBin (cmpI (fun i j => decide (i < j))) (evVarB 4) (evLit (.int 2)))) (doS (evApp 1 (evTup (evCons (evVar 3) (evCons (evCallD 0 f_law_pick (evCons (lstOf (evLst (evCons (evLit (.str "x")) (evCons (evLit (.str "y")) evNil)))) evNil)) (evCons (evCallD 0 f_law_pick (evCons (lstOf (evLst (evCons (evLit (.str "<")) (evCons (evLit (.str "<=")) (evCons (evLit (.str ">=")) (evCons (evLit (.str ">")) evNil)))))) evNil)) (evCons (evCallD 0 f_law_pick (evCons (lstOf (evLst (evCons (evLit (.int 0)) (evCons (evLit (.int 1)) (evCons (ev1 negD (evLit (.int 2))) (evCons (evLit (.str "k")) evNil)))))) evNil)) evNil))))))) (doS (evApp 1 (evTup (evCons (evVar 3) (evCons (evCallD 0 f_law_pick (evCons (lstOf (evLst (evCons (evLit (.str "<")) (evCons (evLit (.str "<=")) (evCons (evLit (.str "<=")) (evCons (evLit (.str ">=")) (evCons (evLit (.str ">")) evNil))))))) evNil)) (evCons (evCallD 0 f_law_pick (evCons (lstOf (evLst (evCons (evLit (.int 0)) (evCons (evLit (.int 1)) (evCons (evLit (.int 3)) (evCons (evLit (.str "k")) evNil)))))) evNil)) evNil))))))))) (seqS (ifS (evT (evBin eqD (evCallD 0 drawF (evCons (evLit (.int 3)) evNil)) (evLit (.int 0)))) (ownS 1 (evBinL addL (lstOf (evLst (evCons (evTup (evCons (evLit (.str "x")) (evCons (evLit (.str "<=")) (evCons (evLit (.int 3)) evNil)))) (evCons (evTup (evCons (evLit (.str "y")) (evCons (evLit (.str "<")) (evCons (evLit (.str "k")) evNil)))) evNil)))) (evVarB 1))) skipS) (retS (ev1 tupD (lstOf (evComp [5] (evRng1 (ev1 lenD (evVarB 1))) (tgN 5) evYes (evPopAt 1 (evCallD 0 drawF (evCons (ev1 lenD (evVarB 1)) evNil))))))))))
def f_law_asks : List D → Dk → Rd := runFnD 6 b_law_asks
theorem sc_law_asks : FnScope ["deck", "found", "turn", "clock", "way", "k"] ["deck"] (defScope s_law_asks) := ⟨rfl, rfl, rfl, by decide +kernel, rfl, by decide +kernel, by decide +kernel⟩
theorem ok_law_asks {P : Program} {w : World} {K : Fr} {mg : Str → Option Value} {base : Heap} {cl ad : Nat → Addr} {fd : Nat → FuncData} {fi : Nat → Addr} {za : Addr} (T : Txt K mg cl ad fd fi za) : FnOk P w K mg base (L2.CX P w) 5 (ad 53) (fd 53) ["deck"] (spD K 0 f_law_asks) :=
  fn_deck (cl := cl) (k := 4) T.F53 sc_law_asks rfl (by decide) fun cdv A outer s H E hr => by exact (ss_cons (ss_own (m := false) (i := 1) sc_law_asks.nd rfl (by first | exact Or.inl rfl | exact Or.inr rfl) (sf_lst sa_nil)) (ss_cons (ss_for (m := false) (passes_of rfl) rfl (si_rng1 rfl T.n_range (sb_of (se_callD 0 (ok_draw (k := 2) T.F51 T.n_max T.n_int) (hr.mono (by decide)) rfl T.g51 T.F51.kp T.B51 (takes0) (pv 0) (sa_cons se_int sa_nil) (evCons_len evNil_len)))) (pg_name (i := 2) sc_law_asks.nd rfl (by first | exact Or.inl rfl | exact Or.inr rfl)) (tgN_sem (vs := [2]) (i := 2) (by decide)) (ss_cons (ss_par2 (m := false) (i := 3) (j := 4) rfl sc_law_asks.nd rfl rfl (by decide) (se_callD 0 (ok_law_pick T) (hr.mono (by decide)) rfl T.g52 T.F52.kp T.B52 (takes0) (pv 0) (sa_cons (sf_of (sf_lst (sa_cons se_str (sa_cons se_str sa_nil)))) sa_nil) (evCons_len evNil_len)) (se_callD 0 (ok_draw (k := 2) T.F51 T.n_max T.n_int) (hr.mono (by decide)) rfl T.g51 T.F51.kp T.B51 (takes0) (pv 0) (sa_cons se_int sa_nil) (evCons_len evNil_len)) (fun ta h => ps_par rfl sc_law_asks.nd rfl rfl (by decide) rfl rfl h rfl)) (ss_one (ss_if (m := false) (st_cmp op_lt (sem_cmpI (fun i j => decide (i < j))) (sb_var 4 (pv 4)) (sb_of se_int) (nomark _)) (ss_one (ss_do (m := false) (se_app 1 (pv 1) (se_tup (sa_cons (se_var 3 (pv 3)) (sa_cons (se_callD 0 (ok_law_pick T) (hr.mono (by decide)) rfl T.g52 T.F52.kp T.B52 (takes0) (pv 0) (sa_cons (sf_of (sf_lst (sa_cons se_str (sa_cons se_str sa_nil)))) sa_nil) (evCons_len evNil_len)) (sa_cons (se_callD 0 (ok_law_pick T) (hr.mono (by decide)) rfl T.g52 T.F52.kp T.B52 (takes0) (pv 0) (sa_cons (sf_of (sf_lst (sa_cons se_str (sa_cons se_str (sa_cons se_str (sa_cons se_str sa_nil)))))) sa_nil) (evCons_len evNil_len)) (sa_cons (se_callD 0 (ok_law_pick T) (hr.mono (by decide)) rfl T.g52 T.F52.kp T.B52 (takes0) (pv 0) (sa_cons (sf_of (sf_lst (sa_cons se_int (sa_cons se_int (sa_cons (se_neg (sb_of se_int)) (sa_cons se_str sa_nil)))))) sa_nil) (evCons_len evNil_len)) sa_nil))))) rfl (fun t h => pe_bm PySem.F.plainAttrs_list PySem.F.slot_list_append PySem.F.type_list_append mt_append (pv 1) h)))) (ss_one (ss_do (m := false) (se_app 1 (pv 1) (se_tup (sa_cons (se_var 3 (pv 3)) (sa_cons (se_callD 0 (ok_law_pick T) (hr.mono (by decide)) rfl T.g52 T.F52.kp T.B52 (takes0) (pv 0) (sa_cons (sf_of (sf_lst (sa_cons se_str (sa_cons se_str (sa_cons se_str (sa_cons se_str (sa_cons se_str sa_nil))))))) sa_nil) (evCons_len evNil_len)) (sa_cons (se_callD 0 (ok_law_pick T) (hr.mono (by decide)) rfl T.g52 T.F52.kp T.B52 (takes0) (pv 0) (sa_cons (sf_of (sf_lst (sa_cons se_int (sa_cons se_int (sa_cons se_int (sa_cons se_str sa_nil)))))) sa_nil) (evCons_len evNil_len)) sa_nil)))) rfl (fun t h => pe_bm PySem.F.plainAttrs_list PySem.F.slot_list_append PySem.F.type_list_append mt_append (pv 1) h)))))))) (ss_cons (ss_if (m := false) (st_cmp (op_eqD hr.units) sem_eqD (sb_of (se_callD 0 (ok_draw (k := 2) T.F51 T.n_max T.n_int) (hr.mono (by decide)) rfl T.g51 T.F51.kp T.B51 (takes0) (pv 0) (sa_cons se_int sa_nil) (evCons_len evNil_len))) (sb_of se_int) (nomark _)) (ss_one (ss_own (m := false) (i := 1) sc_law_asks.nd rfl (by first | exact Or.inl rfl | exact Or.inr rfl) (sf_bin op_cat sem_addL (sb_of (sf_of (sf_lst (sa_cons (se_tup (sa_cons se_str (sa_cons se_str (sa_cons se_int sa_nil)))) (sa_cons (se_tup (sa_cons se_str (sa_cons se_str (sa_cons se_str sa_nil)))) sa_nil))))) (sb_var 1 (pv 1))))) ss_nil) (ss_one (ss_ret (m := false) (se_ty call_tupF sem_tuple rfl T.n_tuple bt_tuple (sb_of (sf_of (sf_comp (tgN_sem (vs := [5]) (i := 5) (by decide)) (pe_lc (own := [("k", 5)]) rfl sc_law_asks.nd (si_rng1 rfl T.n_range (sb_of (se_b L2.call_len sem_len rfl T.n_len bt_len (sb_var 1 (pv 1))))) (blkOk_by (by show blkC ["deck", "found", "turn", "clock", "way", "k"] (defScope s_law_asks) _ _ = true; decide +kernel)) (fun _ _ _ _ _ => (pg_name (i := 5) sc_law_asks.nd rfl (by first | exact Or.inl rfl | exact Or.inr rfl))) (fun _ _ _ _ _ => pts_yes) (fun _ _ _ _ _ => (se_popAt 1 (pv 1) (sb_of (se_callD 0 (ok_draw (k := 2) T.F51 T.n_max T.n_int) (hr.mono (by decide)) rfl T.g51 T.F51.kp T.B51 (takes0) (pv 0) (sa_cons (se_b L2.call_len sem_len rfl T.n_len bt_len (sb_var 1 (pv 1))) sa_nil) (evCons_len evNil_len))) rfl (fun t h => pe_bm PySem.F.plainAttrs_list PySem.F.slot_list_pop PySem.F.type_list_pop mt_popAt (pv 1) h)))))))))))))
/-! ### _law_is_far -/
def b_law_is_far : Ex := (seqS (forS (evItT (evVar 0)) (tgN 1) (ifS (evT (evBin eqD (ev1 lenD (evVarB 1)) (evLit (.int 4)))) (seqS (ifS (evT (evBin eqD (evBin ixD (evVarB 1) (evLit (.int 0))) (evBin ixD (evVarB 1) (evLit (.int 1))))) (retS (evLit (.bool true))) skipS) (forS (evItT (evSl (evVarB 1) ptNo (ptOf (evLit (.int 2))))) (tgN 2) (ifS (evT (evBin eqD (lstOf (evComp [3] (evItT (evVar 0)) (tgN 3) (evTand (evT (evBin eqD (ev1 lenD (evVarB 3)) (evLit (.int 3)))) (evTand (evT (evBin eqD (evBin ixD (evVarB 3) (evLit (.int 0))) (evVarB 2))) (evT (evBin (inSeq false) (evBin ixD (evVarB 3) (evLit (.int 1))) (evTup (evCons (evLit (.str "<")) (evCons (evLit (.str "<=")) evNil))))))) (evLit (.int 1)))) (lstOf (evLst evNil)))) (retS (evLit (.bool true))) skipS))) skipS)) (retS (evLit (.bool false))))
def f_law_is_far : List D → Ro := runFn 4 b_law_is_far
theorem sc_law_is_far : FnScope ["asks", "it", "clock", "other"] ["asks"] (defScope s_law_is_far) := ⟨rfl, rfl, rfl, by decide +kernel, rfl, by decide +kernel, by decide +kernel⟩
theorem ok_law_is_far {P : Program} {w : World} {K : Fr} {mg : Str → Option Value} {base : Heap} {cl ad : Nat → Addr} {fd : Nat → FuncData} {fi : Nat → Addr} {za : Addr} (T : Txt K mg cl ad fd fi za) : FnOk P w K mg base (L2.CX P w) 3 (ad 54) (fd 54) ["asks"] (spP K cl 1 f_law_is_far) :=
  fn_pure (cl := cl) (k := 2) T.F54 sc_law_is_far rfl (by decide) fun cdv A outer s H E hr => by exact (ss_cons (ss_for (m := false) (passes_of rfl) rfl (si_tup (se_var 0 (pv 0))) (pg_name (i := 1) sc_law_is_far.nd rfl (by first | exact Or.inl rfl | exact Or.inr rfl)) (tgN_sem (vs := [1]) (i := 1) (by decide)) (ss_one (ss_if (m := false) (st_cmp (op_eqD hr.units) sem_eqD (sb_of (se_b L2.call_len sem_len rfl T.n_len bt_len (sb_var 1 (pv 1)))) (sb_of se_int) (nomark _)) (ss_cons (ss_if (m := false) (st_cmp (op_eqD hr.units) sem_eqD (sb_of (se_ix (sb_var 1 (pv 1)) (sb_of se_int))) (sb_of (se_ix (sb_var 1 (pv 1)) (sb_of se_int))) (nomark _)) (ss_one (ss_ret (m := false) se_bool)) ss_nil) (ss_one (ss_for (m := false) (passes_of rfl) rfl (si_tup (se_slice (sb_var 1 (pv 1)) sp_none (sp_some (sb_of se_int)))) (pg_name (i := 2) sc_law_is_far.nd rfl (by first | exact Or.inl rfl | exact Or.inr rfl)) (tgN_sem (vs := [2]) (i := 2) (by decide)) (ss_one (ss_if (m := false) (st_cmp (op_eqD hr.units) sem_eqD (sb_of (sf_of (sf_comp (tgN_sem (vs := [3]) (i := 3) (by decide)) (pe_lc (own := [("other", 3)]) rfl sc_law_is_far.nd (si_tup (se_var 0 (pv 0))) (blkOk_by (by show blkC ["asks", "it", "clock", "other"] (defScope s_law_is_far) _ _ = true; decide +kernel)) (fun _ _ _ _ _ => (pg_name (i := 3) sc_law_is_far.nd rfl (by first | exact Or.inl rfl | exact Or.inr rfl))) (fun _ _ _ _ _ => (pts_one (st_pw (sw_and (st_cmp (op_eqD hr.units) sem_eqD (sb_of (se_b L2.call_len sem_len rfl T.n_len bt_len (sb_var 3 (pv 3)))) (sb_of se_int) (nomark _)) (sw_and (st_cmp (op_eqD hr.units) sem_eqD (sb_of (se_ix (sb_var 3 (pv 3)) (sb_of se_int))) (sb_var 2 (pv 2)) (nomark _)) (sw_and1 (st_cmp op_in_seq (sem_inSeq false) (sb_of (se_ix (sb_var 3 (pv 3)) (sb_of se_int))) (sb_of (se_tup (sa_cons se_str (sa_cons se_str sa_nil)))) (by rfl)))))))) (fun _ _ _ _ _ => se_int))))) (sb_of (sf_of (sf_lst sa_nil))) (nomark _)) (ss_one (ss_ret (m := false) se_bool)) ss_nil))))) ss_nil))) (ss_one (ss_ret (m := false) se_bool)))
end
end Zo
namespace Zo
open PySem PySem.Spec PyProof.Rows L2
noncomputable section
/-! ### _law_refused -/
def b_law_refused : Ex := (seqS (refusedS 0 1 0 (doS (evCallK f_faults_of [0] (evCons (evVar 0) evNil)))) (retS (evLit (.bool false))))
theorem sc_law_refused : FnScope ["thing", "e"] ["thing"] (defScope s_law_refused) := ⟨rfl, rfl, rfl, by decide +kernel, rfl, by decide +kernel, by decide +kernel⟩
def f_law_refused : List D → Ro := runFn 2 b_law_refused
theorem ok_law_refused {P : Program} {w : World} {K : Fr} {mg : Str → Option Value} {base : Heap} {cl ad : Nat → Addr} {fd : Nat → FuncData} {fi : Nat → Addr} {za : Addr} (T : Txt K mg cl ad fd fi za) : BodyG P w K mg base cl 13 1 (ad 55) (fd 55) "_law_refused" f_law_refused := by
  refine ⟨["thing", "e"], ["thing"], "_law_refused", s_law_refused, b_law_refused, T.F55, sc_law_refused, rfl, by decide, T.B55, rfl, fun outer cdv A s H E hr hga => ?_⟩
  have hgu : (A.deeper (envOfC "_law_refused" (defScope s_law_refused) s.heap.objs.size (ad 55) cdv)).guards = some [] := hga
  exact (ss_cons (ss_refused (c := 0) (i := 1) (j := 0) (n := "e") (y := "thing") (by decide) hgu hr.units rfl rfl sc_law_refused.nd rfl rfl ⟨rfl, by decide, Or.inl T.e0.gC⟩ (takes_of rfl rfl rfl rfl) T.e0 T.i0 T.z0 T.gZ rfl rfl T.n_isinstance rfl T.n_repr (fun W pn xe tk _ => (ss_one (ss_do (m := false) (se_callK (ix := [0]) (ok_faults_of T) (hr.mono (by decide)) rfl T.g49 T.F49.kp T.k49_program (tk) (sk_cons (se_var 0 (pv 0)) sk_nil) rfl (kw_len (ix := [0]) (evCons_len evNil_len) (by decide)))))) (fun _ _ _ _ => pv 1) (fun _ _ _ _ => pv 0)) (ss_one (ss_ret (m := false) se_bool)))
end
end Zo
namespace Zo
open PySem PySem.Spec PyProof.Rows L2
noncomputable section
/-! ### law -/
def b_law : Ex := (seqS (forS (evRng1 (evLit (.int 3))) (tgN 2) (seqS (setS 3 (lstOf (evLst (evCons (evTup evNil) (evCons (evTup (evCons (evTup (evCons (evLit (.str "x")) (evCons (evLit (.str "<=")) (evCons (evLit (.int 4)) evNil)))) evNil)) (evCons (evTup (evCons (evTup (evCons (evLit (.str "x")) (evCons (evLit (.str "<=")) (evCons (evLit (.int 4)) evNil)))) (evCons (evTup (evCons (evLit (.str "y")) (evCons (evLit (.str "<")) (evCons (evLit (.int 3)) evNil)))) evNil))) (evCons (evTup (evCons (evTup (evCons (evLit (.str "y")) (evCons (evLit (.str "<=")) (evCons (evLit (.str "k")) evNil)))) evNil)) evNil))))))) (seqS (setS 4 (lstOf (evComp [5] (evRng1 (evLit (.int 2))) (tgN 5) evYes (evTup (evCons (evBin addS (evLit (.str "p")) (ev1 strI (evVarB 5))) (evCons (evLit (.str "time")) (evCons (evCallD 1 f_law_pick (evCons (evVar 3) evNil)) (evCons (evTup evNil) (evCons (evLit (.int 0)) evNil))))))))) (seqS (ownS 6 (evLst evNil)) (seqS (forS (evRng1 (evBin addI (evLit (.int 1)) (evCallD 1 drawF (evCons (evLit (.int 5)) evNil)))) (tgN 7) (seqS (setS 8 (evCallD 1 f_law_pick (evCons (lstOf (evLst (evCons (evTup evNil) (evCons (evTup (evCons (evLit (.str "x")) evNil)) (evCons (evTup (evCons (evLit (.str "x")) (evCons (evLit (.str "y")) evNil))) evNil))))) evNil))) (doS (evApp 6 (evTup (evCons (evCallD 1 f_law_pick (evCons (lstOf (evLst (evCons (evLit (.str "p0")) (evCons (evLit (.str "p1")) evNil)))) evNil)) (evCons (evCallD 1 f_law_pick (evCons (lstOf (evLst (evCons (evLit (.str "p0")) (evCons (evLit (.str "p1")) evNil)))) evNil)) (evCons (evTup (evCons (evLit (.str "own")) (evCons (evLit (.str "go")) evNil))) (evCons (evCallD 1 f_law_asks evNil) (evCons (evTup evNil) (evCons (evVar 8) (evCons (evTup evNil) (evCons (evLit (.int 0)) evNil))))))))))))) (seqS (setS 9 (evTup (evCons (evLit (.str "m")) (evCons (evTup (evCons (evTup (evCons (evLit (.str "k")) (evCons (evLit (.str "number")) evNil))) evNil)) (evCons (evTup (evCons (evLit (.str "x")) (evCons (evLit (.str "y")) evNil))) (evCons (evTup evNil) (evCons (ev1 tupD (evVarB 4)) (evCons (ev1 tupD (evVarB 6)) evNil)))))))) (seqS (setS 10 (evTup (evCons (evLit (.str "z")) (evCons (evTup evNil) (evCons (evTup evNil) (evCons (evTup evNil) (evCons (evTup (evCons (evTup (evCons (evLit (.str "p0")) (evCons (evLit (.str "time")) (evCons (evTup evNil) (evCons (evTup evNil) (evCons (evLit (.int 0)) evNil)))))) evNil)) (evCons (evTup evNil) evNil)))))))) (seqS (setS 11 (evTup (evCons (evLit (.str "prog")) (evCons (evTup evNil) (evCons (evTup (evCons (evVar 9) (evCons (evVar 10) evNil))) (evCons (evSl (evTup (evCons (evTup (evCons (evLit (.str "a")) (evCons (evLit (.str "m")) (evCons (evTup (evCons (evBin addI (evLit (.int 1)) (evCallD 1 drawF (evCons (evLit (.int 4)) evNil))) evNil)) evNil)))) (evCons (evTup (evCons (evLit (.str "b")) (evCons (evLit (.str "z")) (evCons (evTup evNil) evNil)))) evNil))) ptNo (ptOf (evBin addI (evLit (.int 1)) (evCallD 1 drawF (evCons (evLit (.int 2)) evNil))))) evNil)))))) (seqS (setS 12 (ev1 tupD (lstOf (evComp [5] (evRng1 (ev1 lenD (evVarB 6))) (tgN 5) (evT (evCall f_law_is_far (evCons (evBin ixD (evBin ixD (evVarB 6) (evVarB 5)) (evLit (.int 3))) evNil))) (evTup (evCons (evTup (evCons (evLit (.str "edge")) (evCons (evLit (.str "m")) (evCons (evVar 5) evNil)))) (evCons (evLit (.str "far")) evNil))))))) (seqS (setS 13 (ev1 reprD (evVar 11))) (seqS (ifS (evT (evBin neSt (ev1 reprD (lstOf (evLst (evCons (evCall f_faults_of (evCons (evVar 11) evNil)) (evCons (evCallK f_faults_of [0] (evCons (evVar 11) evNil)) (evCons (evCall f_is_program (evCons (evVar 11) evNil)) evNil)))))) (ev1 reprD (lstOf (evLst (evCons (evVar 12) (evCons (evVar 12) (evCons (evBin eqD (evVarB 12) (evTup evNil)) evNil)))))))) (retS (evLit (.bool false))) skipS) (seqS (setS 14 (evCallD 1 f_law_pick (evCons (lstOf (evLst (evCons (evLit .none) (evCons (lstOf (ev1L listD (evVarB 11))) (evCons (evSl (evVarB 11) ptNo (ptOf (evLit (.int 3)))) (evCons (evTup (evCons (evLit (.str "prog")) (evCons (evTup evNil) (evCons (evTup (evCons (evSl (evVarB 9) ptNo (ptOf (evLit (.int 5)))) (evCons (evVar 10) evNil))) (evCons (evBin ixD (evVarB 11) (evLit (.int 3))) evNil))))) evNil)))))) evNil))) (ifS (evTor (evTnot (evT (evCall f_law_refused (evCons (evVar 14) evNil)))) (evT (evBin neSt (ev1 reprD (evVar 11)) (evVarB 13)))) (retS (evLit (.bool false))) skipS))))))))))))) (retS (evLit (.bool true))))
theorem sc_law : FnScope ["script", "deck", "turn", "keeps", "places", "k", "edges", "go", "resets", "module", "bare", "program", "due", "text", "odd"] ["script"] (defScope s_law) := ⟨rfl, rfl, rfl, by decide +kernel, rfl, by decide +kernel, by decide +kernel⟩
theorem ok_law {P : Program} {w : World} {K : Fr} {mg : Str → Option Value} {base : Heap} {cl ad : Nat → Addr} {fd : Nat → FuncData} {fi : Nat → Addr} {za : Addr} (T : Txt K mg cl ad fd fi za) {s : Shared} {H : Hp} {cdv : Value} {a : Addr} {ns : List Int} (hrun : ∃ s', b_law (lawMs 13 (begun ns 95014)) = .ok (.rt (.bool true)) s') (sq : SqL K H a (ns.map V.int)) :
    ∃ t, PSs (cxOf (L2.CX P w) P w K mg base ["script", "deck", "turn", "keeps", "places", "k", "edges", "go", "resets", "module", "bare", "program", "due", "text", "odd"] "law" (defScope s_law) (ad 56) cdv callerA [] s H (fun _ _ _ => False)) (defBody s_law) t ∧ t { nx := fun _ _ => False, rt := fun v _ => v = .bl true } (start ["script", "deck", "turn", "keeps", "places", "k", "edges", "go", "resets", "module", "bare", "program", "due", "text", "odd"] [.ref a]) H := by
  have hr : Room 14 (callerA.deeper (envOfC "law" (defScope s_law) s.heap.objs.size (ad 56) cdv)) := Room.deeper (k := 14) ⟨rfl, by decide +kernel, by decide +kernel⟩ _
  have hgu : (callerA.deeper (envOfC "law" (defScope s_law) s.heap.objs.size (ad 56) cdv)).guards = some [] := rfl
  exact law_body (cl := cl) (n := 13) sq rfl (ps_set (i := 1) sc_law.nd rfl (by first | exact Or.inl rfl | exact Or.inr rfl) (pe_callS (ok_begun (k := 2) T.F50 T.n_list) (hr.mono (by decide)) rfl T.g50 T.F50.kp T.B50 (fun σ => passAt takes0 σ) (pa_cons (pv 0) (pa_cons pe_int pa_nil)))) (by exact (ss_cons (ss_for (m := false) (passes_of rfl) rfl (si_rng1 rfl T.n_range (sb_of se_int)) (pg_name (i := 2) sc_law.nd rfl (by first | exact Or.inl rfl | exact Or.inr rfl)) (tgN_sem (vs := [2]) (i := 2) (by decide)) (ss_cons (ss_set (m := false) (i := 3) sc_law.nd rfl (by first | exact Or.inl rfl | exact Or.inr rfl) (sf_of (sf_lst (sa_cons (se_tup sa_nil) (sa_cons (se_tup (sa_cons (se_tup (sa_cons se_str (sa_cons se_str (sa_cons se_int sa_nil)))) sa_nil)) (sa_cons (se_tup (sa_cons (se_tup (sa_cons se_str (sa_cons se_str (sa_cons se_int sa_nil)))) (sa_cons (se_tup (sa_cons se_str (sa_cons se_str (sa_cons se_int sa_nil)))) sa_nil))) (sa_cons (se_tup (sa_cons (se_tup (sa_cons se_str (sa_cons se_str (sa_cons se_str sa_nil)))) sa_nil)) sa_nil))))))) (ss_cons (ss_setC (m := false) (i := 4) (tgN_sem (vs := [5]) (i := 5) (by decide)) (ps_setLc (i := 4) (own := [("k", 5)]) rfl sc_law.nd rfl rfl (by rfl) (si_rng1 rfl T.n_range (sb_of se_int)) (blkOk_by (by show blkC ["script", "deck", "turn", "keeps", "places", "k", "edges", "go", "resets", "module", "bare", "program", "due", "text", "odd"] (defScope s_law) _ _ = true; decide +kernel)) (fun _ _ _ _ _ => (pg_name (i := 5) sc_law.nd rfl (by first | exact Or.inl rfl | exact Or.inr rfl))) (fun _ _ _ _ _ => pts_yes) (fun _ _ _ _ _ => (se_tup (sa_cons (se_bin op_add_str sem_addS (sb_of se_str) (sb_of (se_ty call_str_int sem_strI rfl T.n_str bt_str (sb_var 5 (pv 5))))) (sa_cons se_str (sa_cons (se_callD 1 (ok_law_pick T) (hr.mono (by decide)) rfl T.g52 T.F52.kp T.B52 (takes0) (pv 1) (sa_cons (se_var 3 (pv 3)) sa_nil) (evCons_len evNil_len)) (sa_cons (se_tup sa_nil) (sa_cons se_int sa_nil))))))))) (ss_cons (ss_own (m := false) (i := 6) sc_law.nd rfl (by first | exact Or.inl rfl | exact Or.inr rfl) (sf_lst sa_nil)) (ss_cons (ss_for (m := false) (passes_of rfl) rfl (si_rng1 rfl T.n_range (sb_of (se_bin op_add sem_addI (sb_of se_int) (sb_of (se_callD 1 (ok_draw (k := 2) T.F51 T.n_max T.n_int) (hr.mono (by decide)) rfl T.g51 T.F51.kp T.B51 (takes0) (pv 1) (sa_cons se_int sa_nil) (evCons_len evNil_len)))))) (pg_name (i := 7) sc_law.nd rfl (by first | exact Or.inl rfl | exact Or.inr rfl)) (tgN_sem (vs := [7]) (i := 7) (by decide)) (ss_cons (ss_set (m := false) (i := 8) sc_law.nd rfl (by first | exact Or.inl rfl | exact Or.inr rfl) (se_callD 1 (ok_law_pick T) (hr.mono (by decide)) rfl T.g52 T.F52.kp T.B52 (takes0) (pv 1) (sa_cons (sf_of (sf_lst (sa_cons (se_tup sa_nil) (sa_cons (se_tup (sa_cons se_str sa_nil)) (sa_cons (se_tup (sa_cons se_str (sa_cons se_str sa_nil))) sa_nil))))) sa_nil) (evCons_len evNil_len))) (ss_one (ss_do (m := false) (se_app 6 (pv 6) (se_tup (sa_cons (se_callD 1 (ok_law_pick T) (hr.mono (by decide)) rfl T.g52 T.F52.kp T.B52 (takes0) (pv 1) (sa_cons (sf_of (sf_lst (sa_cons se_str (sa_cons se_str sa_nil)))) sa_nil) (evCons_len evNil_len)) (sa_cons (se_callD 1 (ok_law_pick T) (hr.mono (by decide)) rfl T.g52 T.F52.kp T.B52 (takes0) (pv 1) (sa_cons (sf_of (sf_lst (sa_cons se_str (sa_cons se_str sa_nil)))) sa_nil) (evCons_len evNil_len)) (sa_cons (se_tup (sa_cons se_str (sa_cons se_str sa_nil))) (sa_cons (se_callD 1 (ok_law_asks T) (hr.mono (by decide)) rfl T.g53 T.F53.kp T.B53 (takes0) (pv 1) sa_nil evNil_len) (sa_cons (se_tup sa_nil) (sa_cons (se_var 8 (pv 8)) (sa_cons (se_tup sa_nil) (sa_cons se_int sa_nil))))))))) rfl (fun t h => pe_bm PySem.F.plainAttrs_list PySem.F.slot_list_append PySem.F.type_list_append mt_append (pv 6) h)))))) (ss_cons (ss_set (m := false) (i := 9) sc_law.nd rfl (by first | exact Or.inl rfl | exact Or.inr rfl) (se_tup (sa_cons se_str (sa_cons (se_tup (sa_cons (se_tup (sa_cons se_str (sa_cons se_str sa_nil))) sa_nil)) (sa_cons (se_tup (sa_cons se_str (sa_cons se_str sa_nil))) (sa_cons (se_tup sa_nil) (sa_cons (se_ty call_tupF sem_tuple rfl T.n_tuple bt_tuple (sb_var 4 (pv 4))) (sa_cons (se_ty call_tupF sem_tuple rfl T.n_tuple bt_tuple (sb_var 6 (pv 6))) sa_nil)))))))) (ss_cons (ss_set (m := false) (i := 10) sc_law.nd rfl (by first | exact Or.inl rfl | exact Or.inr rfl) (se_tup (sa_cons se_str (sa_cons (se_tup sa_nil) (sa_cons (se_tup sa_nil) (sa_cons (se_tup sa_nil) (sa_cons (se_tup (sa_cons (se_tup (sa_cons se_str (sa_cons se_str (sa_cons (se_tup sa_nil) (sa_cons (se_tup sa_nil) (sa_cons se_int sa_nil)))))) sa_nil)) (sa_cons (se_tup sa_nil) sa_nil)))))))) (ss_cons (ss_set (m := false) (i := 11) sc_law.nd rfl (by first | exact Or.inl rfl | exact Or.inr rfl) (se_tup (sa_cons se_str (sa_cons (se_tup sa_nil) (sa_cons (se_tup (sa_cons (se_var 9 (pv 9)) (sa_cons (se_var 10 (pv 10)) sa_nil))) (sa_cons (se_slice (sb_of (se_tup (sa_cons (se_tup (sa_cons se_str (sa_cons se_str (sa_cons (se_tup (sa_cons (se_bin op_add sem_addI (sb_of se_int) (sb_of (se_callD 1 (ok_draw (k := 2) T.F51 T.n_max T.n_int) (hr.mono (by decide)) rfl T.g51 T.F51.kp T.B51 (takes0) (pv 1) (sa_cons se_int sa_nil) (evCons_len evNil_len)))) sa_nil)) sa_nil)))) (sa_cons (se_tup (sa_cons se_str (sa_cons se_str (sa_cons (se_tup sa_nil) sa_nil)))) sa_nil)))) sp_none (sp_some (sb_of (se_bin op_add sem_addI (sb_of se_int) (sb_of (se_callD 1 (ok_draw (k := 2) T.F51 T.n_max T.n_int) (hr.mono (by decide)) rfl T.g51 T.F51.kp T.B51 (takes0) (pv 1) (sa_cons se_int sa_nil) (evCons_len evNil_len))))))) sa_nil)))))) (ss_cons (ss_set (m := false) (i := 12) sc_law.nd rfl (by first | exact Or.inl rfl | exact Or.inr rfl) (se_ty call_tupF sem_tuple rfl T.n_tuple bt_tuple (sb_of (sf_of (sf_comp (tgN_sem (vs := [5]) (i := 5) (by decide)) (pe_lc (own := [("k", 5)]) rfl sc_law.nd (si_rng1 rfl T.n_range (sb_of (se_b L2.call_len sem_len rfl T.n_len bt_len (sb_var 6 (pv 6))))) (blkOk_by (by show blkC ["script", "deck", "turn", "keeps", "places", "k", "edges", "go", "resets", "module", "bare", "program", "due", "text", "odd"] (defScope s_law) _ _ = true; decide +kernel)) (fun _ _ _ _ _ => (pg_name (i := 5) sc_law.nd rfl (by first | exact Or.inl rfl | exact Or.inr rfl))) (fun _ _ _ _ _ => (pts_one (st_val (se_call (ok_law_is_far T) (hr.mono (by decide)) rfl T.g54 T.F54.kp T.B54 (takes0) (sa_cons (se_ix (sb_of (se_ix (sb_var 6 (pv 6)) (sb_var 5 (pv 5)))) (sb_of se_int)) sa_nil) (evCons_len evNil_len))))) (fun _ _ _ _ _ => (se_tup (sa_cons (se_tup (sa_cons se_str (sa_cons se_str (sa_cons (se_var 5 (pv 5)) sa_nil)))) (sa_cons se_str sa_nil)))))))))) (ss_cons (ss_set (m := false) (i := 13) sc_law.nd rfl (by first | exact Or.inl rfl | exact Or.inr rfl) (se_repr hgu hr.units rfl T.n_repr (se_var 11 (pv 11)))) (ss_cons (ss_if (m := false) (st_cmp op_ne sem_neSt (sb_of (se_repr hgu hr.units rfl T.n_repr (sf_of (sf_lst (sa_cons (se_call (ok_faults_of T) (hr.mono (by decide)) rfl T.g49 T.F49.kp T.B49 (takes0) (sa_cons (se_var 11 (pv 11)) sa_nil) (evCons_len evNil_len)) (sa_cons (se_callK (ix := [0]) (ok_faults_of T) (hr.mono (by decide)) rfl T.g49 T.F49.kp T.k49_program (takes0) (sk_cons (se_var 11 (pv 11)) sk_nil) rfl (kw_len (ix := [0]) (evCons_len evNil_len) (by decide))) (sa_cons (se_call (ok_is_program T) (hr.mono (by decide)) rfl T.g48 T.F48.kp T.B48 (takes0) (sa_cons (se_var 11 (pv 11)) sa_nil) (evCons_len evNil_len)) sa_nil))))))) (sb_of (se_repr hgu hr.units rfl T.n_repr (sf_of (sf_lst (sa_cons (se_var 12 (pv 12)) (sa_cons (se_var 12 (pv 12)) (sa_cons (se_cmp (op_eqD hr.units) sem_eqD (sb_var 12 (pv 12)) (sb_of (se_tup sa_nil)) (nomark _)) sa_nil))))))) (nomark _)) (ss_one (ss_ret (m := false) se_bool)) ss_nil) (ss_cons (ss_set (m := false) (i := 14) sc_law.nd rfl (by first | exact Or.inl rfl | exact Or.inr rfl) (se_callD 1 (ok_law_pick T) (hr.mono (by decide)) rfl T.g52 T.F52.kp T.B52 (takes0) (pv 1) (sa_cons (sf_of (sf_lst (sa_cons se_none (sa_cons (sf_of (sf_ty L2.call_list_of sem_list rfl T.n_list bt_list (sb_var 11 (pv 11)))) (sa_cons (se_slice (sb_var 11 (pv 11)) sp_none (sp_some (sb_of se_int))) (sa_cons (se_tup (sa_cons se_str (sa_cons (se_tup sa_nil) (sa_cons (se_tup (sa_cons (se_slice (sb_var 9 (pv 9)) sp_none (sp_some (sb_of se_int))) (sa_cons (se_var 10 (pv 10)) sa_nil))) (sa_cons (se_ix (sb_var 11 (pv 11)) (sb_of se_int)) sa_nil))))) sa_nil)))))) sa_nil) (evCons_len evNil_len))) (ss_one (ss_if (m := false) (st_pw (sw_or (st_not (st_val (se_callGG (g := f_law_refused) (k := 13) (ok_law_refused T) (hr.mono (by decide)) hgu rfl T.g55 (takes0) (sa_cons (se_var 14 (pv 14)) sa_nil) (evCons_len evNil_len)))) (sw_or1 (st_cmp op_ne sem_neSt (sb_of (se_repr hgu hr.units rfl T.n_repr (se_var 11 (pv 11)))) (sb_var 13 (pv 13)) (nomark _))))) (ss_one (ss_ret (m := false) se_bool)) ss_nil)))))))))))))) (ss_one (ss_ret (m := false) se_bool)))) hrun
end
end Zo
/-! K14A: what the law draws, in plain Lean; asks. -/
namespace Zo
open PySem PySem.Spec PyProof.Rows L2
inductive Q4 where
  | q0 | q1 | q2 | q3
def opD : Q4 → Str
  | .q0 => "<"
  | .q1 => "<="
  | .q2 => ">="
  | .q3 => ">"
def v4 : Q4 → D
  | .q0 => .int 0
  | .q1 => .int 1
  | .q2 => .int (-2)
  | .q3 => .str "k"
def v3 : Q4 → D
  | .q0 => .int 0
  | .q1 => .int 1
  | .q2 => .int 3
  | .q3 => .str "k"
def clk (c : Bool) : Str := if c = true then "y" else "x"
inductive Ask where
  | four (c o : Bool) (p v : Q4)
  | three (c : Bool) (p v : Q4)
def Ask.d : Ask → D
  | .four c o p v => .tuple [.str (clk c), .str (clk o), .str (opD p), v4 v]
  | .three c p v => .tuple [.str (clk c), .str (opD p), v3 v]
def upQ : Q4 → Bool
  | .q0 => true
  | .q1 => true
  | _ => false
def Ask.up : Ask → Bool
  | .four .. => false
  | .three _ p _ => upQ p
def Ask.c : Ask → Bool
  | .four c .. => c
  | .three c .. => c
def Ask.upc (a : Ask) (c : Bool) : Bool := a.up && (a.c == c)
def farB (as : List Ask) : Ask → Bool
  | .four c o _ _ => (c == o) || (!(as.any fun a => a.upc c) || !(as.any fun a => a.upc o))
  | .three .. => false
theorem v_is_ask (a : Ask) : f_is_ask [a.d] = .ok (.bool true) := by
  cases a with
  | four c o p v => cases c <;> cases o <;> cases p <;> cases v <;> rfl
  | three c p v => cases c <;> cases p <;> cases v <;> rfl
def sortsM : D := .dict [(.str "p1", .str "place"), (.str "p0", .str "place"), (.str "y", .str "clock"), (.str "x", .str "clock"), (.str "k", .str "number param")]
def namesM : D := .dict [(.str mkC, .str "Names"), (.str "is_twice", .bool false), (.str "sorts", sortsM), (.str "channels", .dict [])]
def emp : D := .str ""
theorem v_ask_words (a : Ask) : f_ask_words [namesM, a.d] = .ok (.list (match a with | .four .. => [emp, emp, emp] | .three .. => [emp, emp])) := by
  cases a with
  | four c o p v => cases c <;> cases o <;> cases p <;> cases v <;> rfl
  | three c p v => cases c <;> cases p <;> cases v <;> rfl
end Zo
/-! K14B: far, by the program and by the law. -/
namespace Zo
open PySem PySem.Spec PyProof.Rows L2
def isUpD : D → Bool
  | .tuple [_, .str p, _] => p == "<" || p == "<="
  | _ => false
def fstD : D → D
  | .tuple (x :: _) => x
  | d => d
theorem isUp_d (a : Ask) : isUpD a.d = a.up := by
  cases a with
  | four c o p v => rfl
  | three c p v => cases p <;> rfl
theorem fst_d (a : Ask) : fstD a.d = .str (clk a.c) := by cases a <;> rfl
theorem clk_eq (a b : Bool) : (clk a == clk b) = (a == b) := by cases a <;> cases b <;> rfl
def bdL (as : List Ask) : List D := (as.filter Ask.up).map fun a => .str (clk a.c)
theorem bd_eq (as : List Ask) : ((as.map Ask.d).filter isUpD).map fstD = bdL as := by
  unfold bdL
  rw [List.filter_map, List.map_map]
  have e : (isUpD ∘ Ask.d) = Ask.up := funext fun a => isUp_d a
  have e2 : (fstD ∘ Ask.d) = fun a => PyData.str (clk a.c) := funext fun a => fst_d a
  rw [e, e2]
theorem in_bd (as : List Ask) (c : Bool) : inSeq true (.str (clk c)) (.list (bdL as)) = some (.bool (!(as.any fun a => a.upc c))) := by
  have h : (bdL as).all flatD = true := by simp [bdL, flatD]
  have e : ((bdL as).any fun y => eqFlat y (.str (clk c))) = as.any fun a => a.upc c := by
    unfold bdL
    rw [List.any_map, List.any_filter]
    refine congrArg (fun f => as.any f) (funext fun a => ?_)
    show (a.up && (clk a.c == clk c)) = a.upc c
    rw [clk_eq]
    rfl
  have e2 : inItems (.str (clk c)) (bdL as) = some (as.any fun a => a.upc c) := by
    unfold inItems
    rw [if_pos ⟨rfl, h⟩, e]
  show (inItems (.str (clk c)) (bdL as)).map _ = _
  rw [e2]
  rfl
theorem comp_lst {vs : List Nat} {src : Evs} {tgt : D → Ms → Option Ms} {cond : Ms → Out Bool} {elt : Ev} {s s1 s2 : Ms} {ds es : List D} (h1 : src s = .ok ds s1) (h2 : compGo vs tgt cond elt ds [] (forgetS vs s1) = .ok es s2) : lstOf (evComp vs src tgt cond elt) s = .ok (.list es) s2 := by
  unfold lstOf evComp
  rw [h1]
  simp only [Out.bind_ok]
  rw [h2]
  rfl
theorem bd_comp (as : List Ask) (hl : as.length ≤ 1000) (x1 x2 : Sv) (k : Dk) (sm : Bool) :
    lstOf (evComp [3] (evItT (evVar 0)) (tgN 3) (evTand (evT (evBin eqD (ev1 lenD (evVarB 3)) (evLit (.int 3)))) (evT (evBin (inSeq false) (evBin ixD (evVarB 3) (evLit (.int 1))) (evLit (.tuple [(.str "<"), (.str "<=")]))))) (evBin ixD (evVarB 3) (evLit (.int 0)))) ⟨[.fz (.tuple (as.map Ask.d)), x1, x2, .un], k, sm⟩ =
      .ok (.list (bdL as)) ⟨[.fz (.tuple (as.map Ask.d)), x1, x2, .un], k, sm⟩ := by
  refine comp_lst (ds := as.map Ask.d) rfl ?_
  have q := comp_filter (vs := [3]) (tgt := tgN 3) (cond := evTand (evT (evBin eqD (ev1 lenD (evVarB 3)) (evLit (.int 3)))) (evT (evBin (inSeq false) (evBin ixD (evVarB 3) (evLit (.int 1))) (evLit (.tuple [(.str "<"), (.str "<=")]))))) (elt := evBin ixD (evVarB 3) (evLit (.int 0))) isUpD fstD
    (s0 := ⟨[.fz (.tuple (as.map Ask.d)), x1, x2, .un], k, sm⟩) (as.map Ask.d) [] (fun d hd => by
      obtain ⟨a, ha, e⟩ := List.mem_map.mp hd
      subst e
      refine ⟨_, rfl, ?_, fun _ => ?_, rfl⟩
      · cases a with
        | four c o p v => rfl
        | three c p v => cases p <;> rfl
      · cases a <;> rfl) (by simp; omega)
  rw [bd_eq, List.nil_append] at q
  exact q
theorem v_is_far (as : List Ask) (hl : as.length ≤ 1000) (a : Ask) : f_is_far [.tuple (as.map Ask.d), a.d] = .ok (.bool (farB as a)) := by
  have e0 : f_is_far [.tuple (as.map Ask.d), a.d] = roOf (b_is_far ⟨[.fz (.tuple (as.map Ask.d)), .fz a.d, .un, .un], dk0, false⟩) := rfl
  rw [e0]
  cases a with
  | three c p v => rfl
  | four c o p v =>
    have h2 := bd_comp as hl (.fz (Ask.four c o p v).d) .un dk0 false
    have e1 : b_is_far ⟨[.fz (.tuple (as.map Ask.d)), .fz (Ask.four c o p v).d, .un, .un], dk0, false⟩ = .ok (.rt (.bool (farB as (.four c o p v)))) ⟨[.fz (.tuple (as.map Ask.d)), .fz (Ask.four c o p v).d, .fz (.list (bdL as)), .un], dk0, false⟩ := by
      unfold b_is_far
      refine (seqS_nx (s1 := ⟨[.fz (.tuple (as.map Ask.d)), .fz (Ask.four c o p v).d, .un, .un], dk0, false⟩) rfl).trans ?_
      refine (seqS_nx (setS_ok h2)).trans ?_
      have i1 := in_bd as c
      have i2 := in_bd as o
      have i0 : eqD (.str (clk c)) (.str (clk o)) = some (.bool (c == o)) := by
        rw [eqS (by cases c <;> decide +kernel) (by cases o <;> decide +kernel), clk_eq]
      have g0 : ixD (Ask.four c o p v).d (.int 0) = some (.str (clk c)) := rfl
      have g1 : ixD (Ask.four c o p v).d (.int 1) = some (.str (clk o)) := rfl
      simp only [retS, evOr, evBin, evVarB, evLit, List.set, List.getElem?_cons_zero, List.getElem?_cons_succ, Out.bind_ok, g0, g1, i0, i1, i2, toOut_some, asBool]
      rw [show farB as (.four c o p v) = ((c == o) || (!(as.any fun a => a.upc c) || !(as.any fun a => a.upc o))) from rfl]
      generalize (c == o) = b1
      generalize (as.any fun a => a.upc c) = b2
      generalize (as.any fun a => a.upc o) = b3
      cases b1 <;> cases b2 <;> cases b3 <;> rfl
    rw [e1]
    rfl
/-! ### the law's own look -/
def onesL (as : List Ask) (c : Bool) : List D := (as.filter fun a => a.upc c).map fun _ => .int 1
def isUpcD (c : Bool) : D → Bool
  | .tuple [x, .str p, _] => eqFlat x (.str (clk c)) && (p == "<" || p == "<=")
  | _ => false
theorem isUpc_d (a : Ask) (c : Bool) : isUpcD c a.d = a.upc c := by
  cases a with
  | four c' o p v => rfl
  | three c' p v => cases c <;> cases c' <;> cases p <;> rfl
theorem ones_eq (as : List Ask) (c : Bool) : ((as.map Ask.d).filter (isUpcD c)).map (fun _ => PyData.int 1) = onesL as c := by
  unfold onesL
  rw [List.filter_map, List.map_map]
  have e : (isUpcD c ∘ Ask.d) = fun a => a.upc c := funext fun a => isUpc_d a c
  rw [e]
  rfl
theorem clkS (a b : Bool) : eqD (.str (clk a)) (.str (clk b)) = some (.bool (a == b)) := by
  rw [eqS (by cases a <;> decide +kernel) (by cases b <;> decide +kernel), clk_eq]
def cOnes : Evs := evComp [3] (evItT (evVar 0)) (tgN 3) (evTand (evT (evBin eqD (ev1 lenD (evVarB 3)) (evLit (.int 3)))) (evTand (evT (evBin eqD (evBin ixD (evVarB 3) (evLit (.int 0))) (evVarB 2))) (evT (evBin (inSeq false) (evBin ixD (evVarB 3) (evLit (.int 1))) (evTup (evCons (evLit (.str "<")) (evCons (evLit (.str "<=")) evNil))))))) (evLit (.int 1))
theorem ones_comp (as : List Ask) (hl : as.length ≤ 1000) (c : Bool) (x1 : Sv) : lstOf cOnes ⟨[.fz (.tuple (as.map Ask.d)), x1, .fz (.str (clk c)), .un], dk0, false⟩ = .ok (.list (onesL as c)) ⟨[.fz (.tuple (as.map Ask.d)), x1, .fz (.str (clk c)), .un], dk0, false⟩ := by
  refine comp_lst (ds := as.map Ask.d) rfl ?_
  have q := comp_filter (vs := [3]) (tgt := tgN 3) (cond := evTand (evT (evBin eqD (ev1 lenD (evVarB 3)) (evLit (.int 3)))) (evTand (evT (evBin eqD (evBin ixD (evVarB 3) (evLit (.int 0))) (evVarB 2))) (evT (evBin (inSeq false) (evBin ixD (evVarB 3) (evLit (.int 1))) (evTup (evCons (evLit (.str "<")) (evCons (evLit (.str "<=")) evNil))))))) (elt := evLit (.int 1)) (isUpcD c) (fun _ => .int 1)
    (s0 := ⟨[.fz (.tuple (as.map Ask.d)), x1, .fz (.str (clk c)), .un], dk0, false⟩) (as.map Ask.d) [] (fun d hd => by
      obtain ⟨a, ha, e⟩ := List.mem_map.mp hd
      subst e
      refine ⟨_, rfl, ?_, fun _ => rfl, rfl⟩
      cases a with
      | four c' o p v => rfl
      | three c' p v =>
        have g0 : ixD (Ask.three c' p v).d (.int 0) = some (.str (clk c')) := rfl
        have g1 : ixD (Ask.three c' p v).d (.int 1) = some (.str (opD p)) := rfl
        have g2 : lenD (Ask.three c' p v).d = some (.int 3) := rfl
        have g3 := clkS c' c
        have g4 : inSeq false (.str (opD p)) (.tuple [.str "<", .str "<="]) = some (.bool (upQ p)) := by cases p <;> rfl
        have g5 : isUpcD c (Ask.three c' p v).d = ((c' == c) && upQ p) := by cases c <;> cases c' <;> cases p <;> rfl
        have g6 : eqD (.int 3) (.int 3) = some (.bool true) := rfl
        rw [g5]
        simp only [evTand, evT, evBin, ev1, evVarB, evLit, evTup, evCons, evNil, tgN, List.set, List.getElem?_cons_zero, List.getElem?_cons_succ, Out.bind_ok, g0, g1, g2, g3, g4, g6, toOut_some, asBool, if_true, List.length_cons, List.length_nil]
        cases (c' == c) with
        | false => rfl
        | true => simp [g4, asBool]) (by simp; omega)
  rw [ones_eq, List.nil_append] at q
  exact q
theorem eqNil {ds : List D} (h : ∀ d ∈ ds, Sm d) : eqD (.list ds) (.list []) = some (.bool ds.isEmpty) := by
  have h0 : SeqAt.shaped (.list ([] : List D)) = true := sh_list (by simp)
  unfold eqD
  rw [if_pos ⟨sh_list h, h0⟩]
  cases ds <;> rfl
theorem ones_empty (as : List Ask) (c : Bool) : (onesL as c).isEmpty = !(as.any fun a => a.upc c) := by
  unfold onesL
  rw [List.isEmpty_map]
  induction as with
  | nil => rfl
  | cons a as ih =>
    rw [List.filter_cons, List.any_cons]
    cases h : a.upc c with
    | true => simp
    | false => simpa using ih
def bFar : Ex := ifS (evT (evBin eqD (lstOf cOnes) (lstOf (evLst evNil)))) (retS (evLit (.bool true))) skipS
abbrev stF (as : List Ask) (x1 x2 : Sv) : Ms := ⟨[.fz (.tuple (as.map Ask.d)), x1, x2, .un], dk0, false⟩
theorem bFar_ok (as : List Ask) (hl : as.length ≤ 1000) (c : Bool) (x1 : Sv) : bFar (stF as x1 (.fz (.str (clk c)))) = if (as.any fun a => a.upc c) = true then .ok .nx (stF as x1 (.fz (.str (clk c)))) else .ok (.rt (.bool true)) (stF as x1 (.fz (.str (clk c)))) := by
  have h := ones_comp as hl c x1
  have h2 := eqNil (ds := onesL as c) (fun d hd => by
    unfold onesL at hd
    obtain ⟨a, _, e⟩ := List.mem_map.mp hd
    subst e
    exact ⟨by decide +kernel, by decide +kernel⟩)
  rw [ones_empty] at h2
  have h3 : lstOf (evLst evNil) (stF as x1 (.fz (.str (clk c)))) = .ok (.list []) (stF as x1 (.fz (.str (clk c)))) := rfl
  unfold bFar ifS evT evBin
  rw [h]
  simp only [Out.bind_ok, h3, h2, toOut_some, asBool]
  generalize (as.any fun a => a.upc c) = b
  cases b <;> rfl
def bAsk : Ex := (ifS (evT (evBin eqD (ev1 lenD (evVarB 1)) (evLit (.int 4)))) (seqS (ifS (evT (evBin eqD (evBin ixD (evVarB 1) (evLit (.int 0))) (evBin ixD (evVarB 1) (evLit (.int 1))))) (retS (evLit (.bool true))) skipS) (forS (evItT (evSl (evVarB 1) ptNo (ptOf (evLit (.int 2))))) (tgN 2) bFar)) skipS)
theorem bAsk_ok (as : List Ask) (hl : as.length ≤ 1000) (a : Ask) (x2 : Sv) : ∃ y, bAsk (stF as (.fz a.d) x2) = if farB as a = true then .ok (.rt (.bool true)) (stF as (.fz a.d) y) else .ok .nx (stF as (.fz a.d) y) := by
  cases a with
  | three c p v => exact ⟨x2, rfl⟩
  | four c o p v =>
    have e4 : bAsk (stF as (.fz (Ask.four c o p v).d) x2) = (seqS (ifS (evT (evBin eqD (evBin ixD (evVarB 1) (evLit (.int 0))) (evBin ixD (evVarB 1) (evLit (.int 1))))) (retS (evLit (.bool true))) skipS) (forS (evItT (evSl (evVarB 1) ptNo (ptOf (evLit (.int 2))))) (tgN 2) bFar)) (stF as (.fz (Ask.four c o p v).d) x2) := rfl
    rw [e4, show farB as (.four c o p v) = ((c == o) || (!(as.any fun a => a.upc c) || !(as.any fun a => a.upc o))) from rfl]
    have g0 : ixD (Ask.four c o p v).d (.int 0) = some (.str (clk c)) := rfl
    have g1 : ixD (Ask.four c o p v).d (.int 1) = some (.str (clk o)) := rfl
    have i0 := clkS c o
    have e5 : ifS (evT (evBin eqD (evBin ixD (evVarB 1) (evLit (.int 0))) (evBin ixD (evVarB 1) (evLit (.int 1))))) (retS (evLit (.bool true))) skipS (stF as (.fz (Ask.four c o p v).d) x2) = if (c == o) = true then .ok (.rt (.bool true)) (stF as (.fz (Ask.four c o p v).d) x2) else .ok .nx (stF as (.fz (Ask.four c o p v).d) x2) := by
      simp only [ifS, evT, evBin, evVarB, evLit, stF, List.getElem?_cons_zero, List.getElem?_cons_succ, Out.bind_ok, g0, g1, i0, toOut_some, asBool]
      cases (c == o) <;> rfl
    cases hco : (c == o) with
    | true =>
      refine ⟨x2, ?_⟩
      unfold seqS
      rw [e5, hco]
      rfl
    | false =>
      have e6 := seqS_nx (b := forS (evItT (evSl (evVarB 1) ptNo (ptOf (evLit (.int 2))))) (tgN 2) bFar) (e5.trans (by rw [hco]; rfl))
      rw [e6]
      have e7 : forS (evItT (evSl (evVarB 1) ptNo (ptOf (evLit (.int 2))))) (tgN 2) bFar (stF as (.fz (Ask.four c o p v).d) x2) = stepS (bFar (stF as (.fz (Ask.four c o p v).d) (.fz (.str (clk c))))) (forGo (tgN 2) bFar [.str (clk o)]) := rfl
      have e8 : forGo (tgN 2) bFar [.str (clk o)] (stF as (.fz (Ask.four c o p v).d) (.fz (.str (clk c)))) = stepS (bFar (stF as (.fz (Ask.four c o p v).d) (.fz (.str (clk o))))) (forGo (tgN 2) bFar []) := rfl
      rw [e7, bFar_ok as hl c]
      cases h1 : (as.any fun a => a.upc c) with
      | false => exact ⟨_, rfl⟩
      | true =>
        refine ⟨.fz (.str (clk o)), ?_⟩
        have e9 : stepS (if true = true then (.ok .nx (stF as (.fz (Ask.four c o p v).d) (.fz (.str (clk c)))) : Out Fl) else .ok (.rt (.bool true)) (stF as (.fz (Ask.four c o p v).d) (.fz (.str (clk c))))) (forGo (tgN 2) bFar [.str (clk o)]) = forGo (tgN 2) bFar [.str (clk o)] (stF as (.fz (Ask.four c o p v).d) (.fz (.str (clk c)))) := rfl
        rw [e9, e8, bFar_ok as hl o]
        cases h2 : (as.any fun a => a.upc o) <;> rfl
theorem far_loop (as : List Ask) (hl : as.length ≤ 1000) : ∀ (bs : List Ask) (x1 x2 : Sv), ∃ y1 y2, forGo (tgN 1) bAsk (bs.map Ask.d) (stF as x1 x2) = if bs.any (farB as) = true then .ok (.rt (.bool true)) (stF as y1 y2) else .ok .nx (stF as y1 y2)
  | [], x1, x2 => ⟨x1, x2, rfl⟩
  | b :: bs, x1, x2 => by
    obtain ⟨y, e⟩ := bAsk_ok as hl b x2
    have e0 : forGo (tgN 1) bAsk ((b :: bs).map Ask.d) (stF as x1 x2) = stepS (bAsk (stF as (.fz b.d) x2)) (forGo (tgN 1) bAsk (bs.map Ask.d)) := rfl
    rw [e0, e, List.any_cons]
    cases h : farB as b with
    | true => exact ⟨_, _, rfl⟩
    | false =>
      obtain ⟨y1, y2, e2⟩ := far_loop as hl bs (.fz b.d) y
      exact ⟨y1, y2, e2⟩
theorem v_law_is_far (as : List Ask) (hl : as.length ≤ 1000) : f_law_is_far [.tuple (as.map Ask.d)] = .ok (.bool (as.any (farB as))) := by
  obtain ⟨y1, y2, e⟩ := far_loop as hl as .un .un
  have eb : b_law_is_far = seqS (forS (evItT (evVar 0)) (tgN 1) bAsk) (retS (evLit (.bool false))) := rfl
  have e0 : f_law_is_far [.tuple (as.map Ask.d)] = roOf (b_law_is_far (stF as .un .un)) := rfl
  have e1 : forS (evItT (evVar 0)) (tgN 1) bAsk (stF as .un .un) = forGo (tgN 1) bAsk (as.map Ask.d) (stF as .un .un) := rfl
  rw [e0, eb]
  unfold seqS
  rw [e1, e]
  cases as.any (farB as) <;> rfl
end Zo
/-! K14C: edges. -/
namespace Zo
open PySem PySem.Spec PyProof.Rows L2
inductive R3 where
  | r0 | r1 | r2
def resL : R3 → List D
  | .r0 => []
  | .r1 => [.str "x"]
  | .r2 => [.str "x", .str "y"]
def pl (b : Bool) : Str := if b = true then "p1" else "p0"
structure Ed where
  s : Bool
  t : Bool
  as : List Ask
  r : R3
def Ed.d (e : Ed) : D := .tuple [.str (pl e.s), .str (pl e.t), .tuple [.str "own", .str "go"], .tuple (e.as.map Ask.d), .tuple [], .tuple (resL e.r), .tuple [], .int 0]
theorem ext_do {i : Nat} {a : Ev} {s s1 : Ms} {ds es : List D} (h0 : ∃ ds0, s.env[i]? = some (.own ds0)) (h : a s = .ok (.list es) s1) (h1 : s1.env[i]? = some (.own ds)) (hl : ds.length + es.length < 1000000) : doS (evExt i a) s = .ok .nx { s1 with env := s1.env.set i (.own (ds ++ es)) } := by
  obtain ⟨ds0, h0⟩ := h0
  simp [doS, evExt, h0, h, h1, hl]
theorem app_do {i : Nat} {a : Ev} {s s1 : Ms} {ds : List D} {d : D} (h0 : ∃ ds0, s.env[i]? = some (.own ds0)) (h : a s = .ok d s1) (h1 : s1.env[i]? = some (.own ds)) (hl : ds.length < 1000000) : doS (evApp i a) s = .ok .nx { s1 with env := s1.env.set i (.own (ds ++ [d])) } := by
  obtain ⟨ds0, h0⟩ := h0
  simp [doS, evApp, h0, h, h1, hl]
theorem yes_comp {as : List Ask} (hl : as.length ≤ 1000) (d : D) (h : ixD d (.int 3) = some (.tuple (as.map Ask.d))) : lstOf (evComp [1] (evItT (evBin ixD (evVarB 0) (evLit (.int 3)))) (tgN 1) evYes (evCall f_is_ask (evCons (evVar 1) evNil))) ⟨[.fz d, .un], dk0, false⟩ = .ok (.list (as.map fun _ => .bool true)) ⟨[.fz d, .un], dk0, false⟩ := by
  have hs : evItT (evBin ixD (evVarB 0) (evLit (.int 3))) ⟨[.fz d, .un], dk0, false⟩ = .ok (as.map Ask.d) ⟨[.fz d, .un], dk0, false⟩ := by
    simp only [evItT, evBin, evVarB, evLit, List.getElem?_cons_zero, Out.bind_ok, h, toOut_some]
  refine comp_lst hs ?_
  have q := comp_map (vs := [1]) (tgt := tgN 1) (elt := evCall f_is_ask (evCons (evVar 1) evNil)) (fun _ => .bool true) (s0 := ⟨[.fz d, .un], dk0, false⟩) (as.map Ask.d) [] (fun x hx => by
    obtain ⟨a, ha, e⟩ := List.mem_map.mp hx
    subst e
    refine ⟨_, rfl, ?_, rfl⟩
    have e : evCall f_is_ask (evCons (evVar 1) evNil) ⟨[.fz d, .fz a.d], dk0, false⟩ = ofRo (f_is_ask [a.d]) ⟨[.fz d, .fz a.d], dk0, false⟩ := rfl
    exact e.trans (by rw [v_is_ask]; rfl)) (by simp; omega)
  rw [List.map_map] at q
  exact q
theorem v_is_edge (e : Ed) (hl : e.as.length ≤ 1000) : f_is_edge [e.d] = .ok (.bool true) := by
  obtain ⟨s, t, as, r⟩ := e
  have e0 : f_is_edge [(Ed.mk s t as r).d] = roOf (b_is_edge ⟨[.fz (Ed.mk s t as r).d, .un], dk0, false⟩) := rfl
  rw [e0]
  have hy := yes_comp (as := as) hl (Ed.mk s t as r).d rfl
  have ha := all_map (fun _ : Ask => true) as
  have hat : as.all (fun _ => true) = true := by simp
  rw [hat] at ha
  have c2 : ifS (evTor (evTnot (evT (ev1 (isiD "tuple") (evBin ixD (evVarB 0) (evLit (.int 3)))))) (evTnot (evT (ev1 allD (lstOf (evComp [1] (evItT (evBin ixD (evVarB 0) (evLit (.int 3)))) (tgN 1) evYes (evCall f_is_ask (evCons (evVar 1) evNil)))))))) (retS (evLit (.bool false))) skipS ⟨[.fz (Ed.mk s t as r).d, .un], dk0, false⟩ = .ok .nx ⟨[.fz (Ed.mk s t as r).d, .un], dk0, false⟩ := by
    have g0 : evTnot (evT (ev1 (isiD "tuple") (evBin ixD (evVarB 0) (evLit (.int 3))))) ⟨[.fz (Ed.mk s t as r).d, .un], dk0, false⟩ = .ok false ⟨[.fz (Ed.mk s t as r).d, .un], dk0, false⟩ := rfl
    have g1 : evTnot (evT (ev1 allD (lstOf (evComp [1] (evItT (evBin ixD (evVarB 0) (evLit (.int 3)))) (tgN 1) evYes (evCall f_is_ask (evCons (evVar 1) evNil)))))) ⟨[.fz (Ed.mk s t as r).d, .un], dk0, false⟩ = .ok false ⟨[.fz (Ed.mk s t as r).d, .un], dk0, false⟩ := by
      simp only [evTnot, evT, ev1, hy, ha, Out.bind_ok, toOut_some, asBool, Bool.not_true]
    simp only [ifS, evTor, g0, g1, Out.bind_ok]
    rfl
  unfold b_is_edge
  have c1 : ∀ b : Ex, seqS (ifS (evTor (evTnot (evT (evCall f_is_tuple_of (evCons (evVar 0) (evCons (evLit (.int 8)) evNil))))) (evTor (evTnot (evT (evCall f_is_name (evCons (evBin ixD (evVarB 0) (evLit (.int 0))) evNil)))) (evTor (evTnot (evT (evCall f_is_name (evCons (evBin ixD (evVarB 0) (evLit (.int 1))) evNil)))) (evTnot (evT (evCall f_is_deed (evCons (evBin ixD (evVarB 0) (evLit (.int 2))) evNil))))))) (retS (evLit (.bool false))) skipS) b ⟨[.fz (Ed.mk s t as r).d, .un], dk0, false⟩ = b ⟨[.fz (Ed.mk s t as r).d, .un], dk0, false⟩ := fun b => by
    refine seqS_nx ?_
    cases s <;> cases t <;> kernel_rfl
  rw [c1, seqS_nx c2]
  cases r <;> kernel_rfl
end Zo
/-! K14D: the words of an edge. -/
namespace Zo
open PySem PySem.Spec PyProof.Rows L2
def aw : Ask → List D
  | .four .. => [emp, emp, emp]
  | .three .. => [emp, emp]
def wd (b : Bool) : D := if b = true then .str "far" else emp
def fw (as : List Ask) (a : Ask) : List D := aw a ++ [wd (farB as a)]
def ewords (e : Ed) : List D := [emp, emp, emp] ++ e.as.flatMap (fw e.as) ++ (resL e.r).map fun _ => emp
theorem v_aw (a : Ask) : f_ask_words [namesM, a.d] = .ok (.list (aw a)) := by
  rw [v_ask_words]
  cases a <;> rfl
theorem aw_len (a : Ask) : (aw a).length ≤ 3 := by cases a <;> simp [aw]
abbrev stE (e : Ed) (w : Sv) (x y : Sv) : Ms := ⟨[.fz namesM, .fz e.d, .fz (.str (pl e.s)), .fz (.str (pl e.t)), .fz (.tuple [.str "own", .str "go"]), .fz (.tuple (e.as.map Ask.d)), .fz (.tuple []), .fz (.tuple (resL e.r)), .fz (.tuple []), .fz (.int 0), w, x, .un, .un, .un, y, .un, .un], dk0, false⟩
def bEx : Ev := evCall f_ask_words (evCons (evVar 0) (evCons (evVar 11) evNil))
def bAp : Ev := evIf (evT (evCall f_is_far (evCons (evVar 5) (evCons (evVar 11) evNil)))) (evLit (.str "far")) (evLit (.str ""))
def bEw : Ex := seqS (doS (evExt 10 bEx)) (doS (evApp 10 bAp))
theorem bEw_ok (e : Ed) (hl : e.as.length ≤ 1000) (a : Ask) (w : List D) (y : Sv) (hw : w.length ≤ 900000) : bEw (stE e (.own w) (.fz a.d) y) = .ok .nx (stE e (.own (w ++ fw e.as a)) (.fz a.d) y) := by
  have h1 : bEx (stE e (.own w) (.fz a.d) y) = .ok (.list (aw a)) (stE e (.own w) (.fz a.d) y) := by
    have z : bEx (stE e (.own w) (.fz a.d) y) = ofRo (f_ask_words [namesM, a.d]) (stE e (.own w) (.fz a.d) y) := rfl
    rw [z, v_aw]; rfl
  have hl3 := aw_len a
  have h2 := ext_do (i := 10) (ds := w) ⟨w, rfl⟩ h1 rfl (by omega)
  have h3 : bAp (stE e (.own (w ++ aw a)) (.fz a.d) y) = .ok (wd (farB e.as a)) (stE e (.own (w ++ aw a)) (.fz a.d) y) := by
    have z : evCall f_is_far (evCons (evVar 5) (evCons (evVar 11) evNil)) (stE e (.own (w ++ aw a)) (.fz a.d) y) = ofRo (f_is_far [.tuple (e.as.map Ask.d), a.d]) (stE e (.own (w ++ aw a)) (.fz a.d) y) := rfl
    rw [v_is_far e.as hl] at z
    unfold bAp evIf evT
    rw [z]
    cases farB e.as a <;> rfl
  have h4 := app_do (i := 10) (ds := w ++ aw a) ⟨w ++ aw a, rfl⟩ h3 rfl (by simp; omega)
  unfold bEw
  rw [seqS_nx h2]
  refine h4.trans ?_
  show Out.ok Fl.nx (stE e (.own ((w ++ aw a) ++ [wd (farB e.as a)])) (.fz a.d) y) = _
  rw [List.append_assoc]
  rfl
theorem fw_len (as : List Ask) (a : Ask) : (fw as a).length ≤ 4 := by
  have := aw_len a
  simp [fw]
  omega
theorem ew_loop (e : Ed) (hl : e.as.length ≤ 1000) (y : Sv) : ∀ (bs : List Ask) (w : List D) (x : Sv), w.length + 4 * bs.length ≤ 900000 → ∃ x1, forGo (tgN 11) bEw (bs.map Ask.d) (stE e (.own w) x y) = .ok .nx (stE e (.own (w ++ bs.flatMap (fw e.as))) x1 y)
  | [], w, x, _ => ⟨x, by simp [forGo]⟩
  | b :: bs, w, x, h => by
    simp only [List.length_cons] at h
    have h4 := fw_len e.as b
    obtain ⟨x1, ih⟩ := ew_loop e hl y bs (w ++ fw e.as b) (.fz b.d) (by simp; omega)
    refine ⟨x1, ?_⟩
    have e0 : forGo (tgN 11) bEw ((b :: bs).map Ask.d) (stE e (.own w) x y) = stepS (bEw (stE e (.own w) (.fz b.d) y)) (forGo (tgN 11) bEw (bs.map Ask.d)) := rfl
    rw [e0, bEw_ok e hl b w y (by omega)]
    refine ih.trans ?_
    simp [List.append_assoc]
theorem v_edge_words (e : Ed) (hl : e.as.length ≤ 1000) : f_edge_words [namesM, e.d] = .ok (.list (ewords e)) := by
  have e0 : f_edge_words [namesM, e.d] = roOf (b_edge_words ⟨[.fz namesM, .fz e.d, .un, .un, .un, .un, .un, .un, .un, .un, .un, .un, .un, .un, .un, .un, .un, .un], dk0, false⟩) := rfl
  rw [e0]
  unfold b_edge_words
  have s1 : unpS [2, 3, 4, 5, 6, 7, 8, 9] (evVar 1) ⟨[.fz namesM, .fz e.d, .un, .un, .un, .un, .un, .un, .un, .un, .un, .un, .un, .un, .un, .un, .un, .un], dk0, false⟩ = .ok .nx (stE e .un .un .un) := rfl
  rw [seqS_nx s1]
  have s2 : ownS 10 (evLst (evCons (evMeth "Names" "word_for" f_Names_word_for (evVar 0) (evCons (evVar 2) (evCons (evTup (evCons (evLit (.str "place")) evNil)) evNil))) (evCons (evMeth "Names" "word_for" f_Names_word_for (evVar 0) (evCons (evVar 3) (evCons (evTup (evCons (evLit (.str "place")) evNil)) evNil))) (evCons (evMeth "Names" "word_for_amount" f_Names_word_for_amount (evVar 0) (evCons (evVar 9) evNil)) evNil)))) (stE e .un .un .un) = .ok .nx (stE e (.own [emp, emp, emp]) .un .un) := by
    obtain ⟨s, t, as, r⟩ := e
    cases s <;> cases t <;> kernel_rfl
  rw [seqS_nx s2]
  have s3 : ifS (evT (evBin neD (evBin ixD (evVarB 4) (evLit (.int 0))) (evLit (.str "own")))) (doS (evApp 10 (evMeth "Names" "word_for_channel" f_Names_word_for_channel (evVar 0) (evCons (evBin ixD (evVarB 4) (evLit (.int 1))) evNil)))) skipS (stE e (.own [emp, emp, emp]) .un .un) = .ok .nx (stE e (.own [emp, emp, emp]) .un .un) := by kernel_rfl
  rw [seqS_nx s3]
  obtain ⟨x1, s4⟩ := ew_loop e hl .un e.as [emp, emp, emp] .un (by simp; omega)
  have s4' : forS (evItT (evVar 5)) (tgN 11) (seqS (doS (evExt 10 (evCall f_ask_words (evCons (evVar 0) (evCons (evVar 11) evNil))))) (doS (evApp 10 (evIf (evT (evCall f_is_far (evCons (evVar 5) (evCons (evVar 11) evNil)))) (evLit (.str "far")) (evLit (.str "")))))) (stE e (.own [emp, emp, emp]) .un .un) = .ok .nx (stE e (.own ([emp, emp, emp] ++ e.as.flatMap (fw e.as))) x1 .un) := s4
  rw [seqS_nx s4']
  generalize hw : [emp, emp, emp] ++ e.as.flatMap (fw e.as) = w
  have hwl : w.length ≤ 5000 := by
    rw [← hw]
    have : ∀ bs : List Ask, (bs.flatMap (fw e.as)).length ≤ 4 * bs.length := fun bs => by
      induction bs with
      | nil => simp
      | cons b bs ih =>
        have := fw_len e.as b
        simp only [List.flatMap_cons, List.length_append, List.length_cons]
        omega
    have := this e.as
    rw [List.length_append, List.length_cons, List.length_cons, List.length_cons, List.length_nil]
    omega
  have s5 : forS (evItT (evVar 6)) (tgT [12, 13, 14]) (doS (evExt 10 (lstOf (evBinL addL (evMeth "Names" "words_in_expr" f_Names_words_in_expr (evVar 0) (evCons (evVar 12) evNil)) (evMeth "Names" "words_in_expr" f_Names_words_in_expr (evVar 0) (evCons (evVar 14) evNil)))))) (stE e (.own w) x1 .un) = .ok .nx (stE e (.own w) x1 .un) := rfl
  rw [seqS_nx s5]
  have hx : lstOf (evComp [15] (evItT (evVar 7)) (tgN 15) evYes (evMeth "Names" "word_for" f_Names_word_for (evVar 0) (evCons (evVar 15) (evCons (evTup (evCons (evLit (.str "clock")) evNil)) evNil)))) (stE e (.own w) x1 .un) = .ok (.list ((resL e.r).map fun _ => emp)) (stE e (.own w) x1 .un) := by
    obtain ⟨s, t, as, r⟩ := e
    cases r <;> kernel_rfl
  have hrl : ((resL e.r).map fun _ => emp).length ≤ 2 := by
    obtain ⟨s, t, as, r⟩ := e
    cases r <;> simp [resL]
  have s6 := ext_do (i := 10) (ds := w) ⟨w, rfl⟩ hx rfl (by omega)
  rw [seqS_nx s6, show ewords e = w ++ (resL e.r).map fun _ => emp by rw [← hw]; rfl]
  rfl
end Zo
/-! K14E: the names of a module. -/
namespace Zo
open PySem PySem.Spec PyProof.Rows L2
inductive K4 where
  | k0 | k1 | k2 | k3
def kp : K4 → List D
  | .k0 => []
  | .k1 => [.tuple [.str "x", .str "<=", .int 4]]
  | .k2 => [.tuple [.str "x", .str "<=", .int 4], .tuple [.str "y", .str "<", .int 3]]
  | .k3 => [.tuple [.str "y", .str "<=", .str "k"]]
def plD (b : Bool) (k : K4) : D := .tuple [.str (pl b), .str "time", .tuple (kp k), .tuple [], .int 0]
def prmD : D := .tuple [.tuple [.str "k", .str "number"]]
def clkD : D := .tuple [.str "x", .str "y"]
def modD (ka kb : K4) (es : List Ed) : D := .tuple [.str "m", prmD, clkD, .tuple [], .tuple [plD false ka, plD true kb], .tuple (es.map Ed.d)]
def bpl : D := .tuple [.str "p0", .str "time", .tuple [], .tuple [], .int 0]
def bareD : D := .tuple [.str "z", .tuple [], .tuple [], .tuple [], .tuple [bpl], .tuple []]
def partA (j : Int) : D := .tuple [.str "a", .str "m", .tuple [.int j]]
def partB : D := .tuple [.str "b", .str "z", .tuple []]
def partsL (n : Bool) (j : Int) : List D := if n = true then [partA j, partB] else [partA j]
def progD (ka kb : K4) (es : List Ed) (n : Bool) (j : Int) : D := .tuple [.str "prog", .tuple [], .tuple [modD ka kb es, bareD], .tuple (partsL n j)]
def sortsZ : D := .dict [(.str "p0", .str "place")]
def namesZ : D := .dict [(.str mkC, .str "Names"), (.str "is_twice", .bool false), (.str "sorts", sortsZ), (.str "channels", .dict [])]
def prs (l : List (Str × Str)) : List D := l.map fun p => .tuple [.str p.1, .str p.2]
theorem names_m (ka kb : K4) (es : List Ed) : f_Names_init [modD ka kb es, .dict []] = some [(.str "is_twice", .bool false), (.str "sorts", sortsM), (.str "channels", .dict [])] := by
  refine initFn_of fun a => ⟨⟨[.obj a "Names" [(.str "is_twice", .bool false), (.str "sorts", sortsM), (.str "channels", .dict [])], .fz (modD ka kb es), .fz (.dict []), .fz (.str "m"), .fz prmD, .fz clkD, .fz (.tuple []), .fz (.tuple [plD false ka, plD true kb]), .fz (.tuple (es.map Ed.d)), .fz (.list (prs [("k", "number param"), ("x", "clock"), ("y", "clock"), ("p0", "place"), ("p1", "place")])), .un, .un, .un, .un, .un], dk0, false⟩, ?_, rfl⟩
  kernel_rfl
theorem names_z : f_Names_init [bareD, .dict []] = some [(.str "is_twice", .bool false), (.str "sorts", sortsZ), (.str "channels", .dict [])] := by
  refine initFn_of fun a => ⟨⟨[.obj a "Names" [(.str "is_twice", .bool false), (.str "sorts", sortsZ), (.str "channels", .dict [])], .fz bareD, .fz (.dict []), .fz (.str "z"), .fz (.tuple []), .fz (.tuple []), .fz (.tuple []), .fz (.tuple [bpl]), .fz (.tuple []), .fz (.list (prs [("p0", "place")])), .un, .un, .un, .un, .un], dk0, false⟩, ?_, rfl⟩
  kernel_rfl
theorem v_is_deaf (e : Ed) (d h : D) : f_is_deaf [e.d, d, h] = .ok (.bool false) := by kernel_rfl
theorem v_place_m (b : Bool) (k : K4) : ∃ w, f_place_words [namesM, plD b k] = .ok (.list w) ∧ w = w.map (fun _ => emp) ∧ w.length ≤ 8 := by
  cases k
  · exact ⟨[emp, emp], by cases b <;> kernel_rfl, rfl, by decide⟩
  · exact ⟨[emp, emp, emp, emp, emp], by cases b <;> kernel_rfl, rfl, by decide⟩
  · exact ⟨[emp, emp, emp, emp, emp, emp, emp, emp], by cases b <;> kernel_rfl, rfl, by decide⟩
  · exact ⟨[emp, emp, emp, emp, emp], by cases b <;> kernel_rfl, rfl, by decide⟩
theorem v_place_z : f_place_words [namesZ, bpl] = .ok (.list [emp, emp]) := by kernel_rfl
end Zo
/-! K14F: the faults of a module. -/
namespace Zo
open PySem PySem.Spec PyProof.Rows L2
def prgD (md : D) (n : Bool) (j : Int) : D := .tuple [.str "prog", .tuple [], .tuple [md, bareD], .tuple (partsL n j)]
theorem new_ok {c : Str} {g : List D → Option (List (D × D))} {as : Evs} {s s1 : Ms} {ds : List D} {es : List (D × D)} (h : as s = .ok ds s1) (hg : g ds = some es) : evNew c g as s = .ok (.dict ((.str mkC, .str c) :: es)) s1 := by
  unfold evNew
  rw [h]
  simp only [Out.bind_ok, hg]
theorem tup2_ok {a b : Ev} {s s1 s2 : Ms} {d e : D} (h : a s = .ok d s1) (k : b s1 = .ok e s2) : evTup (evCons a (evCons b evNil)) s = .ok (.tuple [d, e]) s2 := by
  unfold evTup evCons
  rw [h]
  simp only [Out.bind_ok]
  rw [k]
  rfl
theorem unp_ok {is : List Nat} {a : Ev} {s s1 : Ms} {ds : List D} (h : a s = .ok (.tuple ds) s1) (hl : ds.length = is.length) : unpS is a s = .ok .nx { s1 with env := setMany is ds s1.env } := by
  unfold unpS
  rw [h]
  simp only [Out.bind_ok, hl, if_true]
theorem ev1_ok {f : D → Option D} {a : Ev} {s s1 : Ms} {d e : D} (h : a s = .ok d s1) (k : f d = some e) : ev1 f a s = .ok e s1 := by
  unfold ev1
  rw [h]
  simp only [Out.bind_ok, k, toOut_some]
abbrev stA (P md x2 x3 x4 x6 x7 x8 x9 x10 : Sv) : Ms := ⟨[P, md, x2, x3, x4, .un, x6, x7, x8, x9, x10], dk0, false⟩
theorem v_all_m (ka kb : K4) (es : List Ed) (n : Bool) (j : Int) : f_all_channels [prgD (modD ka kb es) n j, modD ka kb es] = .ok (.dict []) := by
  have e0 : f_all_channels [prgD (modD ka kb es) n j, modD ka kb es] = roOf (b_all_channels (stA (.fz (prgD (modD ka kb es) n j)) (.fz (modD ka kb es)) .un .un .un .un .un .un .un .un)) := rfl
  rw [e0]
  have e1 : ∃ x7 x8 x9 x10, b_all_channels (stA (.fz (prgD (modD ka kb es) n j)) (.fz (modD ka kb es)) .un .un .un .un .un .un .un .un) = .ok (.rt (.dict [])) (stA (.fz (prgD (modD ka kb es) n j)) (.fz (modD ka kb es)) (.fz (.dict [])) (.fz (.list [.str "k"])) (.fz sortsM) (.fz (.dict [])) x7 x8 x9 x10) := by
    unfold b_all_channels
    refine ⟨if n = true then .fz (.str "b") else .fz (.str "a"), if n = true then .fz (.str "z") else .fz (.str "m"), if n = true then .fz (.tuple []) else .fz (.tuple [.int j]), .fz (.dict [(.str "k", .int j)]), ?_⟩
    refine (seqS_nx (s1 := stA (.fz (prgD (modD ka kb es) n j)) (.fz (modD ka kb es)) (.fz (.dict [])) .un .un .un .un .un .un .un) (by kernel_rfl)).trans ?_
    refine (seqS_nx (s1 := stA (.fz (prgD (modD ka kb es) n j)) (.fz (modD ka kb es)) (.fz (.dict [])) (.fz (.list [.str "k"])) (.fz sortsM) .un .un .un .un .un) ?_).trans ?_
    · refine (unp_ok (is := [3, 4]) (ds := [.list [.str "k"], sortsM]) (s1 := stA (.fz (prgD (modD ka kb es) n j)) (.fz (modD ka kb es)) (.fz (.dict [])) .un .un .un .un .un .un .un) ?_ rfl).trans ?_
      · refine tup2_ok (s1 := stA (.fz (prgD (modD ka kb es) n j)) (.fz (modD ka kb es)) (.fz (.dict [])) .un .un .un .un .un .un .un) (by kernel_rfl) ?_
        refine ev1_ok (new_ok (ds := [modD ka kb es, .dict []]) (s1 := stA (.fz (prgD (modD ka kb es) n j)) (.fz (modD ka kb es)) (.fz (.dict [])) .un .un .un .un .un .un .un) (by kernel_rfl) (names_m ka kb es)) ?_
        kernel_rfl
      · rfl
    · cases n <;> kernel_rfl
  obtain ⟨_, _, _, _, e1⟩ := e1
  rw [e1]
  rfl
theorem v_all_z (ka kb : K4) (es : List Ed) (n : Bool) (j : Int) : f_all_channels [prgD (modD ka kb es) n j, bareD] = .ok (.dict []) := by
  have e0 : f_all_channels [prgD (modD ka kb es) n j, bareD] = roOf (b_all_channels (stA (.fz (prgD (modD ka kb es) n j)) (.fz bareD) .un .un .un .un .un .un .un .un)) := rfl
  rw [e0]
  have e1 : ∃ x7 x8 x9 x10, b_all_channels (stA (.fz (prgD (modD ka kb es) n j)) (.fz bareD) .un .un .un .un .un .un .un .un) = .ok (.rt (.dict [])) (stA (.fz (prgD (modD ka kb es) n j)) (.fz bareD) (.fz (.dict [])) (.fz (.list [])) (.fz sortsZ) (.fz (.dict [])) x7 x8 x9 x10) := by
    unfold b_all_channels
    refine ⟨if n = true then .fz (.str "b") else .fz (.str "a"), if n = true then .fz (.str "z") else .fz (.str "m"), if n = true then .fz (.tuple []) else .fz (.tuple [.int j]), if n = true then .fz (.dict []) else .un, ?_⟩
    refine (seqS_nx (s1 := stA (.fz (prgD (modD ka kb es) n j)) (.fz bareD) (.fz (.dict [])) .un .un .un .un .un .un .un) (by kernel_rfl)).trans ?_
    refine (seqS_nx (s1 := stA (.fz (prgD (modD ka kb es) n j)) (.fz bareD) (.fz (.dict [])) (.fz (.list [])) (.fz sortsZ) .un .un .un .un .un) ?_).trans ?_
    · refine (unp_ok (is := [3, 4]) (ds := [.list [], sortsZ]) (s1 := stA (.fz (prgD (modD ka kb es) n j)) (.fz bareD) (.fz (.dict [])) .un .un .un .un .un .un .un) ?_ rfl).trans ?_
      · refine tup2_ok (s1 := stA (.fz (prgD (modD ka kb es) n j)) (.fz bareD) (.fz (.dict [])) .un .un .un .un .un .un .un) (by kernel_rfl) ?_
        refine ev1_ok (new_ok (ds := [bareD, .dict []]) (s1 := stA (.fz (prgD (modD ka kb es) n j)) (.fz bareD) (.fz (.dict [])) .un .un .un .un .un .un .un) (by kernel_rfl) names_z) ?_
        kernel_rfl
      · rfl
    · cases n <;> kernel_rfl
  obtain ⟨_, _, _, _, e1⟩ := e1
  rw [e1]
  rfl
end Zo
/-! K14G: the faults of a module. -/
namespace Zo
open PySem PySem.Spec PyProof.Rows L2
def farD : D := .str "far"
def fk (k : Int) : D := .tuple [.tuple [.str "edge", .str "m", .int k], farD]
def farE (e : Ed) : Bool := e.as.any (farB e.as)
def isFarD : D → Bool
  | .str x => x == "far"
  | _ => false
def fl (k : Int) (e : Ed) : List D := ((ewords e ++ [emp]).filter isFarD).map fun w => .tuple [.tuple [.str "edge", .str "m", .int k], w]
theorem wd_cases {e : Ed} {d : D} (h : d ∈ ewords e ++ [emp]) : d = emp ∨ d = farD := by
  simp only [ewords, List.mem_append, List.mem_cons, List.not_mem_nil, or_false, List.mem_flatMap, List.mem_map] at h
  rcases h with ((h | h) | h) | h
  · rcases h with h | h | h <;> exact Or.inl h
  · obtain ⟨a, _, h⟩ := h
    unfold fw at h
    rw [List.mem_append] at h
    rcases h with h | h
    · left
      cases a <;> (simp [aw] at h; exact h)
    · rw [List.mem_singleton] at h
      subst h
      unfold wd
      split
      · exact Or.inr rfl
      · exact Or.inl rfl
  · obtain ⟨_, _, h⟩ := h
    exact Or.inl h.symm
  · exact Or.inl h
theorem isFar_emp : isFarD emp = false := by decide +kernel
theorem isFar_far : isFarD farD = true := by decide +kernel
theorem fl_all {k : Int} {e : Ed} {d : D} (h : d ∈ fl k e) : d = fk k := by
  obtain ⟨w, hw, rfl⟩ := List.mem_map.mp h
  obtain ⟨h1, h2⟩ := List.mem_filter.mp hw
  rcases wd_cases h1 with rfl | rfl
  · rw [isFar_emp] at h2; cases h2
  · rfl
theorem aw_far (a : Ask) : (aw a).any isFarD = false := by
  cases a
  · show (([emp, emp, emp] : List D).any isFarD) = false
    decide +kernel
  · show (([emp, emp] : List D).any isFarD) = false
    decide +kernel
theorem wd_far (b : Bool) : isFarD (wd b) = b := by cases b <;> decide +kernel
theorem fl_any (k : Int) (e : Ed) : (fl k e).isEmpty = !farE e := by
  have h : (ewords e ++ [emp]).any isFarD = farE e := by
    unfold ewords farE
    rw [List.any_append, List.any_append, List.any_append, List.any_flatMap, List.any_map]
    have h0 : (fun x => (fw e.as x).any isFarD) = farB e.as := funext fun x => by
      unfold fw
      rw [List.any_append, aw_far]
      simp [wd_far]
    have h1 : [emp, emp, emp].any isFarD = false := by decide +kernel
    have h2 : [emp].any isFarD = false := by decide +kernel
    have h3 : (resL e.r).any (isFarD ∘ fun _ => emp) = false := by
      rw [List.any_eq_false]
      intro x _
      show ¬ isFarD emp = true
      rw [isFar_emp]
      decide
    rw [h0, h1, h2, h3]
    simp
  unfold fl
  rw [List.isEmpty_map, ← h]
  generalize ewords e ++ [emp] = l
  induction l with
  | nil => rfl
  | cons d l ih =>
    rw [List.filter_cons, List.any_cons]
    cases h : isFarD d with
    | true => simp
    | false => simpa using ih
theorem ew_len (e : Ed) : (ewords e).length ≤ 5 + 4 * e.as.length := by
  have h : ∀ bs : List Ask, (bs.flatMap (fw e.as)).length ≤ 4 * bs.length := fun bs => by
    induction bs with
    | nil => simp
    | cons b bs ih =>
      have := fw_len e.as b
      simp only [List.flatMap_cons, List.length_append, List.length_cons]
      omega
  have h1 := h e.as
  have h2 : ((resL e.r).map fun _ => emp).length ≤ 2 := by
    obtain ⟨s, t, as, r⟩ := e
    cases r <;> simp [resL]
  unfold ewords
  rw [List.length_append, List.length_append, List.length_cons, List.length_cons, List.length_cons, List.length_nil]
  omega
theorem fl_len (k : Int) (e : Ed) : (fl k e).length ≤ 6 + 4 * e.as.length := by
  have h := ew_len e
  have h2 := List.length_filter_le isFarD (ewords e ++ [emp])
  unfold fl
  rw [List.length_map]
  rw [List.length_append, List.length_cons, List.length_nil] at h2
  omega
def fdFrom : Nat → List Ed → List D
  | _, [] => []
  | k, e :: es => fl k e ++ fdFrom (k + 1) es
abbrev stM (P md nm w x9 x10 x12 x13 : Sv) : Ms := ⟨[P, md, nm, w, .fz (.dict []), .un, .un, .un, .un, x9, x10, .un, x12, x13], dk0, false⟩
def bMe : Ex := (seqS (setS 13 (lstOf (evBinL addL (evCall f_edge_words (evCons (evVar 2) (evCons (evVar 12) evNil))) (lstOf (evLst (evCons (evIf (evT (evCall f_is_deaf (evCons (evVar 12) (evCons (evBin ixD (evVarB 1) (evLit (.int 4))) (evCons (evVar 4) evNil))))) (evLit (.str "hear")) (evLit (.str ""))) evNil)))))) (doS (evExt 3 (lstOf (evComp [11] (evItL (evVar 13)) (tgN 11) (evT (evBin neD (evVarB 11) (evLit (.str "")))) (evTup (evCons (evTup (evCons (evLit (.str "edge")) (evCons (evBin ixD (evVarB 1) (evLit (.int 0))) (evCons (evVar 9) evNil)))) (evCons (evVar 11) evNil))))))))
theorem bMe_ok (P : Sv) (ka kb : K4) (es : List Ed) (w : List D) (k : Int) (e : Ed) (x10 x13 : Sv) (hl : e.as.length ≤ 1000) (hw : w.length ≤ 900000) :
    bMe (stM P (.fz (modD ka kb es)) (.fz namesM) (.own w) (.fz (.int k)) x10 (.fz e.d) x13) = .ok .nx (stM P (.fz (modD ka kb es)) (.fz namesM) (.own (w ++ fl k e)) (.fz (.int k)) x10 (.fz e.d) (.fz (.list (ewords e ++ [emp])))) := by
  have hlw := ew_len e
  unfold bMe
  refine (seqS_nx (s1 := stM P (.fz (modD ka kb es)) (.fz namesM) (.own w) (.fz (.int k)) x10 (.fz e.d) (.fz (.list (ewords e ++ [emp])))) ?_).trans ?_
  · refine (setS_ok (s1 := stM P (.fz (modD ka kb es)) (.fz namesM) (.own w) (.fz (.int k)) x10 (.fz e.d) x13) (d := .list (ewords e ++ [emp])) ?_).trans rfl
    have z1 : evCall f_edge_words (evCons (evVar 2) (evCons (evVar 12) evNil)) (stM P (.fz (modD ka kb es)) (.fz namesM) (.own w) (.fz (.int k)) x10 (.fz e.d) x13) = .ok (.list (ewords e)) (stM P (.fz (modD ka kb es)) (.fz namesM) (.own w) (.fz (.int k)) x10 (.fz e.d) x13) := by
      have z : evCall f_edge_words (evCons (evVar 2) (evCons (evVar 12) evNil)) (stM P (.fz (modD ka kb es)) (.fz namesM) (.own w) (.fz (.int k)) x10 (.fz e.d) x13) = ofRo (f_edge_words [namesM, e.d]) (stM P (.fz (modD ka kb es)) (.fz namesM) (.own w) (.fz (.int k)) x10 (.fz e.d) x13) := rfl
      rw [z, v_edge_words e hl]
      rfl
    have z2 : lstOf (evLst (evCons (evIf (evT (evCall f_is_deaf (evCons (evVar 12) (evCons (evBin ixD (evVarB 1) (evLit (.int 4))) (evCons (evVar 4) evNil))))) (evLit (.str "hear")) (evLit (.str ""))) evNil)) (stM P (.fz (modD ka kb es)) (.fz namesM) (.own w) (.fz (.int k)) x10 (.fz e.d) x13) = .ok (.list [emp]) (stM P (.fz (modD ka kb es)) (.fz namesM) (.own w) (.fz (.int k)) x10 (.fz e.d) x13) := by kernel_rfl
    have z3 : addL (.list (ewords e)) (.list [emp]) = some (ewords e ++ [emp]) := by
      show (if (ewords e).length + [emp].length ≤ sizeLine then some (ewords e ++ [emp]) else none) = _
      rw [if_pos]
      have : sizeLine = 1000000 ∨ 100000 ≤ sizeLine := by decide
      simp only [List.length_cons, List.length_nil]
      omega
    unfold lstOf evBinL
    unfold lstOf at z2
    rw [z1]
    simp only [Out.bind_ok]
    rw [z2]
    simp only [Out.bind_ok, z3, toOut_some]
  · have hx : lstOf (evComp [11] (evItL (evVar 13)) (tgN 11) (evT (evBin neD (evVarB 11) (evLit (.str "")))) (evTup (evCons (evTup (evCons (evLit (.str "edge")) (evCons (evBin ixD (evVarB 1) (evLit (.int 0))) (evCons (evVar 9) evNil)))) (evCons (evVar 11) evNil)))) (stM P (.fz (modD ka kb es)) (.fz namesM) (.own w) (.fz (.int k)) x10 (.fz e.d) (.fz (.list (ewords e ++ [emp])))) = .ok (.list (fl k e)) (stM P (.fz (modD ka kb es)) (.fz namesM) (.own w) (.fz (.int k)) x10 (.fz e.d) (.fz (.list (ewords e ++ [emp])))) := by
      refine comp_lst (ds := ewords e ++ [emp]) (s1 := stM P (.fz (modD ka kb es)) (.fz namesM) (.own w) (.fz (.int k)) x10 (.fz e.d) (.fz (.list (ewords e ++ [emp])))) rfl ?_
      have q := comp_filter (vs := [11]) (tgt := tgN 11) (cond := evT (evBin neD (evVarB 11) (evLit (.str "")))) (elt := evTup (evCons (evTup (evCons (evLit (.str "edge")) (evCons (evBin ixD (evVarB 1) (evLit (.int 0))) (evCons (evVar 9) evNil)))) (evCons (evVar 11) evNil))) isFarD (fun w => .tuple [.tuple [.str "edge", .str "m", .int k], w])
        (s0 := stM P (.fz (modD ka kb es)) (.fz namesM) (.own w) (.fz (.int k)) x10 (.fz e.d) (.fz (.list (ewords e ++ [emp])))) (ewords e ++ [emp]) [] (fun d hd => by
          rcases wd_cases hd with rfl | rfl
          · exact ⟨_, rfl, by kernel_rfl, fun _ => rfl, rfl⟩
          · exact ⟨_, rfl, by kernel_rfl, fun _ => rfl, rfl⟩) (by simp; omega)
      exact q
    have hfl := fl_len k e
    exact ext_do (i := 3) (ds := w) ⟨w, rfl⟩ hx rfl (by omega)
def enumFrom (k : Nat) (ds : List D) : List D := (ds.zipIdx k).map fun p => .tuple [.int (p.2 : Nat), p.1]
theorem mf_loop (P : Sv) (ka kb : K4) (es : List Ed) (x10 : Sv) : ∀ (bs : List Ed) (k : Nat) (w : List D) (x9 x12 x13 : Sv), (∀ e ∈ bs, e.as.length ≤ 1000) → w.length + 5000 * bs.length ≤ 900000 →
    ∃ x9' x12' x13', forGo (tgT [9, 12]) bMe (enumFrom k (bs.map Ed.d)) (stM P (.fz (modD ka kb es)) (.fz namesM) (.own w) x9 x10 x12 x13) = .ok .nx (stM P (.fz (modD ka kb es)) (.fz namesM) (.own (w ++ fdFrom k bs)) x9' x10 x12' x13')
  | [], k, w, x9, x12, x13, _, _ => ⟨x9, x12, x13, by simp [forGo, enumFrom, fdFrom]⟩
  | b :: bs, k, w, x9, x12, x13, h, hw => by
    simp only [List.length_cons] at hw
    have hb := h b List.mem_cons_self
    have hf := fl_len k b
    obtain ⟨a1, a2, a3, ih⟩ := mf_loop P ka kb es x10 bs (k + 1) (w ++ fl k b) (.fz (.int k)) (.fz b.d) (.fz (.list (ewords b ++ [emp]))) (fun e he => h e (List.mem_cons_of_mem _ he)) (by simp; omega)
    refine ⟨a1, a2, a3, ?_⟩
    have e0 : forGo (tgT [9, 12]) bMe (enumFrom k ((b :: bs).map Ed.d)) (stM P (.fz (modD ka kb es)) (.fz namesM) (.own w) x9 x10 x12 x13) = stepS (bMe (stM P (.fz (modD ka kb es)) (.fz namesM) (.own w) (.fz (.int k)) x10 (.fz b.d) x13)) (forGo (tgT [9, 12]) bMe (enumFrom (k + 1) (bs.map Ed.d))) := rfl
    rw [e0, bMe_ok P ka kb es w k b x10 x13 hb (by omega)]
    refine ih.trans ?_
    rw [List.append_assoc]
    rfl
theorem v_mf_m (ka kb : K4) (es : List Ed) (n : Bool) (j : Int) (h : ∀ e ∈ es, e.as.length ≤ 1000) (hn : es.length ≤ 100) : f_module_faults [prgD (modD ka kb es) n j, modD ka kb es] = .ok (.list (fdFrom 0 es)) := by
  have e0 : f_module_faults [prgD (modD ka kb es) n j, modD ka kb es] = roOf (b_module_faults ⟨[.fz (prgD (modD ka kb es) n j), .fz (modD ka kb es), .un, .un, .un, .un, .un, .un, .un, .un, .un, .un, .un, .un], dk0, false⟩) := rfl
  rw [e0]
  obtain ⟨a9, a12, a13, hlp⟩ := mf_loop (.fz (prgD (modD ka kb es) n j)) ka kb es (.fz (plD true kb)) es 0 [] (.fz (.int 1)) .un .un h (by simp; omega)
  have e1 : b_module_faults ⟨[.fz (prgD (modD ka kb es) n j), .fz (modD ka kb es), .un, .un, .un, .un, .un, .un, .un, .un, .un, .un, .un, .un], dk0, false⟩ = .ok (.rt (.list (fdFrom 0 es))) (stM (.fz (prgD (modD ka kb es) n j)) (.fz (modD ka kb es)) (.fz namesM) (.fz (.list (fdFrom 0 es))) a9 (.fz (plD true kb)) a12 a13) := by
    unfold b_module_faults
    refine (seqS_nx (s1 := ⟨[.fz (prgD (modD ka kb es) n j), .fz (modD ka kb es), .fz namesM, .own [], .un, .un, .un, .un, .un, .un, .un, .un, .un, .un], dk0, false⟩) ?_).trans ?_
    · unfold par2M
      rw [new_ok (ds := [modD ka kb es, .dict []]) (s1 := ⟨[.fz (prgD (modD ka kb es) n j), .fz (modD ka kb es), .un, .un, .un, .un, .un, .un, .un, .un, .un, .un, .un, .un], dk0, false⟩) (by kernel_rfl) (names_m ka kb es)]
      rfl
    refine (seqS_nx (s1 := stM (.fz (prgD (modD ka kb es) n j)) (.fz (modD ka kb es)) (.fz namesM) (.own []) .un .un .un .un) ?_).trans ?_
    · refine (setS_ok (s1 := ⟨[.fz (prgD (modD ka kb es) n j), .fz (modD ka kb es), .fz namesM, .own [], .un, .un, .un, .un, .un, .un, .un, .un, .un, .un], dk0, false⟩) (d := .dict []) ?_).trans rfl
      have z : evCall f_all_channels (evCons (evVar 0) (evCons (evVar 1) evNil)) ⟨[.fz (prgD (modD ka kb es) n j), .fz (modD ka kb es), .fz namesM, .own [], .un, .un, .un, .un, .un, .un, .un, .un, .un, .un], dk0, false⟩ = ofRo (f_all_channels [prgD (modD ka kb es) n j, modD ka kb es]) ⟨[.fz (prgD (modD ka kb es) n j), .fz (modD ka kb es), .fz namesM, .own [], .un, .un, .un, .un, .un, .un, .un, .un, .un, .un], dk0, false⟩ := rfl
      rw [z, v_all_m]
      rfl
    refine (seqS_nx (s1 := stM (.fz (prgD (modD ka kb es) n j)) (.fz (modD ka kb es)) (.fz namesM) (.own []) .un .un .un .un) (by kernel_rfl)).trans ?_
    refine (seqS_nx (s1 := stM (.fz (prgD (modD ka kb es) n j)) (.fz (modD ka kb es)) (.fz namesM) (.own []) .un .un .un .un) (by kernel_rfl)).trans ?_
    refine (seqS_nx (s1 := stM (.fz (prgD (modD ka kb es) n j)) (.fz (modD ka kb es)) (.fz namesM) (.own []) (.fz (.int 1)) (.fz (plD true kb)) .un .un) (by cases ka <;> cases kb <;> kernel_rfl)).trans ?_
    refine (seqS_nx (s1 := stM (.fz (prgD (modD ka kb es) n j)) (.fz (modD ka kb es)) (.fz namesM) (.own (fdFrom 0 es)) a9 (.fz (plD true kb)) a12 a13) hlp).trans ?_
    rfl
  rw [e1]
  rfl
theorem v_mf_z (ka kb : K4) (es : List Ed) (n : Bool) (j : Int) : f_module_faults [prgD (modD ka kb es) n j, bareD] = .ok (.list []) := by
  have e0 : f_module_faults [prgD (modD ka kb es) n j, bareD] = roOf (b_module_faults ⟨[.fz (prgD (modD ka kb es) n j), .fz bareD, .un, .un, .un, .un, .un, .un, .un, .un, .un, .un, .un, .un], dk0, false⟩) := rfl
  rw [e0]
  have e1 : b_module_faults ⟨[.fz (prgD (modD ka kb es) n j), .fz bareD, .un, .un, .un, .un, .un, .un, .un, .un, .un, .un, .un, .un], dk0, false⟩ = .ok (.rt (.list [])) (stM (.fz (prgD (modD ka kb es) n j)) (.fz bareD) (.fz namesZ) (.fz (.list [])) (.fz (.int 0)) (.fz bpl) .un .un) := by
    unfold b_module_faults
    refine (seqS_nx (s1 := ⟨[.fz (prgD (modD ka kb es) n j), .fz bareD, .fz namesZ, .own [], .un, .un, .un, .un, .un, .un, .un, .un, .un, .un], dk0, false⟩) ?_).trans ?_
    · unfold par2M
      rw [new_ok (ds := [bareD, .dict []]) (s1 := ⟨[.fz (prgD (modD ka kb es) n j), .fz bareD, .un, .un, .un, .un, .un, .un, .un, .un, .un, .un, .un, .un], dk0, false⟩) (by kernel_rfl) names_z]
      rfl
    refine (seqS_nx (s1 := stM (.fz (prgD (modD ka kb es) n j)) (.fz bareD) (.fz namesZ) (.own []) .un .un .un .un) ?_).trans ?_
    · refine (setS_ok (s1 := ⟨[.fz (prgD (modD ka kb es) n j), .fz bareD, .fz namesZ, .own [], .un, .un, .un, .un, .un, .un, .un, .un, .un, .un], dk0, false⟩) (d := .dict []) ?_).trans rfl
      have z : evCall f_all_channels (evCons (evVar 0) (evCons (evVar 1) evNil)) ⟨[.fz (prgD (modD ka kb es) n j), .fz bareD, .fz namesZ, .own [], .un, .un, .un, .un, .un, .un, .un, .un, .un, .un], dk0, false⟩ = ofRo (f_all_channels [prgD (modD ka kb es) n j, bareD]) ⟨[.fz (prgD (modD ka kb es) n j), .fz bareD, .fz namesZ, .own [], .un, .un, .un, .un, .un, .un, .un, .un, .un, .un], dk0, false⟩ := rfl
      rw [z, v_all_z]
      rfl
    kernel_rfl
  rw [e1]
  rfl
end Zo
/-! K14I: the words of the parts. -/
namespace Zo
open PySem PySem.Spec PyProof.Rows L2
theorem comp2_ok {vs vs1 : List Nat} {tgt : D → Ms → Option Ms} {cond : Ms → Out Bool} {src1 : Evs} {tgt1 : D → Ms → Option Ms} {cond1 : Ms → Out Bool} {elt : Ev} (g : D → List D) (B : Nat) {s0 : Ms} : ∀ (ds acc : List D),
    (∀ d ∈ ds, ∃ s1 ds1 s4, tgt d s0 = some s1 ∧ cond s1 = .ok true s1 ∧ src1 s1 = .ok ds1 s1 ∧ (g d).length ≤ B ∧ (∀ ac : List D, ac.length ≤ 500000 → compGo vs1 tgt1 cond1 elt ds1 ac (forgetS vs1 s1) = .ok (ac ++ g d) s4) ∧ forgetS vs s4 = s0) →
    acc.length + B * ds.length ≤ 500000 → comp2Go vs vs1 tgt cond src1 tgt1 cond1 elt ds acc s0 = .ok (acc ++ ds.flatMap g) s0
  | [], acc, _, _ => by simp [comp2Go]
  | d :: ds, acc, h, hl => by
    obtain ⟨s1, ds1, s4, h1, h2, h3, h4, h5, h6⟩ := h d List.mem_cons_self
    simp only [List.length_cons, Nat.mul_succ] at hl
    have ih := comp2_ok (vs := vs) (vs1 := vs1) (tgt := tgt) (cond := cond) (src1 := src1) (tgt1 := tgt1) (cond1 := cond1) (elt := elt) g B ds (acc ++ g d) (fun e he => h e (List.mem_cons_of_mem _ he)) (by simp; omega)
    unfold comp2Go
    rw [h1]
    simp only [h2, if_true, h3, h5 acc (by omega), thenGo, h6]
    rw [ih]
    simp
theorem comp2_lst {vs vs1 : List Nat} {src : Evs} {tgt : D → Ms → Option Ms} {cond : Ms → Out Bool} {src1 : Evs} {tgt1 : D → Ms → Option Ms} {cond1 : Ms → Out Bool} {elt : Ev} {s s1 s2 : Ms} {ds es : List D} (h1 : src s = .ok ds s1) (h2 : comp2Go vs vs1 tgt cond src1 tgt1 cond1 elt ds [] (forgetS vs s1) = .ok es s2) : evComp2 vs vs1 src tgt cond src1 tgt1 cond1 elt s = .ok es s2 := by
  unfold evComp2
  rw [h1]
  simp only [Out.bind_ok]
  exact h2
theorem lst_ok {a : Evs} {s s1 : Ms} {ds : List D} (h : a s = .ok ds s1) : lstOf a s = .ok (.list ds) s1 := by
  unfold lstOf
  rw [h]
  rfl
def thr : D → D
  | .tuple [_, _, x] => x
  | _ => .none
def baseL (ka kb : K4) : List D := [.int 0, .int 0] ++ ((kp ka).map thr ++ (kp kb).map thr)
def isThr : D → Bool
  | .tuple [_, _, _] => true
  | _ => false
def amL (e : Ed) : List D := ((e.as.map Ask.d).filter isThr).map thr
def amF (ka kb : K4) (es : List Ed) : List D := baseL ka kb ++ es.map (fun _ => .int 0) ++ es.flatMap amL
def IS (d : D) : Prop := (∃ i, d = .int i) ∨ ∃ x, d = .str x
theorem base_is {ka kb : K4} {d : D} (h : d ∈ baseL ka kb) : IS d := by
  have hk : ∀ k : K4, ∀ d ∈ (kp k).map thr, IS d := fun k d h => by
    cases k <;> simp [kp, thr] at h
    · exact Or.inl ⟨_, h⟩
    · rcases h with h | h <;> exact Or.inl ⟨_, h⟩
    · exact Or.inr ⟨_, h⟩
  unfold baseL at h
  rw [List.mem_append, List.mem_append] at h
  rcases h with h | h | h
  · simp at h
    exact Or.inl ⟨_, h⟩
  · exact hk _ _ h
  · exact hk _ _ h
theorem am_is {e : Ed} {d : D} (h : d ∈ amL e) : IS d := by
  unfold amL at h
  obtain ⟨x, hx, rfl⟩ := List.mem_map.mp h
  obtain ⟨h1, h2⟩ := List.mem_filter.mp hx
  obtain ⟨a, _, rfl⟩ := List.mem_map.mp h1
  cases a with
  | four c o p v => cases h2
  | three c p v =>
    cases v
    · exact Or.inl ⟨0, rfl⟩
    · exact Or.inl ⟨1, rfl⟩
    · exact Or.inl ⟨3, rfl⟩
    · exact Or.inr ⟨"k", rfl⟩
theorem amF_is {ka kb : K4} {es : List Ed} {d : D} (h : d ∈ amF ka kb es) : IS d := by
  unfold amF at h
  rw [List.mem_append, List.mem_append] at h
  rcases h with (h | h) | h
  · exact base_is h
  · obtain ⟨_, _, rfl⟩ := List.mem_map.mp h
    exact Or.inl ⟨0, rfl⟩
  · obtain ⟨e, _, h⟩ := List.mem_flatMap.mp h
    exact am_is h
theorem base_len (ka kb : K4) : (baseL ka kb).length ≤ 6 := by cases ka <;> cases kb <;> simp [baseL, kp]
theorem am_len (e : Ed) : (amL e).length ≤ e.as.length := by
  unfold amL
  have := List.length_filter_le isThr (e.as.map Ask.d)
  rw [List.length_map] at this ⊢
  exact this
theorem ams_len {es : List Ed} (h : ∀ e ∈ es, e.as.length ≤ 1000) : (es.flatMap amL).length ≤ 1000 * es.length := by
  induction es with
  | nil => simp
  | cons e es ih =>
    have h1 := am_len e
    have h2 := h e List.mem_cons_self
    have h3 := ih fun x hx => h x (List.mem_cons_of_mem _ hx)
    simp only [List.flatMap_cons, List.length_append, List.length_cons]
    omega
def isStrD : D → Bool
  | .str _ => true
  | _ => false
abbrev stN (md w : Sv) : Ms := ⟨[md, w, .un, .un, .un, .un, .un], dk0, false⟩
theorem v_amounts (ka kb : K4) (es : List Ed) (h : ∀ e ∈ es, e.as.length ≤ 1000) (hn : es.length ≤ 100) : f_amount_names [modD ka kb es] = .ok (.list ((amF ka kb es).filter isStrD)) := by
  have e0 : f_amount_names [modD ka kb es] = roOf (b_amount_names (stN (.fz (modD ka kb es)) .un)) := rfl
  rw [e0]
  have hb := base_len ka kb
  have ha := ams_len h
  have e1 : b_amount_names (stN (.fz (modD ka kb es)) .un) = .ok (.rt (.list ((amF ka kb es).filter isStrD))) (stN (.fz (modD ka kb es)) (.fz (.list (amF ka kb es)))) := by
    unfold b_amount_names
    refine (seqS_nx (s1 := stN (.fz (modD ka kb es)) (.own (baseL ka kb))) (by cases ka <;> cases kb <;> kernel_rfl)).trans ?_
    refine (seqS_nx (s1 := stN (.fz (modD ka kb es)) (.own (baseL ka kb ++ es.map fun _ => .int 0))) ?_).trans ?_
    · refine ext_do (i := 1) (ds := baseL ka kb) (es := es.map fun _ => .int 0) (s1 := stN (.fz (modD ka kb es)) (.own (baseL ka kb))) ⟨_, rfl⟩ (comp_lst (ds := es.map Ed.d) rfl ?_) rfl (by simp; omega)
      have q := comp_map (vs := [4]) (tgt := tgN 4) (elt := evBin ixD (evVarB 4) (evLit (.int 7))) (fun _ => .int 0) (s0 := stN (.fz (modD ka kb es)) (.own (baseL ka kb))) (es.map Ed.d) [] (fun x hx => by
        obtain ⟨a, ha, e⟩ := List.mem_map.mp hx
        subst e
        exact ⟨_, rfl, rfl, rfl⟩) (by simp; omega)
      rw [List.map_map] at q
      exact q
    generalize hw : (baseL ka kb ++ es.map fun _ => PyData.int 0) = w
    have hwl : w.length ≤ 106 := by rw [← hw]; simp; omega
    refine (seqS_nx (s1 := stN (.fz (modD ka kb es)) (.own (w ++ es.flatMap amL))) ?_).trans ?_
    · refine ext_do (i := 1) (ds := w) (es := es.flatMap amL) (s1 := stN (.fz (modD ka kb es)) (.own w)) ⟨_, rfl⟩ (lst_ok (comp2_lst (ds := es.map Ed.d) rfl ?_)) rfl (by omega)
      have q := comp2_ok (vs := [4, 5]) (vs1 := [5]) (tgt := tgN 4) (cond := evYes) (src1 := evItT (evBin ixD (evVarB 4) (evLit (.int 3)))) (tgt1 := tgN 5) (cond1 := evT (evBin eqD (ev1 lenD (evVarB 5)) (evLit (.int 3)))) (elt := evBin ixD (evVarB 5) (evLit (.int 2))) (fun d => match ixD d (.int 3) with
          | some (.tuple ds) => (ds.filter isThr).map thr
          | _ => []) 1000 (s0 := stN (.fz (modD ka kb es)) (.own w)) (es.map Ed.d) [] (fun x hx => by
        obtain ⟨e, he, z⟩ := List.mem_map.mp hx
        subst z
        have hle := h e he
        have hal := am_len e
        refine ⟨⟨[.fz (modD ka kb es), .own w, .un, .un, .fz e.d, .un, .un], dk0, false⟩, e.as.map Ask.d, ⟨[.fz (modD ka kb es), .own w, .un, .un, .fz e.d, .un, .un], dk0, false⟩, rfl, rfl, rfl, Nat.le_trans hal hle, fun ac hac => ?_, rfl⟩
        · have q2 := comp_filter (vs := [5]) (tgt := tgN 5) (cond := evT (evBin eqD (ev1 lenD (evVarB 5)) (evLit (.int 3)))) (elt := evBin ixD (evVarB 5) (evLit (.int 2))) isThr thr (s0 := ⟨[.fz (modD ka kb es), .own w, .un, .un, .fz e.d, .un, .un], dk0, false⟩) (e.as.map Ask.d) ac (fun d hd => by
            obtain ⟨a, _, z⟩ := List.mem_map.mp hd
            subst z
            refine ⟨_, rfl, ?_, fun hh => ?_, rfl⟩
            · cases a <;> rfl
            · cases a with
              | four c o p v => cases hh
              | three c p v => rfl) (by simp; omega)
          exact q2) (by simp; omega)
      rw [List.flatMap_map] at q
      exact q
    have hF : w ++ es.flatMap amL = amF ka kb es := by rw [← hw]; rfl
    rw [hF]
    have hFl : (amF ka kb es).length ≤ 200000 := by rw [← hF]; simp only [List.length_append]; omega
    have hr : lstOf (evComp [6] (evItL (evVar 1)) (tgN 6) (evT (ev1 (isiD "str") (evVarB 6))) (evVar 6)) (stN (.fz (modD ka kb es)) (.fz (.list (amF ka kb es)))) = .ok (.list ((amF ka kb es).filter isStrD)) (stN (.fz (modD ka kb es)) (.fz (.list (amF ka kb es)))) := by
      refine comp_lst (ds := amF ka kb es) (s1 := stN (.fz (modD ka kb es)) (.fz (.list (amF ka kb es)))) rfl ?_
      have q2 := comp_filter (vs := [6]) (tgt := tgN 6) (cond := evT (ev1 (isiD "str") (evVarB 6))) (elt := evVar 6) isStrD (fun d => d) (s0 := stN (.fz (modD ka kb es)) (.fz (.list (amF ka kb es)))) (amF ka kb es) [] (fun d hd => by
        refine ⟨_, rfl, ?_, fun _ => rfl, rfl⟩
        rcases amF_is hd with ⟨i, rfl⟩ | ⟨x, rfl⟩ <;> rfl) (by simp; omega)
      rw [List.map_id'] at q2
      exact q2
    unfold fixS
    show retS (lstOf (evComp [6] (evItL (evVar 1)) (tgN 6) (evT (ev1 (isiD "str") (evVarB 6))) (evVar 6))) (stN (.fz (modD ka kb es)) (.fz (.list (amF ka kb es)))) = _
    unfold retS
    rw [hr]
    rfl
  rw [e1]
  rfl
def jq : Q4 → Int
  | .q0 => 1
  | .q1 => 2
  | .q2 => 3
  | .q3 => 4
theorem v_part_m (ka kb : K4) (es : List Ed) (j : Q4) (h : ∀ e ∈ es, e.as.length ≤ 1000) (hn : es.length ≤ 100) : f_part_words [modD ka kb es, .tuple [.int (jq j)], .dict []] = .ok (.list []) := by
  have e0 : f_part_words [modD ka kb es, .tuple [.int (jq j)], .dict []] = roOf (b_part_words ⟨[.fz (modD ka kb es), .fz (.tuple [.int (jq j)]), .fz (.dict []), .un, .un, .un, .un, .un, .un, .un], dk0, false⟩) := rfl
  rw [e0]
  have e1 : b_part_words ⟨[.fz (modD ka kb es), .fz (.tuple [.int (jq j)]), .fz (.dict []), .un, .un, .un, .un, .un, .un, .un], dk0, false⟩ = .ok (.rt (.list [])) ⟨[.fz (modD ka kb es), .fz (.tuple [.int (jq j)]), .fz (.dict []), .fz (.list ((amF ka kb es).filter isStrD)), .fz (.dict [(.str "k", .int (jq j))]), .fz (.list []), .fz (.bool false), .un, .un, .un], dk0, false⟩ := by
    unfold b_part_words
    refine (seqS_nx (s1 := ⟨[.fz (modD ka kb es), .fz (.tuple [.int (jq j)]), .fz (.dict []), .fz (.list ((amF ka kb es).filter isStrD)), .fz (.dict [(.str "k", .int (jq j))]), .own [], .un, .un, .un, .un], dk0, false⟩) ?_).trans ?_
    · have z : evCall f_amount_names (evCons (evVar 0) evNil) ⟨[.fz (modD ka kb es), .fz (.tuple [.int (jq j)]), .fz (.dict []), .un, .un, .un, .un, .un, .un, .un], dk0, false⟩ = ofRo (f_amount_names [modD ka kb es]) ⟨[.fz (modD ka kb es), .fz (.tuple [.int (jq j)]), .fz (.dict []), .un, .un, .un, .un, .un, .un, .un], dk0, false⟩ := rfl
      rw [v_amounts ka kb es h hn] at z
      unfold par3S
      rw [z]
      kernel_rfl
    · generalize (amF ka kb es).filter isStrD = am
      cases ka <;> cases kb <;> cases j <;> kernel_rfl
  rw [e1]
  rfl
theorem v_part_z (P : D) (hP : P = .dict []) : f_part_words [bareD, .tuple [], P] = .ok (.list []) := by
  subst hP
  kernel_rfl
end Zo
/-! K14J: the faults of a program. -/
namespace Zo
open PySem PySem.Spec PyProof.Rows L2
def duel : Nat → List Ed → List D
  | _, [] => []
  | k, e :: es => if farE e = true then fk k :: duel (k + 1) es else duel (k + 1) es
theorem nkey_fk (i : Int) : nkey (fk i) = some (.tup [.tup [.text "edge", .text "m", .num i], .text "far"]) := rfl
theorem nkey_inj {i j : Int} (h : nkey (fk i) = nkey (fk j)) : i = j := by
  rw [nkey_fk, nkey_fk] at h
  injection h with h
  injection h with h
  injection h with h _
  injection h with h
  injection h with _ h
  injection h with _ h
  injection h with h _
  injection h
abbrev stG (P md w x5 x6 x7 x8 x9 : Sv) : Ms := ⟨[P, md, .un, w, .un, x5, x6, x7, x8, x9, .un], dk0, false⟩
theorem nd_step (P md w x5 x6 x7 x8 x9 : Sv) (k : Int) (ds acc : List D) (ha : acc.length < 1000000) : ndGo [4] (tgN 4) evYes (evVar 4) (fk k :: ds) acc (stG P md w x5 x6 x7 x8 x9) = ndGo [4] (tgN 4) evYes (evVar 4) ds (storeD acc (fk k)) (stG P md w x5 x6 x7 x8 x9) := by
  have e0 : ndGo [4] (tgN 4) evYes (evVar 4) (fk k :: ds) acc (stG P md w x5 x6 x7 x8 x9) = if ((NestedKey.tup [.tup [.text "edge", .text "m", .num k], .text "far"]).depth ≤ 8 ∧ tupQ (fk k) = true ∧ acc.length < 1000000) then ndGo [4] (tgN 4) evYes (evVar 4) ds (storeD acc (fk k)) (stG P md w x5 x6 x7 x8 x9) else .no := rfl
  rw [e0, if_pos]
  refine ⟨?_, rfl, ha⟩
  simp [NestedKey.depth, NestedKey.depthAll]
theorem store_in {acc : List D} {k : Int} (h : fk k ∈ acc) : storeD acc (fk k) = acc := by
  unfold storeD
  rw [if_pos]
  rw [List.any_eq_true]
  exact ⟨_, h, by simp⟩
theorem store_new {acc : List D} {k : Int} (h : ∀ d ∈ acc, ∃ i : Int, i < k ∧ d = fk i) : storeD acc (fk k) = acc ++ [fk k] := by
  unfold storeD
  rw [if_neg]
  rw [List.any_eq_true]
  rintro ⟨d, hd, hk⟩
  obtain ⟨i, hi, rfl⟩ := h d hd
  have := nkey_inj (of_decide_eq_true hk)
  omega
theorem nd_same (P md w x5 x6 x7 x8 x9 : Sv) (k : Int) (ds acc : List D) (ha : acc.length < 1000000) (hk : fk k ∈ acc) : ∀ L : List D, (∀ d ∈ L, d = fk k) → ndGo [4] (tgN 4) evYes (evVar 4) (L ++ ds) acc (stG P md w x5 x6 x7 x8 x9) = ndGo [4] (tgN 4) evYes (evVar 4) ds acc (stG P md w x5 x6 x7 x8 x9)
  | [], _ => rfl
  | d :: L, h => by
    have hd := h d List.mem_cons_self
    subst hd
    rw [List.cons_append, nd_step P md w x5 x6 x7 x8 x9 k (L ++ ds) acc ha, store_in hk]
    exact nd_same P md w x5 x6 x7 x8 x9 k ds acc ha hk L fun e he => h e (List.mem_cons_of_mem _ he)
theorem nd_all (P md w x5 x6 x7 x8 x9 : Sv) : ∀ (es : List Ed) (k : Nat) (acc : List D), (∀ d ∈ acc, ∃ i : Int, i < k ∧ d = fk i) → acc.length + es.length < 1000000 → ndGo [4] (tgN 4) evYes (evVar 4) (fdFrom k es) acc (stG P md w x5 x6 x7 x8 x9) = .ok (acc ++ duel k es) (stG P md w x5 x6 x7 x8 x9)
  | [], k, acc, _, _ => by simp [fdFrom, duel, ndGo]
  | e :: es, k, acc, h, hl => by
    simp only [List.length_cons] at hl
    have hall : ∀ d ∈ fl k e, d = fk k := fun d hd => fl_all hd
    have hany := fl_any k e
    unfold fdFrom duel
    cases hL : fl k e with
    | nil =>
      rw [hL] at hany
      have hf : farE e = false := by simpa using hany.symm
      rw [hf]
      refine (nd_all P md w x5 x6 x7 x8 x9 es (k + 1) acc (fun d hd => ?_) (by omega)).trans rfl
      obtain ⟨i, hi, hd⟩ := h d hd
      exact ⟨i, by omega, hd⟩
    | cons d L =>
      rw [hL] at hany hall
      have hf : farE e = true := by simpa using hany
      have hd := hall d List.mem_cons_self
      subst hd
      rw [hf, List.cons_append, nd_step P md w x5 x6 x7 x8 x9 k (L ++ fdFrom (k + 1) es) acc (by omega), store_new h]
      rw [nd_same P md w x5 x6 x7 x8 x9 k (fdFrom (k + 1) es) (acc ++ [fk k]) (by simp; omega) (by simp) L fun e he => hall e (List.mem_cons_of_mem _ he)]
      rw [nd_all P md w x5 x6 x7 x8 x9 es (k + 1) (acc ++ [fk k]) (fun d hd => ?_) (by simp; omega)]
      · simp
      · rw [List.mem_append, List.mem_singleton] at hd
        rcases hd with hd | hd
        · obtain ⟨i, hi, hd⟩ := h d hd
          exact ⟨i, by omega, hd⟩
        · exact ⟨k, by omega, hd⟩
theorem le5 : ∀ i ∈ List.range 5, ∀ j ∈ List.range 5, i < j → PySem.W.dataLe false (fun d : D => d) (fk i) (fk j) = true := by decide +kernel
theorem duel_mem : ∀ (es : List Ed) (k : Nat), ∀ d ∈ duel k es, ∃ i : Nat, k ≤ i ∧ i < k + es.length ∧ d = fk i
  | [], k, d, h => by cases h
  | e :: es, k, d, h => by
    have ih := duel_mem es (k + 1) d
    simp only [List.length_cons]
    unfold duel at h
    split at h
    · rcases List.mem_cons.mp h with rfl | h
      · exact ⟨k, by omega, by omega, rfl⟩
      · obtain ⟨i, h1, h2, h3⟩ := ih h
        exact ⟨i, by omega, by omega, h3⟩
    · obtain ⟨i, h1, h2, h3⟩ := ih h
      exact ⟨i, by omega, by omega, h3⟩
theorem duel_len : ∀ (es : List Ed) (k : Nat), (duel k es).length ≤ es.length
  | [], k => by simp [duel]
  | e :: es, k => by
    have := duel_len es (k + 1)
    unfold duel
    split <;> simp <;> omega
theorem duel_pw : ∀ (es : List Ed) (k : Nat), k + es.length ≤ 5 → (duel k es).Pairwise fun a b => PySem.W.dataLe false (fun d : D => d) a b = true
  | [], k, _ => by simp [duel]
  | e :: es, k, h => by
    simp only [List.length_cons] at h
    have ih := duel_pw es (k + 1) (by omega)
    unfold duel
    split
    · refine List.Pairwise.cons (fun d hd => ?_) ih
      obtain ⟨i, h1, h2, rfl⟩ := duel_mem es (k + 1) d hd
      exact le5 k (by simp; omega) i (by simp; omega) (by omega)
    · exact ih
theorem sort_duel (es : List Ed) (h : es.length ≤ 5) : sortU (duel 0 es) = some (duel 0 es) := by
  have hs : sortable (duel 0 es) = true := by
    have h1 : ((duel 0 es).all fun a => (duel 0 es).all fun b => PySem.W.alike a b) = true := by
      rw [List.all_eq_true]
      intro a ha
      rw [List.all_eq_true]
      intro b hb
      obtain ⟨i, _, _, rfl⟩ := duel_mem es 0 a ha
      obtain ⟨j, _, _, rfl⟩ := duel_mem es 0 b hb
      rfl
    have h2 : ((duel 0 es).all tupQ) = true := by
      rw [List.all_eq_true]
      intro a ha
      obtain ⟨i, _, _, rfl⟩ := duel_mem es 0 a ha
      rfl
    have h3 : ((duel 0 es).all fun a => decide (a.depth ≤ 60)) = true := by
      rw [List.all_eq_true]
      intro a ha
      obtain ⟨i, _, _, rfl⟩ := duel_mem es 0 a ha
      rw [decide_eq_true_eq]
      simp [fk, farD, PyData.depth, PyData.depthAll]
    have h4 := duel_len es 0
    unfold sortable
    rw [h1, h2, h3]
    simp
    omega
  unfold sortU
  rw [if_pos hs, List.mergeSort_of_pairwise (duel_pw es 0 (by omega))]
def mdsD (md : D) : D := .dict [(.str "m", md), (.str "z", bareD)]
def bPt : Ex := (ifS (evT (evBin (inK true) (evVarB 7) (evVarB 1))) (doS (evApp 3 (evTup (evCons (evTup (evCons (evLit (.str "part")) (evCons (evVar 5) evNil))) (evCons (evLit (.str "name")) evNil))))) (seqS (setS 9 (evCall f_part_words (evCons (evBin getK (evVarB 1) (evVarB 7)) (evCons (evVar 8) (evCons (ev1 dictD (evBin ixD (evVarB 0) (evLit (.int 1)))) evNil))))) (doS (evExt 3 (lstOf (evComp [10] (evItL (evVar 9)) (tgN 10) evYes (evTup (evCons (evTup (evCons (evLit (.str "part")) (evCons (evVar 5) evNil))) (evCons (evVar 10) evNil)))))))))
theorem bPt_m (ka kb : K4) (es : List Ed) (n : Bool) (j : Q4) (w : List D) (x9 : Sv) (h : ∀ e ∈ es, e.as.length ≤ 1000) (hn : es.length ≤ 100) (hw : w.length ≤ 900000) :
    bPt (stG (.fz (prgD (modD ka kb es) n (jq j))) (.fz (mdsD (modD ka kb es))) (.own w) (.fz (.int 0)) (.fz (.str "a")) (.fz (.str "m")) (.fz (.tuple [.int (jq j)])) x9) = .ok .nx (stG (.fz (prgD (modD ka kb es) n (jq j))) (.fz (mdsD (modD ka kb es))) (.own w) (.fz (.int 0)) (.fz (.str "a")) (.fz (.str "m")) (.fz (.tuple [.int (jq j)])) (.fz (.list []))) := by
  have v := v_part_m ka kb es j h hn
  have e0 : bPt (stG (.fz (prgD (modD ka kb es) n (jq j))) (.fz (mdsD (modD ka kb es))) (.own w) (.fz (.int 0)) (.fz (.str "a")) (.fz (.str "m")) (.fz (.tuple [.int (jq j)])) x9) = (seqS (setS 9 (ofRo (f_part_words [modD ka kb es, .tuple [.int (jq j)], .dict []]))) (doS (evExt 3 (lstOf (evComp [10] (evItL (evVar 9)) (tgN 10) evYes (evTup (evCons (evTup (evCons (evLit (.str "part")) (evCons (evVar 5) evNil))) (evCons (evVar 10) evNil)))))))) (stG (.fz (prgD (modD ka kb es) n (jq j))) (.fz (mdsD (modD ka kb es))) (.own w) (.fz (.int 0)) (.fz (.str "a")) (.fz (.str "m")) (.fz (.tuple [.int (jq j)])) x9) := by
    kernel_rfl
  rw [e0, v]
  refine (seqS_nx (s1 := stG (.fz (prgD (modD ka kb es) n (jq j))) (.fz (mdsD (modD ka kb es))) (.own w) (.fz (.int 0)) (.fz (.str "a")) (.fz (.str "m")) (.fz (.tuple [.int (jq j)])) (.fz (.list []))) rfl).trans ?_
  refine (ext_do (i := 3) (ds := w) (es := []) (s1 := stG (.fz (prgD (modD ka kb es) n (jq j))) (.fz (mdsD (modD ka kb es))) (.own w) (.fz (.int 0)) (.fz (.str "a")) (.fz (.str "m")) (.fz (.tuple [.int (jq j)])) (.fz (.list []))) ⟨w, rfl⟩ rfl rfl (by simp; omega)).trans ?_
  rw [List.append_nil]
  rfl
theorem bPt_z (ka kb : K4) (es : List Ed) (n : Bool) (j : Q4) (w : List D) (x9 : Sv) (hw : w.length ≤ 900000) :
    bPt (stG (.fz (prgD (modD ka kb es) n (jq j))) (.fz (mdsD (modD ka kb es))) (.own w) (.fz (.int 1)) (.fz (.str "b")) (.fz (.str "z")) (.fz (.tuple [])) x9) = .ok .nx (stG (.fz (prgD (modD ka kb es) n (jq j))) (.fz (mdsD (modD ka kb es))) (.own w) (.fz (.int 1)) (.fz (.str "b")) (.fz (.str "z")) (.fz (.tuple [])) (.fz (.list []))) := by
  have v := v_part_z (.dict []) rfl
  have e0 : bPt (stG (.fz (prgD (modD ka kb es) n (jq j))) (.fz (mdsD (modD ka kb es))) (.own w) (.fz (.int 1)) (.fz (.str "b")) (.fz (.str "z")) (.fz (.tuple [])) x9) = (seqS (setS 9 (ofRo (f_part_words [bareD, .tuple [], .dict []]))) (doS (evExt 3 (lstOf (evComp [10] (evItL (evVar 9)) (tgN 10) evYes (evTup (evCons (evTup (evCons (evLit (.str "part")) (evCons (evVar 5) evNil))) (evCons (evVar 10) evNil)))))))) (stG (.fz (prgD (modD ka kb es) n (jq j))) (.fz (mdsD (modD ka kb es))) (.own w) (.fz (.int 1)) (.fz (.str "b")) (.fz (.str "z")) (.fz (.tuple [])) x9) := by
    kernel_rfl
  rw [e0, v]
  refine (seqS_nx (s1 := stG (.fz (prgD (modD ka kb es) n (jq j))) (.fz (mdsD (modD ka kb es))) (.own w) (.fz (.int 1)) (.fz (.str "b")) (.fz (.str "z")) (.fz (.tuple [])) (.fz (.list []))) rfl).trans ?_
  refine (ext_do (i := 3) (ds := w) (es := []) (s1 := stG (.fz (prgD (modD ka kb es) n (jq j))) (.fz (mdsD (modD ka kb es))) (.own w) (.fz (.int 1)) (.fz (.str "b")) (.fz (.str "z")) (.fz (.tuple [])) (.fz (.list []))) ⟨w, rfl⟩ rfl rfl (by simp; omega)).trans ?_
  rw [List.append_nil]
  rfl
theorem fd_len : ∀ (es : List Ed) (k : Nat), (∀ e ∈ es, e.as.length ≤ 1000) → (fdFrom k es).length ≤ 5000 * es.length
  | [], k, _ => by simp [fdFrom]
  | e :: es, k, h => by
    have h1 := fl_len k e
    have h2 := h e List.mem_cons_self
    have h3 := fd_len es (k + 1) fun x hx => h x (List.mem_cons_of_mem _ hx)
    unfold fdFrom
    simp only [List.length_append, List.length_cons]
    omega
theorem v_faults_in (ka kb : K4) (es : List Ed) (n : Bool) (j : Q4) (h : ∀ e ∈ es, e.as.length ≤ 1000) (hn : es.length ≤ 5) : f_faults_in [prgD (modD ka kb es) n (jq j)] = .ok (.list (duel 0 es)) := by
  have hfd := fd_len es 0 h
  have e0 : f_faults_in [prgD (modD ka kb es) n (jq j)] = roOf (b_faults_in (stG (.fz (prgD (modD ka kb es) n (jq j))) .un .un .un .un .un .un .un)) := rfl
  rw [e0]
  have e1 : ∃ x5 x6 x7 x8 x9, b_faults_in (stG (.fz (prgD (modD ka kb es) n (jq j))) .un .un .un .un .un .un .un) = .ok (.rt (.list (duel 0 es))) (stG (.fz (prgD (modD ka kb es) n (jq j))) (.fz (mdsD (modD ka kb es))) (.fz (.list (fdFrom 0 es))) x5 x6 x7 x8 x9) := by
    refine ⟨if n = true then .fz (.int 1) else .fz (.int 0), if n = true then .fz (.str "b") else .fz (.str "a"), if n = true then .fz (.str "z") else .fz (.str "m"), if n = true then .fz (.tuple []) else .fz (.tuple [.int (jq j)]), .fz (.list []), ?_⟩
    unfold b_faults_in
    refine (seqS_nx (s1 := stG (.fz (prgD (modD ka kb es) n (jq j))) (.fz (mdsD (modD ka kb es))) .un .un .un .un .un .un) (by kernel_rfl)).trans ?_
    refine (seqS_nx (s1 := stG (.fz (prgD (modD ka kb es) n (jq j))) (.fz (mdsD (modD ka kb es))) (.own (fdFrom 0 es)) .un .un .un .un .un) ?_).trans ?_
    · unfold ownS
      have q := comp2_ok (vs := [2, 4]) (vs1 := [4]) (tgt := tgN 2) (cond := evYes) (src1 := evItL (evCall f_module_faults (evCons (evVar 0) (evCons (evVar 2) evNil)))) (tgt1 := tgN 4) (cond1 := evYes) (elt := evVar 4) (fun d => match d with
          | .tuple (.str nm :: _) => if nm = "m" then fdFrom 0 es else []
          | _ => []) 25000 (s0 := stG (.fz (prgD (modD ka kb es) n (jq j))) (.fz (mdsD (modD ka kb es))) .un .un .un .un .un .un) [modD ka kb es, bareD] [] (fun d hd => by
        rcases List.mem_cons.mp hd with rfl | hd
        · refine ⟨⟨[.fz (prgD (modD ka kb es) n (jq j)), .fz (mdsD (modD ka kb es)), .fz (modD ka kb es), .un, .un, .un, .un, .un, .un, .un, .un], dk0, false⟩, fdFrom 0 es, ⟨[.fz (prgD (modD ka kb es) n (jq j)), .fz (mdsD (modD ka kb es)), .fz (modD ka kb es), .un, .un, .un, .un, .un, .un, .un, .un], dk0, false⟩, rfl, rfl, ?_, ?_, fun ac hac => ?_, rfl⟩
          · have z : evCall f_module_faults (evCons (evVar 0) (evCons (evVar 2) evNil)) ⟨[.fz (prgD (modD ka kb es) n (jq j)), .fz (mdsD (modD ka kb es)), .fz (modD ka kb es), .un, .un, .un, .un, .un, .un, .un, .un], dk0, false⟩ = ofRo (f_module_faults [prgD (modD ka kb es) n (jq j), modD ka kb es]) ⟨[.fz (prgD (modD ka kb es) n (jq j)), .fz (mdsD (modD ka kb es)), .fz (modD ka kb es), .un, .un, .un, .un, .un, .un, .un, .un], dk0, false⟩ := rfl
            rw [v_mf_m ka kb es n (jq j) h (by omega)] at z
            unfold evItL
            rw [z]
            rfl
          · show (if ("m" : Str) = "m" then fdFrom 0 es else []).length ≤ 25000
            rw [if_pos rfl]
            omega
          · show _ = Out.ok (ac ++ (if ("m" : Str) = "m" then fdFrom 0 es else [])) _
            rw [if_pos rfl]
            have q2 := comp_map (vs := [4]) (tgt := tgN 4) (elt := evVar 4) (fun d => d) (s0 := ⟨[.fz (prgD (modD ka kb es) n (jq j)), .fz (mdsD (modD ka kb es)), .fz (modD ka kb es), .un, .un, .un, .un, .un, .un, .un, .un], dk0, false⟩) (fdFrom 0 es) ac (fun d _ => ⟨_, rfl, rfl, rfl⟩) (by omega)
            rw [List.map_id'] at q2
            exact q2
        · rw [List.mem_singleton] at hd
          subst hd
          refine ⟨⟨[.fz (prgD (modD ka kb es) n (jq j)), .fz (mdsD (modD ka kb es)), .fz bareD, .un, .un, .un, .un, .un, .un, .un, .un], dk0, false⟩, [], ⟨[.fz (prgD (modD ka kb es) n (jq j)), .fz (mdsD (modD ka kb es)), .fz bareD, .un, .un, .un, .un, .un, .un, .un, .un], dk0, false⟩, rfl, rfl, ?_, ?_, fun ac hac => ?_, rfl⟩
          · have z : evCall f_module_faults (evCons (evVar 0) (evCons (evVar 2) evNil)) ⟨[.fz (prgD (modD ka kb es) n (jq j)), .fz (mdsD (modD ka kb es)), .fz bareD, .un, .un, .un, .un, .un, .un, .un, .un], dk0, false⟩ = ofRo (f_module_faults [prgD (modD ka kb es) n (jq j), bareD]) ⟨[.fz (prgD (modD ka kb es) n (jq j)), .fz (mdsD (modD ka kb es)), .fz bareD, .un, .un, .un, .un, .un, .un, .un, .un], dk0, false⟩ := rfl
            rw [v_mf_z ka kb es n (jq j)] at z
            unfold evItL
            rw [z]
            rfl
          · show (if ("z" : Str) = "m" then fdFrom 0 es else []).length ≤ 25000
            rw [if_neg (by decide +kernel)]
            simp
          · show _ = Out.ok (ac ++ (if ("z" : Str) = "m" then fdFrom 0 es else [])) _
            rw [if_neg (by decide +kernel), List.append_nil]
            rfl) (by simp)
      have q3 : evComp2 [2, 4] [4] (evItT (evBin ixD (evVarB 0) (evLit (.int 2)))) (tgN 2) evYes (evItL (evCall f_module_faults (evCons (evVar 0) (evCons (evVar 2) evNil)))) (tgN 4) evYes (evVar 4) (stG (.fz (prgD (modD ka kb es) n (jq j))) (.fz (mdsD (modD ka kb es))) .un .un .un .un .un .un) = .ok ([] ++ ((if ("m" : Str) = "m" then fdFrom 0 es else []) ++ ((if ("z" : Str) = "m" then fdFrom 0 es else []) ++ []))) (stG (.fz (prgD (modD ka kb es) n (jq j))) (.fz (mdsD (modD ka kb es))) .un .un .un .un .un .un) := comp2_lst (ds := [modD ka kb es, bareD]) rfl q
      rw [q3, if_pos rfl, if_neg (by decide +kernel), List.nil_append, List.append_nil, List.append_nil]
      rfl
    generalize hw : fdFrom 0 es = w
    rw [hw] at hfd
    refine (seqS_nx (s1 := stG (.fz (prgD (modD ka kb es) n (jq j))) (.fz (mdsD (modD ka kb es))) (.own w) (if n = true then .fz (.int 1) else .fz (.int 0)) (if n = true then .fz (.str "b") else .fz (.str "a")) (if n = true then .fz (.str "z") else .fz (.str "m")) (if n = true then .fz (.tuple []) else .fz (.tuple [.int (jq j)])) (.fz (.list []))) ?_).trans ?_
    · cases n with
      | false =>
        have z : forS (evEnumT (evBin ixD (evVarB 0) (evLit (.int 3)))) (tgX (.t [.n 5, .t [.n 6, .n 7, .n 8]])) bPt (stG (.fz (prgD (modD ka kb es) false (jq j))) (.fz (mdsD (modD ka kb es))) (.own w) .un .un .un .un .un) = stepS (bPt (stG (.fz (prgD (modD ka kb es) false (jq j))) (.fz (mdsD (modD ka kb es))) (.own w) (.fz (.int 0)) (.fz (.str "a")) (.fz (.str "m")) (.fz (.tuple [.int (jq j)])) .un)) (forGo (tgX (.t [.n 5, .t [.n 6, .n 7, .n 8]])) bPt []) := rfl
        rw [bPt_m ka kb es false j w .un h (by omega) (by omega)] at z
        exact z
      | true =>
        have z : forS (evEnumT (evBin ixD (evVarB 0) (evLit (.int 3)))) (tgX (.t [.n 5, .t [.n 6, .n 7, .n 8]])) bPt (stG (.fz (prgD (modD ka kb es) true (jq j))) (.fz (mdsD (modD ka kb es))) (.own w) .un .un .un .un .un) = stepS (bPt (stG (.fz (prgD (modD ka kb es) true (jq j))) (.fz (mdsD (modD ka kb es))) (.own w) (.fz (.int 0)) (.fz (.str "a")) (.fz (.str "m")) (.fz (.tuple [.int (jq j)])) .un)) (forGo (tgX (.t [.n 5, .t [.n 6, .n 7, .n 8]])) bPt [.tuple [.int 1, partB]]) := rfl
        rw [bPt_m ka kb es true j w .un h (by omega) (by omega)] at z
        have z2 : forGo (tgX (.t [.n 5, .t [.n 6, .n 7, .n 8]])) bPt [.tuple [.int 1, partB]] (stG (.fz (prgD (modD ka kb es) true (jq j))) (.fz (mdsD (modD ka kb es))) (.own w) (.fz (.int 0)) (.fz (.str "a")) (.fz (.str "m")) (.fz (.tuple [.int (jq j)])) (.fz (.list []))) = stepS (bPt (stG (.fz (prgD (modD ka kb es) true (jq j))) (.fz (mdsD (modD ka kb es))) (.own w) (.fz (.int 1)) (.fz (.str "b")) (.fz (.str "z")) (.fz (.tuple [])) (.fz (.list [])))) (forGo (tgX (.t [.n 5, .t [.n 6, .n 7, .n 8]])) bPt []) := rfl
        rw [bPt_z ka kb es true j w (.fz (.list [])) (by omega)] at z2
        exact z.trans z2
    generalize (if n = true then Sv.fz (.int 1) else .fz (.int 0)) = x5
    generalize (if n = true then Sv.fz (.str "b") else .fz (.str "a")) = x6
    generalize (if n = true then Sv.fz (.str "z") else .fz (.str "m")) = x7
    generalize (if n = true then Sv.fz (.tuple []) else .fz (.tuple [.int (jq j)])) = x8
    show retS (lstOf (evSortSet [4] (evItL (evVar 3)) (tgN 4) evYes (evVar 4))) (stG (.fz (prgD (modD ka kb es) n (jq j))) (.fz (mdsD (modD ka kb es))) (.fz (.list w)) x5 x6 x7 x8 (.fz (.list []))) = _
    have nd := nd_all (.fz (prgD (modD ka kb es) n (jq j))) (.fz (mdsD (modD ka kb es))) (.fz (.list w)) x5 x6 x7 x8 (.fz (.list [])) es 0 [] (fun d hd => by cases hd) (by simp; omega)
    rw [hw, List.nil_append] at nd
    have ss : evSortSet [4] (evItL (evVar 3)) (tgN 4) evYes (evVar 4) (stG (.fz (prgD (modD ka kb es) n (jq j))) (.fz (mdsD (modD ka kb es))) (.fz (.list w)) x5 x6 x7 x8 (.fz (.list []))) = .ok (duel 0 es) (stG (.fz (prgD (modD ka kb es) n (jq j))) (.fz (mdsD (modD ka kb es))) (.fz (.list w)) x5 x6 x7 x8 (.fz (.list []))) := by
      have z : evSortSet [4] (evItL (evVar 3)) (tgN 4) evYes (evVar 4) (stG (.fz (prgD (modD ka kb es) n (jq j))) (.fz (mdsD (modD ka kb es))) (.fz (.list w)) x5 x6 x7 x8 (.fz (.list []))) = (ndGo [4] (tgN 4) evYes (evVar 4) w [] (stG (.fz (prgD (modD ka kb es) n (jq j))) (.fz (mdsD (modD ka kb es))) (.fz (.list w)) x5 x6 x7 x8 (.fz (.list [])))).bind fun acc s2 => toOut (sortU acc) s2 := rfl
      rw [z, nd]
      simp only [Out.bind_ok, sort_duel es hn, toOut_some]
    unfold retS
    rw [lst_ok ss]
    rfl
  obtain ⟨_, _, _, _, _, e1⟩ := e1
  rw [e1]
  rfl
end Zo
/-! K14L: written values. -/
namespace Zo
open PySem PySem.Spec PyProof.Rows L2
theorem and_ok {a b : Ev} {s s1 s2 : Ms} {d : D} (h : a s = .ok (.bool true) s1) (k : b s1 = .ok d s2) : evAnd a b s = .ok d s2 := by
  unfold evAnd
  rw [h]
  exact k
theorem ret_ok {a : Ev} {s s1 : Ms} {d : D} (h : a s = .ok d s1) : retS a s = .ok (.rt d) s1 := by
  unfold retS
  rw [h]
  rfl
theorem v_mod_m (ka kb : K4) (es : List Ed) (h : ∀ e ∈ es, e.as.length ≤ 1000) (hn : es.length ≤ 100) : f_is_module [modD ka kb es] = .ok (.bool true) := by
  have e0 : f_is_module [modD ka kb es] = roOf (b_is_module ⟨[.fz (modD ka kb es), .un, .un, .un], dk0, false⟩) := rfl
  rw [e0]
  have e1 : b_is_module ⟨[.fz (modD ka kb es), .un, .un, .un], dk0, false⟩ = .ok (.rt (.bool true)) ⟨[.fz (modD ka kb es), .un, .un, .un], dk0, false⟩ := by
    unfold b_is_module
    refine (seqS_nx (s1 := ⟨[.fz (modD ka kb es), .un, .un, .un], dk0, false⟩) (by kernel_rfl)).trans ?_
    refine (seqS_nx (s1 := ⟨[.fz (modD ka kb es), .un, .un, .un], dk0, false⟩) (by kernel_rfl)).trans ?_
    refine (seqS_nx (s1 := ⟨[.fz (modD ka kb es), .un, .un, .un], dk0, false⟩) (by cases ka <;> cases kb <;> kernel_rfl)).trans ?_
    have hc : lstOf (evComp [3] (evItT (evBin ixD (evVarB 0) (evLit (.int 5)))) (tgN 3) evYes (evCall f_is_edge (evCons (evVar 3) evNil))) ⟨[.fz (modD ka kb es), .un, .un, .un], dk0, false⟩ = .ok (.list (es.map fun _ => .bool true)) ⟨[.fz (modD ka kb es), .un, .un, .un], dk0, false⟩ := by
      refine comp_lst (ds := es.map Ed.d) (s1 := ⟨[.fz (modD ka kb es), .un, .un, .un], dk0, false⟩) rfl ?_
      have q := comp_map (vs := [3]) (tgt := tgN 3) (elt := evCall f_is_edge (evCons (evVar 3) evNil)) (fun _ => .bool true) (s0 := ⟨[.fz (modD ka kb es), .un, .un, .un], dk0, false⟩) (es.map Ed.d) [] (fun x hx => by
        obtain ⟨a, ha, e⟩ := List.mem_map.mp hx
        subst e
        refine ⟨⟨[.fz (modD ka kb es), .un, .un, .fz a.d], dk0, false⟩, rfl, ?_, rfl⟩
        have e : evCall f_is_edge (evCons (evVar 3) evNil) ⟨[.fz (modD ka kb es), .un, .un, .fz a.d], dk0, false⟩ = ofRo (f_is_edge [a.d]) ⟨[.fz (modD ka kb es), .un, .un, .fz a.d], dk0, false⟩ := rfl
        exact e.trans (by rw [v_is_edge a (h a ha)]; rfl)) (by simp; omega)
      rw [List.map_map] at q
      exact q
    have ha := all_map (fun _ : Ed => true) es
    have hat : es.all (fun _ => true) = true := by simp
    rw [hat] at ha
    exact ret_ok (and_ok (s1 := ⟨[.fz (modD ka kb es), .un, .un, .un], dk0, false⟩) (by kernel_rfl) (ev1_ok hc ha))
  rw [e1]
  rfl
theorem v_mod_z : f_is_module [bareD] = .ok (.bool true) := by kernel_rfl
def mdfD : D := .dict [(.str mkF, .str "is_module")]
theorem v_list_m (ka kb : K4) (es : List Ed) (h : ∀ e ∈ es, e.as.length ≤ 1000) (hn : es.length ≤ 100) : f_is_list_of [.tuple [modD ka kb es, bareD], mdfD] = .ok (.bool true) := by
  have e0 : f_is_list_of [.tuple [modD ka kb es, bareD], mdfD] = roOf (b_is_list_of ⟨[.fz (.tuple [modD ka kb es, bareD]), .fz mdfD, .un], dk0, false⟩) := rfl
  rw [e0]
  have e1 : b_is_list_of ⟨[.fz (.tuple [modD ka kb es, bareD]), .fz mdfD, .un], dk0, false⟩ = .ok (.rt (.bool true)) ⟨[.fz (.tuple [modD ka kb es, bareD]), .fz mdfD, .un], dk0, false⟩ := by
    unfold b_is_list_of
    have hc : lstOf (evComp [2] (evItT (evVar 0)) (tgN 2) evYes (evCallV 1 [("is_channel", f_is_channel), ("is_module", f_is_module), ("is_part", f_is_part)] (evCons (evVar 2) evNil))) ⟨[.fz (.tuple [modD ka kb es, bareD]), .fz mdfD, .un], dk0, false⟩ = .ok (.list [.bool true, .bool true]) ⟨[.fz (.tuple [modD ka kb es, bareD]), .fz mdfD, .un], dk0, false⟩ := by
      refine comp_lst (ds := [modD ka kb es, bareD]) (s1 := ⟨[.fz (.tuple [modD ka kb es, bareD]), .fz mdfD, .un], dk0, false⟩) rfl ?_
      have q := comp_map (vs := [2]) (tgt := tgN 2) (elt := evCallV 1 [("is_channel", f_is_channel), ("is_module", f_is_module), ("is_part", f_is_part)] (evCons (evVar 2) evNil)) (fun _ => .bool true) (s0 := ⟨[.fz (.tuple [modD ka kb es, bareD]), .fz mdfD, .un], dk0, false⟩) [modD ka kb es, bareD] [] (fun x hx => by
        refine ⟨⟨[.fz (.tuple [modD ka kb es, bareD]), .fz mdfD, .fz x], dk0, false⟩, rfl, ?_, rfl⟩
        have e : evCallV 1 [("is_channel", f_is_channel), ("is_module", f_is_module), ("is_part", f_is_part)] (evCons (evVar 2) evNil) ⟨[.fz (.tuple [modD ka kb es, bareD]), .fz mdfD, .fz x], dk0, false⟩ = ofRo (f_is_module [x]) ⟨[.fz (.tuple [modD ka kb es, bareD]), .fz mdfD, .fz x], dk0, false⟩ := by kernel_rfl
        refine e.trans ?_
        rcases List.mem_cons.mp hx with rfl | hx
        · rw [v_mod_m ka kb es h hn]; rfl
        · rw [List.mem_singleton.mp hx, v_mod_z]; rfl) (by simp)
      exact q
    exact ret_ok (and_ok (s1 := ⟨[.fz (.tuple [modD ka kb es, bareD]), .fz mdfD, .un], dk0, false⟩) (by kernel_rfl) (and_ok (ev1_ok (f := allD) (e := .bool true) hc rfl) (by kernel_rfl)))
  rw [e1]
  rfl
theorem v_written (ka kb : K4) (es : List Ed) (n : Bool) (j : Q4) (h : ∀ e ∈ es, e.as.length ≤ 1000) (hn : es.length ≤ 100) : f_is_written_value [prgD (modD ka kb es) n (jq j)] = .ok (.bool true) := by
  have e0 : f_is_written_value [prgD (modD ka kb es) n (jq j)] = roOf (b_is_written_value ⟨[.fz (prgD (modD ka kb es) n (jq j))], dk0, false⟩) := rfl
  rw [e0]
  have e1 : b_is_written_value ⟨[.fz (prgD (modD ka kb es) n (jq j))], dk0, false⟩ = .ok (.rt (.bool true)) ⟨[.fz (prgD (modD ka kb es) n (jq j))], dk0, false⟩ := by
    unfold b_is_written_value
    refine (seqS_nx (s1 := ⟨[.fz (prgD (modD ka kb es) n (jq j))], dk0, false⟩) (by kernel_rfl)).trans ?_
    have z : evCall f_is_list_of (evCons (evBin ixD (evVarB 0) (evLit (.int 2))) (evCons (evLit (.dict [(.str mkF, .str "is_module")])) evNil)) ⟨[.fz (prgD (modD ka kb es) n (jq j))], dk0, false⟩ = ofRo (f_is_list_of [.tuple [modD ka kb es, bareD], mdfD]) ⟨[.fz (prgD (modD ka kb es) n (jq j))], dk0, false⟩ := rfl
    rw [v_list_m ka kb es h hn] at z
    exact ret_ok (and_ok (s1 := ⟨[.fz (prgD (modD ka kb es) n (jq j))], dk0, false⟩) z (by cases n <;> cases j <;> kernel_rfl))
  rw [e1]
  rfl
theorem v_faults_of (ka kb : K4) (es : List Ed) (n : Bool) (j : Q4) (h : ∀ e ∈ es, e.as.length ≤ 1000) (hn : es.length ≤ 5) : f_faults_of [prgD (modD ka kb es) n (jq j)] = .ok (.tuple (duel 0 es)) := by
  have w := v_written ka kb es n j h (by omega)
  have f := v_faults_in ka kb es n j h hn
  have nw : f_need_written [prgD (modD ka kb es) n (jq j)] = .ok .none := by
    have z : evCall f_is_written_value (evCons (evVar 0) evNil) ⟨[.fz (prgD (modD ka kb es) n (jq j))], dk0, false⟩ = ofRo (f_is_written_value [prgD (modD ka kb es) n (jq j)]) ⟨[.fz (prgD (modD ka kb es) n (jq j))], dk0, false⟩ := rfl
    rw [w] at z
    have e0 : f_need_written [prgD (modD ka kb es) n (jq j)] = roOf (b_need_written ⟨[.fz (prgD (modD ka kb es) n (jq j))], dk0, false⟩) := rfl
    rw [e0]
    unfold b_need_written ifS evTnot evT
    rw [z]
    rfl
  have z1 : evCall f_need_written (evCons (evVar 0) evNil) ⟨[.fz (prgD (modD ka kb es) n (jq j))], dk0, false⟩ = ofRo (f_need_written [prgD (modD ka kb es) n (jq j)]) ⟨[.fz (prgD (modD ka kb es) n (jq j))], dk0, false⟩ := rfl
  have z2 : evCall f_faults_in (evCons (evVar 0) evNil) ⟨[.fz (prgD (modD ka kb es) n (jq j))], dk0, false⟩ = ofRo (f_faults_in [prgD (modD ka kb es) n (jq j)]) ⟨[.fz (prgD (modD ka kb es) n (jq j))], dk0, false⟩ := rfl
  rw [nw] at z1
  rw [f] at z2
  have e0 : f_faults_of [prgD (modD ka kb es) n (jq j)] = roOf (b_faults_of ⟨[.fz (prgD (modD ka kb es) n (jq j))], dk0, false⟩) := rfl
  rw [e0]
  unfold b_faults_of seqS doS
  rw [z1]
  show roOf (retS (ev1 tupD (evCall f_faults_in (evCons (evVar 0) evNil))) ⟨[.fz (prgD (modD ka kb es) n (jq j))], dk0, false⟩) = _
  unfold retS ev1
  rw [z2]
  rfl
end Zo
/-! K14M: sizes; values that are refused. -/
namespace Zo
open PySem PySem.Spec PyProof.Rows L2
theorem ok_ask (a : Ask) : Ok 60 2 a.d := by
  cases a with
  | four c o p v => cases c <;> cases o <;> cases p <;> cases v <;> decide +kernel
  | three c p v => cases c <;> cases p <;> cases v <;> decide +kernel
theorem ok_ed (e : Ed) (h : e.as.length ≤ 7) : Ok 3448 4 e.d := by
  have ha : Ok 430 3 (.tuple (e.as.map Ask.d)) := (ok_tuple (b := 60) (n := 2) fun d hd => by
    obtain ⟨a, _, rfl⟩ := List.mem_map.mp hd
    exact ok_ask a).mono (by simp; omega) (by decide)
  obtain ⟨s, t, as, r⟩ := e
  refine (ok_tuple (b := 430) (n := 3) (ds := [.str (pl s), .str (pl t), .tuple [.str "own", .str "go"], .tuple (as.map Ask.d), .tuple [], .tuple (resL r), .tuple [], .int 0]) fun d hd => ?_).mono (by simp) (by decide)
  simp only [List.mem_cons, List.not_mem_nil, or_false] at hd
  rcases hd with rfl | rfl | rfl | rfl | rfl | rfl | rfl | rfl
  · cases s <;> decide +kernel
  · cases t <;> decide +kernel
  · decide +kernel
  · exact ha
  · decide +kernel
  · cases r <;> decide +kernel
  · decide +kernel
  · decide +kernel
def edsD (es : List Ed) : D := .tuple (es.map Ed.d)
theorem ok_eds (es : List Ed) (h : ∀ e ∈ es, e.as.length ≤ 7) (hn : es.length ≤ 5) : Ok 17245 5 (edsD es) :=
  (ok_tuple (b := 3448) (n := 4) fun d hd => by
    obtain ⟨a, ha, rfl⟩ := List.mem_map.mp hd
    exact ok_ed a (h a ha)).mono (by simp; omega) (by decide)
theorem ok_pls (ka kb : K4) : Ok 17245 5 (.tuple [plD false ka, plD true kb]) := by cases ka <;> cases kb <;> decide +kernel
theorem ok_mod (ka kb : K4) (es : List Ed) (h : ∀ e ∈ es, e.as.length ≤ 7) (hn : es.length ≤ 5) : Ok 103476 6 (modD ka kb es) := by
  have h5 := ok_eds es h hn
  have h4 := ok_pls ka kb
  refine (ok_tuple (b := 17245) (n := 5) (ds := [.str "m", prmD, clkD, .tuple [], .tuple [plD false ka, plD true kb], edsD es]) fun d hd => ?_).mono (by simp) (by decide)
  simp only [List.mem_cons, List.not_mem_nil, or_false] at hd
  rcases hd with rfl | rfl | rfl | rfl | rfl | rfl
  · decide +kernel
  · decide +kernel
  · decide +kernel
  · decide +kernel
  · exact h4
  · exact h5
def m5D (ka kb : K4) : D := .tuple [.str "m", prmD, clkD, .tuple [], .tuple [plD false ka, plD true kb]]
theorem ok_m5 (ka kb : K4) : Ok 103476 6 (m5D ka kb) := by cases ka <;> cases kb <;> decide +kernel
theorem ok_bare : Ok 103476 6 bareD := by decide +kernel
theorem ok_parts (n : Bool) (j : Q4) : Ok 206954 7 (.tuple (partsL n (jq j))) := by cases n <;> cases j <;> decide +kernel
def itemsL (md : D) (n : Bool) (j : Q4) : List D := [.str "prog", .tuple [], .tuple [md, bareD], .tuple (partsL n (jq j))]
theorem ok_items {md : D} (hm : Ok 103476 6 md) (n : Bool) (j : Q4) : ∀ d ∈ itemsL md n j, Ok 206954 7 d := by
  intro d hd
  have h1 := ok_parts n j
  have h2 : Ok 206954 7 (.tuple [md, bareD]) := (ok_tuple (all2 hm ok_bare)).mono (by simp) (by decide)
  simp only [itemsL, List.mem_cons, List.not_mem_nil, or_false] at hd
  rcases hd with rfl | rfl | rfl | rfl
  · decide +kernel
  · decide +kernel
  · exact h2
  · exact h1
theorem ok_prog {md : D} (hm : Ok 103476 6 md) (n : Bool) (j : Q4) : Ok 827820 8 (prgD md n (jq j)) := (ok_tuple (ok_items hm n j)).mono (by simp [itemsL]) (by decide)
theorem ok_progL {md : D} (hm : Ok 103476 6 md) (n : Bool) (j : Q4) : Ok 827820 8 (.list (itemsL md n j)) := (ok_list (ok_items hm n j)).mono (by simp [itemsL]) (by decide)
theorem ok_prog3 {md : D} (hm : Ok 103476 6 md) : Ok 827820 8 (.tuple [.str "prog", .tuple [], .tuple [md, bareD]]) := by
  refine (ok_tuple (b := 206954) (n := 7) fun d hd => ok_items hm true .q0 d ?_).mono (by simp) (by decide)
  simp only [List.mem_cons, List.not_mem_nil, or_false] at hd
  simp only [itemsL, List.mem_cons, List.not_mem_nil, or_false]
  rcases hd with h | h | h
  · exact .inl h
  · exact .inr (.inl h)
  · exact .inr (.inr (.inl h))
theorem repr_prog {md : D} (hm : Ok 103476 6 md) (n : Bool) (j : Q4) : reprD (prgD md n (jq j)) = some (.str (prgD md n (jq j)).shown) := repr_ok rfl (ok_prog hm n j) (by decide) (by decide)
theorem ok_fk (i : Nat) (h : i < 100) : Ok 100 3 (fk i) := by
  have hi : Ok 0 1 (.int (i : Int)) := ok_int (by omega)
  have q : Ok 90 2 (.tuple [.str "edge", .str "m", .int (i : Int)]) := (ok_tuple (b := 29) (n := 1) (all3 (by decide +kernel) (by decide +kernel) (hi.mono (by decide) (by decide)))).mono (by simp) (by decide)
  obtain ⟨q1, q2, q3⟩ := q
  have f : Ok 4 1 farD ∨ True := .inr trivial
  have hfar : Ok 8 1 farD := by decide +kernel
  obtain ⟨f1, f2, f3⟩ := hfar
  simp only [Bool.and_eq_true] at q1 f1
  refine ⟨?_, ?_, ?_⟩
  · simp [fk, PyData.canLay0, plainD, PyData.showable, PyData.intsShort, PyData.canLayAll0, plainA, PyData.showableAll, PyData.intsShortAll, q1, f1] at *
    simp [q1, f1]
  · simp only [fk, PyData.bulk, PyData.bulkAll] at *
    omega
  · simp only [fk, PyData.depth, PyData.depthAll] at *
    omega
end Zo
/-! K14N: refused values; is_program. -/
namespace Zo
open PySem PySem.Spec PyProof.Rows L2
theorem ok_duel (es : List Ed) (hn : es.length ≤ 5) : Ok 505 4 (.tuple (duel 0 es)) := by
  have hl := duel_len es 0
  refine (ok_tuple (b := 100) (n := 3) fun d hd => ?_).mono (by omega) (by decide)
  obtain ⟨i, _, h2, rfl⟩ := duel_mem es 0 d hd
  exact ok_fk i (by omega)
theorem sm_duel (es : List Ed) (hn : es.length ≤ 5) : ∀ d ∈ duel 0 es, Sm d := fun d hd => by
  obtain ⟨i, _, h2, rfl⟩ := duel_mem es 0 d hd
  exact (ok_fk i (by omega)).sm (by decide)
theorem repr_due (es : List Ed) (hn : es.length ≤ 5) (b : Bool) : reprD (.list [.tuple (duel 0 es), .tuple (duel 0 es), .bool b]) = some (.str (PyData.list [.tuple (duel 0 es), .tuple (duel 0 es), .bool b]).shown) :=
  repr_ok rfl (ok_list (all3 (ok_duel es hn) (ok_duel es hn) ((ok_bool b).mono (by decide) (by decide)))) (by simp) (by decide)
theorem v_is_program (ka kb : K4) (es : List Ed) (n : Bool) (j : Q4) (h : ∀ e ∈ es, e.as.length ≤ 1000) (hn : es.length ≤ 5) : f_is_program [prgD (modD ka kb es) n (jq j)] = .ok (.bool (duel 0 es).isEmpty) := by
  have w := v_written ka kb es n j h (by omega)
  have f := v_faults_in ka kb es n j h hn
  have pv : f_is_program_value [prgD (modD ka kb es) n (jq j)] = .ok (.bool (duel 0 es).isEmpty) := by
    have z : evCall f_is_written_value (evCons (evVar 0) evNil) ⟨[.fz (prgD (modD ka kb es) n (jq j))], dk0, false⟩ = ofRo (f_is_written_value [prgD (modD ka kb es) n (jq j)]) ⟨[.fz (prgD (modD ka kb es) n (jq j))], dk0, false⟩ := rfl
    rw [w] at z
    have z2 : evCall f_faults_in (evCons (evVar 0) evNil) ⟨[.fz (prgD (modD ka kb es) n (jq j))], dk0, false⟩ = ofRo (f_faults_in [prgD (modD ka kb es) n (jq j)]) ⟨[.fz (prgD (modD ka kb es) n (jq j))], dk0, false⟩ := rfl
    rw [f] at z2
    have e0 : f_is_program_value [prgD (modD ka kb es) n (jq j)] = roOf (b_is_program_value ⟨[.fz (prgD (modD ka kb es) n (jq j))], dk0, false⟩) := rfl
    rw [e0]
    have e1 : b_is_program_value ⟨[.fz (prgD (modD ka kb es) n (jq j))], dk0, false⟩ = .ok (.rt (.bool (duel 0 es).isEmpty)) ⟨[.fz (prgD (modD ka kb es) n (jq j))], dk0, false⟩ := by
      unfold b_is_program_value
      refine ret_ok (and_ok (s1 := ⟨[.fz (prgD (modD ka kb es) n (jq j))], dk0, false⟩) z ?_)
      have h3 : lstOf (evLst evNil) ⟨[.fz (prgD (modD ka kb es) n (jq j))], dk0, false⟩ = .ok (.list []) ⟨[.fz (prgD (modD ka kb es) n (jq j))], dk0, false⟩ := rfl
      unfold evBin
      rw [z2]
      simp only [ofRo, Out.bind_ok, h3, eqNil (sm_duel es hn), toOut_some]
    rw [e1]
    rfl
  have z : evCall f_is_program_value (evCons (evVar 0) evNil) ⟨[.fz (prgD (modD ka kb es) n (jq j))], dk0, false⟩ = ofRo (f_is_program_value [prgD (modD ka kb es) n (jq j)]) ⟨[.fz (prgD (modD ka kb es) n (jq j))], dk0, false⟩ := rfl
  rw [pv] at z
  have e0 : f_is_program [prgD (modD ka kb es) n (jq j)] = roOf (b_is_program ⟨[.fz (prgD (modD ka kb es) n (jq j))], dk0, false⟩) := rfl
  rw [e0]
  unfold b_is_program
  rw [ret_ok z]
  rfl
theorem v_refused {d : D} {x : Str} (h : f_is_written_value [d] = .ok (.bool false)) (hr : reprN d = some (.str x)) : f_law_refused [d] = .ok (.bool true) := by
  have nw : f_need_written [d] = .exc 0 d := by
    have z : evCall f_is_written_value (evCons (evVar 0) evNil) ⟨[.fz d], dk0, false⟩ = ofRo (f_is_written_value [d]) ⟨[.fz d], dk0, false⟩ := rfl
    rw [h] at z
    have e0 : f_need_written [d] = roOf (b_need_written ⟨[.fz d], dk0, false⟩) := rfl
    rw [e0]
    unfold b_need_written ifS evTnot evT
    rw [z]
    rfl
  have fo : f_faults_of [d] = .exc 0 d := by
    have z1 : evCall f_need_written (evCons (evVar 0) evNil) ⟨[.fz d], dk0, false⟩ = ofRo (f_need_written [d]) ⟨[.fz d], dk0, false⟩ := rfl
    rw [nw] at z1
    have e0 : f_faults_of [d] = roOf (b_faults_of ⟨[.fz d], dk0, false⟩) := rfl
    rw [e0]
    unfold b_faults_of seqS doS
    rw [z1]
    rfl
  have z : evCallK f_faults_of [0] (evCons (evVar 0) evNil) ⟨[.fz d, .un], dk0, false⟩ = ofRo (f_faults_of [d]) ⟨[.fz d, .un], dk0, false⟩ := rfl
  rw [fo] at z
  have e0 : f_law_refused [d] = roOf (b_law_refused ⟨[.fz d, .un], dk0, false⟩) := rfl
  rw [e0]
  have e1 : b_law_refused ⟨[.fz d, .un], dk0, false⟩ = .ok (.rt (.bool true)) ⟨[.fz d, .un], dk0, false⟩ := by
    unfold b_law_refused seqS refusedS doS
    rw [z]
    simp [ofRo, hr]
  rw [e1]
  rfl
def oddL (ka kb : K4) (es : List Ed) (n : Bool) (j : Q4) : List D := [.none, .list (itemsL (modD ka kb es) n j), .tuple [.str "prog", .tuple [], .tuple [modD ka kb es, bareD]], prgD (m5D ka kb) n (jq j)]
theorem odd_ok (ka kb : K4) (es : List Ed) (n : Bool) (j : Q4) (h : ∀ e ∈ es, e.as.length ≤ 7) (hn : es.length ≤ 5) : ∀ d ∈ oddL ka kb es n j, f_law_refused [d] = .ok (.bool true) := by
  have hm := ok_mod ka kb es h hn
  intro d hd
  simp only [oddL, List.mem_cons, List.not_mem_nil, or_false] at hd
  rcases hd with rfl | rfl | rfl | rfl
  · exact v_refused (by kernel_rfl) rfl
  · exact v_refused (by kernel_rfl) (repr_ok rfl (ok_progL hm n j) (by decide) (by decide))
  · exact v_refused (by kernel_rfl) (repr_ok rfl (ok_prog3 hm) (by decide) (by decide))
  · refine v_refused ?_ (repr_prog (ok_m5 ka kb) n j)
    kernel_rfl
end Zo
/-! K14O: the law's draws of asks. -/
namespace Zo
open PySem PySem.Spec PyProof.Rows L2
theorem Dn.up {n m : Int} {k : Dk} (h : Dn n k) (hm : n ≤ m) : Dn m k := ⟨h.1, Int.le_trans h.2 hm⟩
theorem pick_ok {xs : List D} {n : Int} {k : Dk} (h0 : xs ≠ []) (hl : xs.length < 1000) (h : Dn n k) (hn : n < 1000000000) : ∃ d k', f_law_pick [.list xs] k = .ok d k' ∧ d ∈ xs ∧ Dn (n + 1) k' := by
  have hp : 0 < xs.length := List.length_pos_iff.mpr h0
  obtain ⟨i, k', e, i0, i1, hk⟩ := draw_ok (b := xs.length) (by omega) (by omega) h hn
  obtain ⟨d, e2, hm⟩ := ixList i0 i1
  refine ⟨d, k', ?_, hm, hk⟩
  simp [f_law_pick, b_law_pick, runFn, runFnD, roOf, rdOf, envOf0, seqS, skipS, setS, ownS, retS, ifS, doS, fixS, par2S, par2M, par3S, parOS, unpS, raiseS, evVar, evVarB, evLit, evNil, evCons, evTup, evLst, evBin, evBinL, ev1, ev1L, evAnd, evOr, evNot, evIf, evT, evTnot, evTand, evTor, evChain, evCall, evCallD, evCallK, ofRo, ofRd, ofRn, lstOf, evSl, evSlL, ptOf, ptNo, asInt, asBool, toOut, Out.bind, evPop, evApp, evExt, evItL, evItT, evItS, evRng1, evZip, setMany, lenD, e, e2]
theorem pick_clk {n : Int} {k : Dk} (h : Dn n k) (hn : n < 1000000000) : ∃ (c : Bool) (k' : Dk), f_law_pick [.list [.str "x", .str "y"]] k = .ok (.str (clk c)) k' ∧ Dn (n + 1) k' := by
  obtain ⟨d, k', e, hd, hk⟩ := pick_ok (xs := [.str "x", .str "y"]) (by simp) (by simp) h hn
  simp only [List.mem_cons, List.not_mem_nil, or_false] at hd
  rcases hd with rfl | rfl
  · exact ⟨false, k', e, hk⟩
  · exact ⟨true, k', e, hk⟩
theorem pick_op4 {n : Int} {k : Dk} (h : Dn n k) (hn : n < 1000000000) : ∃ (p : Q4) (k' : Dk), f_law_pick [.list [.str "<", .str "<=", .str ">=", .str ">"]] k = .ok (.str (opD p)) k' ∧ Dn (n + 1) k' := by
  obtain ⟨d, k', e, hd, hk⟩ := pick_ok (xs := [.str "<", .str "<=", .str ">=", .str ">"]) (by simp) (by simp) h hn
  simp only [List.mem_cons, List.not_mem_nil, or_false] at hd
  rcases hd with rfl | rfl | rfl | rfl
  · exact ⟨.q0, k', e, hk⟩
  · exact ⟨.q1, k', e, hk⟩
  · exact ⟨.q2, k', e, hk⟩
  · exact ⟨.q3, k', e, hk⟩
theorem pick_op5 {n : Int} {k : Dk} (h : Dn n k) (hn : n < 1000000000) : ∃ (p : Q4) (k' : Dk), f_law_pick [.list [.str "<", .str "<=", .str "<=", .str ">=", .str ">"]] k = .ok (.str (opD p)) k' ∧ Dn (n + 1) k' := by
  obtain ⟨d, k', e, hd, hk⟩ := pick_ok (xs := [.str "<", .str "<=", .str "<=", .str ">=", .str ">"]) (by simp) (by simp) h hn
  simp only [List.mem_cons, List.not_mem_nil, or_false] at hd
  rcases hd with rfl | rfl | rfl | rfl | rfl
  · exact ⟨.q0, k', e, hk⟩
  · exact ⟨.q1, k', e, hk⟩
  · exact ⟨.q1, k', e, hk⟩
  · exact ⟨.q2, k', e, hk⟩
  · exact ⟨.q3, k', e, hk⟩
theorem pick_v4 {n : Int} {k : Dk} (h : Dn n k) (hn : n < 1000000000) : ∃ (p : Q4) (k' : Dk), f_law_pick [.list [.int 0, .int 1, .int (-2), .str "k"]] k = .ok (v4 p) k' ∧ Dn (n + 1) k' := by
  obtain ⟨d, k', e, hd, hk⟩ := pick_ok (xs := [.int 0, .int 1, .int (-2), .str "k"]) (by simp) (by simp) h hn
  simp only [List.mem_cons, List.not_mem_nil, or_false] at hd
  rcases hd with rfl | rfl | rfl | rfl
  · exact ⟨.q0, k', e, hk⟩
  · exact ⟨.q1, k', e, hk⟩
  · exact ⟨.q2, k', e, hk⟩
  · exact ⟨.q3, k', e, hk⟩
theorem pick_v3 {n : Int} {k : Dk} (h : Dn n k) (hn : n < 1000000000) : ∃ (p : Q4) (k' : Dk), f_law_pick [.list [.int 0, .int 1, .int 3, .str "k"]] k = .ok (v3 p) k' ∧ Dn (n + 1) k' := by
  obtain ⟨d, k', e, hd, hk⟩ := pick_ok (xs := [.int 0, .int 1, .int 3, .str "k"]) (by simp) (by simp) h hn
  simp only [List.mem_cons, List.not_mem_nil, or_false] at hd
  rcases hd with rfl | rfl | rfl | rfl
  · exact ⟨.q0, k', e, hk⟩
  · exact ⟨.q1, k', e, hk⟩
  · exact ⟨.q2, k', e, hk⟩
  · exact ⟨.q3, k', e, hk⟩
abbrev stK (as : List Ask) (x2 x3 x4 : Sv) (k : Dk) : Ms := ⟨[.deck, .own (as.map Ask.d), x2, x3, x4, .un], k, false⟩
def a4 : Ev := (evTup (evCons (evVar 3) (evCons (evCallD 0 f_law_pick (evCons (lstOf (evLst (evCons (evLit (.str "x")) (evCons (evLit (.str "y")) evNil)))) evNil)) (evCons (evCallD 0 f_law_pick (evCons (lstOf (evLst (evCons (evLit (.str "<")) (evCons (evLit (.str "<=")) (evCons (evLit (.str ">=")) (evCons (evLit (.str ">")) evNil)))))) evNil)) (evCons (evCallD 0 f_law_pick (evCons (lstOf (evLst (evCons (evLit (.int 0)) (evCons (evLit (.int 1)) (evCons (ev1 negD (evLit (.int 2))) (evCons (evLit (.str "k")) evNil)))))) evNil)) evNil)))))
def a3 : Ev := (evTup (evCons (evVar 3) (evCons (evCallD 0 f_law_pick (evCons (lstOf (evLst (evCons (evLit (.str "<")) (evCons (evLit (.str "<=")) (evCons (evLit (.str "<=")) (evCons (evLit (.str ">=")) (evCons (evLit (.str ">")) evNil))))))) evNil)) (evCons (evCallD 0 f_law_pick (evCons (lstOf (evLst (evCons (evLit (.int 0)) (evCons (evLit (.int 1)) (evCons (evLit (.int 3)) (evCons (evLit (.str "k")) evNil)))))) evNil)) evNil))))
def bTn : Ex := (seqS (par2S 3 4 (evCallD 0 f_law_pick (evCons (lstOf (evLst (evCons (evLit (.str "x")) (evCons (evLit (.str "y")) evNil)))) evNil)) (evCallD 0 drawF (evCons (evLit (.int 5)) evNil))) (ifS (evT (evBin (cmpI (fun i j => decide (i < j))) (evVarB 4) (evLit (.int 2)))) (doS (evApp 1 a4)) (doS (evApp 1 a3))))
theorem a4_ok {n : Int} {k : Dk} (h : Dn n k) (hn : n + 10 < 1000000000) (c : Bool) : ∃ (a : Ask) (k' : Dk), Dn (n + 3) k' ∧ ∀ as x2 x4, a4 (stK as x2 (.fz (.str (clk c))) x4 k) = .ok a.d (stK as x2 (.fz (.str (clk c))) x4 k') := by
  obtain ⟨o, k1, e1, h1⟩ := pick_clk h (by omega)
  obtain ⟨p, k2, e2, h2⟩ := pick_op4 h1 (by omega)
  obtain ⟨v, k3, e3, h3⟩ := pick_v4 h2 (by omega)
  refine ⟨.four c o p v, k3, h3.up (by omega), fun as x2 x4 => ?_⟩
  simp [a4, runFn, runFnD, roOf, rdOf, envOf0, seqS, skipS, setS, ownS, retS, ifS, doS, fixS, par2S, par2M, par3S, parOS, unpS, raiseS, evVar, evVarB, evLit, evNil, evCons, evTup, evLst, evBin, evBinL, ev1, ev1L, evAnd, evOr, evNot, evIf, evT, evTnot, evTand, evTor, evChain, evCall, evCallD, evCallK, ofRo, ofRd, ofRn, lstOf, evSl, evSlL, ptOf, ptNo, asInt, asBool, toOut, Out.bind, evPop, evApp, evExt, evItL, evItT, evItS, evRng1, evZip, setMany, negD, e1, e2, e3, Ask.d]
theorem a3_ok {n : Int} {k : Dk} (h : Dn n k) (hn : n + 10 < 1000000000) (c : Bool) : ∃ (a : Ask) (k' : Dk), Dn (n + 3) k' ∧ ∀ as x2 x4, a3 (stK as x2 (.fz (.str (clk c))) x4 k) = .ok a.d (stK as x2 (.fz (.str (clk c))) x4 k') := by
  obtain ⟨p, k2, e2, h2⟩ := pick_op5 h (by omega)
  obtain ⟨v, k3, e3, h3⟩ := pick_v3 h2 (by omega)
  refine ⟨.three c p v, k3, h3.up (by omega), fun as x2 x4 => ?_⟩
  simp [a3, runFn, runFnD, roOf, rdOf, envOf0, seqS, skipS, setS, ownS, retS, ifS, doS, fixS, par2S, par2M, par3S, parOS, unpS, raiseS, evVar, evVarB, evLit, evNil, evCons, evTup, evLst, evBin, evBinL, ev1, ev1L, evAnd, evOr, evNot, evIf, evT, evTnot, evTand, evTor, evChain, evCall, evCallD, evCallK, ofRo, ofRd, ofRn, lstOf, evSl, evSlL, ptOf, ptNo, asInt, asBool, toOut, Out.bind, evPop, evApp, evExt, evItL, evItT, evItS, evRng1, evZip, setMany, e2, e3, Ask.d]
theorem bTn_ok {n : Int} {k : Dk} (h : Dn n k) (hn : n + 20 < 1000000000) : ∃ (a : Ask) (y3 y4 : Sv) (k' : Dk), Dn (n + 5) k' ∧ ∀ as x2 x3 x4, as.length ≤ 900 → bTn (stK as x2 x3 x4 k) = .ok .nx (stK (as ++ [a]) x2 y3 y4 k') := by
  obtain ⟨c, k1, e1, h1⟩ := pick_clk h (by omega)
  obtain ⟨i, k2, e2, i0, i5, h2⟩ := draw_ok (b := 5) (by decide) (by decide) h1 (by omega)
  obtain ⟨b4, k3, h3, e3⟩ := a4_ok h2 (by omega) c
  obtain ⟨b3, k4, h4, e4⟩ := a3_ok h2 (by omega) c
  have fin : ∀ (X : Ev) (a : Ask) (k' : Dk), (∀ as x2 x4, X (stK as x2 (.fz (.str (clk c))) x4 k2) = .ok a.d (stK as x2 (.fz (.str (clk c))) x4 k')) → ∀ as x2, as.length ≤ 900 → doS (evApp 1 X) (stK as x2 (.fz (.str (clk c))) (.fz (.int i)) k2) = .ok .nx (stK (as ++ [a]) x2 (.fz (.str (clk c))) (.fz (.int i)) k') := fun X a k' hX as x2 hl => by
    refine (app_do (i := 1) (ds := as.map Ask.d) ⟨_, rfl⟩ (hX as x2 _) rfl (by simp; omega)).trans ?_
    show Out.ok Fl.nx (⟨[.deck, .own (as.map Ask.d ++ [a.d]), x2, .fz (.str (clk c)), .fz (.int i), .un], k', false⟩ : Ms) = _
    rw [stK, List.map_append]
    rfl
  have pre : ∀ as x2 x3 x4, par2S 3 4 (evCallD 0 f_law_pick (evCons (lstOf (evLst (evCons (evLit (.str "x")) (evCons (evLit (.str "y")) evNil)))) evNil)) (evCallD 0 drawF (evCons (evLit (.int 5)) evNil)) (stK as x2 x3 x4 k) = .ok .nx (stK as x2 (.fz (.str (clk c))) (.fz (.int i)) k2) := fun as x2 x3 x4 => by
    simp [runFn, runFnD, roOf, rdOf, envOf0, seqS, skipS, setS, ownS, retS, ifS, doS, fixS, par2S, par2M, par3S, parOS, unpS, raiseS, evVar, evVarB, evLit, evNil, evCons, evTup, evLst, evBin, evBinL, ev1, ev1L, evAnd, evOr, evNot, evIf, evT, evTnot, evTand, evTor, evChain, evCall, evCallD, evCallK, ofRo, ofRd, ofRn, lstOf, evSl, evSlL, ptOf, ptNo, asInt, asBool, toOut, Out.bind, evPop, evApp, evExt, evItL, evItT, evItS, evRng1, evZip, setMany, stK, e1, e2]
  by_cases hi : i < 2
  · refine ⟨b4, .fz (.str (clk c)), .fz (.int i), k3, h3.up (by omega), fun as x2 x3 x4 hl => ?_⟩
    unfold bTn
    rw [seqS_nx (pre as x2 x3 x4)]
    have q := fin a4 b4 k3 e3 as x2 hl
    have cnd : evT (evBin (cmpI (fun i j => decide (i < j))) (evVarB 4) (evLit (.int 2))) (stK as x2 (.fz (.str (clk c))) (.fz (.int i)) k2) = .ok true (stK as x2 (.fz (.str (clk c))) (.fz (.int i)) k2) := by
      simp [runFn, runFnD, roOf, rdOf, envOf0, seqS, skipS, setS, ownS, retS, ifS, doS, fixS, par2S, par2M, par3S, parOS, unpS, raiseS, evVar, evVarB, evLit, evNil, evCons, evTup, evLst, evBin, evBinL, ev1, ev1L, evAnd, evOr, evNot, evIf, evT, evTnot, evTand, evTor, evChain, evCall, evCallD, evCallK, ofRo, ofRd, ofRn, lstOf, evSl, evSlL, ptOf, ptNo, asInt, asBool, toOut, Out.bind, evPop, evApp, evExt, evItL, evItT, evItS, evRng1, evZip, setMany, stK, cmpI, hi]
    unfold ifS
    rw [cnd]
    exact q
  · refine ⟨b3, .fz (.str (clk c)), .fz (.int i), k4, h4.up (by omega), fun as x2 x3 x4 hl => ?_⟩
    unfold bTn
    rw [seqS_nx (pre as x2 x3 x4)]
    have q := fin a3 b3 k4 e4 as x2 hl
    have cnd : evT (evBin (cmpI (fun i j => decide (i < j))) (evVarB 4) (evLit (.int 2))) (stK as x2 (.fz (.str (clk c))) (.fz (.int i)) k2) = .ok false (stK as x2 (.fz (.str (clk c))) (.fz (.int i)) k2) := by
      simp [runFn, runFnD, roOf, rdOf, envOf0, seqS, skipS, setS, ownS, retS, ifS, doS, fixS, par2S, par2M, par3S, parOS, unpS, raiseS, evVar, evVarB, evLit, evNil, evCons, evTup, evLst, evBin, evBinL, ev1, ev1L, evAnd, evOr, evNot, evIf, evT, evTnot, evTand, evTor, evChain, evCall, evCallD, evCallK, ofRo, ofRd, ofRn, lstOf, evSl, evSlL, ptOf, ptNo, asInt, asBool, toOut, Out.bind, evPop, evApp, evExt, evItL, evItT, evItS, evRng1, evZip, setMany, stK, cmpI, hi]
    unfold ifS
    rw [cnd]
    exact q
theorem turns : ∀ (ds : List D) (as : List Ask) (x2 x3 x4 : Sv) (n : Int) (k : Dk), Dn n k → n + 20 * (ds.length + 1) < 1000000000 → as.length + ds.length ≤ 900 →
    ∃ (as' : List Ask) (y2 y3 y4 : Sv) (k' : Dk), as'.length = as.length + ds.length ∧ Dn (n + 5 * ds.length) k' ∧ forGo (tgN 2) bTn ds (stK as x2 x3 x4 k) = .ok .nx (stK as' y2 y3 y4 k')
  | [], as, x2, x3, x4, n, k, h, _, _ => ⟨as, x2, x3, x4, k, by simp, by simpa using h, rfl⟩
  | d :: ds, as, x2, x3, x4, n, k, h, hn, hl => by
    simp only [List.length_cons] at hn hl
    obtain ⟨a, y3, y4, k1, h1, e1⟩ := bTn_ok h (by omega)
    obtain ⟨as', z2, z3, z4, k', hl', h2, e2⟩ := turns ds (as ++ [a]) (.fz d) y3 y4 (n + 5) k1 h1 (by omega) (by simp; omega)
    refine ⟨as', z2, z3, z4, k', by rw [hl']; simp; omega, h2.up (by simp only [List.length_cons]; omega), ?_⟩
    have e0 : forGo (tgN 2) bTn (d :: ds) (stK as x2 x3 x4 k) = stepS (bTn (stK as (.fz d) x3 x4 k)) (forGo (tgN 2) bTn ds) := rfl
    rw [e0, e1 as (.fz d) x3 x4 (by omega)]
    exact e2
def popA : Ev := (evPopAt 1 (evCallD 0 drawF (evCons (ev1 lenD (evVarB 1)) evNil)))
theorem erase_map {α β : Type} (f : α → β) : ∀ (l : List α) (i : Nat), (l.map f).eraseIdx i = (l.eraseIdx i).map f
  | [], _ => rfl
  | _ :: _, 0 => rfl
  | x :: l, i + 1 => by simp [List.eraseIdx, erase_map f l i]
theorem pop_ok {n : Int} {k : Dk} {t : List Ask} (ht : 0 < t.length) (hl : t.length ≤ 900) (h : Dn n k) (hn : n < 1000000000) : ∃ (p : Ask) (i : Nat) (k' : Dk), i < t.length ∧ Dn (n + 1) k' ∧
    ∀ x2 x3 x4 x5, popA ⟨[.deck, .own (t.map Ask.d), x2, x3, x4, x5], k, false⟩ = .ok p.d ⟨[.deck, .own ((t.eraseIdx i).map Ask.d), x2, x3, x4, x5], k', false⟩ := by
  obtain ⟨i, k1, h1, i0, i1, hk1⟩ := draw_ok (b := t.length) (by omega) (by omega) h hn
  have hi : i.toNat < t.length := by omega
  have hg : t[i.toNat]? = some t[i.toNat] := List.getElem?_eq_getElem hi
  have hb : 0 ≤ i ∧ i < 1000000 := ⟨i0, by omega⟩
  refine ⟨t[i.toNat], i.toNat, k1, hi, hk1, fun _ _ _ _ => ?_⟩
  have h1' : drawF [.int (t.length : Int)] k = .ok (.int i) k1 := h1
  have he := erase_map Ask.d t i.toNat
  simp [popA, runFn, runFnD, roOf, rdOf, envOf0, seqS, skipS, setS, ownS, retS, ifS, doS, fixS, par2S, par2M, par3S, parOS, unpS, raiseS, evVar, evVarB, evLit, evNil, evCons, evTup, evLst, evBin, evBinL, ev1, ev1L, evAnd, evOr, evNot, evIf, evT, evTnot, evTand, evTor, evChain, evCall, evCallD, evCallK, ofRo, ofRd, ofRn, lstOf, evSl, evSlL, ptOf, ptNo, asInt, asBool, toOut, Out.bind, evPop, evApp, evExt, evItL, evItT, evItS, evRng1, evZip, setMany, evPopAt, lenD, h1', hb, he, hg]
theorem mix_comp : ∀ (m : Nat) (ds acc : List D) (t : List Ask) (n : Int) (k : Dk), ds.length = m → t.length = m → m ≤ 900 → Dn n k → n + m < 1000000000 → acc.length + m < 2000 →
    ∃ (u : List Ask) (k' : Dk), u.length = m ∧ Dn (n + m) k' ∧ ∀ x2 x3 x4, compGo [5] (tgN 5) evYes popA ds acc (stK t x2 x3 x4 k) = .ok (acc ++ u.map Ask.d) (stK [] x2 x3 x4 k')
  | 0, ds, acc, t, n, k, hd, ht, _, h, _, _ => by
    have e1 := List.length_eq_zero_iff.mp hd
    have e2 := List.length_eq_zero_iff.mp ht
    subst e1 e2
    exact ⟨[], k, rfl, by simpa using h, fun _ _ _ => by simp [compGo]⟩
  | m + 1, ds, acc, t, n, k, hd, ht, hm, h, hn, hl => by
    match ds, hd with
    | d :: ds, hd =>
      obtain ⟨p, i, k1, hi, hk1, e⟩ := pop_ok (t := t) (by omega) (by omega) h (by omega)
      have hlen : (t.eraseIdx i).length = m := by rw [List.length_eraseIdx_of_lt hi]; omega
      obtain ⟨u, k', u1, u2, u3⟩ := mix_comp m ds (acc ++ [p.d]) (t.eraseIdx i) (n + 1) k1 (by simpa using hd) hlen (by omega) hk1 (by omega) (by simp; omega)
      refine ⟨p :: u, k', by simp [u1], ⟨u2.1, by have := u2.2; omega⟩, fun x2 x3 x4 => ?_⟩
      have q := e x2 x3 x4 (.fz d)
      have hl' : acc.length < 1000000 := by omega
      have st : compGo [5] (tgN 5) evYes popA (d :: ds) acc (stK t x2 x3 x4 k) = compGo [5] (tgN 5) evYes popA ds (acc ++ [p.d]) (stK (t.eraseIdx i) x2 x3 x4 k1) := by
        rw [compGo]
        simp only [tgN, stK, List.set, evYes, if_true, q, hl', forgetS, forgetE]
      rw [st, u3]
      simp
theorem intsD_len : ∀ (n : Nat) (i : Int), (intsD i n).length = n := by
  intro n i
  simp [intsD]
theorem asks_ok {n : Int} {k : Dk} (h : Dn n k) (hn : n + 300 < 1000000000) : ∃ (as : List Ask) (k' : Dk), as.length ≤ 7 ∧ Dn (n + 40) k' ∧ f_law_asks [] k = .ok (.tuple (as.map Ask.d)) k' := by
  obtain ⟨i, k1, e1, i0, i6, h1⟩ := draw_ok (b := 6) (by decide) (by decide) h (by omega)
  have hin : i.toNat ≤ 5 := by omega
  obtain ⟨as, y2, y3, y4, k2, hl, h2, e2⟩ := turns (intsD 0 i.toNat) [] .un .un .un (n + 1) k1 h1 (by rw [intsD_len]; omega) (by rw [intsD_len]; simp; omega)
  rw [intsD_len] at hl h2
  obtain ⟨j, k3, e3, j0, j3, h3⟩ := draw_ok (b := 3) (by decide) (by decide) h2 (by omega)
  have s1 : forS (evRng1 (evCallD 0 drawF (evCons (evLit (.int 6)) evNil))) (tgN 2) bTn (stK [] .un .un .un k) = .ok .nx (stK as y2 y3 y4 k2) := by
    have z : evRng1 (evCallD 0 drawF (evCons (evLit (.int 6)) evNil)) (stK [] .un .un .un k) = .ok (intsD 0 i.toNat) (stK [] .un .un .un k1) := by
      have z0 : evRng1 (evCallD 0 drawF (evCons (evLit (.int 6)) evNil)) (stK [] .un .un .un k) = (ofRd (drawF [.int 6] k) (stK [] .un .un .un k)).bind fun d s1 => match d with
        | .int j => if -(2 ^ 62) ≤ j ∧ j < 2 ^ 62 then .ok (intsD 0 j.toNat) s1 else .no
        | _ => .no := rfl
      rw [z0, e1]
      exact if_pos ⟨by omega, by omega⟩
    unfold forS
    rw [z]
    exact e2
  have s2 : ∃ bs : List Ask, bs.length ≤ 7 ∧ ifS (evT (evBin eqD (evCallD 0 drawF (evCons (evLit (.int 3)) evNil)) (evLit (.int 0)))) (ownS 1 (evBinL addL (lstOf (evLst (evCons (evTup (evCons (evLit (.str "x")) (evCons (evLit (.str "<=")) (evCons (evLit (.int 3)) evNil)))) (evCons (evTup (evCons (evLit (.str "y")) (evCons (evLit (.str "<")) (evCons (evLit (.str "k")) evNil)))) evNil)))) (evVarB 1))) skipS (stK as y2 y3 y4 k2) = .ok .nx (stK bs y2 y3 y4 k3) := by
    have cnd : evT (evBin eqD (evCallD 0 drawF (evCons (evLit (.int 3)) evNil)) (evLit (.int 0))) (stK as y2 y3 y4 k2) = .ok (j == 0) (stK as y2 y3 y4 k3) := by
      simp [runFn, runFnD, roOf, rdOf, envOf0, seqS, skipS, setS, ownS, retS, ifS, doS, fixS, par2S, par2M, par3S, parOS, unpS, raiseS, evVar, evVarB, evLit, evNil, evCons, evTup, evLst, evBin, evBinL, ev1, ev1L, evAnd, evOr, evNot, evIf, evT, evTnot, evTand, evTor, evChain, evCall, evCallD, evCallK, ofRo, ofRd, ofRn, lstOf, evSl, evSlL, ptOf, ptNo, asInt, asBool, toOut, Out.bind, evPop, evApp, evExt, evItL, evItT, evItS, evRng1, evZip, setMany, stK, e3, eqI]
    by_cases hj : j = 0
    · subst hj
      refine ⟨.three false .q1 .q2 :: .three true .q0 .q3 :: as, by simp; simp at hl; omega, ?_⟩
      unfold ifS
      rw [cnd]
      have ha : addL (.list [(Ask.three false .q1 .q2).d, (Ask.three true .q0 .q3).d]) (.list (as.map Ask.d)) = some ([(Ask.three false .q1 .q2).d, (Ask.three true .q0 .q3).d] ++ as.map Ask.d) := by
        show (if _ then _ else _) = _
        rw [if_pos]
        rw [sizeLine_eq]
        simp
        simp at hl
        omega
      have hb : evBinL addL (lstOf (evLst (evCons (evTup (evCons (evLit (.str "x")) (evCons (evLit (.str "<=")) (evCons (evLit (.int 3)) evNil)))) (evCons (evTup (evCons (evLit (.str "y")) (evCons (evLit (.str "<")) (evCons (evLit (.str "k")) evNil)))) evNil)))) (evVarB 1) (stK as y2 y3 y4 k3) = toOut (addL (.list [(Ask.three false .q1 .q2).d, (Ask.three true .q0 .q3).d]) (.list (as.map Ask.d))) (stK as y2 y3 y4 k3) := rfl
      rw [ha] at hb
      show ownS 1 _ (stK as y2 y3 y4 k3) = _
      unfold ownS
      rw [hb]
      rfl
    · refine ⟨as, by simp at hl; omega, ?_⟩
      unfold ifS
      rw [cnd, show (j == 0) = false by simpa using hj]
      rfl
  obtain ⟨bs, hbs, s2⟩ := s2
  obtain ⟨u, k', u1, u2, u3⟩ := mix_comp bs.length (intsD 0 bs.length) [] bs (n + 1 + 5 * i.toNat + 1) k3 (intsD_len _ _) rfl (by omega) h3 (by omega) (by simp; omega)
  refine ⟨u, k', by omega, u2.up (by omega), ?_⟩
  have s3 : retS (ev1 tupD (lstOf (evComp [5] (evRng1 (ev1 lenD (evVarB 1))) (tgN 5) evYes popA))) (stK bs y2 y3 y4 k3) = .ok (.rt (.tuple (u.map Ask.d))) (stK [] y2 y3 y4 k') := by
    have hr : evRng1 (ev1 lenD (evVarB 1)) (stK bs y2 y3 y4 k3) = .ok (intsD 0 bs.length) (stK bs y2 y3 y4 k3) := by
      have q := rng_gen (a := ev1 lenD (evVarB 1)) (s := stK bs y2 y3 y4 k3) (j := (bs.length : Int)) ⟨by omega, by omega⟩ (by simp [runFn, runFnD, roOf, rdOf, envOf0, seqS, skipS, setS, ownS, retS, ifS, doS, fixS, par2S, par2M, par3S, parOS, unpS, raiseS, evVar, evVarB, evLit, evNil, evCons, evTup, evLst, evBin, evBinL, ev1, ev1L, evAnd, evOr, evNot, evIf, evT, evTnot, evTand, evTor, evChain, evCall, evCallD, evCallK, ofRo, ofRd, ofRn, lstOf, evSl, evSlL, ptOf, ptNo, asInt, asBool, toOut, Out.bind, evPop, evApp, evExt, evItL, evItT, evItS, evRng1, evZip, setMany, stK, lenD])
      rwa [Int.toNat_natCast] at q
    refine ret_ok (ev1_ok (d := .list (u.map Ask.d)) (lst_ok ?_) rfl)
    unfold evComp
    rw [hr]
    exact u3 y2 y3 y4
  have e0 : f_law_asks [] k = rdOf (b_law_asks ⟨[.deck, .un, .un, .un, .un, .un], k, false⟩) := rfl
  rw [e0]
  have e1 : b_law_asks ⟨[.deck, .un, .un, .un, .un, .un], k, false⟩ = .ok (.rt (.tuple (u.map Ask.d))) (stK [] y2 y3 y4 k') := by
    unfold b_law_asks
    refine (seqS_nx (s1 := stK [] .un .un .un k) rfl).trans ?_
    refine (seqS_nx s1).trans ?_
    exact (seqS_nx s2).trans s3
  rw [e1]
  rfl
end Zo
/-! K14P: the law, in plain Lean. -/
namespace Zo
open PySem PySem.Spec PyProof.Rows L2
noncomputable section
def S1 : Ex := (setS 3 (lstOf (evLst (evCons (evTup evNil) (evCons (evTup (evCons (evTup (evCons (evLit (.str "x")) (evCons (evLit (.str "<=")) (evCons (evLit (.int 4)) evNil)))) evNil)) (evCons (evTup (evCons (evTup (evCons (evLit (.str "x")) (evCons (evLit (.str "<=")) (evCons (evLit (.int 4)) evNil)))) (evCons (evTup (evCons (evLit (.str "y")) (evCons (evLit (.str "<")) (evCons (evLit (.int 3)) evNil)))) evNil))) (evCons (evTup (evCons (evTup (evCons (evLit (.str "y")) (evCons (evLit (.str "<=")) (evCons (evLit (.str "k")) evNil)))) evNil)) evNil)))))))
def S2 : Ex := (setS 4 (lstOf (evComp [5] (evRng1 (evLit (.int 2))) (tgN 5) evYes (evTup (evCons (evBin addS (evLit (.str "p")) (ev1 strI (evVarB 5))) (evCons (evLit (.str "time")) (evCons (evCallD 1 f_law_pick (evCons (evVar 3) evNil)) (evCons (evTup evNil) (evCons (evLit (.int 0)) evNil)))))))))
def S3 : Ex := (ownS 6 (evLst evNil))
def S4 : Ex := (forS (evRng1 (evBin addI (evLit (.int 1)) (evCallD 1 drawF (evCons (evLit (.int 5)) evNil)))) (tgN 7) (seqS (setS 8 (evCallD 1 f_law_pick (evCons (lstOf (evLst (evCons (evTup evNil) (evCons (evTup (evCons (evLit (.str "x")) evNil)) (evCons (evTup (evCons (evLit (.str "x")) (evCons (evLit (.str "y")) evNil))) evNil))))) evNil))) (doS (evApp 6 (evTup (evCons (evCallD 1 f_law_pick (evCons (lstOf (evLst (evCons (evLit (.str "p0")) (evCons (evLit (.str "p1")) evNil)))) evNil)) (evCons (evCallD 1 f_law_pick (evCons (lstOf (evLst (evCons (evLit (.str "p0")) (evCons (evLit (.str "p1")) evNil)))) evNil)) (evCons (evTup (evCons (evLit (.str "own")) (evCons (evLit (.str "go")) evNil))) (evCons (evCallD 1 f_law_asks evNil) (evCons (evTup evNil) (evCons (evVar 8) (evCons (evTup evNil) (evCons (evLit (.int 0)) evNil)))))))))))))
def S5 : Ex := (setS 9 (evTup (evCons (evLit (.str "m")) (evCons (evTup (evCons (evTup (evCons (evLit (.str "k")) (evCons (evLit (.str "number")) evNil))) evNil)) (evCons (evTup (evCons (evLit (.str "x")) (evCons (evLit (.str "y")) evNil))) (evCons (evTup evNil) (evCons (ev1 tupD (evVarB 4)) (evCons (ev1 tupD (evVarB 6)) evNil))))))))
def S6 : Ex := (setS 10 (evTup (evCons (evLit (.str "z")) (evCons (evTup evNil) (evCons (evTup evNil) (evCons (evTup evNil) (evCons (evTup (evCons (evTup (evCons (evLit (.str "p0")) (evCons (evLit (.str "time")) (evCons (evTup evNil) (evCons (evTup evNil) (evCons (evLit (.int 0)) evNil)))))) evNil)) (evCons (evTup evNil) evNil))))))))
def S7 : Ex := (setS 11 (evTup (evCons (evLit (.str "prog")) (evCons (evTup evNil) (evCons (evTup (evCons (evVar 9) (evCons (evVar 10) evNil))) (evCons (evSl (evTup (evCons (evTup (evCons (evLit (.str "a")) (evCons (evLit (.str "m")) (evCons (evTup (evCons (evBin addI (evLit (.int 1)) (evCallD 1 drawF (evCons (evLit (.int 4)) evNil))) evNil)) evNil)))) (evCons (evTup (evCons (evLit (.str "b")) (evCons (evLit (.str "z")) (evCons (evTup evNil) evNil)))) evNil))) ptNo (ptOf (evBin addI (evLit (.int 1)) (evCallD 1 drawF (evCons (evLit (.int 2)) evNil))))) evNil))))))
def S8 : Ex := (setS 12 (ev1 tupD (lstOf (evComp [5] (evRng1 (ev1 lenD (evVarB 6))) (tgN 5) (evT (evCall f_law_is_far (evCons (evBin ixD (evBin ixD (evVarB 6) (evVarB 5)) (evLit (.int 3))) evNil))) (evTup (evCons (evTup (evCons (evLit (.str "edge")) (evCons (evLit (.str "m")) (evCons (evVar 5) evNil)))) (evCons (evLit (.str "far")) evNil)))))))
def S9 : Ex := (setS 13 (ev1 reprD (evVar 11)))
def S10 : Ex := (ifS (evT (evBin neSt (ev1 reprD (lstOf (evLst (evCons (evCall f_faults_of (evCons (evVar 11) evNil)) (evCons (evCallK f_faults_of [0] (evCons (evVar 11) evNil)) (evCons (evCall f_is_program (evCons (evVar 11) evNil)) evNil)))))) (ev1 reprD (lstOf (evLst (evCons (evVar 12) (evCons (evVar 12) (evCons (evBin eqD (evVarB 12) (evTup evNil)) evNil)))))))) (retS (evLit (.bool false))) skipS)
def S11 : Ex := (setS 14 (evCallD 1 f_law_pick (evCons (lstOf (evLst (evCons (evLit .none) (evCons (lstOf (ev1L listD (evVarB 11))) (evCons (evSl (evVarB 11) ptNo (ptOf (evLit (.int 3)))) (evCons (evTup (evCons (evLit (.str "prog")) (evCons (evTup evNil) (evCons (evTup (evCons (evSl (evVarB 9) ptNo (ptOf (evLit (.int 5)))) (evCons (evVar 10) evNil))) (evCons (evBin ixD (evVarB 11) (evLit (.int 3))) evNil))))) evNil)))))) evNil)))
def S12 : Ex := (ifS (evTor (evTnot (evT (evCall f_law_refused (evCons (evVar 14) evNil)))) (evT (evBin neSt (ev1 reprD (evVar 11)) (evVarB 13)))) (retS (evLit (.bool false))) skipS)
def bodyL : Ex := (seqS S1 (seqS S2 (seqS S3 (seqS S4 (seqS S5 (seqS S6 (seqS S7 (seqS S8 (seqS S9 (seqS S10 (seqS S11 S12)))))))))))
def keepsD : D := .list [.tuple (kp .k0), .tuple (kp .k1), .tuple (kp .k2), .tuple (kp .k3)]
abbrev stL (x2 x3 x4 x6 x7 x8 x9 x10 x11 x12 x13 x14 : Sv) (k : Dk) : Ms := ⟨[.un, .deck, x2, x3, x4, .un, x6, x7, x8, x9, x10, x11, x12, x13, x14], k, false⟩
theorem pick_keep {n : Int} {k : Dk} (h : Dn n k) (hn : n < 1000000000) : ∃ (q : K4) (k' : Dk), f_law_pick [keepsD] k = .ok (.tuple (kp q)) k' ∧ Dn (n + 1) k' := by
  obtain ⟨d, k', e, hd, hk⟩ := pick_ok (xs := [.tuple (kp .k0), .tuple (kp .k1), .tuple (kp .k2), .tuple (kp .k3)]) (by simp) (by simp) h hn
  simp only [List.mem_cons, List.not_mem_nil, or_false] at hd
  rcases hd with rfl | rfl | rfl | rfl
  · exact ⟨.k0, k', e, hk⟩
  · exact ⟨.k1, k', e, hk⟩
  · exact ⟨.k2, k', e, hk⟩
  · exact ⟨.k3, k', e, hk⟩
theorem pick_res {n : Int} {k : Dk} (h : Dn n k) (hn : n < 1000000000) : ∃ (r : R3) (k' : Dk), f_law_pick [.list [.tuple [], .tuple [.str "x"], .tuple [.str "x", .str "y"]]] k = .ok (.tuple (resL r)) k' ∧ Dn (n + 1) k' := by
  obtain ⟨d, k', e, hd, hk⟩ := pick_ok (xs := [.tuple [], .tuple [.str "x"], .tuple [.str "x", .str "y"]]) (by simp) (by simp) h hn
  simp only [List.mem_cons, List.not_mem_nil, or_false] at hd
  rcases hd with rfl | rfl | rfl
  · exact ⟨.r0, k', e, hk⟩
  · exact ⟨.r1, k', e, hk⟩
  · exact ⟨.r2, k', e, hk⟩
theorem pick_pl {n : Int} {k : Dk} (h : Dn n k) (hn : n < 1000000000) : ∃ (b : Bool) (k' : Dk), f_law_pick [.list [.str "p0", .str "p1"]] k = .ok (.str (pl b)) k' ∧ Dn (n + 1) k' := by
  obtain ⟨d, k', e, hd, hk⟩ := pick_ok (xs := [.str "p0", .str "p1"]) (by simp) (by simp) h hn
  simp only [List.mem_cons, List.not_mem_nil, or_false] at hd
  rcases hd with rfl | rfl
  · exact ⟨false, k', e, hk⟩
  · exact ⟨true, k', e, hk⟩
theorem S1_ok (x2 x3 x4 x6 x7 x8 x9 x10 x11 x12 x13 x14 : Sv) (k : Dk) : S1 (stL x2 x3 x4 x6 x7 x8 x9 x10 x11 x12 x13 x14 k) = .ok .nx (stL x2 (.fz keepsD) x4 x6 x7 x8 x9 x10 x11 x12 x13 x14 k) := rfl
def eltP : Ev := (evTup (evCons (evBin addS (evLit (.str "p")) (ev1 strI (evVarB 5))) (evCons (evLit (.str "time")) (evCons (evCallD 1 f_law_pick (evCons (evVar 3) evNil)) (evCons (evTup evNil) (evCons (evLit (.int 0)) evNil))))))
theorem S2_ok {n : Int} {k : Dk} (h : Dn n k) (hn : n + 10 < 1000000000) : ∃ (ka kb : K4) (k' : Dk), Dn (n + 2) k' ∧ ∀ x2 x4 x6 x7 x8 x9 x10 x11 x12 x13 x14, S2 (stL x2 (.fz keepsD) x4 x6 x7 x8 x9 x10 x11 x12 x13 x14 k) = .ok .nx (stL x2 (.fz keepsD) (.fz (.list [plD false ka, plD true kb])) x6 x7 x8 x9 x10 x11 x12 x13 x14 k') := by
  obtain ⟨ka, k1, e1, h1⟩ := pick_keep h (by omega)
  obtain ⟨kb, k2, e2, h2⟩ := pick_keep h1 (by omega)
  refine ⟨ka, kb, k2, h2.up (by omega), fun x2 x4 x6 x7 x8 x9 x10 x11 x12 x13 x14 => ?_⟩
  have p0 : evBin addS (evLit (.str "p")) (ev1 strI (evVarB 5)) ⟨[.un, .deck, x2, .fz keepsD, x4, .fz (.int 0), x6, x7, x8, x9, x10, x11, x12, x13, x14], k, false⟩ = .ok (.str "p0") ⟨[.un, .deck, x2, .fz keepsD, x4, .fz (.int 0), x6, x7, x8, x9, x10, x11, x12, x13, x14], k, false⟩ := by kernel_rfl
  have p1 : evBin addS (evLit (.str "p")) (ev1 strI (evVarB 5)) ⟨[.un, .deck, x2, .fz keepsD, x4, .fz (.int 1), x6, x7, x8, x9, x10, x11, x12, x13, x14], k1, false⟩ = .ok (.str "p1") ⟨[.un, .deck, x2, .fz keepsD, x4, .fz (.int 1), x6, x7, x8, x9, x10, x11, x12, x13, x14], k1, false⟩ := by kernel_rfl
  have l0 : eltP ⟨[.un, .deck, x2, .fz keepsD, x4, .fz (.int 0), x6, x7, x8, x9, x10, x11, x12, x13, x14], k, false⟩ = .ok (plD false ka) ⟨[.un, .deck, x2, .fz keepsD, x4, .fz (.int 0), x6, x7, x8, x9, x10, x11, x12, x13, x14], k1, false⟩ := by
    unfold eltP
    simp only [evTup, evCons, evNil, p0, Out.bind_ok, evLit]
    simp [runFn, runFnD, roOf, rdOf, envOf0, seqS, skipS, setS, ownS, retS, ifS, doS, fixS, par2S, par2M, par3S, parOS, unpS, raiseS, evVar, evVarB, evLit, evNil, evCons, evTup, evLst, evBin, evBinL, ev1, ev1L, evAnd, evOr, evNot, evIf, evT, evTnot, evTand, evTor, evChain, evCall, evCallD, evCallK, ofRo, ofRd, ofRn, lstOf, evSl, evSlL, ptOf, ptNo, asInt, asBool, toOut, Out.bind, evPop, evApp, evExt, evItL, evItT, evItS, evRng1, evZip, setMany, e1]
    rfl
  have l1 : eltP ⟨[.un, .deck, x2, .fz keepsD, x4, .fz (.int 1), x6, x7, x8, x9, x10, x11, x12, x13, x14], k1, false⟩ = .ok (plD true kb) ⟨[.un, .deck, x2, .fz keepsD, x4, .fz (.int 1), x6, x7, x8, x9, x10, x11, x12, x13, x14], k2, false⟩ := by
    unfold eltP
    simp only [evTup, evCons, evNil, p1, Out.bind_ok, evLit]
    simp [runFn, runFnD, roOf, rdOf, envOf0, seqS, skipS, setS, ownS, retS, ifS, doS, fixS, par2S, par2M, par3S, parOS, unpS, raiseS, evVar, evVarB, evLit, evNil, evCons, evTup, evLst, evBin, evBinL, ev1, ev1L, evAnd, evOr, evNot, evIf, evT, evTnot, evTand, evTor, evChain, evCall, evCallD, evCallK, ofRo, ofRd, ofRn, lstOf, evSl, evSlL, ptOf, ptNo, asInt, asBool, toOut, Out.bind, evPop, evApp, evExt, evItL, evItT, evItS, evRng1, evZip, setMany, e2]
    rfl
  refine (setS_ok (d := .list [plD false ka, plD true kb]) (s1 := stL x2 (.fz keepsD) x4 x6 x7 x8 x9 x10 x11 x12 x13 x14 k2) (comp_lst (ds := [.int 0, .int 1]) (s1 := stL x2 (.fz keepsD) x4 x6 x7 x8 x9 x10 x11 x12 x13 x14 k) rfl ?_)).trans rfl
  show compGo [5] (tgN 5) evYes eltP [.int 0, .int 1] [] (stL x2 (.fz keepsD) x4 x6 x7 x8 x9 x10 x11 x12 x13 x14 k) = _
  simp [compGo, tgN, evYes, forgetS, forgetE, l0, l1]
theorem S3_ok (x2 x3 x4 x6 x7 x8 x9 x10 x11 x12 x13 x14 : Sv) (k : Dk) : S3 (stL x2 x3 x4 x6 x7 x8 x9 x10 x11 x12 x13 x14 k) = .ok .nx (stL x2 x3 x4 (.own []) x7 x8 x9 x10 x11 x12 x13 x14 k) := rfl
def bRes : Ex := (setS 8 (evCallD 1 f_law_pick (evCons (lstOf (evLst (evCons (evTup evNil) (evCons (evTup (evCons (evLit (.str "x")) evNil)) (evCons (evTup (evCons (evLit (.str "x")) (evCons (evLit (.str "y")) evNil))) evNil))))) evNil)))
def eltE : Ev := (evTup (evCons (evCallD 1 f_law_pick (evCons (lstOf (evLst (evCons (evLit (.str "p0")) (evCons (evLit (.str "p1")) evNil)))) evNil)) (evCons (evCallD 1 f_law_pick (evCons (lstOf (evLst (evCons (evLit (.str "p0")) (evCons (evLit (.str "p1")) evNil)))) evNil)) (evCons (evTup (evCons (evLit (.str "own")) (evCons (evLit (.str "go")) evNil))) (evCons (evCallD 1 f_law_asks evNil) (evCons (evTup evNil) (evCons (evVar 8) (evCons (evTup evNil) (evCons (evLit (.int 0)) evNil)))))))))
def bEd : Ex := seqS bRes (doS (evApp 6 eltE))
theorem bEd_ok {n : Int} {k : Dk} (h : Dn n k) (hn : n + 400 < 1000000000) : ∃ (e : Ed) (y8 : Sv) (k' : Dk), e.as.length ≤ 7 ∧ Dn (n + 50) k' ∧ ∀ (es : List Ed) x2 x3 x4 x7 x8 x9 x10 x11 x12 x13 x14, es.length ≤ 900 → bEd (stL x2 x3 x4 (.own (es.map Ed.d)) x7 x8 x9 x10 x11 x12 x13 x14 k) = .ok .nx (stL x2 x3 x4 (.own ((es ++ [e]).map Ed.d)) x7 y8 x9 x10 x11 x12 x13 x14 k') := by
  obtain ⟨r, k1, e1, h1⟩ := pick_res h (by omega)
  obtain ⟨s, k2, e2, h2⟩ := pick_pl h1 (by omega)
  obtain ⟨t, k3, e3, h3⟩ := pick_pl h2 (by omega)
  obtain ⟨as, k4, hl, h4, e4⟩ := asks_ok h3 (by omega)
  refine ⟨⟨s, t, as, r⟩, .fz (.tuple (resL r)), k4, hl, h4.up (by omega), fun es x2 x3 x4 x7 x8 x9 x10 x11 x12 x13 x14 he => ?_⟩
  have b1 : bRes (stL x2 x3 x4 (.own (es.map Ed.d)) x7 x8 x9 x10 x11 x12 x13 x14 k) = .ok .nx (stL x2 x3 x4 (.own (es.map Ed.d)) x7 (.fz (.tuple (resL r))) x9 x10 x11 x12 x13 x14 k1) := by
    simp [bRes, runFn, runFnD, roOf, rdOf, envOf0, seqS, skipS, setS, ownS, retS, ifS, doS, fixS, par2S, par2M, par3S, parOS, unpS, raiseS, evVar, evVarB, evLit, evNil, evCons, evTup, evLst, evBin, evBinL, ev1, ev1L, evAnd, evOr, evNot, evIf, evT, evTnot, evTand, evTor, evChain, evCall, evCallD, evCallK, ofRo, ofRd, ofRn, lstOf, evSl, evSlL, ptOf, ptNo, asInt, asBool, toOut, Out.bind, evPop, evApp, evExt, evItL, evItT, evItS, evRng1, evZip, setMany, stL, e1]
  have b2 : eltE (stL x2 x3 x4 (.own (es.map Ed.d)) x7 (.fz (.tuple (resL r))) x9 x10 x11 x12 x13 x14 k1) = .ok (Ed.mk s t as r).d (stL x2 x3 x4 (.own (es.map Ed.d)) x7 (.fz (.tuple (resL r))) x9 x10 x11 x12 x13 x14 k4) := by
    simp [eltE, runFn, runFnD, roOf, rdOf, envOf0, seqS, skipS, setS, ownS, retS, ifS, doS, fixS, par2S, par2M, par3S, parOS, unpS, raiseS, evVar, evVarB, evLit, evNil, evCons, evTup, evLst, evBin, evBinL, ev1, ev1L, evAnd, evOr, evNot, evIf, evT, evTnot, evTand, evTor, evChain, evCall, evCallD, evCallK, ofRo, ofRd, ofRn, lstOf, evSl, evSlL, ptOf, ptNo, asInt, asBool, toOut, Out.bind, evPop, evApp, evExt, evItL, evItT, evItS, evRng1, evZip, setMany, stL, e2, e3, e4, Ed.d]
  unfold bEd
  rw [seqS_nx b1]
  refine (app_do (i := 6) (ds := es.map Ed.d) ⟨_, rfl⟩ b2 rfl (by simp; omega)).trans ?_
  rw [List.map_append]
  rfl
theorem ed_loop : ∀ (ds : List D) (es : List Ed) (x7 x8 : Sv) (n : Int) (k : Dk), Dn n k → n + 400 * (ds.length + 1) < 1000000000 → es.length + ds.length ≤ 900 → (∀ e ∈ es, e.as.length ≤ 7) →
    ∃ (es' : List Ed) (y7 y8 : Sv) (k' : Dk), es'.length = es.length + ds.length ∧ (∀ e ∈ es', e.as.length ≤ 7) ∧ Dn (n + 50 * ds.length) k' ∧ ∀ x2 x3 x4 x9 x10 x11 x12 x13 x14, forGo (tgN 7) bEd ds (stL x2 x3 x4 (.own (es.map Ed.d)) x7 x8 x9 x10 x11 x12 x13 x14 k) = .ok .nx (stL x2 x3 x4 (.own (es'.map Ed.d)) y7 y8 x9 x10 x11 x12 x13 x14 k')
  | [], es, x7, x8, n, k, h, _, _, ha => ⟨es, x7, x8, k, by simp, ha, by simpa using h, fun _ _ _ _ _ _ _ _ _ => rfl⟩
  | d :: ds, es, x7, x8, n, k, h, hn, hl, ha => by
    simp only [List.length_cons] at hn hl
    obtain ⟨e, y8, k1, he, h1, e1⟩ := bEd_ok h (by omega)
    obtain ⟨es', z7, z8, k', hl', ha', h2, e2⟩ := ed_loop ds (es ++ [e]) (.fz d) y8 (n + 50) k1 h1 (by omega) (by simp; omega) (fun x hx => by
      rcases List.mem_append.mp hx with hx | hx
      · exact ha x hx
      · rw [List.mem_singleton.mp hx]; exact he)
    refine ⟨es', z7, z8, k', by rw [hl']; simp; omega, ha', h2.up (by simp only [List.length_cons]; omega), fun x2 x3 x4 x9 x10 x11 x12 x13 x14 => ?_⟩
    have e0 : forGo (tgN 7) bEd (d :: ds) (stL x2 x3 x4 (.own (es.map Ed.d)) x7 x8 x9 x10 x11 x12 x13 x14 k) = stepS (bEd (stL x2 x3 x4 (.own (es.map Ed.d)) (.fz d) x8 x9 x10 x11 x12 x13 x14 k)) (forGo (tgN 7) bEd ds) := rfl
    rw [e0, e1 es x2 x3 x4 (.fz d) x8 x9 x10 x11 x12 x13 x14 (by omega)]
    exact e2 x2 x3 x4 x9 x10 x11 x12 x13 x14
theorem S4_ok {n : Int} {k : Dk} (h : Dn n k) (hn : n + 4000 < 1000000000) (x7 x8 : Sv) : ∃ (es : List Ed) (y7 y8 : Sv) (k' : Dk), es.length ≤ 5 ∧ (∀ e ∈ es, e.as.length ≤ 7) ∧ Dn (n + 300) k' ∧ ∀ x2 x3 x4 x9 x10 x11 x12 x13 x14, S4 (stL x2 x3 x4 (.own []) x7 x8 x9 x10 x11 x12 x13 x14 k) = .ok .nx (stL x2 x3 x4 (.own (es.map Ed.d)) y7 y8 x9 x10 x11 x12 x13 x14 k') := by
  obtain ⟨i, k1, e1, i0, i5, h1⟩ := draw_ok (b := 5) (by decide) (by decide) h (by omega)
  have hj : (1 + i).toNat ≤ 5 := by omega
  obtain ⟨es, y7, y8, k2, hl, ha, h2, e2⟩ := ed_loop (intsD 0 (1 + i).toNat) [] x7 x8 (n + 1) k1 h1 (by rw [intsD_len]; omega) (by rw [intsD_len]; simp; omega) (fun e he => by cases he)
  rw [intsD_len] at hl h2
  refine ⟨es, y7, y8, k2, by simp at hl; omega, ha, h2.up (by omega), fun x2 x3 x4 x9 x10 x11 x12 x13 x14 => ?_⟩
  have z : evRng1 (evBin addI (evLit (.int 1)) (evCallD 1 drawF (evCons (evLit (.int 5)) evNil))) (stL x2 x3 x4 (.own []) x7 x8 x9 x10 x11 x12 x13 x14 k) = .ok (intsD 0 (1 + i).toNat) (stL x2 x3 x4 (.own []) x7 x8 x9 x10 x11 x12 x13 x14 k1) := by
    have z1 : evBin addI (evLit (.int 1)) (evCallD 1 drawF (evCons (evLit (.int 5)) evNil)) (stL x2 x3 x4 (.own []) x7 x8 x9 x10 x11 x12 x13 x14 k) = .ok (.int (1 + i)) (stL x2 x3 x4 (.own []) x7 x8 x9 x10 x11 x12 x13 x14 k1) := by
      simp [runFn, runFnD, roOf, rdOf, envOf0, seqS, skipS, setS, ownS, retS, ifS, doS, fixS, par2S, par2M, par3S, parOS, unpS, raiseS, evVar, evVarB, evLit, evNil, evCons, evTup, evLst, evBin, evBinL, ev1, ev1L, evAnd, evOr, evNot, evIf, evT, evTnot, evTand, evTor, evChain, evCall, evCallD, evCallK, ofRo, ofRd, ofRn, lstOf, evSl, evSlL, ptOf, ptNo, asInt, asBool, toOut, Out.bind, evPop, evApp, evExt, evItL, evItT, evItS, evRng1, evZip, setMany, stL, e1, addI]
    unfold evRng1
    rw [z1]
    exact if_pos ⟨by omega, by omega⟩
  show forS (evRng1 (evBin addI (evLit (.int 1)) (evCallD 1 drawF (evCons (evLit (.int 5)) evNil)))) (tgN 7) bEd (stL x2 x3 x4 (.own []) x7 x8 x9 x10 x11 x12 x13 x14 k) = _
  unfold forS
  rw [z]
  exact e2 x2 x3 x4 x9 x10 x11 x12 x13 x14
section
variable {ka kb : K4} {es : List Ed} {n : Bool} {j : Q4} {x2 x3 x4 x6 x7 x8 x9 x10 x11 x12 x13 x14 : Sv} {k : Dk}
theorem S5_ok : S5 (stL x2 x3 (.fz (.list [plD false ka, plD true kb])) (.own (es.map Ed.d)) x7 x8 x9 x10 x11 x12 x13 x14 k) = .ok .nx (stL x2 x3 (.fz (.list [plD false ka, plD true kb])) (.own (es.map Ed.d)) x7 x8 (.fz (modD ka kb es)) x10 x11 x12 x13 x14 k) := rfl
theorem S6_ok : S6 (stL x2 x3 x4 x6 x7 x8 x9 x10 x11 x12 x13 x14 k) = .ok .nx (stL x2 x3 x4 x6 x7 x8 x9 (.fz bareD) x11 x12 x13 x14 k) := rfl
end
theorem S7_ok {m : Int} {k : Dk} (h : Dn m k) (hm : m + 10 < 1000000000) : ∃ (n : Bool) (j : Q4) (k' : Dk), Dn (m + 2) k' ∧ ∀ md x2 x3 x4 x6 x7 x8 x11 x12 x13 x14, S7 (stL x2 x3 x4 x6 x7 x8 (.fz md) (.fz bareD) x11 x12 x13 x14 k) = .ok .nx (stL x2 x3 x4 x6 x7 x8 (.fz md) (.fz bareD) (.fz (prgD md n (jq j))) x12 x13 x14 k') := by
  obtain ⟨i, k1, e1, i0, i4, h1⟩ := draw_ok (b := 4) (by decide) (by decide) h (by omega)
  obtain ⟨l, k2, e2, l0, l2, h2⟩ := draw_ok (b := 2) (by decide) (by decide) h1 (by omega)
  have hj : ∃ j : Q4, jq j = 1 + i := by
    have c : i = 0 ∨ i = 1 ∨ i = 2 ∨ i = 3 := by omega
    rcases c with rfl | rfl | rfl | rfl
    · exact ⟨.q0, rfl⟩
    · exact ⟨.q1, rfl⟩
    · exact ⟨.q2, rfl⟩
    · exact ⟨.q3, rfl⟩
  obtain ⟨j, hj⟩ := hj
  have s0 : slD (.tuple [partA (jq j), partB]) none (some 1) = some (.tuple (partsL false (jq j))) := rfl
  have s1 : slD (.tuple [partA (jq j), partB]) none (some 2) = some (.tuple (partsL true (jq j))) := rfl
  have hl : ∃ n : Bool, slD (.tuple [partA (jq j), partB]) none (some (1 + l)) = some (.tuple (partsL n (jq j))) := by
    have c : l = 0 ∨ l = 1 := by omega
    rcases c with rfl | rfl
    · exact ⟨false, s0⟩
    · exact ⟨true, s1⟩
  obtain ⟨n, hl⟩ := hl
  refine ⟨n, j, k2, h2.up (by omega), fun md x2 x3 x4 x6 x7 x8 x11 x12 x13 x14 => ?_⟩
  simp only [partA, partB, hj] at hl
  simp [S7, runFn, runFnD, roOf, rdOf, envOf0, seqS, skipS, setS, ownS, retS, ifS, doS, fixS, par2S, par2M, par3S, parOS, unpS, raiseS, evVar, evVarB, evLit, evNil, evCons, evTup, evLst, evBin, evBinL, ev1, ev1L, evAnd, evOr, evNot, evIf, evT, evTnot, evTand, evTor, evChain, evCall, evCallD, evCallK, ofRo, ofRd, ofRn, lstOf, evSl, evSlL, ptOf, ptNo, asInt, asBool, toOut, Out.bind, evPop, evApp, evExt, evItL, evItT, evItS, evRng1, evZip, setMany, stL, e1, e2, addI, hl, prgD, hj]
theorem S9_ok {ka kb : K4} {es : List Ed} {n : Bool} {j : Q4} {x2 x3 x4 x6 x7 x8 x9 x10 x12 x13 x14 : Sv} {k : Dk} (h : ∀ e ∈ es, e.as.length ≤ 7) (hn : es.length ≤ 5) : S9 (stL x2 x3 x4 x6 x7 x8 x9 x10 (.fz (prgD (modD ka kb es) n (jq j))) x12 x13 x14 k) = .ok .nx (stL x2 x3 x4 x6 x7 x8 x9 x10 (.fz (prgD (modD ka kb es) n (jq j))) x12 (.fz (.str (prgD (modD ka kb es) n (jq j)).shown)) x14 k) := by
  have hr := repr_prog (ok_mod ka kb es h hn) n j
  exact setS_ok (ev1_ok (s1 := stL x2 x3 x4 x6 x7 x8 x9 x10 (.fz (prgD (modD ka kb es) n (jq j))) x12 x13 x14 k) rfl hr)
def cF : Evs := (evComp [5] (evRng1 (ev1 lenD (evVarB 6))) (tgN 5) (evT (evCall f_law_is_far (evCons (evBin ixD (evBin ixD (evVarB 6) (evVarB 5)) (evLit (.int 3))) evNil))) (evTup (evCons (evTup (evCons (evLit (.str "edge")) (evCons (evLit (.str "m")) (evCons (evVar 5) evNil)))) (evCons (evLit (.str "far")) evNil))))
def cndF : Ms → Out Bool := (evT (evCall f_law_is_far (evCons (evBin ixD (evBin ixD (evVarB 6) (evVarB 5)) (evLit (.int 3))) evNil)))
def eltF : Ev := (evTup (evCons (evTup (evCons (evLit (.str "edge")) (evCons (evLit (.str "m")) (evCons (evVar 5) evNil)))) (evCons (evLit (.str "far")) evNil)))
def cnt (k : Nat) (m : Nat) : List D := (List.range' k m).map fun i => .int (i : Nat)
theorem cnt_ints (m : Nat) : intsD 0 m = cnt 0 m := by
  unfold intsD cnt
  rw [List.range_eq_range']
  refine List.map_congr_left fun i _ => ?_
  rw [Int.zero_add]
theorem far_comp (es : List Ed) (h : ∀ e ∈ es, e.as.length ≤ 7) (hn : es.length ≤ 5) (x2 x3 x4 x7 x8 x9 x10 x11 x12 x13 x14 : Sv) (k : Dk) : ∀ (bs pre : List Ed) (acc : List D), pre ++ bs = es → acc.length ≤ pre.length →
    compGo [5] (tgN 5) cndF eltF (cnt pre.length bs.length) acc (stL x2 x3 x4 (.own (es.map Ed.d)) x7 x8 x9 x10 x11 x12 x13 x14 k) = .ok (acc ++ duel pre.length bs) (stL x2 x3 x4 (.own (es.map Ed.d)) x7 x8 x9 x10 x11 x12 x13 x14 k)
  | [], pre, acc, _, _ => by simp [cnt, duel, compGo]
  | b :: bs, pre, acc, hp, ha => by
    have hpl : pre.length + (bs.length + 1) ≤ 5 := by
      have := congrArg List.length hp
      simp at this
      omega
    have hb : b ∈ es := by rw [← hp]; simp
    have hcnt : cnt pre.length (b :: bs).length = .int (pre.length : Nat) :: cnt (pre.length + 1) bs.length := by
      unfold cnt
      rw [List.length_cons, List.range'_succ, List.map_cons]
    have hix : ixD (.list (es.map Ed.d)) (.int (pre.length : Nat)) = some b.d := by
      have hN : ixN (es.map Ed.d).length (pre.length : Nat) = some pre.length := by
        unfold ixN
        rw [if_pos (by omega), if_pos (by rw [List.length_map, ← hp, List.length_append, List.length_cons]; omega)]
        rfl
      simp only [ixD, atI, hN, Option.bind_some]
      rw [List.getElem?_map, ← hp]
      simp
    have hfar := v_law_is_far b.as (by have := h b hb; omega)
    have hcnd : cndF ⟨[.un, .deck, x2, x3, x4, .fz (.int (pre.length : Nat)), .own (es.map Ed.d), x7, x8, x9, x10, x11, x12, x13, x14], k, false⟩ = .ok (farE b) ⟨[.un, .deck, x2, x3, x4, .fz (.int (pre.length : Nat)), .own (es.map Ed.d), x7, x8, x9, x10, x11, x12, x13, x14], k, false⟩ := by
      have h3 : ixD b.d (.int 3) = some (.tuple (b.as.map Ask.d)) := rfl
      unfold cndF
      simp only [evT, evCall, evCons, evNil, evBin, evVarB, evLit, List.getElem?_cons_zero, List.getElem?_cons_succ, Out.bind_ok, hix, toOut_some, h3, hfar, ofRo, asBool]
      rfl
    have ih := far_comp es h hn x2 x3 x4 x7 x8 x9 x10 x11 x12 x13 x14 k bs (pre ++ [b])
    have hpl1 : (pre ++ [b]).length = pre.length + 1 := by simp
    rw [hpl1] at ih
    rw [hcnt]
    unfold compGo duel
    have ht : tgN 5 (.int (pre.length : Nat)) (stL x2 x3 x4 (.own (es.map Ed.d)) x7 x8 x9 x10 x11 x12 x13 x14 k) = some ⟨[.un, .deck, x2, x3, x4, .fz (.int (pre.length : Nat)), .own (es.map Ed.d), x7, x8, x9, x10, x11, x12, x13, x14], k, false⟩ := rfl
    have hel : eltF ⟨[.un, .deck, x2, x3, x4, .fz (.int (pre.length : Nat)), .own (es.map Ed.d), x7, x8, x9, x10, x11, x12, x13, x14], k, false⟩ = .ok (fk (pre.length : Nat)) ⟨[.un, .deck, x2, x3, x4, .fz (.int (pre.length : Nat)), .own (es.map Ed.d), x7, x8, x9, x10, x11, x12, x13, x14], k, false⟩ := rfl
    have hfg : forgetS [5] ⟨[.un, .deck, x2, x3, x4, .fz (.int (pre.length : Nat)), .own (es.map Ed.d), x7, x8, x9, x10, x11, x12, x13, x14], k, false⟩ = stL x2 x3 x4 (.own (es.map Ed.d)) x7 x8 x9 x10 x11 x12 x13 x14 k := rfl
    rw [ht]
    simp only [hcnd]
    cases hf : farE b with
    | true =>
      simp only [if_true, hel]
      rw [if_pos (by omega), hfg, ih (acc ++ [fk (pre.length : Nat)]) (by rw [← hp]; simp) (by simp; omega)]
      simp
    | false =>
      simp only [Bool.false_eq_true, if_false]
      rw [hfg, ih acc (by rw [← hp]; simp) (by omega)]
theorem S8_ok {es : List Ed} {x2 x3 x4 x7 x8 x9 x10 x11 x12 x13 x14 : Sv} {k : Dk} (h : ∀ e ∈ es, e.as.length ≤ 7) (hn : es.length ≤ 5) : S8 (stL x2 x3 x4 (.own (es.map Ed.d)) x7 x8 x9 x10 x11 x12 x13 x14 k) = .ok .nx (stL x2 x3 x4 (.own (es.map Ed.d)) x7 x8 x9 x10 x11 (.fz (.tuple (duel 0 es))) x13 x14 k) := by
  have hr : evRng1 (ev1 lenD (evVarB 6)) (stL x2 x3 x4 (.own (es.map Ed.d)) x7 x8 x9 x10 x11 x12 x13 x14 k) = .ok (cnt 0 es.length) (stL x2 x3 x4 (.own (es.map Ed.d)) x7 x8 x9 x10 x11 x12 x13 x14 k) := by
    have q := rng_gen (a := ev1 lenD (evVarB 6)) (s := stL x2 x3 x4 (.own (es.map Ed.d)) x7 x8 x9 x10 x11 x12 x13 x14 k) (j := (es.length : Int)) ⟨by omega, by omega⟩ (by simp [runFn, runFnD, roOf, rdOf, envOf0, seqS, skipS, setS, ownS, retS, ifS, doS, fixS, par2S, par2M, par3S, parOS, unpS, raiseS, evVar, evVarB, evLit, evNil, evCons, evTup, evLst, evBin, evBinL, ev1, ev1L, evAnd, evOr, evNot, evIf, evT, evTnot, evTand, evTor, evChain, evCall, evCallD, evCallK, ofRo, ofRd, ofRn, lstOf, evSl, evSlL, ptOf, ptNo, asInt, asBool, toOut, Out.bind, evPop, evApp, evExt, evItL, evItT, evItS, evRng1, evZip, setMany, stL, lenD])
    rw [Int.toNat_natCast, cnt_ints] at q
    exact q
  have q := far_comp es h hn x2 x3 x4 x7 x8 x9 x10 x11 x12 x13 x14 k es [] [] rfl (by simp)
  rw [List.length_nil, List.nil_append] at q
  have c : cF (stL x2 x3 x4 (.own (es.map Ed.d)) x7 x8 x9 x10 x11 x12 x13 x14 k) = .ok (duel 0 es) (stL x2 x3 x4 (.own (es.map Ed.d)) x7 x8 x9 x10 x11 x12 x13 x14 k) := by
    unfold cF evComp
    rw [hr]
    exact q
  have c3 : ev1 tupD (lstOf cF) (stL x2 x3 x4 (.own (es.map Ed.d)) x7 x8 x9 x10 x11 x12 x13 x14 k) = .ok (.tuple (duel 0 es)) (stL x2 x3 x4 (.own (es.map Ed.d)) x7 x8 x9 x10 x11 x12 x13 x14 k) := ev1_ok (lst_ok c) rfl
  have c4 := setS_ok (i := 12) c3
  have c5 : S8 = setS 12 (ev1 tupD (lstOf cF)) := rfl
  rw [c5, c4]
  rfl
section
variable {ka kb : K4} {es : List Ed} {n : Bool} {j : Q4} {x2 x3 x4 x6 x7 x8 x9 x10 x13 x14 : Sv} {k : Dk}
theorem eqT {ds : List D} (h : ∀ d ∈ ds, Ok 100 3 d) : eqD (.tuple ds) (.tuple []) = some (.bool ds.isEmpty) := by
  have h0 : SeqAt.shaped (.tuple ([] : List D)) = true := by decide +kernel
  obtain ⟨q1, _, q3⟩ := ok_tuple h
  simp only [Bool.and_eq_true] at q1
  have h1 : SeqAt.shaped (.tuple ds) = true := by
    have : (PyData.tuple ds).depth ≤ 64 := by omega
    simp [SeqAt.shaped, q1.1.1.1, this]
  unfold eqD
  rw [if_pos ⟨h1, h0⟩]
  cases ds <;> rfl
theorem S10_ok (h : ∀ e ∈ es, e.as.length ≤ 7) (hn : es.length ≤ 5) : S10 (stL x2 x3 x4 x6 x7 x8 x9 x10 (.fz (prgD (modD ka kb es) n (jq j))) (.fz (.tuple (duel 0 es))) x13 x14 k) = .ok .nx (stL x2 x3 x4 x6 x7 x8 x9 x10 (.fz (prgD (modD ka kb es) n (jq j))) (.fz (.tuple (duel 0 es))) x13 x14 k) := by
  have h' : ∀ e ∈ es, e.as.length ≤ 1000 := fun e he => by have := h e he; omega
  have g1 := v_faults_of ka kb es n j h' hn
  have g2 := v_is_program ka kb es n j h' hn
  have g3 : eqD (.tuple (duel 0 es)) (.tuple []) = some (.bool (duel 0 es).isEmpty) := eqT fun d hd => by
    obtain ⟨i, _, h2, rfl⟩ := duel_mem es 0 d hd
    exact ok_fk i (by omega)
  have g4 := repr_due es hn (duel 0 es).isEmpty
  have p : pick [0] [prgD (modD ka kb es) n (jq j)] = [prgD (modD ka kb es) n (jq j)] := rfl
  simp [S10, runFn, runFnD, roOf, rdOf, envOf0, seqS, skipS, setS, ownS, retS, ifS, doS, fixS, par2S, par2M, par3S, parOS, unpS, raiseS, evVar, evVarB, evLit, evNil, evCons, evTup, evLst, evBin, evBinL, ev1, ev1L, evAnd, evOr, evNot, evIf, evT, evTnot, evTand, evTor, evChain, evCall, evCallD, evCallK, ofRo, ofRd, ofRn, lstOf, evSl, evSlL, ptOf, ptNo, asInt, asBool, toOut, Out.bind, evPop, evApp, evExt, evItL, evItT, evItS, evRng1, evZip, setMany, stL, g1, g2, g3, g4, p, neSt]
theorem S12_ok {d : D} (h : ∀ e ∈ es, e.as.length ≤ 7) (hn : es.length ≤ 5) (hd : d ∈ oddL ka kb es n j) {x12 : Sv} : S12 (stL x2 x3 x4 x6 x7 x8 x9 x10 (.fz (prgD (modD ka kb es) n (jq j))) x12 (.fz (.str (prgD (modD ka kb es) n (jq j)).shown)) (.fz d) k) = .ok .nx (stL x2 x3 x4 x6 x7 x8 x9 x10 (.fz (prgD (modD ka kb es) n (jq j))) x12 (.fz (.str (prgD (modD ka kb es) n (jq j)).shown)) (.fz d) k) := by
  have g1 := odd_ok ka kb es n j h hn d hd
  have g2 := repr_prog (ok_mod ka kb es h hn) n j
  simp [S12, runFn, runFnD, roOf, rdOf, envOf0, seqS, skipS, setS, ownS, retS, ifS, doS, fixS, par2S, par2M, par3S, parOS, unpS, raiseS, evVar, evVarB, evLit, evNil, evCons, evTup, evLst, evBin, evBinL, ev1, ev1L, evAnd, evOr, evNot, evIf, evT, evTnot, evTand, evTor, evChain, evCall, evCallD, evCallK, ofRo, ofRd, ofRn, lstOf, evSl, evSlL, ptOf, ptNo, asInt, asBool, toOut, Out.bind, evPop, evApp, evExt, evItL, evItT, evItS, evRng1, evZip, setMany, stL, g1, g2, neSt]
theorem S11_ok {m : Int} (ka kb : K4) (es : List Ed) (n : Bool) (j : Q4) (h : Dn m k) (hm : m < 1000000000) : ∃ d ∈ oddL ka kb es n j, ∃ k', Dn (m + 1) k' ∧ ∀ x2 x3 x4 x6 x7 x8 x12 x13 x14, S11 (stL x2 x3 x4 x6 x7 x8 (.fz (modD ka kb es)) (.fz bareD) (.fz (prgD (modD ka kb es) n (jq j))) x12 x13 x14 k) = .ok .nx (stL x2 x3 x4 x6 x7 x8 (.fz (modD ka kb es)) (.fz bareD) (.fz (prgD (modD ka kb es) n (jq j))) x12 x13 (.fz d) k') := by
  obtain ⟨d, k', e, hd, hk⟩ := pick_ok (xs := oddL ka kb es n j) (by simp [oddL]) (by simp [oddL]) h hm
  refine ⟨d, hd, k', hk, fun x2 x3 x4 x6 x7 x8 x12 x13 x14 => ?_⟩
  have e0 : S11 (stL x2 x3 x4 x6 x7 x8 (.fz (modD ka kb es)) (.fz bareD) (.fz (prgD (modD ka kb es) n (jq j))) x12 x13 x14 k) = (ofRd (f_law_pick [.list (oddL ka kb es n j)] k) (stL x2 x3 x4 x6 x7 x8 (.fz (modD ka kb es)) (.fz bareD) (.fz (prgD (modD ka kb es) n (jq j))) x12 x13 x14 k)).bind fun d s1 => .ok .nx { s1 with env := s1.env.set 14 (.fz d) } := by kernel_rfl
  rw [e0, e]
  rfl
end
theorem body_ok {n : Int} {k : Dk} (h : Dn n k) (hn : n + 5000 < 1000000000) (x7 x8 : Sv) : ∃ q3 q4 q6 q7 q8 q9 q10 q11 q12 q13 q14 k', Dn (n + 310) k' ∧ ∀ x2 x3 x4 x6 x9 x10 x11 x12 x13 x14, bodyL (stL x2 x3 x4 x6 x7 x8 x9 x10 x11 x12 x13 x14 k) = .ok .nx (stL x2 q3 q4 q6 q7 q8 q9 q10 q11 q12 q13 q14 k') := by
  obtain ⟨ka, kb, k1, hk1, h2⟩ := S2_ok h (by omega)
  obtain ⟨es, y7, y8, k2, hl, ha, hk2, h4⟩ := S4_ok hk1 (by omega) x7 x8
  obtain ⟨m, j, k3, hk3, h7⟩ := S7_ok hk2 (by omega)
  obtain ⟨d, hd, k4, hk4, h11⟩ := S11_ok ka kb es m j hk3 (by omega)
  refine ⟨.fz keepsD, .fz (.list [plD false ka, plD true kb]), .own (es.map Ed.d), y7, y8, .fz (modD ka kb es), .fz bareD, .fz (prgD (modD ka kb es) m (jq j)), .fz (.tuple (duel 0 es)), .fz (.str (prgD (modD ka kb es) m (jq j)).shown), .fz d, k4, hk4.up (by omega), fun x2 x3 x4 x6 x9 x10 x11 x12 x13 x14 => ?_⟩
  unfold bodyL
  rw [seqS_nx (S1_ok ..), seqS_nx (h2 ..), seqS_nx (S3_ok ..), seqS_nx (h4 ..), seqS_nx S5_ok, seqS_nx S6_ok, seqS_nx (h7 ..), seqS_nx (S8_ok ha hl), seqS_nx (S9_ok ha hl), seqS_nx (S10_ok ha hl), seqS_nx (h11 ..)]
  exact S12_ok ha hl hd
theorem loop_L : ∀ (ds : List D) (x2 x3 x4 x6 x7 x8 x9 x10 x11 x12 x13 x14 : Sv) (k : Dk) (n : Int), Dn n k → n + 5000 * (ds.length + 1) < 1000000000 → ∃ s, forGo (tgN 2) bodyL ds (stL x2 x3 x4 x6 x7 x8 x9 x10 x11 x12 x13 x14 k) = .ok .nx s
  | [], _, _, _, _, _, _, _, _, _, _, _, _, _, _, _, _ => ⟨_, rfl⟩
  | d :: ds, x2, x3, x4, x6, x7, x8, x9, x10, x11, x12, x13, x14, k, n, h, hn => by
    simp only [List.length_cons] at hn
    obtain ⟨q3, q4, q6, q7, q8, q9, q10, q11, q12, q13, q14, k', hk, e⟩ := body_ok h (by omega) x7 x8
    obtain ⟨s, e'⟩ := loop_L ds (.fz d) q3 q4 q6 q7 q8 q9 q10 q11 q12 q13 q14 k' (n + 310) hk (by omega)
    refine ⟨s, ?_⟩
    have hb : forGo (tgN 2) bodyL (d :: ds) (stL x2 x3 x4 x6 x7 x8 x9 x10 x11 x12 x13 x14 k) = stepS (bodyL (stL (.fz d) x3 x4 x6 x7 x8 x9 x10 x11 x12 x13 x14 k)) (forGo (tgN 2) bodyL ds) := rfl
    rw [hb, e]
    exact e'
theorem law_pure (ns : List Int) (h : ns.length ≤ 63) : ∃ s', b_law (lawMs 13 (begun ns 95014)) = .ok (.rt (.bool true)) s' := by
  obtain ⟨s, e⟩ := loop_L (intsD 0 3) .un .un .un .un .un .un .un .un .un .un .un .un (begun ns 95014) 0 ⟨Int.le_refl 0, Int.le_refl 0⟩ (by decide)
  have eb : b_law = seqS (forS (evRng1 (evLit (.int 3))) (tgN 2) bodyL) (retS (evLit (.bool true))) := rfl
  have ef : forS (evRng1 (evLit (.int 3))) (tgN 2) bodyL (lawMs 13 (begun ns 95014)) = .ok .nx s := e
  rw [eb, seqS_nx ef]
  exact ⟨_, rfl⟩
end
end Zo
namespace Zo
open PySem PySem.Spec PyProof.Rows L2
theorem all_mk {l : PySem.W.OpenLaw} {w : World} {K : Fr} {h : Heap} {mg : Str → Option Value} {fa : Addr} (X : K.In h) (G : h.Ns mainGlobals mg) (hfa : mg "law" = some (.ref fa))
    {f0 f33 f34 f35 f36 f37 f58 f59 f28 f31 f29 f30 f60 f9 f10 f61 f32 f39 f57 f38 f40 f41 f2 f6 f7 f12 f11 f4 f15 f1 f13 f17 f18 f19 f3 f5 f20 f14 f21 f8 f22 f23 f24 f25 f16 f26 f27 f42 f43 f44 f45 f46 f48 f47 f49 f50 f51 f52 f53 f54 f55 f56 : Addr} {od0 an0 od33 an33 od34 an34 od35 an35 od36 an36 od37 an37 od58 an58 od59 an59 od28 an28 od31 an31 od29 an29 od30 an30 od60 an60 od9 an9 od10 an10 od61 an61 od32 an32 od39 an39 od57 an57 od38 an38 od40 an40 od41 an41 od2 an2 od6 an6 od7 an7 od12 an12 od11 an11 od4 an4 od15 an15 od1 an1 od13 an13 od17 an17 od18 an18 od19 an19 od3 an3 od5 an5 od20 an20 od14 an14 od21 an21 od8 an8 od22 an22 od23 an23 od24 an24 od25 an25 od16 an16 od26 an26 od27 an27 od42 an42 od43 an43 od44 an44 od45 an45 od46 an46 od48 an48 od47 an47 od49 an49 od50 an50 od51 an51 od52 an52 od53 an53 od54 an54 od55 an55 od56 an56 : Option Addr} {sl0 sl33 sl34 sl35 sl36 sl37 sl58 sl59 sl28 sl31 sl29 sl30 sl60 sl9 sl10 sl61 sl32 sl39 sl57 sl38 sl40 sl41 sl2 sl6 sl7 sl12 sl11 sl4 sl15 sl1 sl13 sl17 sl18 sl19 sl3 sl5 sl20 sl14 sl21 sl8 sl22 sl23 sl24 sl25 sl16 sl26 sl27 sl42 sl43 sl44 sl45 sl46 sl48 sl47 sl49 sl50 sl51 sl52 sl53 sl54 sl55 sl56 : Array (Option Value)} {oc0 kV0 dc0 pm0 cd0 ct0 oc33 kV33 dc33 pm33 cd33 ct33 oc34 kV34 dc34 pm34 cd34 ct34 oc35 kV35 dc35 pm35 cd35 ct35 oc36 kV36 dc36 pm36 cd36 ct36 oc37 kV37 dc37 pm37 cd37 ct37 oc58 kV58 dc58 pm58 cd58 ct58 oc59 kV59 dc59 pm59 cd59 ct59 oc28 kV28 dc28 pm28 cd28 ct28 oc31 kV31 dc31 pm31 cd31 ct31 oc29 kV29 dc29 pm29 cd29 ct29 oc30 kV30 dc30 pm30 cd30 ct30 oc60 kV60 dc60 pm60 cd60 ct60 oc9 kV9 dc9 pm9 cd9 ct9 oc10 kV10 dc10 pm10 cd10 ct10 oc61 kV61 dc61 pm61 cd61 ct61 oc32 kV32 dc32 pm32 cd32 ct32 oc39 kV39 dc39 pm39 cd39 ct39 oc57 kV57 dc57 pm57 cd57 ct57 oc38 kV38 dc38 pm38 cd38 ct38 oc40 kV40 dc40 pm40 cd40 ct40 oc41 kV41 dc41 pm41 cd41 ct41 oc2 kV2 dc2 pm2 cd2 ct2 oc6 kV6 dc6 pm6 cd6 ct6 oc7 kV7 dc7 pm7 cd7 ct7 oc12 kV12 dc12 pm12 cd12 ct12 oc11 kV11 dc11 pm11 cd11 ct11 oc4 kV4 dc4 pm4 cd4 ct4 oc15 kV15 dc15 pm15 cd15 ct15 oc1 kV1 dc1 pm1 cd1 ct1 oc13 kV13 dc13 pm13 cd13 ct13 oc17 kV17 dc17 pm17 cd17 ct17 oc18 kV18 dc18 pm18 cd18 ct18 oc19 kV19 dc19 pm19 cd19 ct19 oc3 kV3 dc3 pm3 cd3 ct3 oc5 kV5 dc5 pm5 cd5 ct5 oc20 kV20 dc20 pm20 cd20 ct20 oc14 kV14 dc14 pm14 cd14 ct14 oc21 kV21 dc21 pm21 cd21 ct21 oc8 kV8 dc8 pm8 cd8 ct8 oc22 kV22 dc22 pm22 cd22 ct22 oc23 kV23 dc23 pm23 cd23 ct23 oc24 kV24 dc24 pm24 cd24 ct24 oc25 kV25 dc25 pm25 cd25 ct25 oc16 kV16 dc16 pm16 cd16 ct16 oc26 kV26 dc26 pm26 cd26 ct26 oc27 kV27 dc27 pm27 cd27 ct27 oc42 kV42 dc42 pm42 cd42 ct42 oc43 kV43 dc43 pm43 cd43 ct43 oc44 kV44 dc44 pm44 cd44 ct44 oc45 kV45 dc45 pm45 cd45 ct45 oc46 kV46 dc46 pm46 cd46 ct46 oc48 kV48 dc48 pm48 cd48 ct48 oc47 kV47 dc47 pm47 cd47 ct47 oc49 kV49 dc49 pm49 cd49 ct49 oc50 kV50 dc50 pm50 cd50 ct50 oc51 kV51 dc51 pm51 cd51 ct51 oc52 kV52 dc52 pm52 cd52 ct52 oc53 kV53 dc53 pm53 cd53 ct53 oc54 kV54 dc54 pm54 cd54 ct54 oc55 kV55 dc55 pm55 cd55 ct55 oc56 kV56 dc56 pm56 cd56 ct56 : Value}
    {c_Names : Addr} {tk_ALL : Tok} {tk_CHANNEL_PARAM : Tok} {tk_CLOCK : Tok} {tk_EDGE_PARTS : Tok} {tk_FIGURES : Tok} {tk_GREATEST : Tok} {tk_HOW_0 tk_HOW_1 : Tok} {q_HOWa : Addr} {q_HOWn : Nat} {q_HOWs : Array (Option Value)} {tk_MARKS_0 tk_MARKS_1 tk_MARKS_2 tk_MARKS_3 : Tok} {q_MARKSa : Addr} {q_MARKSn : Nat} {q_MARKSs : Array (Option Value)} {tk_MODULE_PARTS : Tok} {tk_MOST_SIGNS : Tok} {tk_NUMBER : Tok} {tk_NUMBER_PARAM : Tok} {tk_OPS_0 tk_OPS_1 tk_OPS_2 tk_OPS_3 : Tok} {q_OPSa : Addr} {q_OPSn : Nat} {q_OPSs : Array (Option Value)} {tk_PARAM_SORTS_0 tk_PARAM_SORTS_1 : Tok} {q_PARAM_SORTSa : Addr} {q_PARAM_SORTSn : Nat} {q_PARAM_SORTSs : Array (Option Value)} {tk_PLACE : Tok} {tk_PLACE_PARTS : Tok} {tk_SIGNS_0 tk_SIGNS_1 : Tok} {q_SIGNSa : Addr} {q_SIGNSn : Nat} {q_SIGNSs : Array (Option Value)} {tk_SMALL : Tok} {tk_TESTS_0 tk_TESTS_1 tk_TESTS_2 tk_TESTS_3 tk_TESTS_4 tk_TESTS_5 : Tok} {q_TESTSa : Addr} {q_TESTSn : Nat} {q_TESTSs : Array (Option Value)} {tk_UPPER_0 tk_UPPER_1 : Tok} {q_UPPERa : Addr} {q_UPPERn : Nat} {q_UPPERs : Array (Option Value)} {za : Addr} {e0C e0N e0f : Addr} {e0nm e0q : Str} {e0bs : List Value} {e0sn : List Str} {e0sub : List Value} {e0ab : Bool} {e0col : Option Bool} {e0dd e0od e0an : Option Addr} {e0m0 e0m1 e0m2 e0m3 e0m5 : Option Value} {e0sl : Array (Option Value)} {e0oc e0dc e0pm e0cd e0ct : Value}
    (Ka_Names : PySem.W.nsIn K mainGlobals "Names" = some (some (.ref c_Names)))
    (Kp_Names : PySem.W.plainGet K c_Names Str.empty = true)
    (Kh_Names : PySem.W.hasDictIn K c_Names = true)
    (Ko_Names : PySem.W.plainOver K c_Names = true)
    (Ks_Names : PySem.W.findIn K (.ref c_Names) "__setattr__" = some (some (.builtin "object.__setattr__")))
    (Km_Names : PySem.W.makesIn K c_Names = true)
    (Kk_Names : PySem.W.keepIn K (.ref c_Names) = true)
    (Kn_channels : PySem.W.findIn K (.ref c_Names) "channels" = some none)
    (Kn_is_twice : PySem.W.findIn K (.ref c_Names) "is_twice" = some none)
    (Kn_sorts : PySem.W.findIn K (.ref c_Names) "sorts" = some none)
    (a0 : PySem.W.nsIn K mainGlobals "is_whole" = some (some (.ref f0)))
    (l0 : K.lookup f0 = some ⟨oc0, od0, .func (PySem.W.fnOf "is_whole" "is_whole" (defArgs s_is_whole) (defBody s_is_whole) (defScope s_is_whole) .none kV0 dc0 pm0 an0 cd0 ct0), sl0⟩)
    (c0 : PySem.W.codeIn K cd0 "is_whole" = true)
    (k0 : PySem.W.keepIn K (.ref f0) = true)
    (a33 : PySem.W.nsIn K mainGlobals "params_told" = some (some (.ref f33)))
    (l33 : K.lookup f33 = some ⟨oc33, od33, .func (PySem.W.fnOf "params_told" "params_told" (defArgs s_params_told) (defBody s_params_told) (defScope s_params_told) .none kV33 dc33 pm33 an33 cd33 ct33), sl33⟩)
    (c33 : PySem.W.codeIn K cd33 "params_told" = true)
    (k33 : PySem.W.keepIn K (.ref f33) = true)
    (a34 : PySem.W.nsIn K mainGlobals "amount_names" = some (some (.ref f34)))
    (l34 : K.lookup f34 = some ⟨oc34, od34, .func (PySem.W.fnOf "amount_names" "amount_names" (defArgs s_amount_names) (defBody s_amount_names) (defScope s_amount_names) .none kV34 dc34 pm34 an34 cd34 ct34), sl34⟩)
    (c34 : PySem.W.codeIn K cd34 "amount_names" = true)
    (k34 : PySem.W.keepIn K (.ref f34) = true)
    (a35 : PySem.W.nsIn K mainGlobals "less_names" = some (some (.ref f35)))
    (l35 : K.lookup f35 = some ⟨oc35, od35, .func (PySem.W.fnOf "less_names" "less_names" (defArgs s_less_names) (defBody s_less_names) (defScope s_less_names) .none kV35 dc35 pm35 an35 cd35 ct35), sl35⟩)
    (c35 : PySem.W.codeIn K cd35 "less_names" = true)
    (k35 : PySem.W.keepIn K (.ref f35) = true)
    (a36 : PySem.W.nsIn K mainGlobals "is_arg_wrong" = some (some (.ref f36)))
    (l36 : K.lookup f36 = some ⟨oc36, od36, .func (PySem.W.fnOf "is_arg_wrong" "is_arg_wrong" (defArgs s_is_arg_wrong) (defBody s_is_arg_wrong) (defScope s_is_arg_wrong) .none kV36 dc36 pm36 an36 cd36 ct36), sl36⟩)
    (c36 : PySem.W.codeIn K cd36 "is_arg_wrong" = true)
    (k36 : PySem.W.keepIn K (.ref f36) = true)
    (a37 : PySem.W.nsIn K mainGlobals "part_words" = some (some (.ref f37)))
    (l37 : K.lookup f37 = some ⟨oc37, od37, .func (PySem.W.fnOf "part_words" "part_words" (defArgs s_part_words) (defBody s_part_words) (defScope s_part_words) .none kV37 dc37 pm37 an37 cd37 ct37), sl37⟩)
    (c37 : PySem.W.codeIn K cd37 "part_words" = true)
    (k37 : PySem.W.keepIn K (.ref f37) = true)
    (a58 : PySem.W.findIn K (.ref c_Names) "word_for" = some (some (.ref f58)))
    (m58 : PySem.W.isFn K (.ref f58) = true)
    (l58 : K.lookup f58 = some ⟨oc58, od58, .func (PySem.W.fnOf "word_for" "Names.word_for" (defArgs s_Names_word_for) (defBody s_Names_word_for) (defScope s_Names_word_for) .none kV58 dc58 pm58 an58 cd58 ct58), sl58⟩)
    (c58 : PySem.W.codeIn K cd58 "Names.word_for" = true)
    (k58 : PySem.W.keepIn K (.ref f58) = true)
    (a59 : PySem.W.findIn K (.ref c_Names) "word_for_amount" = some (some (.ref f59)))
    (m59 : PySem.W.isFn K (.ref f59) = true)
    (l59 : K.lookup f59 = some ⟨oc59, od59, .func (PySem.W.fnOf "word_for_amount" "Names.word_for_amount" (defArgs s_Names_word_for_amount) (defBody s_Names_word_for_amount) (defScope s_Names_word_for_amount) .none kV59 dc59 pm59 an59 cd59 ct59), sl59⟩)
    (c59 : PySem.W.codeIn K cd59 "Names.word_for_amount" = true)
    (k59 : PySem.W.keepIn K (.ref f59) = true)
    (a28 : PySem.W.nsIn K mainGlobals "place_words" = some (some (.ref f28)))
    (l28 : K.lookup f28 = some ⟨oc28, od28, .func (PySem.W.fnOf "place_words" "place_words" (defArgs s_place_words) (defBody s_place_words) (defScope s_place_words) .none kV28 dc28 pm28 an28 cd28 ct28), sl28⟩)
    (c28 : PySem.W.codeIn K cd28 "place_words" = true)
    (k28 : PySem.W.keepIn K (.ref f28) = true)
    (a31 : PySem.W.nsIn K mainGlobals "is_deaf" = some (some (.ref f31)))
    (l31 : K.lookup f31 = some ⟨oc31, od31, .func (PySem.W.fnOf "is_deaf" "is_deaf" (defArgs s_is_deaf) (defBody s_is_deaf) (defScope s_is_deaf) .none kV31 dc31 pm31 an31 cd31 ct31), sl31⟩)
    (c31 : PySem.W.codeIn K cd31 "is_deaf" = true)
    (k31 : PySem.W.keepIn K (.ref f31) = true)
    (a29 : PySem.W.nsIn K mainGlobals "ask_words" = some (some (.ref f29)))
    (l29 : K.lookup f29 = some ⟨oc29, od29, .func (PySem.W.fnOf "ask_words" "ask_words" (defArgs s_ask_words) (defBody s_ask_words) (defScope s_ask_words) .none kV29 dc29 pm29 an29 cd29 ct29), sl29⟩)
    (c29 : PySem.W.codeIn K cd29 "ask_words" = true)
    (k29 : PySem.W.keepIn K (.ref f29) = true)
    (a30 : PySem.W.nsIn K mainGlobals "is_far" = some (some (.ref f30)))
    (l30 : K.lookup f30 = some ⟨oc30, od30, .func (PySem.W.fnOf "is_far" "is_far" (defArgs s_is_far) (defBody s_is_far) (defScope s_is_far) .none kV30 dc30 pm30 an30 cd30 ct30), sl30⟩)
    (c30 : PySem.W.codeIn K cd30 "is_far" = true)
    (k30 : PySem.W.keepIn K (.ref f30) = true)
    (a60 : PySem.W.findIn K (.ref c_Names) "word_for_channel" = some (some (.ref f60)))
    (m60 : PySem.W.isFn K (.ref f60) = true)
    (l60 : K.lookup f60 = some ⟨oc60, od60, .func (PySem.W.fnOf "word_for_channel" "Names.word_for_channel" (defArgs s_Names_word_for_channel) (defBody s_Names_word_for_channel) (defScope s_Names_word_for_channel) .none kV60 dc60 pm60 an60 cd60 ct60), sl60⟩)
    (c60 : PySem.W.codeIn K cd60 "Names.word_for_channel" = true)
    (k60 : PySem.W.keepIn K (.ref f60) = true)
    (a9 : PySem.W.nsIn K mainGlobals "parts_of" = some (some (.ref f9)))
    (l9 : K.lookup f9 = some ⟨oc9, od9, .func (PySem.W.fnOf "parts_of" "parts_of" (defArgs s_parts_of) (defBody s_parts_of) (defScope s_parts_of) .none kV9 dc9 pm9 an9 cd9 ct9), sl9⟩)
    (c9 : PySem.W.codeIn K cd9 "parts_of" = true)
    (k9 : PySem.W.keepIn K (.ref f9) = true)
    (a10 : PySem.W.nsIn K mainGlobals "names_of" = some (some (.ref f10)))
    (l10 : K.lookup f10 = some ⟨oc10, od10, .func (PySem.W.fnOf "names_of" "names_of" (defArgs s_names_of) (defBody s_names_of) (defScope s_names_of) .none kV10 dc10 pm10 an10 cd10 ct10), sl10⟩)
    (c10 : PySem.W.codeIn K cd10 "names_of" = true)
    (k10 : PySem.W.keepIn K (.ref f10) = true)
    (a61 : PySem.W.findIn K (.ref c_Names) "words_in_expr" = some (some (.ref f61)))
    (m61 : PySem.W.isFn K (.ref f61) = true)
    (l61 : K.lookup f61 = some ⟨oc61, od61, .func (PySem.W.fnOf "words_in_expr" "Names.words_in_expr" (defArgs s_Names_words_in_expr) (defBody s_Names_words_in_expr) (defScope s_Names_words_in_expr) .none kV61 dc61 pm61 an61 cd61 ct61), sl61⟩)
    (c61 : PySem.W.codeIn K cd61 "Names.words_in_expr" = true)
    (k61 : PySem.W.keepIn K (.ref f61) = true)
    (a32 : PySem.W.nsIn K mainGlobals "edge_words" = some (some (.ref f32)))
    (l32 : K.lookup f32 = some ⟨oc32, od32, .func (PySem.W.fnOf "edge_words" "edge_words" (defArgs s_edge_words) (defBody s_edge_words) (defScope s_edge_words) .none kV32 dc32 pm32 an32 cd32 ct32), sl32⟩)
    (c32 : PySem.W.codeIn K cd32 "edge_words" = true)
    (k32 : PySem.W.keepIn K (.ref f32) = true)
    (a39 : PySem.W.nsIn K mainGlobals "is_channel_all" = some (some (.ref f39)))
    (l39 : K.lookup f39 = some ⟨oc39, od39, .func (PySem.W.fnOf "is_channel_all" "is_channel_all" (defArgs s_is_channel_all) (defBody s_is_channel_all) (defScope s_is_channel_all) .none kV39 dc39 pm39 an39 cd39 ct39), sl39⟩)
    (c39 : PySem.W.codeIn K cd39 "is_channel_all" = true)
    (k39 : PySem.W.keepIn K (.ref f39) = true)
    (a57 : PySem.W.findIn K (.ref c_Names) "__init__" = some (some (.ref f57)))
    (m57 : PySem.W.isFn K (.ref f57) = true)
    (l57 : K.lookup f57 = some ⟨oc57, od57, .func (PySem.W.fnOf "__init__" "Names.__init__" (defArgs s_Names_init) (defBody s_Names_init) (defScope s_Names_init) .none kV57 dc57 pm57 an57 cd57 ct57), sl57⟩)
    (c57 : PySem.W.codeIn K cd57 "Names.__init__" = true)
    (k57 : PySem.W.keepIn K (.ref f57) = true)
    (a38 : PySem.W.nsIn K mainGlobals "all_channels" = some (some (.ref f38)))
    (l38 : K.lookup f38 = some ⟨oc38, od38, .func (PySem.W.fnOf "all_channels" "all_channels" (defArgs s_all_channels) (defBody s_all_channels) (defScope s_all_channels) .none kV38 dc38 pm38 an38 cd38 ct38), sl38⟩)
    (c38 : PySem.W.codeIn K cd38 "all_channels" = true)
    (k38 : PySem.W.keepIn K (.ref f38) = true)
    (a40 : PySem.W.nsIn K mainGlobals "module_faults" = some (some (.ref f40)))
    (l40 : K.lookup f40 = some ⟨oc40, od40, .func (PySem.W.fnOf "module_faults" "module_faults" (defArgs s_module_faults) (defBody s_module_faults) (defScope s_module_faults) .none kV40 dc40 pm40 an40 cd40 ct40), sl40⟩)
    (c40 : PySem.W.codeIn K cd40 "module_faults" = true)
    (k40 : PySem.W.keepIn K (.ref f40) = true)
    (a41 : PySem.W.nsIn K mainGlobals "faults_in" = some (some (.ref f41)))
    (l41 : K.lookup f41 = some ⟨oc41, od41, .func (PySem.W.fnOf "faults_in" "faults_in" (defArgs s_faults_in) (defBody s_faults_in) (defScope s_faults_in) .none kV41 dc41 pm41 an41 cd41 ct41), sl41⟩)
    (c41 : PySem.W.codeIn K cd41 "faults_in" = true)
    (k41 : PySem.W.keepIn K (.ref f41) = true)
    (a2 : PySem.W.nsIn K mainGlobals "is_tuple_of" = some (some (.ref f2)))
    (l2 : K.lookup f2 = some ⟨oc2, od2, .func (PySem.W.fnOf "is_tuple_of" "is_tuple_of" (defArgs s_is_tuple_of) (defBody s_is_tuple_of) (defScope s_is_tuple_of) .none kV2 dc2 pm2 an2 cd2 ct2), sl2⟩)
    (c2 : PySem.W.codeIn K cd2 "is_tuple_of" = true)
    (k2 : PySem.W.keepIn K (.ref f2) = true)
    (a6 : PySem.W.nsIn K mainGlobals "is_name" = some (some (.ref f6)))
    (l6 : K.lookup f6 = some ⟨oc6, od6, .func (PySem.W.fnOf "is_name" "is_name" (defArgs s_is_name) (defBody s_is_name) (defScope s_is_name) .none kV6 dc6 pm6 an6 cd6 ct6), sl6⟩)
    (c6 : PySem.W.codeIn K cd6 "is_name" = true)
    (k6 : PySem.W.keepIn K (.ref f6) = true)
    (a7 : PySem.W.nsIn K mainGlobals "are_rising" = some (some (.ref f7)))
    (l7 : K.lookup f7 = some ⟨oc7, od7, .func (PySem.W.fnOf "are_rising" "are_rising" (defArgs s_are_rising) (defBody s_are_rising) (defScope s_are_rising) .none kV7 dc7 pm7 an7 cd7 ct7), sl7⟩)
    (c7 : PySem.W.codeIn K cd7 "are_rising" = true)
    (k7 : PySem.W.keepIn K (.ref f7) = true)
    (a12 : PySem.W.nsIn K mainGlobals "rise_by_name" = some (some (.ref f12)))
    (l12 : K.lookup f12 = some ⟨oc12, od12, .func (PySem.W.fnOf "rise_by_name" "rise_by_name" (defArgs s_rise_by_name) (defBody s_rise_by_name) (defScope s_rise_by_name) .none kV12 dc12 pm12 an12 cd12 ct12), sl12⟩)
    (c12 : PySem.W.codeIn K cd12 "rise_by_name" = true)
    (k12 : PySem.W.keepIn K (.ref f12) = true)
    (a11 : PySem.W.nsIn K mainGlobals "are_names" = some (some (.ref f11)))
    (l11 : K.lookup f11 = some ⟨oc11, od11, .func (PySem.W.fnOf "are_names" "are_names" (defArgs s_are_names) (defBody s_are_names) (defScope s_are_names) .none kV11 dc11 pm11 an11 cd11 ct11), sl11⟩)
    (c11 : PySem.W.codeIn K cd11 "are_names" = true)
    (k11 : PySem.W.keepIn K (.ref f11) = true)
    (a4 : PySem.W.nsIn K mainGlobals "is_one_of" = some (some (.ref f4)))
    (l4 : K.lookup f4 = some ⟨oc4, od4, .func (PySem.W.fnOf "is_one_of" "is_one_of" (defArgs s_is_one_of) (defBody s_is_one_of) (defScope s_is_one_of) .none kV4 dc4 pm4 an4 cd4 ct4), sl4⟩)
    (c4 : PySem.W.codeIn K cd4 "is_one_of" = true)
    (k4 : PySem.W.keepIn K (.ref f4) = true)
    (a15 : PySem.W.nsIn K mainGlobals "is_param" = some (some (.ref f15)))
    (l15 : K.lookup f15 = some ⟨oc15, od15, .func (PySem.W.fnOf "is_param" "is_param" (defArgs s_is_param) (defBody s_is_param) (defScope s_is_param) .none kV15 dc15 pm15 an15 cd15 ct15), sl15⟩)
    (c15 : PySem.W.codeIn K cd15 "is_param" = true)
    (k15 : PySem.W.keepIn K (.ref f15) = true)
    (a1 : PySem.W.nsIn K mainGlobals "is_whole_from" = some (some (.ref f1)))
    (l1 : K.lookup f1 = some ⟨oc1, od1, .func (PySem.W.fnOf "is_whole_from" "is_whole_from" (defArgs s_is_whole_from) (defBody s_is_whole_from) (defScope s_is_whole_from) .none kV1 dc1 pm1 an1 cd1 ct1), sl1⟩)
    (c1 : PySem.W.codeIn K cd1 "is_whole_from" = true)
    (k1 : PySem.W.keepIn K (.ref f1) = true)
    (a13 : PySem.W.nsIn K mainGlobals "is_amount" = some (some (.ref f13)))
    (l13 : K.lookup f13 = some ⟨oc13, od13, .func (PySem.W.fnOf "is_amount" "is_amount" (defArgs s_is_amount) (defBody s_is_amount) (defScope s_is_amount) .none kV13 dc13 pm13 an13 cd13 ct13), sl13⟩)
    (c13 : PySem.W.codeIn K cd13 "is_amount" = true)
    (k13 : PySem.W.keepIn K (.ref f13) = true)
    (a17 : PySem.W.nsIn K mainGlobals "is_limit" = some (some (.ref f17)))
    (l17 : K.lookup f17 = some ⟨oc17, od17, .func (PySem.W.fnOf "is_limit" "is_limit" (defArgs s_is_limit) (defBody s_is_limit) (defScope s_is_limit) .none kV17 dc17 pm17 an17 cd17 ct17), sl17⟩)
    (c17 : PySem.W.codeIn K cd17 "is_limit" = true)
    (k17 : PySem.W.keepIn K (.ref f17) = true)
    (a18 : PySem.W.nsIn K mainGlobals "is_keep" = some (some (.ref f18)))
    (l18 : K.lookup f18 = some ⟨oc18, od18, .func (PySem.W.fnOf "is_keep" "is_keep" (defArgs s_is_keep) (defBody s_is_keep) (defScope s_is_keep) .none kV18 dc18 pm18 an18 cd18 ct18), sl18⟩)
    (c18 : PySem.W.codeIn K cd18 "is_keep" = true)
    (k18 : PySem.W.keepIn K (.ref f18) = true)
    (a19 : PySem.W.nsIn K mainGlobals "is_place" = some (some (.ref f19)))
    (l19 : K.lookup f19 = some ⟨oc19, od19, .func (PySem.W.fnOf "is_place" "is_place" (defArgs s_is_place) (defBody s_is_place) (defScope s_is_place) .none kV19 dc19 pm19 an19 cd19 ct19), sl19⟩)
    (c19 : PySem.W.codeIn K cd19 "is_place" = true)
    (k19 : PySem.W.keepIn K (.ref f19) = true)
    (a3 : PySem.W.nsIn K mainGlobals "is_word" = some (some (.ref f3)))
    (l3 : K.lookup f3 = some ⟨oc3, od3, .func (PySem.W.fnOf "is_word" "is_word" (defArgs s_is_word) (defBody s_is_word) (defScope s_is_word) .none kV3 dc3 pm3 an3 cd3 ct3), sl3⟩)
    (c3 : PySem.W.codeIn K cd3 "is_word" = true)
    (k3 : PySem.W.keepIn K (.ref f3) = true)
    (a5 : PySem.W.nsIn K mainGlobals "is_named" = some (some (.ref f5)))
    (l5 : K.lookup f5 = some ⟨oc5, od5, .func (PySem.W.fnOf "is_named" "is_named" (defArgs s_is_named) (defBody s_is_named) (defScope s_is_named) .none kV5 dc5 pm5 an5 cd5 ct5), sl5⟩)
    (c5 : PySem.W.codeIn K cd5 "is_named" = true)
    (k5 : PySem.W.keepIn K (.ref f5) = true)
    (a20 : PySem.W.nsIn K mainGlobals "is_deed" = some (some (.ref f20)))
    (l20 : K.lookup f20 = some ⟨oc20, od20, .func (PySem.W.fnOf "is_deed" "is_deed" (defArgs s_is_deed) (defBody s_is_deed) (defScope s_is_deed) .none kV20 dc20 pm20 an20 cd20 ct20), sl20⟩)
    (c20 : PySem.W.codeIn K cd20 "is_deed" = true)
    (k20 : PySem.W.keepIn K (.ref f20) = true)
    (a14 : PySem.W.nsIn K mainGlobals "is_difference" = some (some (.ref f14)))
    (l14 : K.lookup f14 = some ⟨oc14, od14, .func (PySem.W.fnOf "is_difference" "is_difference" (defArgs s_is_difference) (defBody s_is_difference) (defScope s_is_difference) .none kV14 dc14 pm14 an14 cd14 ct14), sl14⟩)
    (c14 : PySem.W.codeIn K cd14 "is_difference" = true)
    (k14 : PySem.W.keepIn K (.ref f14) = true)
    (a21 : PySem.W.nsIn K mainGlobals "is_ask" = some (some (.ref f21)))
    (l21 : K.lookup f21 = some ⟨oc21, od21, .func (PySem.W.fnOf "is_ask" "is_ask" (defArgs s_is_ask) (defBody s_is_ask) (defScope s_is_ask) .none kV21 dc21 pm21 an21 cd21 ct21), sl21⟩)
    (c21 : PySem.W.codeIn K cd21 "is_ask" = true)
    (k21 : PySem.W.keepIn K (.ref f21) = true)
    (a8 : PySem.W.nsIn K mainGlobals "is_expr_value" = some (some (.ref f8)))
    (l8 : K.lookup f8 = some ⟨oc8, od8, .func (PySem.W.fnOf "is_expr_value" "is_expr_value" (defArgs s_is_expr_value) (defBody s_is_expr_value) (defScope s_is_expr_value) .none kV8 dc8 pm8 an8 cd8 ct8), sl8⟩)
    (c8 : PySem.W.codeIn K cd8 "is_expr_value" = true)
    (k8 : PySem.W.keepIn K (.ref f8) = true)
    (a22 : PySem.W.nsIn K mainGlobals "is_test" = some (some (.ref f22)))
    (l22 : K.lookup f22 = some ⟨oc22, od22, .func (PySem.W.fnOf "is_test" "is_test" (defArgs s_is_test) (defBody s_is_test) (defScope s_is_test) .none kV22 dc22 pm22 an22 cd22 ct22), sl22⟩)
    (c22 : PySem.W.codeIn K cd22 "is_test" = true)
    (k22 : PySem.W.keepIn K (.ref f22) = true)
    (a23 : PySem.W.nsIn K mainGlobals "is_set" = some (some (.ref f23)))
    (l23 : K.lookup f23 = some ⟨oc23, od23, .func (PySem.W.fnOf "is_set" "is_set" (defArgs s_is_set) (defBody s_is_set) (defScope s_is_set) .none kV23 dc23 pm23 an23 cd23 ct23), sl23⟩)
    (c23 : PySem.W.codeIn K cd23 "is_set" = true)
    (k23 : PySem.W.keepIn K (.ref f23) = true)
    (a24 : PySem.W.nsIn K mainGlobals "are_tests_and_sets" = some (some (.ref f24)))
    (l24 : K.lookup f24 = some ⟨oc24, od24, .func (PySem.W.fnOf "are_tests_and_sets" "are_tests_and_sets" (defArgs s_are_tests_and_sets) (defBody s_are_tests_and_sets) (defScope s_are_tests_and_sets) .none kV24 dc24 pm24 an24 cd24 ct24), sl24⟩)
    (c24 : PySem.W.codeIn K cd24 "are_tests_and_sets" = true)
    (k24 : PySem.W.keepIn K (.ref f24) = true)
    (a25 : PySem.W.nsIn K mainGlobals "is_edge" = some (some (.ref f25)))
    (l25 : K.lookup f25 = some ⟨oc25, od25, .func (PySem.W.fnOf "is_edge" "is_edge" (defArgs s_is_edge) (defBody s_is_edge) (defScope s_is_edge) .none kV25 dc25 pm25 an25 cd25 ct25), sl25⟩)
    (c25 : PySem.W.codeIn K cd25 "is_edge" = true)
    (k25 : PySem.W.keepIn K (.ref f25) = true)
    (a16 : PySem.W.nsIn K mainGlobals "is_number" = some (some (.ref f16)))
    (l16 : K.lookup f16 = some ⟨oc16, od16, .func (PySem.W.fnOf "is_number" "is_number" (defArgs s_is_number) (defBody s_is_number) (defScope s_is_number) .none kV16 dc16 pm16 an16 cd16 ct16), sl16⟩)
    (c16 : PySem.W.codeIn K cd16 "is_number" = true)
    (k16 : PySem.W.keepIn K (.ref f16) = true)
    (a26 : PySem.W.nsIn K mainGlobals "are_numbers" = some (some (.ref f26)))
    (l26 : K.lookup f26 = some ⟨oc26, od26, .func (PySem.W.fnOf "are_numbers" "are_numbers" (defArgs s_are_numbers) (defBody s_are_numbers) (defScope s_are_numbers) .none kV26 dc26 pm26 an26 cd26 ct26), sl26⟩)
    (c26 : PySem.W.codeIn K cd26 "are_numbers" = true)
    (k26 : PySem.W.keepIn K (.ref f26) = true)
    (a27 : PySem.W.nsIn K mainGlobals "is_module" = some (some (.ref f27)))
    (l27 : K.lookup f27 = some ⟨oc27, od27, .func (PySem.W.fnOf "is_module" "is_module" (defArgs s_is_module) (defBody s_is_module) (defScope s_is_module) .none kV27 dc27 pm27 an27 cd27 ct27), sl27⟩)
    (c27 : PySem.W.codeIn K cd27 "is_module" = true)
    (k27 : PySem.W.keepIn K (.ref f27) = true)
    (a42 : PySem.W.nsIn K mainGlobals "is_channel" = some (some (.ref f42)))
    (l42 : K.lookup f42 = some ⟨oc42, od42, .func (PySem.W.fnOf "is_channel" "is_channel" (defArgs s_is_channel) (defBody s_is_channel) (defScope s_is_channel) .none kV42 dc42 pm42 an42 cd42 ct42), sl42⟩)
    (c42 : PySem.W.codeIn K cd42 "is_channel" = true)
    (k42 : PySem.W.keepIn K (.ref f42) = true)
    (a43 : PySem.W.nsIn K mainGlobals "is_part" = some (some (.ref f43)))
    (l43 : K.lookup f43 = some ⟨oc43, od43, .func (PySem.W.fnOf "is_part" "is_part" (defArgs s_is_part) (defBody s_is_part) (defScope s_is_part) .none kV43 dc43 pm43 an43 cd43 ct43), sl43⟩)
    (c43 : PySem.W.codeIn K cd43 "is_part" = true)
    (k43 : PySem.W.keepIn K (.ref f43) = true)
    (a44 : PySem.W.nsIn K mainGlobals "is_list_of" = some (some (.ref f44)))
    (l44 : K.lookup f44 = some ⟨oc44, od44, .func (PySem.W.fnOf "is_list_of" "is_list_of" (defArgs s_is_list_of) (defBody s_is_list_of) (defScope s_is_list_of) .none kV44 dc44 pm44 an44 cd44 ct44), sl44⟩)
    (c44 : PySem.W.codeIn K cd44 "is_list_of" = true)
    (k44 : PySem.W.keepIn K (.ref f44) = true)
    (a45 : PySem.W.nsIn K mainGlobals "is_written_value" = some (some (.ref f45)))
    (l45 : K.lookup f45 = some ⟨oc45, od45, .func (PySem.W.fnOf "is_written_value" "is_written_value" (defArgs s_is_written_value) (defBody s_is_written_value) (defScope s_is_written_value) .none kV45 dc45 pm45 an45 cd45 ct45), sl45⟩)
    (c45 : PySem.W.codeIn K cd45 "is_written_value" = true)
    (k45 : PySem.W.keepIn K (.ref f45) = true)
    (a46 : PySem.W.nsIn K mainGlobals "is_program_value" = some (some (.ref f46)))
    (l46 : K.lookup f46 = some ⟨oc46, od46, .func (PySem.W.fnOf "is_program_value" "is_program_value" (defArgs s_is_program_value) (defBody s_is_program_value) (defScope s_is_program_value) .none kV46 dc46 pm46 an46 cd46 ct46), sl46⟩)
    (c46 : PySem.W.codeIn K cd46 "is_program_value" = true)
    (k46 : PySem.W.keepIn K (.ref f46) = true)
    (a48 : PySem.W.nsIn K mainGlobals "is_program" = some (some (.ref f48)))
    (l48 : K.lookup f48 = some ⟨oc48, od48, .func (PySem.W.fnOf "is_program" "is_program" (defArgs s_is_program) (defBody s_is_program) (defScope s_is_program) .none kV48 dc48 pm48 an48 cd48 ct48), sl48⟩)
    (c48 : PySem.W.codeIn K cd48 "is_program" = true)
    (k48 : PySem.W.keepIn K (.ref f48) = true)
    (a47 : PySem.W.nsIn K mainGlobals "need_written" = some (some (.ref f47)))
    (l47 : K.lookup f47 = some ⟨oc47, od47, .func (PySem.W.fnOf "need_written" "need_written" (defArgs s_need_written) (defBody s_need_written) (defScope s_need_written) .none kV47 dc47 pm47 an47 cd47 ct47), sl47⟩)
    (c47 : PySem.W.codeIn K cd47 "need_written" = true)
    (k47 : PySem.W.keepIn K (.ref f47) = true)
    (a49 : PySem.W.nsIn K mainGlobals "faults_of" = some (some (.ref f49)))
    (l49 : K.lookup f49 = some ⟨oc49, od49, .func (PySem.W.fnOf "faults_of" "faults_of" (defArgs s_faults_of) (defBody s_faults_of) (defScope s_faults_of) .none kV49 dc49 pm49 an49 cd49 ct49), sl49⟩)
    (c49 : PySem.W.codeIn K cd49 "faults_of" = true)
    (k49 : PySem.W.keepIn K (.ref f49) = true)
    (a50 : PySem.W.nsIn K mainGlobals "_law_begun" = some (some (.ref f50)))
    (l50 : K.lookup f50 = some ⟨oc50, od50, .func (PySem.W.fnOf "_law_begun" "_law_begun" (defArgs s_law_begun) (defBody s_law_begun) (defScope s_law_begun) .none kV50 dc50 pm50 an50 cd50 ct50), sl50⟩)
    (c50 : PySem.W.codeIn K cd50 "_law_begun" = true)
    (k50 : PySem.W.keepIn K (.ref f50) = true)
    (a51 : PySem.W.nsIn K mainGlobals "_law_draw" = some (some (.ref f51)))
    (l51 : K.lookup f51 = some ⟨oc51, od51, .func (PySem.W.fnOf "_law_draw" "_law_draw" (defArgs s_law_draw) (defBody s_law_draw) (defScope s_law_draw) .none kV51 dc51 pm51 an51 cd51 ct51), sl51⟩)
    (c51 : PySem.W.codeIn K cd51 "_law_draw" = true)
    (k51 : PySem.W.keepIn K (.ref f51) = true)
    (a52 : PySem.W.nsIn K mainGlobals "_law_pick" = some (some (.ref f52)))
    (l52 : K.lookup f52 = some ⟨oc52, od52, .func (PySem.W.fnOf "_law_pick" "_law_pick" (defArgs s_law_pick) (defBody s_law_pick) (defScope s_law_pick) .none kV52 dc52 pm52 an52 cd52 ct52), sl52⟩)
    (c52 : PySem.W.codeIn K cd52 "_law_pick" = true)
    (k52 : PySem.W.keepIn K (.ref f52) = true)
    (a53 : PySem.W.nsIn K mainGlobals "_law_asks" = some (some (.ref f53)))
    (l53 : K.lookup f53 = some ⟨oc53, od53, .func (PySem.W.fnOf "_law_asks" "_law_asks" (defArgs s_law_asks) (defBody s_law_asks) (defScope s_law_asks) .none kV53 dc53 pm53 an53 cd53 ct53), sl53⟩)
    (c53 : PySem.W.codeIn K cd53 "_law_asks" = true)
    (k53 : PySem.W.keepIn K (.ref f53) = true)
    (a54 : PySem.W.nsIn K mainGlobals "_law_is_far" = some (some (.ref f54)))
    (l54 : K.lookup f54 = some ⟨oc54, od54, .func (PySem.W.fnOf "_law_is_far" "_law_is_far" (defArgs s_law_is_far) (defBody s_law_is_far) (defScope s_law_is_far) .none kV54 dc54 pm54 an54 cd54 ct54), sl54⟩)
    (c54 : PySem.W.codeIn K cd54 "_law_is_far" = true)
    (k54 : PySem.W.keepIn K (.ref f54) = true)
    (a55 : PySem.W.nsIn K mainGlobals "_law_refused" = some (some (.ref f55)))
    (l55 : K.lookup f55 = some ⟨oc55, od55, .func (PySem.W.fnOf "_law_refused" "_law_refused" (defArgs s_law_refused) (defBody s_law_refused) (defScope s_law_refused) .none kV55 dc55 pm55 an55 cd55 ct55), sl55⟩)
    (c55 : PySem.W.codeIn K cd55 "_law_refused" = true)
    (k55 : PySem.W.keepIn K (.ref f55) = true)
    (a56 : PySem.W.nsIn K mainGlobals "law" = some (some (.ref f56)))
    (l56 : K.lookup f56 = some ⟨oc56, od56, .func (PySem.W.fnOf "law" "law" (defArgs s_law) (defBody s_law) (defScope s_law) .none kV56 dc56 pm56 an56 cd56 ct56), sl56⟩)
    (c56 : PySem.W.codeIn K cd56 "law" = true)
    (k56 : PySem.W.keepIn K (.ref f56) = true)
    (z_all : PySem.W.nsIn K mainGlobals "all" = some none)
    (z_any : PySem.W.nsIn K mainGlobals "any" = some none)
    (z_bool : PySem.W.nsIn K mainGlobals "bool" = some none)
    (z_dict : PySem.W.nsIn K mainGlobals "dict" = some none)
    (z_enumerate : PySem.W.nsIn K mainGlobals "enumerate" = some none)
    (z_int : PySem.W.nsIn K mainGlobals "int" = some none)
    (z_isinstance : PySem.W.nsIn K mainGlobals "isinstance" = some none)
    (z_len : PySem.W.nsIn K mainGlobals "len" = some none)
    (z_list : PySem.W.nsIn K mainGlobals "list" = some none)
    (z_max : PySem.W.nsIn K mainGlobals "max" = some none)
    (z_range : PySem.W.nsIn K mainGlobals "range" = some none)
    (z_repr : PySem.W.nsIn K mainGlobals "repr" = some none)
    (z_reversed : PySem.W.nsIn K mainGlobals "reversed" = some none)
    (z_sorted : PySem.W.nsIn K mainGlobals "sorted" = some none)
    (z_str : PySem.W.nsIn K mainGlobals "str" = some none)
    (z_tuple : PySem.W.nsIn K mainGlobals "tuple" = some none)
    (z_zip : PySem.W.nsIn K mainGlobals "zip" = some none)
    (q_ALL : PySem.W.nsIn K mainGlobals "ALL" = some (some (.str "all" tk_ALL)))
    (q_CHANNEL_PARAM : PySem.W.nsIn K mainGlobals "CHANNEL_PARAM" = some (some (.str "channel param" tk_CHANNEL_PARAM)))
    (q_CLOCK : PySem.W.nsIn K mainGlobals "CLOCK" = some (some (.str "clock" tk_CLOCK)))
    (q_EDGE_PARTS : PySem.W.nsIn K mainGlobals "EDGE_PARTS" = some (some (.int 8 tk_EDGE_PARTS)))
    (q_FIGURES : PySem.W.nsIn K mainGlobals "FIGURES" = some (some (.str "0123456789" tk_FIGURES)))
    (q_GREATEST : PySem.W.nsIn K mainGlobals "GREATEST" = some (some (.int 1000000000000000000000000000000000000000000000000000000000000 tk_GREATEST)))
    (q_HOW : PySem.W.nsIn K mainGlobals "HOW" = some (some (.ref q_HOWa)))
    (r_HOW : K.lookup q_HOWa = some ⟨.type "tuple", none, .seq ([Value.str "pair" tk_HOW_0, Value.str "all" tk_HOW_1] : List Value).toArray q_HOWn, q_HOWs⟩)
    (q_MARKS : PySem.W.nsIn K mainGlobals "MARKS" = some (some (.ref q_MARKSa)))
    (r_MARKS : K.lookup q_MARKSa = some ⟨.type "tuple", none, .seq ([Value.str "time" tk_MARKS_0, Value.str "urgent" tk_MARKS_1, Value.str "committed" tk_MARKS_2, Value.str "reply" tk_MARKS_3] : List Value).toArray q_MARKSn, q_MARKSs⟩)
    (q_MODULE_PARTS : PySem.W.nsIn K mainGlobals "MODULE_PARTS" = some (some (.int 6 tk_MODULE_PARTS)))
    (q_MOST_SIGNS : PySem.W.nsIn K mainGlobals "MOST_SIGNS" = some (some (.int 12 tk_MOST_SIGNS)))
    (q_NUMBER : PySem.W.nsIn K mainGlobals "NUMBER" = some (some (.str "number" tk_NUMBER)))
    (q_NUMBER_PARAM : PySem.W.nsIn K mainGlobals "NUMBER_PARAM" = some (some (.str "number param" tk_NUMBER_PARAM)))
    (q_OPS : PySem.W.nsIn K mainGlobals "OPS" = some (some (.ref q_OPSa)))
    (r_OPS : K.lookup q_OPSa = some ⟨.type "tuple", none, .seq ([Value.str "<" tk_OPS_0, Value.str "<=" tk_OPS_1, Value.str ">" tk_OPS_2, Value.str ">=" tk_OPS_3] : List Value).toArray q_OPSn, q_OPSs⟩)
    (q_PARAM_SORTS : PySem.W.nsIn K mainGlobals "PARAM_SORTS" = some (some (.ref q_PARAM_SORTSa)))
    (r_PARAM_SORTS : K.lookup q_PARAM_SORTSa = some ⟨.type "tuple", none, .seq ([Value.str "number" tk_PARAM_SORTS_0, Value.str "channel" tk_PARAM_SORTS_1] : List Value).toArray q_PARAM_SORTSn, q_PARAM_SORTSs⟩)
    (q_PLACE : PySem.W.nsIn K mainGlobals "PLACE" = some (some (.str "place" tk_PLACE)))
    (q_PLACE_PARTS : PySem.W.nsIn K mainGlobals "PLACE_PARTS" = some (some (.int 5 tk_PLACE_PARTS)))
    (q_SIGNS : PySem.W.nsIn K mainGlobals "SIGNS" = some (some (.ref q_SIGNSa)))
    (r_SIGNS : K.lookup q_SIGNSa = some ⟨.type "tuple", none, .seq ([Value.str "+" tk_SIGNS_0, Value.str "-" tk_SIGNS_1] : List Value).toArray q_SIGNSn, q_SIGNSs⟩)
    (q_SMALL : PySem.W.nsIn K mainGlobals "SMALL" = some (some (.str "abcdefghijklmnopqrstuvwxyz" tk_SMALL)))
    (q_TESTS : PySem.W.nsIn K mainGlobals "TESTS" = some (some (.ref q_TESTSa)))
    (r_TESTS : K.lookup q_TESTSa = some ⟨.type "tuple", none, .seq ([Value.str "<" tk_TESTS_0, Value.str "<=" tk_TESTS_1, Value.str ">" tk_TESTS_2, Value.str ">=" tk_TESTS_3, Value.str "=" tk_TESTS_4, Value.str "#" tk_TESTS_5] : List Value).toArray q_TESTSn, q_TESTSs⟩)
    (q_UPPER : PySem.W.nsIn K mainGlobals "UPPER" = some (some (.ref q_UPPERa)))
    (r_UPPER : K.lookup q_UPPERa = some ⟨.type "tuple", none, .seq ([Value.str "<" tk_UPPER_0, Value.str "<=" tk_UPPER_1] : List Value).toArray q_UPPERn, q_UPPERs⟩)
    (gZ : PySem.W.nsIn K mainGlobals "ZonesError" = some (some (.ref za)))
    (eg0 : PySem.W.nsIn K mainGlobals "BadProgram" = some (some (.ref e0C)))
    (ex0 : K.lookup e0C = some (excClassObj e0nm e0q e0C e0N e0bs (PySem.Zx.behind za) true e0sn e0sub e0ab e0col e0dd e0m0 e0m1 e0m2 e0m3 e0m5 "Exception.__new__"))
    (esa0 : PySem.W.findIn K (.ref e0C) "__setattr__" = some (some (.builtin "object.__setattr__")))
    (ega0 : PySem.W.findIn K (.ref e0C) "__getattribute__" = some (some (.builtin "BaseException.__getattribute__")))
    (egg0 : PySem.W.findIn K (.ref e0C) "__getattr__" = some none)
    (enb0 : PySem.W.findIn K (.ref e0C) "thing" = some none)
    (ein0 : PySem.W.findIn K (.ref e0C) "__init__" = some (some (.ref e0f)))
    (ecl0 : PySem.W.findIn K (.ref e0C) "__class__" = some (some (.builtin "object.__class__")))
    (et0 : PySem.W.typeIn K (.ref e0f) = some (.type "function"))
    (el0 : K.lookup e0f = some ⟨e0oc, e0od, .func (PySem.W.fnOf "__init__" "BadProgram.__init__" (PySem.Zx.iA ⟨6, 17, 6, 21⟩ ⟨6, 23, 6, 28⟩) (PySem.Zx.iB ⟨7, 8, 7, 12⟩ ⟨7, 8, 7, 18⟩ ⟨7, 21, 7, 26⟩ ⟨7, 8, 7, 26⟩) PySem.Zx.iS .none .none e0dc e0pm e0an e0cd e0ct), e0sl⟩)
    (ec0 : PySem.W.codeIn K e0cd "BadProgram.__init__" = true)
    (ek0 : PySem.W.keepIn K (.ref e0C) = true)
    (eb0 : PySem.W.subIn K (.ref e0C) (.type "BaseException") = some true)
    (ey0 : PySem.W.typeIn K (.ref e0C) = some (.type "type"))
    (eh0 : PySem.W.hasDictIn K e0C = true)
    (es0 : PySem.W.subIn K (.ref e0C) (.ref e0C) = some true)
    (ep0 : PySem.W.specialIn K (.builtin "object.__class__") "__get__" = some (some (.builtin "getset_descriptor.__get__")))
    (ew0 : PySem.W.takesIn K (.builtin "object.__class__") = some true)
    (em0 : PySem.W.mroIn K e0C (.type "object") = some true)
    (ez0 : PySem.W.kitOne K (.ref e0C) (.ref za) = some true) :
    ∃ fd : FuncData, Fun K "law" "law" s_law fa fd ∧ (∀ (s : Shared) (u : Value), BindsTo s fd ⟨[u], []⟩ [("script", u)]) ∧
      ∀ (base : Heap) (s : Shared) (H : Hp) (cdv : Value) (a : Addr) (ns : List Int), ns.length ≤ 63 → K.In base → base.Ns mainGlobals mg → SqL K H a (ns.map V.int) →
        ∃ t, PSs (cxOf (L2.CX l.prog w) l.prog w K mg base ["script", "deck", "turn", "keeps", "places", "k", "edges", "go", "resets", "module", "bare", "program", "due", "text", "odd"] "law" (defScope s_law) fa cdv callerA [] s H (fun _ _ _ => False)) (defBody s_law) t ∧ t { nx := fun _ _ => False, rt := fun v _ => v = .bl true } (start ["script", "deck", "turn", "keeps", "places", "k", "edges", "go", "resets", "module", "bare", "program", "due", "text", "odd"] [.ref a]) H := by
  have e := hfa.symm.trans (PySem.W.mg_of X G a56)
  cases e
  have F0 := fun_mk (st := s_is_whole) l0 c0 k0
  have F33 := fun_mk (st := s_params_told) l33 c33 k33
  have F34 := fun_mk (st := s_amount_names) l34 c34 k34
  have F35 := fun_mk (st := s_less_names) l35 c35 k35
  have F36 := fun_mk (st := s_is_arg_wrong) l36 c36 k36
  have F37 := fun_mk (st := s_part_words) l37 c37 k37
  have F58 := fun_mk (st := s_Names_word_for) l58 c58 k58
  have F59 := fun_mk (st := s_Names_word_for_amount) l59 c59 k59
  have F28 := fun_mk (st := s_place_words) l28 c28 k28
  have F31 := fun_mk (st := s_is_deaf) l31 c31 k31
  have F29 := fun_mk (st := s_ask_words) l29 c29 k29
  have F30 := fun_mk (st := s_is_far) l30 c30 k30
  have F60 := fun_mk (st := s_Names_word_for_channel) l60 c60 k60
  have F9 := fun_mk (st := s_parts_of) l9 c9 k9
  have F10 := fun_mk (st := s_names_of) l10 c10 k10
  have F61 := fun_mk (st := s_Names_words_in_expr) l61 c61 k61
  have F32 := fun_mk (st := s_edge_words) l32 c32 k32
  have F39 := fun_mk (st := s_is_channel_all) l39 c39 k39
  have F57 := fun_mk (st := s_Names_init) l57 c57 k57
  have F38 := fun_mk (st := s_all_channels) l38 c38 k38
  have F40 := fun_mk (st := s_module_faults) l40 c40 k40
  have F41 := fun_mk (st := s_faults_in) l41 c41 k41
  have F2 := fun_mk (st := s_is_tuple_of) l2 c2 k2
  have F6 := fun_mk (st := s_is_name) l6 c6 k6
  have F7 := fun_mk (st := s_are_rising) l7 c7 k7
  have F12 := fun_mk (st := s_rise_by_name) l12 c12 k12
  have F11 := fun_mk (st := s_are_names) l11 c11 k11
  have F4 := fun_mk (st := s_is_one_of) l4 c4 k4
  have F15 := fun_mk (st := s_is_param) l15 c15 k15
  have F1 := fun_mk (st := s_is_whole_from) l1 c1 k1
  have F13 := fun_mk (st := s_is_amount) l13 c13 k13
  have F17 := fun_mk (st := s_is_limit) l17 c17 k17
  have F18 := fun_mk (st := s_is_keep) l18 c18 k18
  have F19 := fun_mk (st := s_is_place) l19 c19 k19
  have F3 := fun_mk (st := s_is_word) l3 c3 k3
  have F5 := fun_mk (st := s_is_named) l5 c5 k5
  have F20 := fun_mk (st := s_is_deed) l20 c20 k20
  have F14 := fun_mk (st := s_is_difference) l14 c14 k14
  have F21 := fun_mk (st := s_is_ask) l21 c21 k21
  have F8 := fun_mk (st := s_is_expr_value) l8 c8 k8
  have F22 := fun_mk (st := s_is_test) l22 c22 k22
  have F23 := fun_mk (st := s_is_set) l23 c23 k23
  have F24 := fun_mk (st := s_are_tests_and_sets) l24 c24 k24
  have F25 := fun_mk (st := s_is_edge) l25 c25 k25
  have F16 := fun_mk (st := s_is_number) l16 c16 k16
  have F26 := fun_mk (st := s_are_numbers) l26 c26 k26
  have F27 := fun_mk (st := s_is_module) l27 c27 k27
  have F42 := fun_mk (st := s_is_channel) l42 c42 k42
  have F43 := fun_mk (st := s_is_part) l43 c43 k43
  have F44 := fun_mk (st := s_is_list_of) l44 c44 k44
  have F45 := fun_mk (st := s_is_written_value) l45 c45 k45
  have F46 := fun_mk (st := s_is_program_value) l46 c46 k46
  have F48 := fun_mk (st := s_is_program) l48 c48 k48
  have F47 := fun_mk (st := s_need_written) l47 c47 k47
  have F49 := fun_mk (st := s_faults_of) l49 c49 k49
  have F50 := fun_mk (st := s_law_begun) l50 c50 k50
  have F51 := fun_mk (st := s_law_draw) l51 c51 k51
  have F52 := fun_mk (st := s_law_pick) l52 c52 k52
  have F53 := fun_mk (st := s_law_asks) l53 c53 k53
  have F54 := fun_mk (st := s_law_is_far) l54 c54 k54
  have F55 := fun_mk (st := s_law_refused) l55 c55 k55
  have F56 := fun_mk (st := s_law) l56 c56 k56
  let ad : Nat → Addr := fun i => match i with
      | 0 => f0
      | 1 => f1
      | 2 => f2
      | 3 => f3
      | 4 => f4
      | 5 => f5
      | 6 => f6
      | 7 => f7
      | 8 => f8
      | 9 => f9
      | 10 => f10
      | 11 => f11
      | 12 => f12
      | 13 => f13
      | 14 => f14
      | 15 => f15
      | 16 => f16
      | 17 => f17
      | 18 => f18
      | 19 => f19
      | 20 => f20
      | 21 => f21
      | 22 => f22
      | 23 => f23
      | 24 => f24
      | 25 => f25
      | 26 => f26
      | 27 => f27
      | 28 => f28
      | 29 => f29
      | 30 => f30
      | 31 => f31
      | 32 => f32
      | 33 => f33
      | 34 => f34
      | 35 => f35
      | 36 => f36
      | 37 => f37
      | 38 => f38
      | 39 => f39
      | 40 => f40
      | 41 => f41
      | 42 => f42
      | 43 => f43
      | 44 => f44
      | 45 => f45
      | 46 => f46
      | 47 => f47
      | 48 => f48
      | 49 => f49
      | 50 => f50
      | 51 => f51
      | 52 => f52
      | 53 => f53
      | 54 => f54
      | 55 => f55
      | 56 => fa
      | 57 => f57
      | 58 => f58
      | 59 => f59
      | 60 => f60
      | _ => f61
  let fd : Nat → FuncData := fun i => match i with
      | 0 => (PySem.W.fnOf "is_whole" "is_whole" (defArgs s_is_whole) (defBody s_is_whole) (defScope s_is_whole) .none kV0 dc0 pm0 an0 cd0 ct0)
      | 1 => (PySem.W.fnOf "is_whole_from" "is_whole_from" (defArgs s_is_whole_from) (defBody s_is_whole_from) (defScope s_is_whole_from) .none kV1 dc1 pm1 an1 cd1 ct1)
      | 2 => (PySem.W.fnOf "is_tuple_of" "is_tuple_of" (defArgs s_is_tuple_of) (defBody s_is_tuple_of) (defScope s_is_tuple_of) .none kV2 dc2 pm2 an2 cd2 ct2)
      | 3 => (PySem.W.fnOf "is_word" "is_word" (defArgs s_is_word) (defBody s_is_word) (defScope s_is_word) .none kV3 dc3 pm3 an3 cd3 ct3)
      | 4 => (PySem.W.fnOf "is_one_of" "is_one_of" (defArgs s_is_one_of) (defBody s_is_one_of) (defScope s_is_one_of) .none kV4 dc4 pm4 an4 cd4 ct4)
      | 5 => (PySem.W.fnOf "is_named" "is_named" (defArgs s_is_named) (defBody s_is_named) (defScope s_is_named) .none kV5 dc5 pm5 an5 cd5 ct5)
      | 6 => (PySem.W.fnOf "is_name" "is_name" (defArgs s_is_name) (defBody s_is_name) (defScope s_is_name) .none kV6 dc6 pm6 an6 cd6 ct6)
      | 7 => (PySem.W.fnOf "are_rising" "are_rising" (defArgs s_are_rising) (defBody s_are_rising) (defScope s_are_rising) .none kV7 dc7 pm7 an7 cd7 ct7)
      | 8 => (PySem.W.fnOf "is_expr_value" "is_expr_value" (defArgs s_is_expr_value) (defBody s_is_expr_value) (defScope s_is_expr_value) .none kV8 dc8 pm8 an8 cd8 ct8)
      | 9 => (PySem.W.fnOf "parts_of" "parts_of" (defArgs s_parts_of) (defBody s_parts_of) (defScope s_parts_of) .none kV9 dc9 pm9 an9 cd9 ct9)
      | 10 => (PySem.W.fnOf "names_of" "names_of" (defArgs s_names_of) (defBody s_names_of) (defScope s_names_of) .none kV10 dc10 pm10 an10 cd10 ct10)
      | 11 => (PySem.W.fnOf "are_names" "are_names" (defArgs s_are_names) (defBody s_are_names) (defScope s_are_names) .none kV11 dc11 pm11 an11 cd11 ct11)
      | 12 => (PySem.W.fnOf "rise_by_name" "rise_by_name" (defArgs s_rise_by_name) (defBody s_rise_by_name) (defScope s_rise_by_name) .none kV12 dc12 pm12 an12 cd12 ct12)
      | 13 => (PySem.W.fnOf "is_amount" "is_amount" (defArgs s_is_amount) (defBody s_is_amount) (defScope s_is_amount) .none kV13 dc13 pm13 an13 cd13 ct13)
      | 14 => (PySem.W.fnOf "is_difference" "is_difference" (defArgs s_is_difference) (defBody s_is_difference) (defScope s_is_difference) .none kV14 dc14 pm14 an14 cd14 ct14)
      | 15 => (PySem.W.fnOf "is_param" "is_param" (defArgs s_is_param) (defBody s_is_param) (defScope s_is_param) .none kV15 dc15 pm15 an15 cd15 ct15)
      | 16 => (PySem.W.fnOf "is_number" "is_number" (defArgs s_is_number) (defBody s_is_number) (defScope s_is_number) .none kV16 dc16 pm16 an16 cd16 ct16)
      | 17 => (PySem.W.fnOf "is_limit" "is_limit" (defArgs s_is_limit) (defBody s_is_limit) (defScope s_is_limit) .none kV17 dc17 pm17 an17 cd17 ct17)
      | 18 => (PySem.W.fnOf "is_keep" "is_keep" (defArgs s_is_keep) (defBody s_is_keep) (defScope s_is_keep) .none kV18 dc18 pm18 an18 cd18 ct18)
      | 19 => (PySem.W.fnOf "is_place" "is_place" (defArgs s_is_place) (defBody s_is_place) (defScope s_is_place) .none kV19 dc19 pm19 an19 cd19 ct19)
      | 20 => (PySem.W.fnOf "is_deed" "is_deed" (defArgs s_is_deed) (defBody s_is_deed) (defScope s_is_deed) .none kV20 dc20 pm20 an20 cd20 ct20)
      | 21 => (PySem.W.fnOf "is_ask" "is_ask" (defArgs s_is_ask) (defBody s_is_ask) (defScope s_is_ask) .none kV21 dc21 pm21 an21 cd21 ct21)
      | 22 => (PySem.W.fnOf "is_test" "is_test" (defArgs s_is_test) (defBody s_is_test) (defScope s_is_test) .none kV22 dc22 pm22 an22 cd22 ct22)
      | 23 => (PySem.W.fnOf "is_set" "is_set" (defArgs s_is_set) (defBody s_is_set) (defScope s_is_set) .none kV23 dc23 pm23 an23 cd23 ct23)
      | 24 => (PySem.W.fnOf "are_tests_and_sets" "are_tests_and_sets" (defArgs s_are_tests_and_sets) (defBody s_are_tests_and_sets) (defScope s_are_tests_and_sets) .none kV24 dc24 pm24 an24 cd24 ct24)
      | 25 => (PySem.W.fnOf "is_edge" "is_edge" (defArgs s_is_edge) (defBody s_is_edge) (defScope s_is_edge) .none kV25 dc25 pm25 an25 cd25 ct25)
      | 26 => (PySem.W.fnOf "are_numbers" "are_numbers" (defArgs s_are_numbers) (defBody s_are_numbers) (defScope s_are_numbers) .none kV26 dc26 pm26 an26 cd26 ct26)
      | 27 => (PySem.W.fnOf "is_module" "is_module" (defArgs s_is_module) (defBody s_is_module) (defScope s_is_module) .none kV27 dc27 pm27 an27 cd27 ct27)
      | 28 => (PySem.W.fnOf "place_words" "place_words" (defArgs s_place_words) (defBody s_place_words) (defScope s_place_words) .none kV28 dc28 pm28 an28 cd28 ct28)
      | 29 => (PySem.W.fnOf "ask_words" "ask_words" (defArgs s_ask_words) (defBody s_ask_words) (defScope s_ask_words) .none kV29 dc29 pm29 an29 cd29 ct29)
      | 30 => (PySem.W.fnOf "is_far" "is_far" (defArgs s_is_far) (defBody s_is_far) (defScope s_is_far) .none kV30 dc30 pm30 an30 cd30 ct30)
      | 31 => (PySem.W.fnOf "is_deaf" "is_deaf" (defArgs s_is_deaf) (defBody s_is_deaf) (defScope s_is_deaf) .none kV31 dc31 pm31 an31 cd31 ct31)
      | 32 => (PySem.W.fnOf "edge_words" "edge_words" (defArgs s_edge_words) (defBody s_edge_words) (defScope s_edge_words) .none kV32 dc32 pm32 an32 cd32 ct32)
      | 33 => (PySem.W.fnOf "params_told" "params_told" (defArgs s_params_told) (defBody s_params_told) (defScope s_params_told) .none kV33 dc33 pm33 an33 cd33 ct33)
      | 34 => (PySem.W.fnOf "amount_names" "amount_names" (defArgs s_amount_names) (defBody s_amount_names) (defScope s_amount_names) .none kV34 dc34 pm34 an34 cd34 ct34)
      | 35 => (PySem.W.fnOf "less_names" "less_names" (defArgs s_less_names) (defBody s_less_names) (defScope s_less_names) .none kV35 dc35 pm35 an35 cd35 ct35)
      | 36 => (PySem.W.fnOf "is_arg_wrong" "is_arg_wrong" (defArgs s_is_arg_wrong) (defBody s_is_arg_wrong) (defScope s_is_arg_wrong) .none kV36 dc36 pm36 an36 cd36 ct36)
      | 37 => (PySem.W.fnOf "part_words" "part_words" (defArgs s_part_words) (defBody s_part_words) (defScope s_part_words) .none kV37 dc37 pm37 an37 cd37 ct37)
      | 38 => (PySem.W.fnOf "all_channels" "all_channels" (defArgs s_all_channels) (defBody s_all_channels) (defScope s_all_channels) .none kV38 dc38 pm38 an38 cd38 ct38)
      | 39 => (PySem.W.fnOf "is_channel_all" "is_channel_all" (defArgs s_is_channel_all) (defBody s_is_channel_all) (defScope s_is_channel_all) .none kV39 dc39 pm39 an39 cd39 ct39)
      | 40 => (PySem.W.fnOf "module_faults" "module_faults" (defArgs s_module_faults) (defBody s_module_faults) (defScope s_module_faults) .none kV40 dc40 pm40 an40 cd40 ct40)
      | 41 => (PySem.W.fnOf "faults_in" "faults_in" (defArgs s_faults_in) (defBody s_faults_in) (defScope s_faults_in) .none kV41 dc41 pm41 an41 cd41 ct41)
      | 42 => (PySem.W.fnOf "is_channel" "is_channel" (defArgs s_is_channel) (defBody s_is_channel) (defScope s_is_channel) .none kV42 dc42 pm42 an42 cd42 ct42)
      | 43 => (PySem.W.fnOf "is_part" "is_part" (defArgs s_is_part) (defBody s_is_part) (defScope s_is_part) .none kV43 dc43 pm43 an43 cd43 ct43)
      | 44 => (PySem.W.fnOf "is_list_of" "is_list_of" (defArgs s_is_list_of) (defBody s_is_list_of) (defScope s_is_list_of) .none kV44 dc44 pm44 an44 cd44 ct44)
      | 45 => (PySem.W.fnOf "is_written_value" "is_written_value" (defArgs s_is_written_value) (defBody s_is_written_value) (defScope s_is_written_value) .none kV45 dc45 pm45 an45 cd45 ct45)
      | 46 => (PySem.W.fnOf "is_program_value" "is_program_value" (defArgs s_is_program_value) (defBody s_is_program_value) (defScope s_is_program_value) .none kV46 dc46 pm46 an46 cd46 ct46)
      | 47 => (PySem.W.fnOf "need_written" "need_written" (defArgs s_need_written) (defBody s_need_written) (defScope s_need_written) .none kV47 dc47 pm47 an47 cd47 ct47)
      | 48 => (PySem.W.fnOf "is_program" "is_program" (defArgs s_is_program) (defBody s_is_program) (defScope s_is_program) .none kV48 dc48 pm48 an48 cd48 ct48)
      | 49 => (PySem.W.fnOf "faults_of" "faults_of" (defArgs s_faults_of) (defBody s_faults_of) (defScope s_faults_of) .none kV49 dc49 pm49 an49 cd49 ct49)
      | 50 => (PySem.W.fnOf "_law_begun" "_law_begun" (defArgs s_law_begun) (defBody s_law_begun) (defScope s_law_begun) .none kV50 dc50 pm50 an50 cd50 ct50)
      | 51 => (PySem.W.fnOf "_law_draw" "_law_draw" (defArgs s_law_draw) (defBody s_law_draw) (defScope s_law_draw) .none kV51 dc51 pm51 an51 cd51 ct51)
      | 52 => (PySem.W.fnOf "_law_pick" "_law_pick" (defArgs s_law_pick) (defBody s_law_pick) (defScope s_law_pick) .none kV52 dc52 pm52 an52 cd52 ct52)
      | 53 => (PySem.W.fnOf "_law_asks" "_law_asks" (defArgs s_law_asks) (defBody s_law_asks) (defScope s_law_asks) .none kV53 dc53 pm53 an53 cd53 ct53)
      | 54 => (PySem.W.fnOf "_law_is_far" "_law_is_far" (defArgs s_law_is_far) (defBody s_law_is_far) (defScope s_law_is_far) .none kV54 dc54 pm54 an54 cd54 ct54)
      | 55 => (PySem.W.fnOf "_law_refused" "_law_refused" (defArgs s_law_refused) (defBody s_law_refused) (defScope s_law_refused) .none kV55 dc55 pm55 an55 cd55 ct55)
      | 56 => (PySem.W.fnOf "law" "law" (defArgs s_law) (defBody s_law) (defScope s_law) .none kV56 dc56 pm56 an56 cd56 ct56)
      | 57 => (PySem.W.fnOf "__init__" "Names.__init__" (defArgs s_Names_init) (defBody s_Names_init) (defScope s_Names_init) .none kV57 dc57 pm57 an57 cd57 ct57)
      | 58 => (PySem.W.fnOf "word_for" "Names.word_for" (defArgs s_Names_word_for) (defBody s_Names_word_for) (defScope s_Names_word_for) .none kV58 dc58 pm58 an58 cd58 ct58)
      | 59 => (PySem.W.fnOf "word_for_amount" "Names.word_for_amount" (defArgs s_Names_word_for_amount) (defBody s_Names_word_for_amount) (defScope s_Names_word_for_amount) .none kV59 dc59 pm59 an59 cd59 ct59)
      | 60 => (PySem.W.fnOf "word_for_channel" "Names.word_for_channel" (defArgs s_Names_word_for_channel) (defBody s_Names_word_for_channel) (defScope s_Names_word_for_channel) .none kV60 dc60 pm60 an60 cd60 ct60)
      | _ => (PySem.W.fnOf "words_in_expr" "Names.words_in_expr" (defArgs s_Names_words_in_expr) (defBody s_Names_words_in_expr) (defScope s_Names_words_in_expr) .none kV61 dc61 pm61 an61 cd61 ct61)
  have T : Txt K mg (fun i => ([e0C, c_Names] : List Addr).getD i 0) ad fd (fun i => ([e0f] : List Addr).getD i 0) za := {
      g0 := PySem.W.mg_of X G a0
      F0 := F0
      B0 := F0.binds (ps := ["thing"]) fun _ _ _ _ _ _ us hl => match us, hl with | [_], _ => rfl
      g33 := PySem.W.mg_of X G a33
      F33 := F33
      B33 := F33.binds (ps := ["module", "args"]) fun _ _ _ _ _ _ us hl => match us, hl with | [_, _], _ => rfl
      g34 := PySem.W.mg_of X G a34
      F34 := F34
      B34 := F34.binds (ps := ["module"]) fun _ _ _ _ _ _ us hl => match us, hl with | [_], _ => rfl
      g35 := PySem.W.mg_of X G a35
      F35 := F35
      B35 := F35.binds (ps := ["module"]) fun _ _ _ _ _ _ us hl => match us, hl with | [_], _ => rfl
      g36 := PySem.W.mg_of X G a36
      F36 := F36
      B36 := F36.binds (ps := ["param", "arg", "channels", "amounts"]) fun _ _ _ _ _ _ us hl => match us, hl with | [_, _, _, _], _ => rfl
      g37 := PySem.W.mg_of X G a37
      F37 := F37
      B37 := F37.binds (ps := ["module", "args", "channels"]) fun _ _ _ _ _ _ us hl => match us, hl with | [_, _, _], _ => rfl
      M58 := ⟨a58, m58, k58⟩
      F58 := F58
      B58 := F58.binds (ps := ["self", "name", "sorts"]) fun _ _ _ _ _ _ us hl => match us, hl with | [_, _, _], _ => rfl
      M59 := ⟨a59, m59, k59⟩
      F59 := F59
      B59 := F59.binds (ps := ["self", "amount"]) fun _ _ _ _ _ _ us hl => match us, hl with | [_, _], _ => rfl
      g28 := PySem.W.mg_of X G a28
      F28 := F28
      B28 := F28.binds (ps := ["names", "place"]) fun _ _ _ _ _ _ us hl => match us, hl with | [_, _], _ => rfl
      g31 := PySem.W.mg_of X G a31
      F31 := F31
      B31 := F31.binds (ps := ["edge", "places", "heard"]) fun _ _ _ _ _ _ us hl => match us, hl with | [_, _, _], _ => rfl
      g29 := PySem.W.mg_of X G a29
      F29 := F29
      B29 := F29.binds (ps := ["names", "ask"]) fun _ _ _ _ _ _ us hl => match us, hl with | [_, _], _ => rfl
      g30 := PySem.W.mg_of X G a30
      F30 := F30
      B30 := F30.binds (ps := ["asks", "ask"]) fun _ _ _ _ _ _ us hl => match us, hl with | [_, _], _ => rfl
      M60 := ⟨a60, m60, k60⟩
      F60 := F60
      B60 := F60.binds (ps := ["self", "name"]) fun _ _ _ _ _ _ us hl => match us, hl with | [_, _], _ => rfl
      g9 := PySem.W.mg_of X G a9
      F9 := F9
      B9 := F9.binds (ps := ["expr"]) fun _ _ _ _ _ _ us hl => match us, hl with | [_], _ => rfl
      g10 := PySem.W.mg_of X G a10
      F10 := F10
      B10 := F10.binds (ps := ["expr"]) fun _ _ _ _ _ _ us hl => match us, hl with | [_], _ => rfl
      M61 := ⟨a61, m61, k61⟩
      F61 := F61
      B61 := F61.binds (ps := ["self", "expr"]) fun _ _ _ _ _ _ us hl => match us, hl with | [_, _], _ => rfl
      g32 := PySem.W.mg_of X G a32
      F32 := F32
      B32 := F32.binds (ps := ["names", "edge"]) fun _ _ _ _ _ _ us hl => match us, hl with | [_, _], _ => rfl
      g39 := PySem.W.mg_of X G a39
      F39 := F39
      B39 := F39.binds (ps := ["how", "arg"]) fun _ _ _ _ _ _ us hl => match us, hl with | [_, _], _ => rfl
      M57 := ⟨Km_Names, a57, m57, Kk_Names⟩
      F57 := F57
      B57 := F57.binds (ps := ["self", "module", "channels"]) fun _ _ _ _ _ _ us hl => match us, hl with | [_, _, _], _ => rfl
      g38 := PySem.W.mg_of X G a38
      F38 := F38
      B38 := F38.binds (ps := ["program", "module"]) fun _ _ _ _ _ _ us hl => match us, hl with | [_, _], _ => rfl
      g40 := PySem.W.mg_of X G a40
      F40 := F40
      B40 := F40.binds (ps := ["program", "module"]) fun _ _ _ _ _ _ us hl => match us, hl with | [_, _], _ => rfl
      g41 := PySem.W.mg_of X G a41
      F41 := F41
      B41 := F41.binds (ps := ["program"]) fun _ _ _ _ _ _ us hl => match us, hl with | [_], _ => rfl
      g2 := PySem.W.mg_of X G a2
      F2 := F2
      B2 := F2.binds (ps := ["thing", "many"]) fun _ _ _ _ _ _ us hl => match us, hl with | [_, _], _ => rfl
      g6 := PySem.W.mg_of X G a6
      F6 := F6
      B6 := F6.binds (ps := ["thing"]) fun _ _ _ _ _ _ us hl => match us, hl with | [_], _ => rfl
      g7 := PySem.W.mg_of X G a7
      F7 := F7
      B7 := F7.binds (ps := ["things"]) fun _ _ _ _ _ _ us hl => match us, hl with | [_], _ => rfl
      g12 := PySem.W.mg_of X G a12
      F12 := F12
      B12 := F12.binds (ps := ["things"]) fun _ _ _ _ _ _ us hl => match us, hl with | [_], _ => rfl
      g11 := PySem.W.mg_of X G a11
      F11 := F11
      B11 := F11.binds (ps := ["thing"]) fun _ _ _ _ _ _ us hl => match us, hl with | [_], _ => rfl
      g4 := PySem.W.mg_of X G a4
      F4 := F4
      B4 := F4.binds (ps := ["thing", "words"]) fun _ _ _ _ _ _ us hl => match us, hl with | [_, _], _ => rfl
      g15 := PySem.W.mg_of X G a15
      F15 := F15
      B15 := F15.binds (ps := ["thing"]) fun _ _ _ _ _ _ us hl => match us, hl with | [_], _ => rfl
      g1 := PySem.W.mg_of X G a1
      F1 := F1
      B1 := F1.binds (ps := ["thing", "least"]) fun _ _ _ _ _ _ us hl => match us, hl with | [_, _], _ => rfl
      g13 := PySem.W.mg_of X G a13
      F13 := F13
      B13 := F13.binds (ps := ["thing"]) fun _ _ _ _ _ _ us hl => match us, hl with | [_], _ => rfl
      g17 := PySem.W.mg_of X G a17
      F17 := F17
      B17 := F17.binds (ps := ["thing"]) fun _ _ _ _ _ _ us hl => match us, hl with | [_], _ => rfl
      g18 := PySem.W.mg_of X G a18
      F18 := F18
      B18 := F18.binds (ps := ["thing"]) fun _ _ _ _ _ _ us hl => match us, hl with | [_], _ => rfl
      g19 := PySem.W.mg_of X G a19
      F19 := F19
      B19 := F19.binds (ps := ["thing"]) fun _ _ _ _ _ _ us hl => match us, hl with | [_], _ => rfl
      g3 := PySem.W.mg_of X G a3
      F3 := F3
      B3 := F3.binds (ps := ["thing", "word"]) fun _ _ _ _ _ _ us hl => match us, hl with | [_, _], _ => rfl
      g5 := PySem.W.mg_of X G a5
      F5 := F5
      B5 := F5.binds (ps := ["thing", "word", "many"]) fun _ _ _ _ _ _ us hl => match us, hl with | [_, _, _], _ => rfl
      g20 := PySem.W.mg_of X G a20
      F20 := F20
      B20 := F20.binds (ps := ["thing"]) fun _ _ _ _ _ _ us hl => match us, hl with | [_], _ => rfl
      g14 := PySem.W.mg_of X G a14
      F14 := F14
      B14 := F14.binds (ps := ["thing"]) fun _ _ _ _ _ _ us hl => match us, hl with | [_], _ => rfl
      g21 := PySem.W.mg_of X G a21
      F21 := F21
      B21 := F21.binds (ps := ["thing"]) fun _ _ _ _ _ _ us hl => match us, hl with | [_], _ => rfl
      g8 := PySem.W.mg_of X G a8
      F8 := F8
      B8 := F8.binds (ps := ["thing"]) fun _ _ _ _ _ _ us hl => match us, hl with | [_], _ => rfl
      g22 := PySem.W.mg_of X G a22
      F22 := F22
      B22 := F22.binds (ps := ["thing"]) fun _ _ _ _ _ _ us hl => match us, hl with | [_], _ => rfl
      g23 := PySem.W.mg_of X G a23
      F23 := F23
      B23 := F23.binds (ps := ["thing"]) fun _ _ _ _ _ _ us hl => match us, hl with | [_], _ => rfl
      g24 := PySem.W.mg_of X G a24
      F24 := F24
      B24 := F24.binds (ps := ["tests", "resets", "sets"]) fun _ _ _ _ _ _ us hl => match us, hl with | [_, _, _], _ => rfl
      g25 := PySem.W.mg_of X G a25
      F25 := F25
      B25 := F25.binds (ps := ["thing"]) fun _ _ _ _ _ _ us hl => match us, hl with | [_], _ => rfl
      g16 := PySem.W.mg_of X G a16
      F16 := F16
      B16 := F16.binds (ps := ["thing"]) fun _ _ _ _ _ _ us hl => match us, hl with | [_], _ => rfl
      g26 := PySem.W.mg_of X G a26
      F26 := F26
      B26 := F26.binds (ps := ["thing"]) fun _ _ _ _ _ _ us hl => match us, hl with | [_], _ => rfl
      g27 := PySem.W.mg_of X G a27
      n27 := a27
      F27 := F27
      B27 := F27.binds (ps := ["thing"]) fun _ _ _ _ _ _ us hl => match us, hl with | [_], _ => rfl
      g42 := PySem.W.mg_of X G a42
      n42 := a42
      F42 := F42
      B42 := F42.binds (ps := ["thing"]) fun _ _ _ _ _ _ us hl => match us, hl with | [_], _ => rfl
      g43 := PySem.W.mg_of X G a43
      n43 := a43
      F43 := F43
      B43 := F43.binds (ps := ["thing"]) fun _ _ _ _ _ _ us hl => match us, hl with | [_], _ => rfl
      g44 := PySem.W.mg_of X G a44
      F44 := F44
      B44 := F44.binds (ps := ["thing", "is_one"]) fun _ _ _ _ _ _ us hl => match us, hl with | [_, _], _ => rfl
      g45 := PySem.W.mg_of X G a45
      F45 := F45
      B45 := F45.binds (ps := ["thing"]) fun _ _ _ _ _ _ us hl => match us, hl with | [_], _ => rfl
      g46 := PySem.W.mg_of X G a46
      F46 := F46
      B46 := F46.binds (ps := ["thing"]) fun _ _ _ _ _ _ us hl => match us, hl with | [_], _ => rfl
      g48 := PySem.W.mg_of X G a48
      F48 := F48
      B48 := F48.binds (ps := ["thing"]) fun _ _ _ _ _ _ us hl => match us, hl with | [_], _ => rfl
      g47 := PySem.W.mg_of X G a47
      F47 := F47
      B47 := F47.binds (ps := ["program"]) fun _ _ _ _ _ _ us hl => match us, hl with | [_], _ => rfl
      g49 := PySem.W.mg_of X G a49
      F49 := F49
      B49 := F49.binds (ps := ["program"]) fun _ _ _ _ _ _ us hl => match us, hl with | [_], _ => rfl
      k49_program := kwB_of F49 fun _ _ _ _ _ _ ws hl => match ws, hl with | [_], _ => rfl
      g50 := PySem.W.mg_of X G a50
      F50 := F50
      B50 := F50.binds (ps := ["script", "salt"]) fun _ _ _ _ _ _ us hl => match us, hl with | [_, _], _ => rfl
      g51 := PySem.W.mg_of X G a51
      F51 := F51
      B51 := F51.binds (ps := ["deck", "below"]) fun _ _ _ _ _ _ us hl => match us, hl with | [_, _], _ => rfl
      g52 := PySem.W.mg_of X G a52
      F52 := F52
      B52 := F52.binds (ps := ["deck", "some"]) fun _ _ _ _ _ _ us hl => match us, hl with | [_, _], _ => rfl
      g53 := PySem.W.mg_of X G a53
      F53 := F53
      B53 := F53.binds (ps := ["deck"]) fun _ _ _ _ _ _ us hl => match us, hl with | [_], _ => rfl
      g54 := PySem.W.mg_of X G a54
      F54 := F54
      B54 := F54.binds (ps := ["asks"]) fun _ _ _ _ _ _ us hl => match us, hl with | [_], _ => rfl
      g55 := PySem.W.mg_of X G a55
      F55 := F55
      B55 := F55.binds (ps := ["thing"]) fun _ _ _ _ _ _ us hl => match us, hl with | [_], _ => rfl
      g56 := PySem.W.mg_of X G a56
      F56 := F56
      B56 := F56.binds (ps := ["script"]) fun _ _ _ _ _ _ us hl => match us, hl with | [_], _ => rfl
      K_Names := ⟨Ka_Names, ⟨Kp_Names, Kh_Names, Ko_Names, Ks_Names⟩⟩
      G_Names := PySem.W.mg_of X G Ka_Names
      na_channels := Kn_channels
      na_is_twice := Kn_is_twice
      na_sorts := Kn_sorts
      n_all := PySem.W.mg_none_of X G z_all
      n_any := PySem.W.mg_none_of X G z_any
      n_bool := PySem.W.mg_none_of X G z_bool
      n_dict := PySem.W.mg_none_of X G z_dict
      n_enumerate := PySem.W.mg_none_of X G z_enumerate
      n_int := PySem.W.mg_none_of X G z_int
      n_isinstance := PySem.W.mg_none_of X G z_isinstance
      n_len := PySem.W.mg_none_of X G z_len
      n_list := PySem.W.mg_none_of X G z_list
      n_max := PySem.W.mg_none_of X G z_max
      n_range := PySem.W.mg_none_of X G z_range
      n_repr := PySem.W.mg_none_of X G z_repr
      n_reversed := PySem.W.mg_none_of X G z_reversed
      n_sorted := PySem.W.mg_none_of X G z_sorted
      n_str := PySem.W.mg_none_of X G z_str
      n_tuple := PySem.W.mg_none_of X G z_tuple
      n_zip := PySem.W.mg_none_of X G z_zip
      c_ALL := gcon_str (PySem.W.mg_of X G q_ALL)
      c_CHANNEL_PARAM := gcon_str (PySem.W.mg_of X G q_CHANNEL_PARAM)
      c_CLOCK := gcon_str (PySem.W.mg_of X G q_CLOCK)
      c_EDGE_PARTS := gcon_int (PySem.W.mg_of X G q_EDGE_PARTS)
      c_FIGURES := gcon_str (PySem.W.mg_of X G q_FIGURES)
      c_GREATEST := gcon_int (PySem.W.mg_of X G q_GREATEST)
      c_HOW := gcon_strs (PySem.W.mg_of X G q_HOW) r_HOW (.cons "pair" tk_HOW_0 (.cons "all" tk_HOW_1 .nil)) (show 2 ≤ 1000 by decide)
      c_MARKS := gcon_strs (PySem.W.mg_of X G q_MARKS) r_MARKS (.cons "time" tk_MARKS_0 (.cons "urgent" tk_MARKS_1 (.cons "committed" tk_MARKS_2 (.cons "reply" tk_MARKS_3 .nil)))) (show 4 ≤ 1000 by decide)
      c_MODULE_PARTS := gcon_int (PySem.W.mg_of X G q_MODULE_PARTS)
      c_MOST_SIGNS := gcon_int (PySem.W.mg_of X G q_MOST_SIGNS)
      c_NUMBER := gcon_str (PySem.W.mg_of X G q_NUMBER)
      c_NUMBER_PARAM := gcon_str (PySem.W.mg_of X G q_NUMBER_PARAM)
      c_OPS := gcon_strs (PySem.W.mg_of X G q_OPS) r_OPS (.cons "<" tk_OPS_0 (.cons "<=" tk_OPS_1 (.cons ">" tk_OPS_2 (.cons ">=" tk_OPS_3 .nil)))) (show 4 ≤ 1000 by decide)
      c_PARAM_SORTS := gcon_strs (PySem.W.mg_of X G q_PARAM_SORTS) r_PARAM_SORTS (.cons "number" tk_PARAM_SORTS_0 (.cons "channel" tk_PARAM_SORTS_1 .nil)) (show 2 ≤ 1000 by decide)
      c_PLACE := gcon_str (PySem.W.mg_of X G q_PLACE)
      c_PLACE_PARTS := gcon_int (PySem.W.mg_of X G q_PLACE_PARTS)
      c_SIGNS := gcon_strs (PySem.W.mg_of X G q_SIGNS) r_SIGNS (.cons "+" tk_SIGNS_0 (.cons "-" tk_SIGNS_1 .nil)) (show 2 ≤ 1000 by decide)
      c_SMALL := gcon_str (PySem.W.mg_of X G q_SMALL)
      c_TESTS := gcon_strs (PySem.W.mg_of X G q_TESTS) r_TESTS (.cons "<" tk_TESTS_0 (.cons "<=" tk_TESTS_1 (.cons ">" tk_TESTS_2 (.cons ">=" tk_TESTS_3 (.cons "=" tk_TESTS_4 (.cons "#" tk_TESTS_5 .nil)))))) (show 6 ≤ 1000 by decide)
      c_UPPER := gcon_strs (PySem.W.mg_of X G q_UPPER) r_UPPER (.cons "<" tk_UPPER_0 (.cons "<=" tk_UPPER_1 .nil)) (show 2 ≤ 1000 by decide)
      e0 := { gC := PySem.W.mg_of X G eg0, cls := ⟨_, _, _, _, _, _, _, _, _, _, _, _, _, _, ex0⟩, sa := esa0, ga := ega0, gg := egg0, noN := enb0, iC := ein0, tC := et0, kC := ek0, exC := eb0, tyC := ey0, hdC := eh0, te := PySem.W.exm_ref eb0 eh0 ey0 es0, fn := ⟨_, _, _, _, _, _, _, _, _, _, _, _, _, _, el0, ec0⟩ }
      i0 := ⟨ecl0, ep0, ew0, em0⟩
      z0 := ez0
      gZ := PySem.W.mg_of X G gZ }
  refine ⟨_, F56, fun s v => .of_eq rfl, fun base s H cdv a ns hl _ _ sq => ?_⟩
  exact ok_law T (law_pure ns hl) sq

end Zo
open PySem PySem.W PyProof.Rows
set_option maxRecDepth 100000 in
set_option maxHeartbeats 0 in
theorem PySem.Challenge.cw_zonestold_k14_the_rule_of_differences_holds : PySem.Challenge.rw_zonestold_k14_the_rule_of_differences.Holds := by
  w_on; o_law; k_head; (case hw => w_witness2)
  k_fill
  refine Zo.law_walk (l := PySem.Challenge.rw_zonestold_k14_the_rule_of_differences) (n := 63) (k := 14) (x := "law") (qual := "law") (st := Zo.s_law) rfl (by decide) rfl ⟨rfl, by decide +kernel, by decide +kernel⟩ Zo.sc_law (fun w h Y => PySem.W.kIn_of Y) ?F
  case F =>
    intro w mg fa h KX G hmg
    refine' Zo.all_mk KX G hmg ?Ka_Names ?Kp_Names ?Kh_Names ?Ko_Names ?Ks_Names ?Km_Names ?Kk_Names ?Kn_channels ?Kn_is_twice ?Kn_sorts ?a0 ?l0 ?c0 ?k0 ?a33 ?l33 ?c33 ?k33 ?a34 ?l34 ?c34 ?k34 ?a35 ?l35 ?c35 ?k35 ?a36 ?l36 ?c36 ?k36 ?a37 ?l37 ?c37 ?k37 ?a58 ?m58 ?l58 ?c58 ?k58 ?a59 ?m59 ?l59 ?c59 ?k59 ?a28 ?l28 ?c28 ?k28 ?a31 ?l31 ?c31 ?k31 ?a29 ?l29 ?c29 ?k29 ?a30 ?l30 ?c30 ?k30 ?a60 ?m60 ?l60 ?c60 ?k60 ?a9 ?l9 ?c9 ?k9 ?a10 ?l10 ?c10 ?k10 ?a61 ?m61 ?l61 ?c61 ?k61 ?a32 ?l32 ?c32 ?k32 ?a39 ?l39 ?c39 ?k39 ?a57 ?m57 ?l57 ?c57 ?k57 ?a38 ?l38 ?c38 ?k38 ?a40 ?l40 ?c40 ?k40 ?a41 ?l41 ?c41 ?k41 ?a2 ?l2 ?c2 ?k2 ?a6 ?l6 ?c6 ?k6 ?a7 ?l7 ?c7 ?k7 ?a12 ?l12 ?c12 ?k12 ?a11 ?l11 ?c11 ?k11 ?a4 ?l4 ?c4 ?k4 ?a15 ?l15 ?c15 ?k15 ?a1 ?l1 ?c1 ?k1 ?a13 ?l13 ?c13 ?k13 ?a17 ?l17 ?c17 ?k17 ?a18 ?l18 ?c18 ?k18 ?a19 ?l19 ?c19 ?k19 ?a3 ?l3 ?c3 ?k3 ?a5 ?l5 ?c5 ?k5 ?a20 ?l20 ?c20 ?k20 ?a14 ?l14 ?c14 ?k14 ?a21 ?l21 ?c21 ?k21 ?a8 ?l8 ?c8 ?k8 ?a22 ?l22 ?c22 ?k22 ?a23 ?l23 ?c23 ?k23 ?a24 ?l24 ?c24 ?k24 ?a25 ?l25 ?c25 ?k25 ?a16 ?l16 ?c16 ?k16 ?a26 ?l26 ?c26 ?k26 ?a27 ?l27 ?c27 ?k27 ?a42 ?l42 ?c42 ?k42 ?a43 ?l43 ?c43 ?k43 ?a44 ?l44 ?c44 ?k44 ?a45 ?l45 ?c45 ?k45 ?a46 ?l46 ?c46 ?k46 ?a48 ?l48 ?c48 ?k48 ?a47 ?l47 ?c47 ?k47 ?a49 ?l49 ?c49 ?k49 ?a50 ?l50 ?c50 ?k50 ?a51 ?l51 ?c51 ?k51 ?a52 ?l52 ?c52 ?k52 ?a53 ?l53 ?c53 ?k53 ?a54 ?l54 ?c54 ?k54 ?a55 ?l55 ?c55 ?k55 ?a56 ?l56 ?c56 ?k56 ?z_all ?z_any ?z_bool ?z_dict ?z_enumerate ?z_int ?z_isinstance ?z_len ?z_list ?z_max ?z_range ?z_repr ?z_reversed ?z_sorted ?z_str ?z_tuple ?z_zip ?q_ALL ?q_CHANNEL_PARAM ?q_CLOCK ?q_EDGE_PARTS ?q_FIGURES ?q_GREATEST ?q_HOW ?r_HOW ?q_MARKS ?r_MARKS ?q_MODULE_PARTS ?q_MOST_SIGNS ?q_NUMBER ?q_NUMBER_PARAM ?q_OPS ?r_OPS ?q_PARAM_SORTS ?r_PARAM_SORTS ?q_PLACE ?q_PLACE_PARTS ?q_SIGNS ?r_SIGNS ?q_SMALL ?q_TESTS ?r_TESTS ?q_UPPER ?r_UPPER ?gZ ?eg0 ?ex0 ?esa0 ?ega0 ?egg0 ?enb0 ?ein0 ?ecl0 ?et0 ?el0 ?ec0 ?ek0 ?eb0 ?ey0 ?eh0 ?es0 ?ep0 ?ew0 ?em0 ?ez0
    (case Ka_Names => k_is)
    (case Kp_Names => k_is)
    (case Kh_Names => k_is)
    (case Ko_Names => k_is)
    (case Ks_Names => k_is)
    (case Km_Names => k_is)
    (case Kk_Names => k_is)
    (case Kn_channels => k_is)
    (case Kn_is_twice => k_is)
    (case Kn_sorts => k_is)
    (case a0 => k_is)
    (case l0 => k_is)
    (case c0 => k_is)
    (case k0 => k_is)
    (case a33 => k_is)
    (case l33 => k_is)
    (case c33 => k_is)
    (case k33 => k_is)
    (case a34 => k_is)
    (case l34 => k_is)
    (case c34 => k_is)
    (case k34 => k_is)
    (case a35 => k_is)
    (case l35 => k_is)
    (case c35 => k_is)
    (case k35 => k_is)
    (case a36 => k_is)
    (case l36 => k_is)
    (case c36 => k_is)
    (case k36 => k_is)
    (case a37 => k_is)
    (case l37 => k_is)
    (case c37 => k_is)
    (case k37 => k_is)
    (case a58 => k_is)
    (case m58 => k_is)
    (case l58 => k_is)
    (case c58 => k_is)
    (case k58 => k_is)
    (case a59 => k_is)
    (case m59 => k_is)
    (case l59 => k_is)
    (case c59 => k_is)
    (case k59 => k_is)
    (case a28 => k_is)
    (case l28 => k_is)
    (case c28 => k_is)
    (case k28 => k_is)
    (case a31 => k_is)
    (case l31 => k_is)
    (case c31 => k_is)
    (case k31 => k_is)
    (case a29 => k_is)
    (case l29 => k_is)
    (case c29 => k_is)
    (case k29 => k_is)
    (case a30 => k_is)
    (case l30 => k_is)
    (case c30 => k_is)
    (case k30 => k_is)
    (case a60 => k_is)
    (case m60 => k_is)
    (case l60 => k_is)
    (case c60 => k_is)
    (case k60 => k_is)
    (case a9 => k_is)
    (case l9 => k_is)
    (case c9 => k_is)
    (case k9 => k_is)
    (case a10 => k_is)
    (case l10 => k_is)
    (case c10 => k_is)
    (case k10 => k_is)
    (case a61 => k_is)
    (case m61 => k_is)
    (case l61 => k_is)
    (case c61 => k_is)
    (case k61 => k_is)
    (case a32 => k_is)
    (case l32 => k_is)
    (case c32 => k_is)
    (case k32 => k_is)
    (case a39 => k_is)
    (case l39 => k_is)
    (case c39 => k_is)
    (case k39 => k_is)
    (case a57 => k_is)
    (case m57 => k_is)
    (case l57 => k_is)
    (case c57 => k_is)
    (case k57 => k_is)
    (case a38 => k_is)
    (case l38 => k_is)
    (case c38 => k_is)
    (case k38 => k_is)
    (case a40 => k_is)
    (case l40 => k_is)
    (case c40 => k_is)
    (case k40 => k_is)
    (case a41 => k_is)
    (case l41 => k_is)
    (case c41 => k_is)
    (case k41 => k_is)
    (case a2 => k_is)
    (case l2 => k_is)
    (case c2 => k_is)
    (case k2 => k_is)
    (case a6 => k_is)
    (case l6 => k_is)
    (case c6 => k_is)
    (case k6 => k_is)
    (case a7 => k_is)
    (case l7 => k_is)
    (case c7 => k_is)
    (case k7 => k_is)
    (case a12 => k_is)
    (case l12 => k_is)
    (case c12 => k_is)
    (case k12 => k_is)
    (case a11 => k_is)
    (case l11 => k_is)
    (case c11 => k_is)
    (case k11 => k_is)
    (case a4 => k_is)
    (case l4 => k_is)
    (case c4 => k_is)
    (case k4 => k_is)
    (case a15 => k_is)
    (case l15 => k_is)
    (case c15 => k_is)
    (case k15 => k_is)
    (case a1 => k_is)
    (case l1 => k_is)
    (case c1 => k_is)
    (case k1 => k_is)
    (case a13 => k_is)
    (case l13 => k_is)
    (case c13 => k_is)
    (case k13 => k_is)
    (case a17 => k_is)
    (case l17 => k_is)
    (case c17 => k_is)
    (case k17 => k_is)
    (case a18 => k_is)
    (case l18 => k_is)
    (case c18 => k_is)
    (case k18 => k_is)
    (case a19 => k_is)
    (case l19 => k_is)
    (case c19 => k_is)
    (case k19 => k_is)
    (case a3 => k_is)
    (case l3 => k_is)
    (case c3 => k_is)
    (case k3 => k_is)
    (case a5 => k_is)
    (case l5 => k_is)
    (case c5 => k_is)
    (case k5 => k_is)
    (case a20 => k_is)
    (case l20 => k_is)
    (case c20 => k_is)
    (case k20 => k_is)
    (case a14 => k_is)
    (case l14 => k_is)
    (case c14 => k_is)
    (case k14 => k_is)
    (case a21 => k_is)
    (case l21 => k_is)
    (case c21 => k_is)
    (case k21 => k_is)
    (case a8 => k_is)
    (case l8 => k_is)
    (case c8 => k_is)
    (case k8 => k_is)
    (case a22 => k_is)
    (case l22 => k_is)
    (case c22 => k_is)
    (case k22 => k_is)
    (case a23 => k_is)
    (case l23 => k_is)
    (case c23 => k_is)
    (case k23 => k_is)
    (case a24 => k_is)
    (case l24 => k_is)
    (case c24 => k_is)
    (case k24 => k_is)
    (case a25 => k_is)
    (case l25 => k_is)
    (case c25 => k_is)
    (case k25 => k_is)
    (case a16 => k_is)
    (case l16 => k_is)
    (case c16 => k_is)
    (case k16 => k_is)
    (case a26 => k_is)
    (case l26 => k_is)
    (case c26 => k_is)
    (case k26 => k_is)
    (case a27 => k_is)
    (case l27 => k_is)
    (case c27 => k_is)
    (case k27 => k_is)
    (case a42 => k_is)
    (case l42 => k_is)
    (case c42 => k_is)
    (case k42 => k_is)
    (case a43 => k_is)
    (case l43 => k_is)
    (case c43 => k_is)
    (case k43 => k_is)
    (case a44 => k_is)
    (case l44 => k_is)
    (case c44 => k_is)
    (case k44 => k_is)
    (case a45 => k_is)
    (case l45 => k_is)
    (case c45 => k_is)
    (case k45 => k_is)
    (case a46 => k_is)
    (case l46 => k_is)
    (case c46 => k_is)
    (case k46 => k_is)
    (case a48 => k_is)
    (case l48 => k_is)
    (case c48 => k_is)
    (case k48 => k_is)
    (case a47 => k_is)
    (case l47 => k_is)
    (case c47 => k_is)
    (case k47 => k_is)
    (case a49 => k_is)
    (case l49 => k_is)
    (case c49 => k_is)
    (case k49 => k_is)
    (case a50 => k_is)
    (case l50 => k_is)
    (case c50 => k_is)
    (case k50 => k_is)
    (case a51 => k_is)
    (case l51 => k_is)
    (case c51 => k_is)
    (case k51 => k_is)
    (case a52 => k_is)
    (case l52 => k_is)
    (case c52 => k_is)
    (case k52 => k_is)
    (case a53 => k_is)
    (case l53 => k_is)
    (case c53 => k_is)
    (case k53 => k_is)
    (case a54 => k_is)
    (case l54 => k_is)
    (case c54 => k_is)
    (case k54 => k_is)
    (case a55 => k_is)
    (case l55 => k_is)
    (case c55 => k_is)
    (case k55 => k_is)
    (case a56 => k_is)
    (case l56 => k_is)
    (case c56 => k_is)
    (case k56 => k_is)
    (case z_all => k_is)
    (case z_any => k_is)
    (case z_bool => k_is)
    (case z_dict => k_is)
    (case z_enumerate => k_is)
    (case z_int => k_is)
    (case z_isinstance => k_is)
    (case z_len => k_is)
    (case z_list => k_is)
    (case z_max => k_is)
    (case z_range => k_is)
    (case z_repr => k_is)
    (case z_reversed => k_is)
    (case z_sorted => k_is)
    (case z_str => k_is)
    (case z_tuple => k_is)
    (case z_zip => k_is)
    (case q_ALL => k_is)
    (case q_CHANNEL_PARAM => k_is)
    (case q_CLOCK => k_is)
    (case q_EDGE_PARTS => k_is)
    (case q_FIGURES => k_is)
    (case q_GREATEST => k_is)
    (case q_HOW => k_is)
    (case r_HOW => k_is)
    (case q_MARKS => k_is)
    (case r_MARKS => k_is)
    (case q_MODULE_PARTS => k_is)
    (case q_MOST_SIGNS => k_is)
    (case q_NUMBER => k_is)
    (case q_NUMBER_PARAM => k_is)
    (case q_OPS => k_is)
    (case r_OPS => k_is)
    (case q_PARAM_SORTS => k_is)
    (case r_PARAM_SORTS => k_is)
    (case q_PLACE => k_is)
    (case q_PLACE_PARTS => k_is)
    (case q_SIGNS => k_is)
    (case r_SIGNS => k_is)
    (case q_SMALL => k_is)
    (case q_TESTS => k_is)
    (case r_TESTS => k_is)
    (case q_UPPER => k_is)
    (case r_UPPER => k_is)
    (case gZ => k_is)
    (case eg0 => k_is)
    (case ex0 => k_is)
    (case esa0 => k_is)
    (case ega0 => k_is)
    (case egg0 => k_is)
    (case enb0 => k_is)
    (case ein0 => k_is)
    (case ecl0 => k_is)
    (case et0 => k_is)
    (case el0 => k_is)
    (case ec0 => k_is)
    (case ek0 => k_is)
    (case eb0 => k_is)
    (case ey0 => k_is)
    (case eh0 => k_is)
    (case es0 => first | rfl | k_is)
    (case ep0 => k_is)
    (case ew0 => k_is)
    (case em0 => k_is)
    (case ez0 => first | k_is | rfl | decide +kernel)
#print axioms PySem.Challenge.cw_zonestold_k14_the_rule_of_differences_holds
