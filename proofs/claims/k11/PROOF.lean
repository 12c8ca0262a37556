import PyProof.Rows.All
import Wide.All
import OpenK.AllK
import Wide.FinOn
import HandS.ForMost
import HandS.ForExc
import HandS.Flow
import HandS.Iter
import HandS.IsInst
import KE.DataEq
import KE.LtData
import HandS.ExcCtx
import HandS.HotCalls
import HandS.TupAny
import HandS.TupMul
import HandS.Codes
import KE.DataCmp
import HandS.Wide
import HandS.ExcInit
import HandS.ExcInitHot
import HandS.Comp
import HandS.Dict
import HandS.WordsDict
import HandS.More
import HandS.Words
import HandS.Defaults
import HandS.ClsMeth
import HandS.Star
import KE.SortData
import KE.KDictSum
import HandS.Text
import HandS.SetKeys
import KE.KDictPairs
import HandS.ExcIs
import KE.KExcIs
import HandS.ExcField
import HandS.RaiseMore
import HandS.SetFor
import HandS.Strs
import HandS.OwnIter
import PyProof.WalksMore
import HandS.Ends
import PySem.Challenge.RW_keptacross_k11_word_maps
import PyProof.StrLawsRepr
set_option Elab.async false
set_option linter.all false
set_option maxRecDepth 100000
set_option maxHeartbeats 2000000
namespace Kp
open PySem L2

/-! ### plain values -/
inductive PV where
  | non | bl (b : Bool) | int (i : Int) | str (x : Str)
  | tup (xs : List PV) | lst (xs : List PV)
  | dct (kvs : List (PV × PV))
  | obj (c : Nat) (fs : List (Str × PV))
  | frl (ns : List Int)
  /-- a class or a def of the text's own top -/
  | glb (c : Nat)
  /-- a caught exception: its object, its dict, its class, its fields -/
  | xo (a d : Addr) (c : Nat) (fs : List (Str × PV))
  /-- an object of which nothing is told -/
  | raw (a : Addr)

def keyPV : Key → PV
  | .inl i => .int i
  | .inr x => .str x

/-- a tuple at a: its object has no dict of its own -/
def TupAt (K : PySem.W.Frag) (H : Hp) (a : Addr) (vs : List V) : Prop :=
  (∃ o : Obj, o.dict = none ∧ H a = some (.frz o (.tup vs))) ∨ ∃ (o : Obj) (its : Array Value) (n : Nat), K.lookup a = some o ∧ o.cls = .type "tuple" ∧ o.dict = none ∧ o.data = .seq its n ∧ its.size ≤ sizeLine ∧ Vals vs its.toList
mutual
inductive Rep (K : PySem.W.Frag) (cl : Nat → Addr) (H : Hp) : V → PV → Prop
  | non : Rep K cl H .non .non
  | bl (b : Bool) : Rep K cl H (.bl b) (.bl b)
  | int (i : Int) : Rep K cl H (.int i) (.int i)
  | str (x : Str) (h : x.length ≤ sizeLine) : Rep K cl H (.str x) (.str x)
  | frl {a : Addr} {ns : List Int} : SqL K H a (ns.map V.int) → Rep K cl H (.ref a) (.frl ns)
  | glb (c : Nat) : Rep K cl H (.ref (cl c)) (.glb c)
  | xo {a d : Addr} {c : Nat} {gs : List (Str × V)} {fs : List (Str × PV)} : H d = some (.xd gs) → RepF K cl H gs fs → Rep K cl H (.ref a) (.xo a d c fs)
  | raw (a : Addr) : Rep K cl H (.ref a) (.raw a)
  | tup {a : Addr} {vs : List V} {xs : List PV} : TupAt K H a vs → vs.length ≤ sizeLine → RepL K cl H vs xs → Rep K cl H (.ref a) (.tup xs)
  | lst {a : Addr} {vs : List V} {xs : List PV} : H a = some (.lst vs) → vs.length ≤ sizeLine → RepL K cl H vs xs → Rep K cl H (.ref a) (.lst xs)
  | dct {a : Addr} {gs : List (Key × V)} {kvs : List (PV × PV)} : H a = some (.dK gs) → RepK K cl H gs kvs → Rep K cl H (.ref a) (.dct kvs)
  | obj {a dx : Addr} {c : Nat} {gs : List (Str × V)} {fs : List (Str × PV)} : H a = some (.ins (cl c) dx gs) → RepF K cl H gs fs → Rep K cl H (.ref a) (.obj c fs)
inductive RepL (K : PySem.W.Frag) (cl : Nat → Addr) (H : Hp) : List V → List PV → Prop
  | nil : RepL K cl H [] []
  | cons {v : V} {vs : List V} {x : PV} {xs : List PV} : Rep K cl H v x → RepL K cl H vs xs → RepL K cl H (v :: vs) (x :: xs)
inductive RepF (K : PySem.W.Frag) (cl : Nat → Addr) (H : Hp) : List (Str × V) → List (Str × PV) → Prop
  | nil : RepF K cl H [] []
  | cons {f : Str} {v : V} {vs : List (Str × V)} {x : PV} {xs : List (Str × PV)} : Rep K cl H v x → RepF K cl H vs xs → RepF K cl H ((f, v) :: vs) ((f, x) :: xs)
inductive RepK (K : PySem.W.Frag) (cl : Nat → Addr) (H : Hp) : List (Key × V) → List (PV × PV) → Prop
  | nil : RepK K cl H [] []
  | cons {k : Key} {v : V} {vs : List (Key × V)} {x : PV} {xs : List (PV × PV)} : Rep K cl H v x → RepK K cl H vs xs → RepK K cl H ((k, v) :: vs) ((keyPV k, x) :: xs)
end

section
variable {K : PySem.W.Frag} {cl : Nat → Addr} {H H' : Hp}
theorem TupAt.mono {a : Addr} {xs : List V} (e : Same H H') (h : TupAt K H a xs) : TupAt K H' a xs := by
  rcases h with ⟨o, h1, h⟩ | h
  · exact .inl ⟨o, h1, e _ _ h⟩
  · exact .inr h
theorem TupAt.sq {a : Addr} {xs : List V} (h : TupAt K H a xs) : SqT K H a xs := by
  rcases h with ⟨o, h1, h⟩ | ⟨o, its, n, h1, h2, _, h3, h4, h5⟩
  · exact .inl (.inr ⟨o, h⟩)
  · exact .inr ⟨o, its, n, h1, h2, h3, h4, h5⟩
theorem sqt_mono {a : Addr} {xs : List V} (e : Same H H') (h : TupAt K H a xs) : SqT K H' a xs := (h.mono e).sq
theorem tupAt_new {p : Addr} {o : Obj} {xs : List V} (h : o.dict = none) : TupAt K (upd H p (.frz o (.tup xs))) p xs := .inl ⟨o, h, upd_same⟩
mutual
theorem Rep.mono (e : Same H H') : ∀ {v : V} {x : PV}, Rep K cl H v x → Rep K cl H' v x
  | _, _, .non => .non
  | _, _, .bl b => .bl b
  | _, _, .int i => .int i
  | _, _, .str x h => .str x h
  | _, _, .frl h => .frl (e.seq h)
  | _, _, .glb c => .glb c
  | _, _, .xo h hs => .xo (e _ _ h) (RepF.mono e hs)
  | _, _, .raw a => .raw a
  | _, _, .tup h z hs => .tup (h.mono e) z (RepL.mono e hs)
  | _, _, .lst h z hs => .lst (e _ _ h) z (RepL.mono e hs)
  | _, _, .dct h hs => .dct (e _ _ h) (RepK.mono e hs)
  | _, _, .obj h hs => .obj (e _ _ h) (RepF.mono e hs)
theorem RepL.mono (e : Same H H') : ∀ {vs : List V} {xs : List PV}, RepL K cl H vs xs → RepL K cl H' vs xs
  | _, _, .nil => .nil
  | _, _, .cons h hs => .cons (Rep.mono e h) (RepL.mono e hs)
theorem RepF.mono (e : Same H H') : ∀ {vs : List (Str × V)} {xs : List (Str × PV)}, RepF K cl H vs xs → RepF K cl H' vs xs
  | _, _, .nil => .nil
  | _, _, .cons h hs => .cons (Rep.mono e h) (RepF.mono e hs)
theorem RepK.mono (e : Same H H') : ∀ {vs : List (Key × V)} {xs : List (PV × PV)}, RepK K cl H vs xs → RepK K cl H' vs xs
  | _, _, .nil => .nil
  | _, _, .cons h hs => .cons (Rep.mono e h) (RepK.mono e hs)
end
theorem RepL.length : ∀ {vs : List V} {xs : List PV}, RepL K cl H vs xs → vs.length = xs.length
  | _, _, .nil => rfl
  | _, _, .cons _ hs => by rw [List.length_cons, List.length_cons, RepL.length hs]
theorem RepL.get : ∀ {vs : List V} {xs : List PV} {i : Nat} {x : PV}, RepL K cl H vs xs → xs[i]? = some x → ∃ v, vs[i]? = some v ∧ Rep K cl H v x
  | _, _, _, _, .nil, e => by simp at e
  | _, _, 0, _, .cons h _, e => by simp at e; subst e; exact ⟨_, rfl, h⟩
  | _, _, i + 1, _, .cons _ hs, e => by
    obtain ⟨v, e1, e2⟩ := RepL.get (i := i) hs (by simpa using e)
    exact ⟨v, by simpa using e1, e2⟩
theorem RepL.get' : ∀ {vs : List V} {xs : List PV} {i : Nat} {v : V}, RepL K cl H vs xs → vs[i]? = some v → ∃ x, xs[i]? = some x ∧ Rep K cl H v x
  | _, _, _, _, .nil, e => by simp at e
  | _, _, 0, _, .cons h _, e => by simp at e; subst e; exact ⟨_, rfl, h⟩
  | _, _, i + 1, _, .cons _ hs, e => by
    obtain ⟨v, e1, e2⟩ := RepL.get' (i := i) hs (by simpa using e)
    exact ⟨v, by simpa using e1, e2⟩
theorem RepL.append : ∀ {vs ws : List V} {xs ys : List PV}, RepL K cl H vs xs → RepL K cl H ws ys → RepL K cl H (vs ++ ws) (xs ++ ys)
  | _, _, _, _, .nil, h => h
  | _, _, _, _, .cons h hs, k => .cons h (RepL.append hs k)
theorem RepL.one {v : V} {x : PV} (h : Rep K cl H v x) : RepL K cl H [v] [x] := .cons h .nil
theorem RepL.take : ∀ {vs : List V} {xs : List PV} (n : Nat), RepL K cl H vs xs → RepL K cl H (vs.take n) (xs.take n)
  | _, _, 0, _ => .nil
  | _, _, _ + 1, .nil => .nil
  | _, _, n + 1, .cons h hs => .cons h (RepL.take n hs)
theorem RepL.drop : ∀ {vs : List V} {xs : List PV} (n : Nat), RepL K cl H vs xs → RepL K cl H (vs.drop n) (xs.drop n)
  | _, _, 0, h => h
  | _, _, _ + 1, .nil => .nil
  | _, _, n + 1, .cons _ hs => RepL.drop n hs
theorem RepL.set : ∀ {vs : List V} {xs : List PV} {v : V} {x : PV} (n : Nat), RepL K cl H vs xs → Rep K cl H v x → RepL K cl H (vs.set n v) (xs.set n x)
  | _, _, _, _, _, .nil, _ => .nil
  | _, _, _, _, 0, .cons _ hs, k => .cons k hs
  | _, _, _, _, n + 1, .cons h hs, k => .cons h (RepL.set n hs k)
theorem RepF.lookup : ∀ {vs : List (Str × V)} {xs : List (Str × PV)} {f : Str} {x : PV}, RepF K cl H vs xs → xs.lookup f = some x → ∃ v, vs.lookup f = some v ∧ Rep K cl H v x
  | _, _, _, _, .nil, e => by simp at e
  | _, _, f, x, .cons (f := g) (vs := vs) (xs := xs) h hs, e => by
    by_cases q : f == g
    · simp only [List.lookup, q] at e ⊢
      cases e
      exact ⟨_, rfl, h⟩
    · simp only [List.lookup, q] at e ⊢
      exact RepF.lookup hs e
theorem RepF.lookup_none : ∀ {vs : List (Str × V)} {xs : List (Str × PV)} {f : Str}, RepF K cl H vs xs → xs.lookup f = none → vs.lookup f = none
  | _, _, _, .nil, e => by simp
  | _, _, f, .cons (f := g) (vs := vs) (xs := xs) h hs, e => by
    by_cases q : f == g
    · simp only [List.lookup, q] at e
      cases e
    · simp only [List.lookup, q] at e ⊢
      exact RepF.lookup_none hs e
theorem RepF.length : ∀ {vs : List (Str × V)} {xs : List (Str × PV)}, RepF K cl H vs xs → vs.length = xs.length
  | _, _, .nil => rfl
  | _, _, .cons _ hs => by rw [List.length_cons, List.length_cons, RepF.length hs]
end

/-! ### stores -/
/-- a slot's content: a plain value; an own fresh object; an object that a caller handed in to be changed -/
inductive SV where
  | p (x : PV) | o (x : PV) | i (x : PV)
abbrev Sto := List (Option SV)
structure Fr where
  G0 : Hp
  H0 : Hp
  io : Nat → Option Addr
  /-- objects on the way of being made -/
  R : Addr → Option HO
/-- the present content of an object that may change -/
def OwnAt (K : PySem.W.Frag) (cl : Nat → Addr) (G H : Hp) (a : Addr) : PV → Prop
  | .lst xs => ∃ vs, H a = some (.lst vs) ∧ vs.length ≤ sizeLine ∧ RepL K cl G vs xs
  | .dct kvs => ∃ gs, H a = some (.dK gs) ∧ RepK K cl G gs kvs
  | .obj c fs => ∃ dx gs, H a = some (.ins (cl c) dx gs) ∧ RepF K cl G gs fs
  | _ => False
structure StOk (K : PySem.W.Frag) (cl : Nat → Addr) (F : Fr) (G H : Hp) (σ : L2.St) (S : Sto) : Prop where
  ex : Same G H
  ex0 : Same F.G0 G
  len : σ.length = S.length
  val : ∀ (i : Nat) (x : PV), S[i]? = some (some (.p x)) → ∃ v : V, σ[i]? = some (some v) ∧ Rep K cl G v x
  own : ∀ (i : Nat) (x : PV), S[i]? = some (some (.o x)) → ∃ a : Addr, σ[i]? = some (some (V.ref a)) ∧ G a = none ∧ F.H0 a = none ∧ OwnAt K cl G H a x
  inn : ∀ (i : Nat) (x : PV), S[i]? = some (some (.i x)) → ∃ a : Addr, σ[i]? = some (some (V.ref a)) ∧ G a = none ∧ F.io i = some a ∧ OwnAt K cl G H a x
  dist : ∀ (i j : Nat) (a : Addr) (x y : PV), S[i]? = some (some (.o x)) → S[j]? = some (some (.o y)) → σ[i]? = some (some (V.ref a)) → σ[j]? = some (some (V.ref a)) → i = j
  io : ∀ (i : Nat) (a : Addr), F.io i = some a → ∃ x, S[i]? = some (some (.i x))
  ioh : ∀ (i : Nat) (a : Addr), F.io i = some a → ∃ o, F.H0 a = some o
  iod : ∀ (i j : Nat) (a : Addr), F.io i = some a → F.io j = some a → i = j
  frame : ∀ (a : Addr) (o : HO), F.H0 a = some o → (∀ i, F.io i ≠ some a) → H a = some o
  gnew : ∀ (a : Addr) (o : HO), G a = some o → F.G0 a = some o ∨ F.H0 a = none
  rsv : ∀ (a : Addr) (o : HO), F.R a = some o → H a = some o ∧ G a = none ∧ F.H0 a = none ∧ ∀ (i : Nat) (x : PV), S[i]? = some (some (.o x)) → σ[i]? ≠ some (some (V.ref a))

theorem OwnAt.mono {K : PySem.W.Frag} {cl : Nat → Addr} {G G' H H' : Hp} {a : Addr} {x : PV} (e : Same G G') (h : H' a = H a) (q : OwnAt K cl G H a x) : OwnAt K cl G' H' a x := by
  cases x <;> try exact q
  · obtain ⟨vs, e1, z, r⟩ := q
    exact ⟨vs, h.trans e1, z, r.mono e⟩
  · obtain ⟨vs, e1, r⟩ := q
    exact ⟨vs, h.trans e1, r.mono e⟩
  · obtain ⟨dx, vs, e1, r⟩ := q
    exact ⟨dx, vs, h.trans e1, r.mono e⟩
theorem OwnAt.there {K : PySem.W.Frag} {cl : Nat → Addr} {G H : Hp} {a : Addr} {x : PV} (q : OwnAt K cl G H a x) : ∃ o, H a = some o := by
  cases x <;> try exact q.elim
  · obtain ⟨vs, e1, z, r⟩ := q
    exact ⟨_, e1⟩
  · obtain ⟨vs, e1, r⟩ := q
    exact ⟨_, e1⟩
  · obtain ⟨dx, vs, e1, r⟩ := q
    exact ⟨_, e1⟩
theorem same_new {H : Hp} {p : Addr} {o : HO} (h : H p = none) : Same H (upd H p o) := fun a u e => by
  rw [upd_ne (ne_of_none e h)]
  exact e
theorem same_upd {G H : Hp} {p : Addr} {o : HO} (e : Same G H) : Same (upd G p o) (upd H p o) := fun a u q => by
  by_cases z : a = p
  · subst z
    rw [upd_same] at q ⊢
    exact q
  · rw [upd_ne z] at q ⊢
    exact e a u q
theorem same_mut {G H : Hp} {p : Addr} {o : HO} (e : Same G H) (h : G p = none) : Same G (upd H p o) := fun a u q => by
  rw [upd_ne (ne_of_none q h)]
  exact e a u q

section
variable {K : PySem.W.Frag} {cl : Nat → Addr} {F : Fr} {G H : Hp} {σ : L2.St} {S : Sto} {p : Addr} {o : HO}
theorem StOk.free (k : StOk K cl F G H σ S) (h : H p = none) : G p = none := k.ex.free h
theorem StOk.free0 (k : StOk K cl F G H σ S) (h : H p = none) : F.H0 p = none := by
  cases q : F.H0 p with
  | none => rfl
  | some u =>
    have no : ∀ i, F.io i ≠ some p := fun i hi => by
      obtain ⟨x, hx⟩ := k.io i p hi
      obtain ⟨a, _, _, e, w⟩ := k.inn i x hx
      rw [hi] at e
      cases e
      obtain ⟨o, z⟩ := w.there
      rw [h] at z
      cases z
    rw [k.frame p u q no] at h
    cases h
/-- a new object, plain (in G) -/
theorem StOk.alloc (k : StOk K cl F G H σ S) (h : H p = none) : StOk K cl F (upd G p o) (upd H p o) σ S := by
  have hg := k.free h
  have h0 := k.free0 h
  have sg : Same G (upd G p o) := same_new hg
  have na : ∀ {a : Addr} {x : PV}, OwnAt K cl G H a x → a ≠ p := fun q z => by
    obtain ⟨o, e⟩ := q.there
    rw [z, h] at e
    cases e
  refine ⟨same_upd k.ex, k.ex0.trans sg, k.len, fun i x e => ?_, fun i x e => ?_, fun i x e => ?_, k.dist, k.io, k.ioh, k.iod, fun a u e n => ?_, fun a u e => ?_, fun a u e => ?_⟩
  · obtain ⟨v, e1, r⟩ := k.val i x e
    exact ⟨v, e1, r.mono sg⟩
  · obtain ⟨a, e1, ga, ha, q⟩ := k.own i x e
    exact ⟨a, e1, by rw [upd_ne (na q)]; exact ga, ha, q.mono sg (upd_ne (na q))⟩
  · obtain ⟨a, e1, ga, ha, q⟩ := k.inn i x e
    exact ⟨a, e1, by rw [upd_ne (na q)]; exact ga, ha, q.mono sg (upd_ne (na q))⟩
  · rw [upd_ne (fun z => by rw [z, h0] at e; cases e)]
    exact k.frame a u e n
  · by_cases z : a = p
    · rw [z]; exact .inr h0
    · rw [upd_ne z] at e
      exact k.gnew a u e
  · obtain ⟨r1, r2, r3, r4⟩ := k.rsv a u e
    have ne : a ≠ p := fun z => by rw [z, h] at r1; cases r1
    exact ⟨by rw [upd_ne ne]; exact r1, by rw [upd_ne ne]; exact r2, r3, r4⟩
/-- a new object, not in G -/
theorem StOk.allocO (k : StOk K cl F G H σ S) (h : H p = none) : StOk K cl F G (upd H p o) σ S := by
  have hg := k.free h
  have h0 := k.free0 h
  have na : ∀ {a : Addr} {x : PV}, OwnAt K cl G H a x → a ≠ p := fun q z => by
    obtain ⟨o, e⟩ := q.there
    rw [z, h] at e
    cases e
  refine ⟨same_mut k.ex hg, k.ex0, k.len, k.val, fun i x e => ?_, fun i x e => ?_, k.dist, k.io, k.ioh, k.iod, fun a u e n => ?_, k.gnew, fun a u e => ?_⟩
  · obtain ⟨a, e1, ga, ha, q⟩ := k.own i x e
    exact ⟨a, e1, ga, ha, q.mono (Same.refl _) (upd_ne (na q))⟩
  · obtain ⟨a, e1, ga, ha, q⟩ := k.inn i x e
    exact ⟨a, e1, ga, ha, q.mono (Same.refl _) (upd_ne (na q))⟩
  · rw [upd_ne (fun z => by rw [z, h0] at e; cases e)]
    exact k.frame a u e n
  · obtain ⟨r1, r2, r3, r4⟩ := k.rsv a u e
    have ne : a ≠ p := fun z => by rw [z, h] at r1; cases r1
    exact ⟨by rw [upd_ne ne]; exact r1, r2, r3, r4⟩
/-- an object that is in nobody's hands (not in G, in no slot, not of the entry) changes -/
theorem StOk.mutO (k : StOk K cl F G H σ S) (hg : G p = none) (h0 : F.H0 p = none) (hR : F.R p = none) (hn : ∀ (i : Nat) (x : PV), S[i]? = some (some (.o x)) → σ[i]? ≠ some (some (V.ref p))) : StOk K cl F G (upd H p o) σ S := by
  refine ⟨same_mut k.ex hg, k.ex0, k.len, k.val, fun i x e => ?_, fun i x e => ?_, k.dist, k.io, k.ioh, k.iod, fun a u e n => ?_, k.gnew, fun a u e => ?_⟩
  · obtain ⟨a, e1, ga, ha, q⟩ := k.own i x e
    have ne : a ≠ p := fun z => hn i x e (by rw [← z]; exact e1)
    exact ⟨a, e1, ga, ha, q.mono (Same.refl _) (upd_ne ne)⟩
  · obtain ⟨a, e1, ga, ha, q⟩ := k.inn i x e
    have ne : a ≠ p := fun z => by
      obtain ⟨u, hu⟩ := k.ioh i a ha
      rw [z, h0] at hu
      cases hu
    exact ⟨a, e1, ga, ha, q.mono (Same.refl _) (upd_ne ne)⟩
  · rw [upd_ne (fun z => by rw [z, h0] at e; cases e)]
    exact k.frame a u e n
  · obtain ⟨r1, r2, r3, r4⟩ := k.rsv a u e
    have ne : a ≠ p := fun z => by rw [z, hR] at e; cases e
    exact ⟨by rw [upd_ne ne]; exact r1, r2, r3, r4⟩
theorem set_get {α : Type} {l : List α} {i j : Nat} {x y : α} (h : (l.set i x)[j]? = some y) : (j = i ∧ y = x ∧ i < l.length) ∨ (j ≠ i ∧ l[j]? = some y) := by
  by_cases e : j = i
  · subst e
    by_cases z : j < l.length
    · rw [List.getElem?_set_self z] at h
      exact .inl ⟨rfl, (Option.some.inj h).symm, z⟩
    · rw [List.getElem?_eq_none (by rw [List.length_set]; omega)] at h
      cases h
  · rw [List.getElem?_set_ne (Ne.symm e)] at h
    exact .inr ⟨e, h⟩
/-- x = e, a plain value -/
theorem StOk.setp (k : StOk K cl F G H σ S) {i : Nat} {v : V} {x : PV} (r : Rep K cl G v x) (hi : F.io i = none) : StOk K cl F G H (σ.set i (some v)) (S.set i (some (.p x))) := by
  have up : ∀ {j : Nat} {y : SV}, j ≠ i → ∀ {w : Option V}, σ[j]? = some w → (σ.set i (some v))[j]? = some w := fun {j y} n {w} e => by rw [List.getElem?_set_ne (Ne.symm n)]; exact e
  have dn : ∀ {j : Nat}, j ≠ i → ∀ {w : Option V}, (σ.set i (some v))[j]? = some w → σ[j]? = some w := fun {j} n {w} e => by rw [List.getElem?_set_ne (Ne.symm n)] at e; exact e
  refine ⟨k.ex, k.ex0, by rw [List.length_set, List.length_set]; exact k.len, fun j y e => ?_, fun j y e => ?_, fun j y e => ?_, fun j l a y z e1 e2 e3 e4 => ?_, fun j a e => ?_, k.ioh, k.iod, k.frame, k.gnew, fun a u e => ?_⟩
  · rcases set_get e with ⟨rfl, q, lt⟩ | ⟨n, q⟩
    · cases q
      exact ⟨v, List.getElem?_set_self (by rw [k.len]; exact lt), r⟩
    · obtain ⟨u, e1, r1⟩ := k.val j y q
      exact ⟨u, up (y := .p y) n e1, r1⟩
  · rcases set_get e with ⟨rfl, q, lt⟩ | ⟨n, q⟩
    · cases q
    · obtain ⟨a, e1, r1⟩ := k.own j y q
      exact ⟨a, up (y := .p y) n e1, r1⟩
  · rcases set_get e with ⟨rfl, q, lt⟩ | ⟨n, q⟩
    · cases q
    · obtain ⟨a, e1, r1⟩ := k.inn j y q
      exact ⟨a, up (y := .p y) n e1, r1⟩
  · rcases set_get e1 with ⟨rfl, q, lt⟩ | ⟨n, q⟩
    · cases q
    · rcases set_get e2 with ⟨rfl, q2, lt⟩ | ⟨n2, q2⟩
      · cases q2
      · exact k.dist j l a y z q q2 (dn n e3) (dn n2 e4)
  · obtain ⟨x, hx⟩ := k.io j a e
    refine ⟨x, ?_⟩
    rw [List.getElem?_set_ne (fun z => by rw [← z, hi] at e; cases e)]
    exact hx
  · obtain ⟨r1, r2, r3, r4⟩ := k.rsv a u e
    refine ⟨r1, r2, r3, fun j y q z => ?_⟩
    rcases set_get q with ⟨rfl, q', lt⟩ | ⟨n, q'⟩
    · cases q'
    · exact r4 j y q' (dn n z)
/-- a slot is forgotten -/
theorem StOk.drop (k : StOk K cl F G H σ S) {i : Nat} {w : Option V} (hi : F.io i = none) : StOk K cl F G H (σ.set i w) (S.set i none) := by
  have up : ∀ {j : Nat}, j ≠ i → ∀ {u : Option V}, σ[j]? = some u → (σ.set i w)[j]? = some u := fun {j} n {u} e => by rw [List.getElem?_set_ne (Ne.symm n)]; exact e
  have dn : ∀ {j : Nat}, j ≠ i → ∀ {u : Option V}, (σ.set i w)[j]? = some u → σ[j]? = some u := fun {j} n {u} e => by rw [List.getElem?_set_ne (Ne.symm n)] at e; exact e
  refine ⟨k.ex, k.ex0, by rw [List.length_set, List.length_set]; exact k.len, fun j y e => ?_, fun j y e => ?_, fun j y e => ?_, fun j l a y z e1 e2 e3 e4 => ?_, fun j a e => ?_, k.ioh, k.iod, k.frame, k.gnew, fun a u e => ?_⟩
  · rcases set_get e with ⟨rfl, q, lt⟩ | ⟨n, q⟩
    · cases q
    · obtain ⟨u, e1, r1⟩ := k.val j y q
      exact ⟨u, up n e1, r1⟩
  · rcases set_get e with ⟨rfl, q, lt⟩ | ⟨n, q⟩
    · cases q
    · obtain ⟨a, e1, r1⟩ := k.own j y q
      exact ⟨a, up n e1, r1⟩
  · rcases set_get e with ⟨rfl, q, lt⟩ | ⟨n, q⟩
    · cases q
    · obtain ⟨a, e1, r1⟩ := k.inn j y q
      exact ⟨a, up n e1, r1⟩
  · rcases set_get e1 with ⟨rfl, q, lt⟩ | ⟨n, q⟩
    · cases q
    · rcases set_get e2 with ⟨rfl, q2, lt⟩ | ⟨n2, q2⟩
      · cases q2
      · exact k.dist j l a y z q q2 (dn n e3) (dn n2 e4)
  · obtain ⟨x, hx⟩ := k.io j a e
    refine ⟨x, ?_⟩
    rw [List.getElem?_set_ne (fun z => by rw [← z, hi] at e; cases e)]
    exact hx
  · obtain ⟨r1, r2, r3, r4⟩ := k.rsv a u e
    refine ⟨r1, r2, r3, fun j y q z => ?_⟩
    rcases set_get q with ⟨rfl, q', lt⟩ | ⟨n, q'⟩
    · cases q'
    · exact r4 j y q' (dn n z)
/-- x = a fresh object, which may change -/
theorem StOk.seto (k : StOk K cl F G H σ S) {i : Nat} {a : Addr} {x : PV} (hg : G a = none) (h0 : F.H0 a = none) (hR : F.R a = none) (hn : ∀ (j : Nat) (y : PV), S[j]? = some (some (.o y)) → σ[j]? ≠ some (some (V.ref a))) (q : OwnAt K cl G H a x) (hi : F.io i = none) :
    StOk K cl F G H (σ.set i (some (V.ref a))) (S.set i (some (.o x))) := by
  have up : ∀ {j : Nat}, j ≠ i → ∀ {u : Option V}, σ[j]? = some u → (σ.set i (some (V.ref a)))[j]? = some u := fun {j} n {u} e => by rw [List.getElem?_set_ne (Ne.symm n)]; exact e
  have dn : ∀ {j : Nat}, j ≠ i → ∀ {u : Option V}, (σ.set i (some (V.ref a)))[j]? = some u → σ[j]? = some u := fun {j} n {u} e => by rw [List.getElem?_set_ne (Ne.symm n)] at e; exact e
  have self : i < S.length → (σ.set i (some (V.ref a)))[i]? = some (some (V.ref a)) := fun lt => List.getElem?_set_self (by rw [k.len]; exact lt)
  refine ⟨k.ex, k.ex0, by rw [List.length_set, List.length_set]; exact k.len, fun j y e => ?_, fun j y e => ?_, fun j y e => ?_, fun j l b y z e1 e2 e3 e4 => ?_, fun j b e => ?_, k.ioh, k.iod, k.frame, k.gnew, fun b u e => ?_⟩
  · rcases set_get e with ⟨rfl, q, lt⟩ | ⟨n, q⟩
    · cases q
    · obtain ⟨u, e1, r1⟩ := k.val j y q
      exact ⟨u, up n e1, r1⟩
  · rcases set_get e with ⟨rfl, q', lt⟩ | ⟨n, q⟩
    · cases q'
      exact ⟨a, self lt, hg, h0, q⟩
    · obtain ⟨b, e1, r1⟩ := k.own j y q
      exact ⟨b, up n e1, r1⟩
  · rcases set_get e with ⟨rfl, q, lt⟩ | ⟨n, q⟩
    · cases q
    · obtain ⟨b, e1, r1⟩ := k.inn j y q
      exact ⟨b, up n e1, r1⟩
  · rcases set_get e1 with ⟨z1, q, lt⟩ | ⟨n, q⟩
    · subst z1
      rcases set_get e2 with ⟨z2, q2, lt2⟩ | ⟨n2, q2⟩
      · exact z2.symm
      · rw [self lt] at e3
        cases e3
        exact absurd (dn n2 e4) (hn l z q2)
    · rcases set_get e2 with ⟨z2, q2, lt⟩ | ⟨n2, q2⟩
      · subst z2
        rw [self lt] at e4
        cases e4
        exact absurd (dn n e3) (hn j y q)
      · exact k.dist j l b y z q q2 (dn n e3) (dn n2 e4)
  · obtain ⟨x, hx⟩ := k.io j b e
    refine ⟨x, ?_⟩
    rw [List.getElem?_set_ne (fun z => by rw [← z, hi] at e; cases e)]
    exact hx
  · obtain ⟨r1, r2, r3, r4⟩ := k.rsv b u e
    refine ⟨r1, r2, r3, fun j y q z => ?_⟩
    rcases set_get q with ⟨rfl, q', lt⟩ | ⟨n, q'⟩
    · rw [self lt] at z
      cases z
      rw [hR] at e
      cases e
    · exact r4 j y q' (dn n z)
/-- the own object of slot i changes -/
theorem StOk.chg (k : StOk K cl F G H σ S) {i : Nat} {a : Addr} {x y : PV} (hs : S[i]? = some (some (.o x))) (ha : σ[i]? = some (some (V.ref a))) (q : OwnAt K cl G (upd H a o) a y) : StOk K cl F G (upd H a o) σ (S.set i (some (.o y))) := by
  obtain ⟨a', e1, ga, h0, w⟩ := k.own i x hs
  rw [ha] at e1
  cases e1
  refine ⟨same_mut k.ex ga, k.ex0, by rw [List.length_set]; exact k.len, fun j z e => ?_, fun j z e => ?_, fun j z e => ?_, fun j l b y' z e1 e2 e3 e4 => ?_, fun j b e => ?_, k.ioh, k.iod, fun b u e n => ?_, k.gnew, fun b u e => ?_⟩
  · rcases set_get e with ⟨rfl, q, lt⟩ | ⟨n, q⟩
    · cases q
    · exact k.val j z q
  · rcases set_get e with ⟨rfl, q', lt⟩ | ⟨n, q'⟩
    · cases q'
      exact ⟨a, ha, ga, h0, q⟩
    · obtain ⟨b, e1, gb, hb, w'⟩ := k.own j z q'
      have ne : b ≠ a := fun zz => n (k.dist j i b z x q' hs e1 (by rw [zz]; exact ha))
      exact ⟨b, e1, gb, hb, w'.mono (Same.refl _) (upd_ne ne)⟩
  · rcases set_get e with ⟨rfl, q, lt⟩ | ⟨n, q'⟩
    · cases q
    · obtain ⟨b, e1, gb, hb, w'⟩ := k.inn j z q'
      have ne : b ≠ a := fun zz => by
        obtain ⟨u, hu⟩ := k.ioh j b hb
        rw [zz, h0] at hu
        cases hu
      exact ⟨b, e1, gb, hb, w'.mono (Same.refl _) (upd_ne ne)⟩
  · have hj : ∃ y0, S[j]? = some (some (.o y0)) := by
      rcases set_get e1 with ⟨rfl, q, lt⟩ | ⟨n, q⟩
      · exact ⟨x, hs⟩
      · exact ⟨_, q⟩
    have hl : ∃ y0, S[l]? = some (some (.o y0)) := by
      rcases set_get e2 with ⟨rfl, q, lt⟩ | ⟨n, q⟩
      · exact ⟨x, hs⟩
      · exact ⟨_, q⟩
    obtain ⟨y1, h1⟩ := hj
    obtain ⟨y2, h2⟩ := hl
    exact k.dist j l b y1 y2 h1 h2 e3 e4
  · obtain ⟨x', hx⟩ := k.io j b e
    refine ⟨x', ?_⟩
    rw [List.getElem?_set_ne (fun z => by rw [← z, hs] at hx; cases hx)]
    exact hx
  · rw [upd_ne (fun z => by rw [z, h0] at e; cases e)]
    exact k.frame b u e n
  · obtain ⟨r1, r2, r3, r4⟩ := k.rsv b u e
    have ne : b ≠ a := fun z => r4 i x hs (by rw [z]; exact ha)
    refine ⟨by rw [upd_ne ne]; exact r1, r2, r3, fun j y' q' z => ?_⟩
    rcases set_get q' with ⟨rfl, q2, lt⟩ | ⟨n, q2⟩
    · exact r4 j x hs z
    · exact r4 j y' q2 z
/-- the handed object of slot i changes -/
theorem StOk.chgi (k : StOk K cl F G H σ S) {i : Nat} {a : Addr} {x y : PV} (hs : S[i]? = some (some (.i x))) (ha : σ[i]? = some (some (V.ref a))) (q : OwnAt K cl G (upd H a o) a y) : StOk K cl F G (upd H a o) σ (S.set i (some (.i y))) := by
  obtain ⟨a', e1, ga, hio, w⟩ := k.inn i x hs
  rw [ha] at e1
  cases e1
  refine ⟨same_mut k.ex ga, k.ex0, by rw [List.length_set]; exact k.len, fun j z e => ?_, fun j z e => ?_, fun j z e => ?_, fun j l b y' z e1 e2 e3 e4 => ?_, fun j b e => ?_, k.ioh, k.iod, fun b u e n => ?_, k.gnew, fun b u e => ?_⟩
  · rcases set_get e with ⟨rfl, q, lt⟩ | ⟨n, q⟩
    · cases q
    · exact k.val j z q
  · rcases set_get e with ⟨rfl, q', lt⟩ | ⟨n, q'⟩
    · cases q'
    · obtain ⟨b, e1, gb, hb, w'⟩ := k.own j z q'
      have ne : b ≠ a := fun zz => by
        obtain ⟨u, hu⟩ := k.ioh i a hio
        rw [← zz, hb] at hu
        cases hu
      exact ⟨b, e1, gb, hb, w'.mono (Same.refl _) (upd_ne ne)⟩
  · rcases set_get e with ⟨rfl, q', lt⟩ | ⟨n, q'⟩
    · cases q'
      exact ⟨a, ha, ga, hio, q⟩
    · obtain ⟨b, e1, gb, hb, w'⟩ := k.inn j z q'
      have ne : b ≠ a := fun zz => n (k.iod j i b hb (by rw [zz]; exact hio))
      exact ⟨b, e1, gb, hb, w'.mono (Same.refl _) (upd_ne ne)⟩
  · rcases set_get e1 with ⟨rfl, q, lt⟩ | ⟨n, q1⟩
    · cases q
    · rcases set_get e2 with ⟨rfl, q, lt⟩ | ⟨n, q2⟩
      · cases q
      · exact k.dist j l b _ _ q1 q2 e3 e4
  · by_cases z : j = i
    · subst z
      exact ⟨y, List.getElem?_set_self ((List.getElem?_eq_some_iff.mp hs).1)⟩
    · obtain ⟨x', hx⟩ := k.io j b e
      exact ⟨x', by rw [List.getElem?_set_ne (Ne.symm z)]; exact hx⟩
  · rw [upd_ne (fun z => n i (by rw [z]; exact hio))]
    exact k.frame b u e n
  · obtain ⟨r1, r2, r3, r4⟩ := k.rsv b u e
    have ne : b ≠ a := fun z => by
      obtain ⟨u', hu⟩ := k.ioh i a hio
      rw [← z, r3] at hu
      cases hu
    refine ⟨by rw [upd_ne ne]; exact r1, r2, r3, fun j y' q' z => ?_⟩
    rcases set_get q' with ⟨rfl, q2, lt⟩ | ⟨n, q2⟩
    · cases q2
    · exact r4 j y' q2 z
/-- an own fresh object is plain from now on -/
theorem own_freeze {K : PySem.W.Frag} {cl : Nat → Addr} {G H : Hp} {a : Addr} {x : PV} (hg : G a = none) (q : OwnAt K cl G H a x) : ∃ o, H a = some o ∧ Rep K cl (upd G a o) (V.ref a) x := by
  have sg : ∀ o, Same G (upd G a o) := fun o => same_new hg
  cases x <;> try exact q.elim
  · obtain ⟨vs, e1, z, r⟩ := q
    exact ⟨_, e1, .lst upd_same z (r.mono (sg _))⟩
  · obtain ⟨vs, e1, r⟩ := q
    exact ⟨_, e1, .dct upd_same (r.mono (sg _))⟩
  · obtain ⟨dx, vs, e1, r⟩ := q
    exact ⟨_, e1, .obj upd_same (r.mono (sg _))⟩
theorem StOk.freeze (k : StOk K cl F G H σ S) {i : Nat} {x : PV} (hs : S[i]? = some (some (.o x))) : ∃ (a : Addr) (o : HO), σ[i]? = some (some (V.ref a)) ∧ Same G (upd G a o) ∧ Rep K cl (upd G a o) (V.ref a) x ∧ StOk K cl F (upd G a o) H σ (S.set i (some (.p x))) := by
  obtain ⟨a, ea, ga, h0, w⟩ := k.own i x hs
  obtain ⟨o, ho, r⟩ := own_freeze ga w
  have sg : Same G (upd G a o) := same_new ga
  refine ⟨a, o, ea, sg, r, fun b u e => ?_, k.ex0.trans sg, by rw [List.length_set]; exact k.len, fun j z e => ?_, fun j z e => ?_, fun j z e => ?_, fun j l b y' z e1 e2 e3 e4 => ?_, fun j b e => ?_, k.ioh, k.iod, k.frame, fun b u e => ?_, fun b u e => ?_⟩
  · by_cases z : b = a
    · subst z
      rw [upd_same] at e
      rw [← e]; exact ho
    · rw [upd_ne z] at e
      exact k.ex b u e
  · rcases set_get e with ⟨rfl, q, lt⟩ | ⟨n, q⟩
    · cases q
      exact ⟨_, ea, r⟩
    · obtain ⟨v, e1, r1⟩ := k.val j z q
      exact ⟨v, e1, r1.mono sg⟩
  · rcases set_get e with ⟨rfl, q', lt⟩ | ⟨n, q'⟩
    · cases q'
    · obtain ⟨b, e1, gb, hb, w'⟩ := k.own j z q'
      have ne : b ≠ a := fun zz => n (k.dist j i b z x q' hs e1 (by rw [zz]; exact ea))
      exact ⟨b, e1, by rw [upd_ne ne]; exact gb, hb, w'.mono sg rfl⟩
  · rcases set_get e with ⟨rfl, q, lt⟩ | ⟨n, q'⟩
    · cases q
    · obtain ⟨b, e1, gb, hb, w'⟩ := k.inn j z q'
      have ne : b ≠ a := fun zz => by
        obtain ⟨u, hu⟩ := k.ioh j b hb
        rw [zz, h0] at hu
        cases hu
      exact ⟨b, e1, by rw [upd_ne ne]; exact gb, hb, w'.mono sg rfl⟩
  · rcases set_get e1 with ⟨rfl, q, lt⟩ | ⟨n, q1⟩
    · cases q
    · rcases set_get e2 with ⟨rfl, q, lt⟩ | ⟨n, q2⟩
      · cases q
      · exact k.dist j l b _ _ q1 q2 e3 e4
  · obtain ⟨x', hx⟩ := k.io j b e
    refine ⟨x', ?_⟩
    rw [List.getElem?_set_ne (fun z => by rw [← z, hs] at hx; cases hx)]
    exact hx
  · by_cases z : b = a
    · rw [z]; exact .inr h0
    · rw [upd_ne z] at e
      exact k.gnew b u e
  · obtain ⟨r1, r2, r3, r4⟩ := k.rsv b u e
    have ne : b ≠ a := fun z => r4 i x hs (by rw [z]; exact ea)
    refine ⟨r1, by rw [upd_ne ne]; exact r2, r3, fun j y' q' z => ?_⟩
    rcases set_get q' with ⟨rfl, q2, lt⟩ | ⟨n, q2⟩
    · cases q2
    · exact r4 j y' q2 z
/-- a new object is reserved -/
theorem StOk.rsvNew (k : StOk K cl F G H σ S) (h : H p = none) (hs : ∀ (i : Nat) (x : PV), S[i]? = some (some (.o x)) → σ[i]? ≠ some (some (V.ref p))) : StOk K cl { F with R := fun b => if b = p then some o else F.R b } G (upd H p o) σ S := by
  have k' := k.allocO (o := o) h
  refine ⟨k'.ex, k'.ex0, k'.len, k'.val, k'.own, k'.inn, k'.dist, k'.io, k'.ioh, k'.iod, k'.frame, k'.gnew, fun a u e => ?_⟩
  dsimp only at e
  split at e
  · rename_i z
    cases e
    rw [z]
    exact ⟨upd_same, k.free h, k.free0 h, hs⟩
  · exact k'.rsv a u e
/-- .. changes -/
theorem StOk.rsvSet {o o' : HO} {R : Addr → Option HO} (k : StOk K cl { F with R := fun b => if b = p then some o else R b } G H σ S) : StOk K cl { F with R := fun b => if b = p then some o' else R b } G (upd H p o') σ S := by
  obtain ⟨r1, r2, r3, r4⟩ := k.rsv p o (if_pos rfl)
  have e1 : Same G (upd H p o') := same_mut k.ex r2
  have ne : ∀ {a : Addr} {x : PV} {i : Nat}, S[i]? = some (some (.o x)) → σ[i]? = some (some (V.ref a)) → a ≠ p := fun h1 h2 z => r4 _ _ h1 (by rw [← z]; exact h2)
  refine ⟨e1, k.ex0, k.len, k.val, fun i x e => ?_, fun i x e => ?_, k.dist, k.io, k.ioh, k.iod, fun a u e n => ?_, k.gnew, fun a u e => ?_⟩
  · obtain ⟨a, e1, ga, ha, q⟩ := k.own i x e
    exact ⟨a, e1, ga, ha, q.mono (Same.refl _) (upd_ne (ne e e1))⟩
  · obtain ⟨a, e1, ga, ha, q⟩ := k.inn i x e
    have ne : a ≠ p := fun z => by
      obtain ⟨u, hu⟩ := k.ioh i a ha
      rw [z] at hu
      have r3' : F.H0 p = none := r3
      have hu' : F.H0 p = some u := hu
      rw [r3'] at hu'
      cases hu'
    exact ⟨a, e1, ga, ha, q.mono (Same.refl _) (upd_ne ne)⟩
  · rw [upd_ne (fun z => by rw [z] at e; have r3' : F.H0 p = none := r3; have e' : F.H0 p = some u := e; rw [r3'] at e'; cases e')]
    exact k.frame a u e n
  · dsimp only at e
    split at e
    · rename_i z
      cases e
      rw [z]
      exact ⟨upd_same, r2, r3, r4⟩
    · rename_i z
      obtain ⟨s1, s2, s3, s4⟩ := k.rsv a u (by dsimp only; rw [if_neg z]; exact e)
      exact ⟨by rw [upd_ne z]; exact s1, s2, s3, s4⟩
/-- .. is plain from now on -/
theorem StOk.rsvEnd {o : HO} (k : StOk K cl { F with R := fun b => if b = p then some o else F.R b } G H σ S) (hR : F.R p = none) : StOk K cl F (upd G p o) H σ S ∧ G p = none := by
  obtain ⟨r1, r2, r3, r4⟩ := k.rsv p o (if_pos rfl)
  have sg : Same G (upd G p o) := same_new r2
  refine ⟨⟨fun b u e => ?_, k.ex0.trans sg, k.len, fun i x e => ?_, fun i x e => ?_, fun i x e => ?_, k.dist, k.io, k.ioh, k.iod, k.frame, fun a u e => ?_, fun a u e => ?_⟩, r2⟩
  · by_cases z : b = p
    · subst z
      rw [upd_same] at e
      rw [← e]
      exact r1
    · rw [upd_ne z] at e
      exact k.ex b u e
  · obtain ⟨v, e1, r⟩ := k.val i x e
    exact ⟨v, e1, r.mono sg⟩
  · obtain ⟨a, e1, ga, ha, q⟩ := k.own i x e
    have ne : a ≠ p := fun z => r4 _ _ e (by rw [← z]; exact e1)
    exact ⟨a, e1, by rw [upd_ne ne]; exact ga, ha, q.mono sg rfl⟩
  · obtain ⟨a, e1, ga, ha, q⟩ := k.inn i x e
    have ne : a ≠ p := fun z => by
      obtain ⟨u, hu⟩ := k.ioh i a ha
      rw [z] at hu
      have r3' : F.H0 p = none := r3
      have hu' : F.H0 p = some u := hu
      rw [r3'] at hu'
      cases hu'
    exact ⟨a, e1, by rw [upd_ne ne]; exact ga, ha, q.mono sg rfl⟩
  · by_cases z : a = p
    · rw [z]; exact .inr r3
    · rw [upd_ne z] at e
      exact k.gnew a u e
  · have ne : a ≠ p := fun z => by rw [z, hR] at e; cases e
    obtain ⟨s1, s2, s3, s4⟩ := k.rsv a u (by dsimp only; rw [if_neg ne]; exact e)
    exact ⟨s1, by rw [upd_ne ne]; exact s2, s3, s4⟩
/-- .. stays with the frame: a slot takes it -/
theorem StOk.rsvOwn {o : HO} (k : StOk K cl { F with R := fun b => if b = p then some o else F.R b } G H σ S) (hR : F.R p = none) : StOk K cl F G H σ S ∧ H p = some o ∧ G p = none ∧ F.H0 p = none ∧ ∀ (i : Nat) (x : PV), S[i]? = some (some (.o x)) → σ[i]? ≠ some (some (V.ref p)) := by
  obtain ⟨r1, r2, r3, r4⟩ := k.rsv p o (if_pos rfl)
  refine ⟨⟨k.ex, k.ex0, k.len, k.val, k.own, k.inn, k.dist, k.io, k.ioh, k.iod, k.frame, k.gnew, fun a u e => ?_⟩, r1, r2, r3, r4⟩
  have ne : a ≠ p := fun z => by rw [z, hR] at e; cases e
  exact k.rsv a u (by dsimp only; rw [if_neg ne]; exact e)
theorem StOk.rfree (k : StOk K cl F G H σ S) (h : H p = none) : F.R p = none := by
  cases q : F.R p with
  | none => rfl
  | some o =>
    have := (k.rsv p o q).1
    rw [h] at this
    cases this
end
end Kp
set_option Elab.async false
set_option linter.all false
set_option maxRecDepth 100000
set_option maxHeartbeats 2000000
namespace Kp
open PySem L2

/-! ### computations over stores -/
inductive Rs (α : Type) where
  | ok (x : α) (S : Sto) | ex (c : Nat) (fs : List (Str × PV)) (S : Sto)
abbrev M (α : Type) := Sto → Option (Rs α)
def ret {α : Type} (x : α) : M α := fun S => some (.ok x S)
def bnd {α β : Type} (m : M α) (k : α → M β) : M β := fun S => match m S with
  | some (.ok x S') => k x S'
  | some (.ex c fs S') => some (.ex c fs S')
  | none => none
def lift {α : Type} (x : Option α) : M α := fun S => match x with
  | some y => some (.ok y S)
  | none => none

/-- what is wanted where an exception leaves -/
def ExP (K : PySem.W.Frag) (cl : Nat → Addr) (F : Fr) (W : WX) (G : Hp) (σ : L2.St) (c : Nat) (fs : List (Str × PV)) (S' : Sto) : Prop :=
  ∀ (d : Addr) (gs : List (Str × V)) (G' H' : Hp), Same G G' → StOk K cl F G' H' σ S' → (H' d = some (.xd gs) ∧ F.H0 d = none ∧ F.R d = none) → RepF K cl G' gs fs → W (.ref (cl c)) (some d) σ H'
def Post {α β : Type} (K : PySem.W.Frag) (cl : Nat → Addr) (R : Hp → β → α → Prop) (F : Fr) (W : WX) (G : Hp) (σ : L2.St) (Q : β → Hp → Prop) : Rs α → Prop
  | .ok y S' => ∀ (v : β) (G' H' : Hp), Same G G' → StOk K cl F G' H' σ S' → R G' v y → Q v H'
  | .ex c fs S' => ExP K cl F W G σ c fs S'
def Does {α β : Type} (K : PySem.W.Frag) (cl : Nat → Addr) (W : WX) (R : Hp → β → α → Prop) (t : L2.St → Hp → (β → Hp → Prop) → Prop) (m : M α) : Prop :=
  ∀ (F : Fr) (G H : Hp) (σ : L2.St) (S : Sto) (r : Rs α) (Q : β → Hp → Prop), StOk K cl F G H σ S → m S = some r → Post K cl R F W G σ Q r → t σ H Q
abbrev RV (K : PySem.W.Frag) (cl : Nat → Addr) : Hp → V → PV → Prop := fun G v x => Rep K cl G v x
abbrev RL (K : PySem.W.Frag) (cl : Nat → Addr) : Hp → List V → List PV → Prop := fun G v x => RepL K cl G v x
abbrev RB : Hp → Bool → Bool → Prop := fun _ v x => v = x

def EM (X : Cx) (cl : Nat → Addr) (W : WX) (e : Expr) (m : M PV) : Prop := ∃ t, PE X e t ∧ Does X.K cl W (RV X.K cl) t m
def TM (X : Cx) (cl : Nat → Addr) (W : WX) (e : Expr) (m : M Bool) : Prop := ∃ t, PT X e t ∧ Does X.K cl W RB t m
def AM (X : Cx) (cl : Nat → Addr) (W : WX) (es : List Expr) (m : M (List PV)) : Prop := ∃ t, PA X es t ∧ Does X.K cl W (RL X.K cl) t m

section
variable {K : PySem.W.Frag} {cl : Nat → Addr} {F : Fr} {W : WX} {G G' H H' : Hp} {σ : L2.St} {S : Sto}
theorem ExP.mono {c : Nat} {fs : List (Str × PV)} {S' : Sto} (e : Same G G') (h : ExP K cl F W G σ c fs S') : ExP K cl F W G' σ c fs S' :=
  fun d gs G2 H2 s k x r => h d gs G2 H2 (e.trans s) k x r
theorem Post.mono {α β : Type} {R : Hp → β → α → Prop} {Q : β → Hp → Prop} {r : Rs α} (e : Same G G') (h : Post K cl R F W G σ Q r) : Post K cl R F W G' σ Q r := by
  cases r with
  | ok y S' => exact fun v G2 H2 s k x => h v G2 H2 (e.trans s) k x
  | ex c fs S' => exact ExP.mono e h
theorem Post.exp {α α' β β' : Type} {R : Hp → β → α → Prop} {R' : Hp → β' → α' → Prop} {Q : β → Hp → Prop} {Q' : β' → Hp → Prop} {c : Nat} {fs : List (Str × PV)} {S' : Sto} (h : Post K cl R F W G σ Q (.ex c fs S')) : Post K cl R' F W G σ Q' (.ex c fs S') := h
/-- first m1, then the rest -/
theorem Does.step {α β γ δ : Type} {R1 : Hp → β → α → Prop} {R2 : Hp → δ → γ → Prop} {t1 : L2.St → Hp → (β → Hp → Prop) → Prop} {m1 : M α} {k : α → M γ} {r : Rs γ} {Q1 : β → Hp → Prop} {Q2 : δ → Hp → Prop}
    (h1 : Does K cl W R1 t1 m1) (st : StOk K cl F G H σ S) (hm : bnd m1 k S = some r) (hp : Post K cl R2 F W G σ Q2 r)
    (hk : ∀ (y : α) (S1 : Sto) (v : β) (G1 H1 : Hp), k y S1 = some r → Same G G1 → StOk K cl F G1 H1 σ S1 → R1 G1 v y → Post K cl R2 F W G1 σ Q2 r → Q1 v H1) : t1 σ H Q1 := by
  unfold bnd at hm
  cases e : m1 S with
  | none =>
    rw [e] at hm
    cases hm
  | some r1 =>
    rw [e] at hm
    cases r1 with
    | ok y S1 =>
      refine h1 F G H σ S _ Q1 st e ?_
      exact fun v G1 H1 s k1 x => hk y S1 v G1 H1 hm s k1 x (hp.mono s)
    | ex c fs S1 =>
      have hm' : Rs.ex c fs S1 = r := Option.some.inj hm
      subst hm'
      exact h1 F G H σ S _ Q1 st e hp
theorem lift_bnd {α γ : Type} {x : Option α} {k : α → M γ} {r : Rs γ} (h : bnd (lift x) k S = some r) : ∃ y, x = some y ∧ k y S = some r := by
  unfold bnd Kp.lift at h
  cases x with
  | none => cases h
  | some y => exact ⟨y, rfl, h⟩
end

/-- the end of an operation: a value of the present heap, or one new object -/
def Res1 (K : PySem.W.Frag) (cl : Nat → Addr) (G H : Hp) (z : PV) (w : V) (H' : Hp) : Prop :=
  (H' = H ∧ Rep K cl G w z) ∨ ∃ (p : Addr) (o : HO), H p = none ∧ H' = upd H p o ∧ Rep K cl (upd G p o) w z
theorem StOk.res1 {K : PySem.W.Frag} {cl : Nat → Addr} {F : Fr} {G H H' : Hp} {σ : L2.St} {S : Sto} {z : PV} {w : V} (k : StOk K cl F G H σ S) (h : Res1 K cl G H z w H') : ∃ G', Same G G' ∧ StOk K cl F G' H' σ S ∧ Rep K cl G' w z := by
  rcases h with ⟨rfl, r⟩ | ⟨p, o, hp, rfl, r⟩
  · exact ⟨G, Same.refl _, k, r⟩
  · exact ⟨_, same_new (k.free hp), k.alloc hp, r⟩
theorem Post.res1 {K : PySem.W.Frag} {cl : Nat → Addr} {F : Fr} {W : WX} {G H H' : Hp} {σ : L2.St} {S : Sto} {Q : VK} {z : PV} {w : V} (h : Post K cl (RV K cl) F W G σ Q (.ok z S)) (k : StOk K cl F G H σ S) (q : Res1 K cl G H z w H') : Q w H' := by
  obtain ⟨G', s, k', r⟩ := k.res1 q
  exact h w G' H' s k' r

/-! ### names and constants -/
section
variable {X : Cx} {cl : Nat → Addr} {W : WX} {pos : Pos}
def mVar (i : Nat) : M PV := fun S => match S[i]? with
  | some (some (.p x)) => some (.ok x S)
  | some (some (.o x)) => some (.ok x (S.set i (some (.p x))))
  | _ => none
theorem em_pv {e : Expr} {i : Nat} (h : PE X e (tVar i)) : EM X cl W e (mVar i) := by
  refine ⟨_, h, fun F G H σ S r Q st hm hp => ?_⟩
  unfold mVar at hm
  split at hm
  · rename_i x e1
    cases hm
    obtain ⟨v, ev, rv⟩ := st.val _ _ e1
    exact ⟨v, ev, hp v G H (Same.refl _) st rv⟩
  · rename_i x e1
    cases hm
    obtain ⟨a, o, ea, sg, rp, st'⟩ := st.freeze e1
    exact ⟨_, ea, hp _ _ _ sg st' rp⟩
  · cases hm
def mK (x : PV) : M PV := ret x
theorem em_c {e : Expr} {v : V} {x : PV} (h : PE X e (tC v)) (r : ∀ K cl H, Rep K cl H v x) : EM X cl W e (mK x) := by
  refine ⟨_, h, fun F G H σ S r' Q st hm hp => ?_⟩
  cases hm
  exact hp v G H (Same.refl _) st (r _ _ _)
theorem em_int {i j} : EM X cl W (.Constant (.int i) j pos) (mK (.int i)) := em_c pe_int fun _ _ _ => .int _
theorem em_bl {b j} : EM X cl W (.Constant (.bool b) j pos) (mK (.bl b)) := em_c pe_bl fun _ _ _ => .bl _
theorem em_non {j} : EM X cl W (.Constant .none j pos) (mK .non) := em_c pe_non fun _ _ _ => .non
theorem em_str {x j} (h : x.length ≤ sizeLine := by decide) : EM X cl W (.Constant (.str x) j pos) (mK (.str x)) := em_c pe_str fun _ _ _ => .str _ h

/-! ### operations on two values -/
/-- an operation f computes g -/
def BinS (K : PySem.W.Frag) (cl : Nat → Addr) (r : R2) (g : PV → PV → Option PV) : Prop :=
  ∀ (G H : Hp) (v u : V) (x y z : PV) (Q : VK), Same G H → Rep K cl G v x → Rep K cl G u y → g x y = some z → (∀ w H', Res1 K cl G H z w H' → Q w H') → r v u H Q
def BinR (X : Cx) (cl : Nat → Addr) (f : Value → Value → Sem Value) (g : PV → PV → Option PV) : Prop := ∃ r : R2, OpR X f r ∧ BinS X.K cl r g
def mBin (g : PV → PV → Option PV) (ma mb : M PV) : M PV := bnd ma fun x => bnd mb fun y => lift (g x y)
theorem lift_eq {α : Type} {x : Option α} {S : Sto} {r : Rs α} (h : lift x S = some r) : ∃ y, x = some y ∧ r = .ok y S := by
  unfold lift at h
  cases x with
  | none => cases h
  | some y => exact ⟨y, rfl, (Option.some.inj h).symm⟩
theorem does_bin {g : PV → PV → Option PV} {r : R2} {ta tb : TE} {ma mb : M PV} (hr : BinS X.K cl r g) (h1 : Does X.K cl W (RV X.K cl) ta ma) (h2 : Does X.K cl W (RV X.K cl) tb mb) :
    Does X.K cl W (RV X.K cl) (tOp r ta tb) (mBin g ma mb) := by
  intro F G H σ S rr Q st hm hp
  refine h1.step st hm hp fun x S1 v G1 H1 hm1 s1 st1 rv hp1 => ?_
  refine h2.step st1 hm1 hp1 fun y S2 u G2 H2 hm2 s2 st2 ru hp2 => ?_
  obtain ⟨z, ez, rfl⟩ := lift_eq hm2
  exact hr G2 H2 v u x y z Q st2.ex (rv.mono s2) ru ez fun w H' q => hp2.res1 st2 q
theorem em_op {op : Operator} {a b : Expr} {g : PV → PV → Option PV} {ma mb : M PV} (hb : BinR X cl (binaryOp op) g) (ha : EM X cl W a ma) (hb' : EM X cl W b mb) : EM X cl W (.BinOp a op b pos) (mBin g ma mb) := by
  obtain ⟨ta, pa, da⟩ := ha
  obtain ⟨tb, pb, db⟩ := hb'
  obtain ⟨r, ho, hs⟩ := hb
  exact ⟨_, pe_op ho pa pb, does_bin hs da db⟩
theorem em_cmp {op : CmpOp} {a b : Expr} {g : PV → PV → Option PV} {ma mb : M PV} (hb : BinR X cl (compareOp op) g) (ha : EM X cl W a ma) (hb' : EM X cl W b mb) (hm : behindInMarks op b = false) : EM X cl W (.Compare a [op] [b] pos) (mBin g ma mb) := by
  obtain ⟨ta, pa, da⟩ := ha
  obtain ⟨tb, pb, db⟩ := hb'
  obtain ⟨r, ho, hs⟩ := hb
  exact ⟨_, pe_cmpR ho pa pb hm, does_bin hs da db⟩
/-- a value that is a bool -/
def asB : PV → M Bool
  | .bl b => ret b
  | _ => fun _ => none
def mTest (m : M PV) : M Bool := bnd m asB
theorem does_test {t : TE} {m : M PV} (d : Does X.K cl W (RV X.K cl) t m) : Does X.K cl W RB (tTest t) (mTest m) := by
  intro F G H σ S rr Q st hm hp
  refine d.step (R2 := RB) st hm hp fun y S1 v G1 H1 hm1 s1 st1 rv hp1 => ?_
  cases y <;> simp only [asB] at hm1 <;> try (cases hm1; done)
  cases hm1
  cases rv
  exact ⟨_, rfl, hp1 _ _ _ (Same.refl _) st1 rfl⟩
theorem tm_cmp {op : CmpOp} {a b : Expr} {g : PV → PV → Option PV} {ma mb : M PV} (hb : BinR X cl (compareOp op) g) (ha : EM X cl W a ma) (hb' : EM X cl W b mb) (hm : behindInMarks op b = false) : TM X cl W (.Compare a [op] [b] pos) (mTest (mBin g ma mb)) := by
  obtain ⟨ta, pa, da⟩ := ha
  obtain ⟨tb, pb, db⟩ := hb'
  obtain ⟨r, ho, hs⟩ := hb
  exact ⟨_, pt_cmpR ho pa pb hm, does_test (does_bin hs da db)⟩
end
end Kp
set_option Elab.async false
set_option linter.all false
set_option maxRecDepth 100000
set_option maxHeartbeats 2000000
namespace Kp
open PySem L2

/-! ### statements -/
inductive Fl where
  | nx | rt (y : PV) | bk | ct
def SPost (K : PySem.W.Frag) (cl : Nat → Addr) (F : Fr) (W : WX) (G : Hp) (D : Ends) : Rs Fl → Prop
  | .ok .nx S' => ∀ (σ' : L2.St) (G' H' : Hp), Same G G' → StOk K cl F G' H' σ' S' → D.nx σ' H'
  | .ok (.rt y) S' => ∀ (v : V) (σ' : L2.St) (G' H' : Hp), Same G G' → StOk K cl F G' H' σ' S' → Rep K cl G' v y → D.rt v H'
  | .ok .bk S' => ∀ (σ' : L2.St) (G' H' : Hp), Same G G' → StOk K cl F G' H' σ' S' → D.bk σ' H'
  | .ok .ct S' => ∀ (σ' : L2.St) (G' H' : Hp), Same G G' → StOk K cl F G' H' σ' S' → D.ct σ' H'
  | .ex c fs S' => ∀ (d : Addr) (gs : List (Str × V)) (σ' : L2.St) (G' H' : Hp), Same G G' → StOk K cl F G' H' σ' S' → (H' d = some (.xd gs) ∧ F.H0 d = none ∧ F.R d = none) → RepF K cl G' gs fs → W (.ref (cl c)) (some d) σ' H'
def DoesS (K : PySem.W.Frag) (cl : Nat → Addr) (W : WX) (t : TS) (m : M Fl) : Prop :=
  ∀ (F : Fr) (G H : Hp) (σ : L2.St) (S : Sto) (r : Rs Fl) (D : Ends), StOk K cl F G H σ S → m S = some r → SPost K cl F W G D r → t D σ H
def SM (X : Cx) (cl : Nat → Addr) (W : WX) (st : Stmt) (m : M Fl) : Prop := ∃ t, PS X st t ∧ DoesS X.K cl W t m
def SMs (X : Cx) (cl : Nat → Addr) (W : WX) (st : List Stmt) (m : M Fl) : Prop := ∃ t, PSs X st t ∧ DoesS X.K cl W t m
section
variable {K : PySem.W.Frag} {cl : Nat → Addr} {F : Fr} {W : WX} {G G' H H' : Hp} {σ : L2.St} {S : Sto} {D : Ends}
theorem SPost.mono {r : Rs Fl} (e : Same G G') (h : SPost K cl F W G D r) : SPost K cl F W G' D r := by
  cases r with
  | ok y S' => cases y with
    | nx => exact fun σ' G2 H2 s k => h σ' G2 H2 (e.trans s) k
    | rt y => exact fun v σ' G2 H2 s k r => h v σ' G2 H2 (e.trans s) k r
    | bk => exact fun σ' G2 H2 s k => h σ' G2 H2 (e.trans s) k
    | ct => exact fun σ' G2 H2 s k => h σ' G2 H2 (e.trans s) k
  | ex c fs S' => exact fun d gs σ' G2 H2 s k a b => h d gs σ' G2 H2 (e.trans s) k a b
/-- an expression in a statement -/
theorem Does.stepS {α β : Type} {R1 : Hp → β → α → Prop} {t1 : L2.St → Hp → (β → Hp → Prop) → Prop} {m1 : M α} {k : α → M Fl} {r : Rs Fl} {Q1 : β → Hp → Prop}
    (h1 : Does K cl W R1 t1 m1) (st : StOk K cl F G H σ S) (hm : bnd m1 k S = some r) (hp : SPost K cl F W G D r)
    (hk : ∀ (y : α) (S1 : Sto) (v : β) (G1 H1 : Hp), k y S1 = some r → Same G G1 → StOk K cl F G1 H1 σ S1 → R1 G1 v y → SPost K cl F W G1 D r → Q1 v H1) : t1 σ H Q1 := by
  unfold bnd at hm
  cases e : m1 S with
  | none =>
    rw [e] at hm
    cases hm
  | some r1 =>
    rw [e] at hm
    cases r1 with
    | ok y S1 =>
      refine h1 F G H σ S _ Q1 st e ?_
      exact fun v G1 H1 s k1 x => hk y S1 v G1 H1 hm s k1 x (hp.mono s)
    | ex c fs S1 =>
      have hm' : Rs.ex c fs S1 = r := Option.some.inj hm
      subst hm'
      exact h1 F G H σ S _ Q1 st e (fun d gs G' H' s k a b => hp d gs σ G' H' s k a b)
end
def mNx : M Fl := ret .nx
def mSeq (m u : M Fl) : M Fl := bnd m fun f => match f with
  | .nx => u
  | y => ret y
section
variable {X : Cx} {cl : Nat → Addr} {W : WX} {pos : Pos}
theorem sm_nil : SMs X cl W [] mNx := ⟨_, pss_nil, fun F G H σ S r D st hm hp => by
  cases hm
  exact hp σ G H (Same.refl _) st⟩
theorem does_seq {t u : TS} {m n : M Fl} (h1 : DoesS X.K cl W t m) (h2 : DoesS X.K cl W u n) : DoesS X.K cl W (tSeq t u) (mSeq m n) := by
  intro F G H σ S r D st hm hp
  unfold mSeq bnd at hm
  cases e : m S with
  | none =>
    rw [e] at hm
    cases hm
  | some r1 =>
    rw [e] at hm
    cases r1 with
    | ok y S1 =>
      cases y with
      | nx =>
        refine h1 F G H σ S _ _ st e ?_
        exact fun σ1 G1 H1 s k => h2 F G1 H1 σ1 S1 r D k hm (hp.mono s)
      | rt y =>
        have hm' : Rs.ok (Fl.rt y) S1 = r := Option.some.inj hm
        subst hm'
        exact h1 F G H σ S _ _ st e hp
      | bk =>
        have hm' : Rs.ok Fl.bk S1 = r := Option.some.inj hm
        subst hm'
        exact h1 F G H σ S _ _ st e hp
      | ct =>
        have hm' : Rs.ok Fl.ct S1 = r := Option.some.inj hm
        subst hm'
        exact h1 F G H σ S _ _ st e hp
    | ex c fs S1 =>
      have hm' : Rs.ex c fs S1 = r := Option.some.inj hm
      subst hm'
      exact h1 F G H σ S _ _ st e hp
theorem sm_cons {st : Stmt} {rest : List Stmt} {m n : M Fl} (h1 : SM X cl W st m) (h2 : SMs X cl W rest n) : SMs X cl W (st :: rest) (mSeq m n) := by
  obtain ⟨t, pt, dt⟩ := h1
  obtain ⟨u, pu, du⟩ := h2
  exact ⟨_, pss_cons pt pu, does_seq dt du⟩
theorem sm_one {st : Stmt} {m : M Fl} (h1 : SM X cl W st m) : SMs X cl W [st] m := by
  obtain ⟨t, pt, dt⟩ := h1
  exact ⟨_, pss_one pt, dt⟩
def mRet (m : M PV) : M Fl := bnd m fun x => ret (.rt x)
theorem sm_ret {e : Expr} {m : M PV} (h : EM X cl W e m) : SM X cl W (.Return (some e) pos) (mRet m) := by
  obtain ⟨t, p, d⟩ := h
  refine ⟨_, ps_ret p, fun F G H σ S r D st hm hp => ?_⟩
  refine d.stepS st hm hp fun y S1 v G1 H1 hm1 s1 st1 rv hp1 => ?_
  cases hm1
  exact hp1 v σ G1 H1 (Same.refl _) st1 rv
def mRetN : M Fl := ret (.rt .non)
theorem sm_retN : SM X cl W (.Return none pos) mRetN := ⟨_, ps_retN, fun F G H σ S r D st hm hp => by
  cases hm
  exact hp .non σ G H (Same.refl _) st .non⟩
theorem sm_pass : SM X cl W (.Pass pos) mNx := ⟨_, ps_pass, fun F G H σ S r D st hm hp => by
  cases hm
  exact hp σ G H (Same.refl _) st⟩
theorem sm_break : SM X cl W (.Break pos) (ret .bk) := ⟨_, ps_break, fun F G H σ S r D st hm hp => by
  cases hm
  exact hp σ G H (Same.refl _) st⟩
theorem sm_continue : SM X cl W (.Continue pos) (ret .ct) := ⟨_, ps_continue, fun F G H σ S r D st hm hp => by
  cases hm
  exact hp σ G H (Same.refl _) st⟩
def mDrop (m : M PV) : M Fl := bnd m fun _ => ret .nx
theorem sm_expr {e : Expr} {m : M PV} (h : EM X cl W e m) (hs : swapsWith e none pos.line X.env = pure false := by rfl) : SM X cl W (.Expr e pos) (mDrop m) := by
  obtain ⟨t, p, d⟩ := h
  refine ⟨_, ps_expr p hs, fun F G H σ S r D st hm hp => ?_⟩
  refine d.stepS st hm hp fun y S1 v G1 H1 hm1 s1 st1 rv hp1 => ?_
  cases hm1
  exact hp1 σ G1 H1 (Same.refl _) st1
def mIf (c : M Bool) (m n : M Fl) : M Fl := bnd c fun b => if b = true then m else n
theorem sm_if {c : Expr} {a b : List Stmt} {mc : M Bool} {m n : M Fl} (hc : TM X cl W c mc) (ha : SMs X cl W a m) (hb : SMs X cl W b n) : SM X cl W (.If c a b pos) (mIf mc m n) := by
  obtain ⟨tc, pc, dc⟩ := hc
  obtain ⟨ta, pa, da⟩ := ha
  obtain ⟨tb, pb, db⟩ := hb
  refine ⟨_, ps_if pc pa pb, fun F G H σ S r D st hm hp => ?_⟩
  refine dc.stepS st hm hp fun y S1 v G1 H1 hm1 s1 st1 rv hp1 => ?_
  cases rv
  cases y with
  | true => exact da F G1 H1 σ S1 r D st1 hm1 hp1
  | false => exact db F G1 H1 σ S1 r D st1 hm1 hp1
/-- a slot takes a plain value; one that a caller handed in stays -/
def put (i : Nat) (x : PV) : M Unit := fun S => match S[i]? with
  | some (some (.i _)) => none
  | none => none
  | _ => some (.ok () (S.set i (some (.p x))))
theorem io_none {K : PySem.W.Frag} {F : Fr} {G H : Hp} {σ : L2.St} {S : Sto} {i : Nat} (st : StOk K cl F G H σ S) (h : ∀ x, S[i]? ≠ some (some (.i x))) : F.io i = none := by
  cases q : F.io i with
  | none => rfl
  | some a =>
    obtain ⟨x, hx⟩ := st.io i a q
    exact absurd hx (h x)
theorem put_ok {K : PySem.W.Frag} {F : Fr} {G H : Hp} {σ : L2.St} {S S' : Sto} {i : Nat} {v : V} {x : PV} {u : Unit} (st : StOk K cl F G H σ S) (h : put i x S = some (.ok u S')) (r : Rep K cl G v x) : StOk K cl F G H (σ.set i (some v)) S' := by
  unfold put at h
  split at h
  · cases h
  · cases h
  · rename_i n1 n2
    cases h
    exact st.setp r (io_none st n1)
theorem put_ex {S S' : Sto} {i : Nat} {x : PV} {c fs} : put i x S ≠ some (.ex c fs S') := by
  intro h
  unfold put at h
  split at h <;> cases h
def mSet (i : Nat) (m : M PV) : M Fl := bnd m fun x => bnd (put i x) fun _ => ret .nx
theorem bnd_put {i : Nat} {x : PV} {S : Sto} {k : Unit → M Fl} {r : Rs Fl} (h : bnd (put i x) k S = some r) : ∃ S', put i x S = some (.ok () S') ∧ k () S' = some r := by
  unfold bnd at h
  cases e : put i x S with
  | none => rw [e] at h; cases h
  | some r1 =>
    rw [e] at h
    cases r1 with
    | ok y S1 => exact ⟨S1, rfl, h⟩
    | ex c fs S1 => exact absurd e put_ex
theorem sm_set {i : Nat} {x : Str} {e : Expr} {m : M PV} {pos' : Pos} (hN : X.N.Nodup) (hi : X.N[i]? = some x) (hx : Loc X.env.scope x) (h : EM X cl W e m) (hs : swapsWith e (some (.Name x pos')) pos.line X.env = pure false := by rfl)
    (hf : X.fn x = true ∨ X.env.scope.names.lookup x = some .local := by first | exact .inl rfl | exact .inr rfl | assumption) : SM X cl W (.Assign [.Name x pos'] e pos) (mSet i m) := by
  obtain ⟨t, p, d⟩ := h
  refine ⟨_, ps_set hN hi hx p hs hf, fun F G H σ S r D st hm hp => ?_⟩
  refine d.stepS st hm hp fun y S1 v G1 H1 hm1 s1 st1 rv hp1 => ?_
  obtain ⟨S2, h2, h3⟩ := bnd_put hm1
  cases h3
  exact hp1 _ G1 H1 (Same.refl _) (put_ok st1 h2 rv)
end

/-! ### for -/
/-- what a loop walks: the items are ys, they may be made on the way -/
def Walks (K : PySem.W.Frag) (cl : Nat → Addr) (J : It) (G : Hp) (ys : List PV) : Prop :=
  ∀ (i : Nat) (G2 H2 : Hp), Same G G2 → Same G2 H2 → (∀ y, ys[i]? = some y → J.go i H2 ∧ ∀ x H3, J.yld i H2 x H3 → Res1 K cl G2 H2 y x H3) ∧ (ys.length ≤ i → J.stop i H2)
/-- an iterable gives the items -/
def DoesI (K : PySem.W.Frag) (cl : Nat → Addr) (W : WX) (t : TI) (m : M (List PV)) : Prop :=
  ∀ (F : Fr) (G H : Hp) (σ : L2.St) (S : Sto) (ys : List PV) (S' : Sto) (R : It → Hp → Prop), StOk K cl F G H σ S → m S = some (.ok ys S') →
    (∀ (J : It) (G' H' : Hp), Same G G' → StOk K cl F G' H' σ S' → Walks K cl J G' ys → R J H') → t σ H R
def IM (X : Cx) (cl : Nat → Addr) (W : WX) (tg iter : Expr) (m : M (List PV)) : Prop := ∃ t, PI X tg iter t ∧ DoesI X.K cl W t m
/-- a target takes an item -/
def DoesG (K : PySem.W.Frag) (cl : Nat → Addr) (t : TG) (g : PV → Sto → Option Sto) : Prop :=
  ∀ (F : Fr) (G H : Hp) (σ : L2.St) (S S' : Sto) (v : V) (y : PV) (Q : L2.St → Hp → Prop), StOk K cl F G H σ S → Rep K cl G v y → g y S = some S' →
    (∀ σ', StOk K cl F G H σ' S' → Q σ' H) → t v σ H Q
def GM (X : Cx) (cl : Nat → Addr) (tg : Expr) (g : PV → Sto → Option Sto) : Prop := ∃ t, PG X tg t ∧ DoesG X.K cl t g
def loop (g : PV → Sto → Option Sto) (m : M Fl) : List PV → M Fl
  | [] => ret .nx
  | y :: ys => fun S => match g y S with
    | none => none
    | some S1 => match m S1 with
      | none => none
      | some (.ok .nx S2) => loop g m ys S2
      | some (.ok .ct S2) => loop g m ys S2
      | some (.ok .bk S2) => some (.ok .nx S2)
      | some r => some r
def mFor (mi : M (List PV)) (g : PV → Sto → Option Sto) (m : M Fl) : M Fl := fun S => match mi S with
  | some (.ok ys S') => loop g m ys S'
  | _ => none
section
variable {X : Cx} {cl : Nat → Addr} {W : WX} {pos : Pos}
theorem does_for {wi : TI} {tg : TG} {tb : TS} {mi : M (List PV)} {g : PV → Sto → Option Sto} {m : M Fl} (hi : DoesI X.K cl W wi mi) (hg : DoesG X.K cl tg g) (hb : DoesS X.K cl W tb m) : DoesS X.K cl W (tFor wi tg tb) (mFor mi g m) := by
  intro F G H σ S r D st hm hp
  unfold mFor at hm
  split at hm <;> try (cases hm; done)
  rename_i ys S1 e1
  refine hi F G H σ S ys S1 _ st e1 fun J G1 H1 s1 st1 hw => ?_
  refine ⟨fun i n σ' H' => n + i = ys.length ∧ ∃ G' S', Same G1 G' ∧ StOk X.K cl F G' H' σ' S' ∧ loop g m (ys.drop i) S' = some r, ⟨ys.length, Nat.add_zero _, G1, S1, Same.refl _, st1, hm⟩, ?_⟩
  rintro i n σ' H' ⟨hn, G', S', s', st', hl⟩
  obtain ⟨hgo, hstop⟩ := hw i G' H' s' st'.ex
  have sG : Same G G' := s1.trans s'
  cases e : ys[i]? with
  | none =>
    have hle : ys.length ≤ i := List.getElem?_eq_none_iff.mp e
    refine .inl ⟨hstop hle, ?_⟩
    rw [List.drop_eq_nil_of_le hle] at hl
    cases hl
    exact hp σ' G' H' sG st'
  | some y =>
    obtain ⟨hlt, _⟩ := List.getElem?_eq_some_iff.mp e
    have hd : ys.drop i = y :: ys.drop (i + 1) := by
      rw [List.drop_eq_getElem_cons hlt]
      have : ys[i] = y := by
        have := List.getElem?_eq_getElem hlt
        rw [e] at this
        exact (Option.some.inj this).symm
      rw [this]
    rw [hd] at hl
    unfold loop at hl
    cases eg : g y S' with
    | none => rw [eg] at hl; cases hl
    | some S2 =>
      rw [eg] at hl
      replace hl : (match m S2 with
        | none => none
        | some (.ok .nx S2) => loop g m (ys.drop (i + 1)) S2
        | some (.ok .ct S2) => loop g m (ys.drop (i + 1)) S2
        | some (.ok .bk S2) => some (.ok .nx S2)
        | some r => some r) = some r := hl
      obtain ⟨go, hy⟩ := hgo y e
      refine .inr ⟨go, fun σ3 H3 => (n - 1) + (i + 1) = ys.length ∧ ∃ G' S', Same G1 G' ∧ StOk X.K cl F G' H3 σ3 S' ∧ loop g m (ys.drop (i + 1)) S' = some r, fun σ3 H3 q => ⟨n - 1, by omega, q⟩, fun x H3 hx => ?_⟩
      obtain ⟨G3, s3, st3, r3⟩ := st'.res1 (hy x H3 hx)
      refine hg F G3 H3 σ' S' S2 x y _ st3 r3 eg fun σ4 st4 => ?_
      cases em : m S2 with
      | none => rw [em] at hl; cases hl
      | some rr =>
        rw [em] at hl
        refine hb F G3 H3 σ4 S2 _ _ st4 em ?_
        cases rr with
        | ok f S5 =>
          cases f with
          | nx => exact fun σ5 G5 H5 s5 st5 => ⟨by omega, G5, S5, (s'.trans s3).trans s5, st5, hl⟩
          | ct => exact fun σ5 G5 H5 s5 st5 => ⟨by omega, G5, S5, (s'.trans s3).trans s5, st5, hl⟩
          | bk =>
            cases hl
            exact fun σ5 G5 H5 s5 st5 => hp σ5 G5 H5 ((sG.trans s3).trans s5) st5
          | rt y =>
            cases hl
            exact fun v σ5 G5 H5 s5 st5 r5 => hp v σ5 G5 H5 ((sG.trans s3).trans s5) st5 r5
        | ex c fs S5 =>
          cases hl
          exact fun d gs σ5 G5 H5 s5 st5 a b => hp d gs σ5 G5 H5 ((sG.trans s3).trans s5) st5 a b
theorem sm_for {tg iter : Expr} {body : List Stmt} {mi : M (List PV)} {g : PV → Sto → Option Sto} {m : M Fl} (hp : PassesOwn (model X.prog X.w) X.A X.env X.xe) (hc : X.calm = true) (hi : IM X cl W tg iter mi) (hg : GM X cl tg g) (hb : SMs X cl W body m)
    (hs : ∀ x, foldedSetIterable iter X.env x = pure x := by intro _; rfl) : SM X cl W (.For tg iter body [] pos) (mFor mi g m) := by
  obtain ⟨wi, pi, di⟩ := hi
  obtain ⟨t, pg, dg⟩ := hg
  obtain ⟨tb, pb, db⟩ := hb
  exact ⟨_, ps_for hp hc pi pg pb hs, does_for di dg db⟩
/-- the target a name -/
def gN (i : Nat) : PV → Sto → Option Sto := fun y S => match put i y S with
  | some (.ok _ S') => some S'
  | _ => none
theorem gm_name {i : Nat} {x : Str} (hN : X.N.Nodup) (hi : X.N[i]? = some x) (hx : Loc X.env.scope x) (hf : X.fn x = true ∨ X.env.scope.names.lookup x = some .local := by first | exact .inl rfl | exact .inr rfl | assumption) : GM X cl (.Name x pos) (gN i) := by
  refine ⟨_, pg_name hN hi hx hf, fun F G H σ S S' v y Q st r h k => ?_⟩
  unfold gN at h
  split at h
  · rename_i u S2 e
    cases h
    exact k _ (put_ok st e r)
  · cases h
/-- over a list, a tuple -/
def mIter (m : M PV) : M (List PV) := bnd m fun x => match x with
  | .lst xs => ret xs
  | .frl ns => ret (ns.map PV.int)
  | _ => fun _ => none
def mIterT (m : M PV) : M (List PV) := bnd m fun x => match x with
  | .tup xs => ret xs
  | _ => fun _ => none
theorem bnd_some {α β : Type} {m : M α} {k : α → M β} {S : Sto} {r : Rs β} (h : bnd m k S = some r) : (∃ x S1, m S = some (.ok x S1) ∧ k x S1 = some r) ∨ ∃ c fs S1, m S = some (.ex c fs S1) ∧ r = .ex c fs S1 := by
  unfold bnd at h
  split at h
  · rename_i x S1 e
    exact .inl ⟨x, S1, e, h⟩
  · rename_i c fs S1 e
    exact .inr ⟨c, fs, S1, e, (Option.some.inj h).symm⟩
  · cases h
theorem walks_list {G : Hp} {a : Addr} {vs : List V} {ys : List PV} (h : SqL X.K G a vs) (r : RepL X.K cl G vs ys) : Walks X.K cl (Itl X.K a) G ys := by
  intro i G2 H2 s1 s2
  have q : SqL X.K H2 a vs := s2.seq (s1.seq h)
  refine ⟨fun y e => ?_, fun e => ⟨vs, q, by rw [r.length]; exact e⟩⟩
  obtain ⟨v, ev, rv⟩ := r.get e
  refine ⟨⟨vs, v, q, ev⟩, fun x H3 hy => ?_⟩
  obtain ⟨e3, hy⟩ := hy
  have ex := hy vs q
  rw [ev] at ex
  cases ex
  exact .inl ⟨e3, rv.mono s1⟩
theorem walks_tup {G : Hp} {a : Addr} {vs : List V} {ys : List PV} (h : TupAt X.K G a vs) (r : RepL X.K cl G vs ys) : Walks X.K cl (Itt X.K a) G ys := by
  intro i G2 H2 s1 s2
  have q : SqT X.K H2 a vs := sqt_mono (s1.trans s2) h
  refine ⟨fun y e => ?_, fun e => ⟨vs, q, by rw [r.length]; exact e⟩⟩
  obtain ⟨v, ev, rv⟩ := r.get e
  refine ⟨⟨vs, v, q, ev⟩, fun x H3 hy => ?_⟩
  obtain ⟨e3, hy⟩ := hy
  have ex := hy vs q
  rw [ev] at ex
  cases ex
  exact .inl ⟨e3, rv.mono s1⟩
theorem repL_ints {K : PySem.W.Frag} {G : Hp} : ∀ ns : List Int, RepL K cl G (ns.map V.int) (ns.map PV.int)
  | [] => .nil
  | n :: ns => .cons (.int n) (repL_ints ns)
theorem im_list {tg l : Expr} {m : M PV} (h : EM X cl W l m) : IM X cl W tg l (mIter m) := by
  obtain ⟨t, p, d⟩ := h
  refine ⟨_, pi_list p, fun F G H σ S ys S' R st hm k => ?_⟩
  rcases bnd_some hm with ⟨x, S1, e1, e2⟩ | ⟨c, fs, S1, _, e2⟩
  · cases x <;> try (cases e2; done)
    · cases e2
      refine d F G H σ S _ _ st e1 fun v G1 H1 s1 st1 rv => ?_
      cases rv with
      | lst hs hz hr => exact ⟨_, rfl, ⟨_, .inl (.inl (st1.ex _ _ hs))⟩, k _ G1 H1 s1 st1 (walks_list (.inl (.inl hs)) hr)⟩
    · cases e2
      refine d F G H σ S _ _ st e1 fun v G1 H1 s1 st1 rv => ?_
      cases rv with
      | frl hs => exact ⟨_, rfl, ⟨_, st1.ex.seq hs⟩, k _ G1 H1 s1 st1 (walks_list hs (repL_ints _))⟩
  · cases e2
theorem im_tup {tg l : Expr} {m : M PV} (h : EM X cl W l m) : IM X cl W tg l (mIterT m) := by
  obtain ⟨t, p, d⟩ := h
  refine ⟨_, pi_tup p, fun F G H σ S ys S' R st hm k => ?_⟩
  rcases bnd_some hm with ⟨x, S1, e1, e2⟩ | ⟨c, fs, S1, _, e2⟩
  · cases x <;> try (cases e2; done)
    cases e2
    refine d F G H σ S _ _ st e1 fun v G1 H1 s1 st1 rv => ?_
    cases rv with
    | tup hs hz hr => exact ⟨_, rfl, ⟨_, sqt_mono st1.ex hs⟩, k _ G1 H1 s1 st1 (walks_tup hs hr)⟩
  · cases e2
end
end Kp
set_option Elab.async false
set_option linter.all false
set_option maxRecDepth 100000
set_option maxHeartbeats 2000000
namespace Kp
open PySem PyProof.Rows L2

/-! ### what a def promises -/
inductive RO where
  | ret (y : PV) | exc (c : Nat) (fs : List (Str × PV))
/-- the heap behind a call that changed nothing that stood -/
structure Grown (G H G' H' : Hp) : Prop where
  g : Same G G'
  gh : Same G' H'
  h : Same H H'
  new : ∀ (a : Addr) (o : HO), G' a = some o → G a = some o ∨ H a = none
/-- behind a call that changed the object at a alone -/
structure GrownI (a : Addr) (G H G' H' : Hp) : Prop where
  g : Same G G'
  gh : Same G' H'
  h : ∀ (b : Addr) (o : HO), b ≠ a → H b = some o → H' b = some o
  new : ∀ (a : Addr) (o : HO), G' a = some o → G a = some o ∨ H a = none
def spP (K : PySem.W.Frag) (cl : Nat → Addr) (n : Nat) (f : List PV → Option RO) : Sp := fun vs H Q E => vs.length = n ∧ ∃ (G : Hp) (xs : List PV) (r : RO), Same G H ∧ RepL K cl G vs xs ∧ f xs = some r ∧
  match r with
  | .ret y => ∀ (v : V) (G' H' : Hp), Grown G H G' H' → Rep K cl G' v y → Q v H'
  | .exc c fs => ∀ (d : Addr) (gs : List (Str × V)) (G' H' : Hp), Grown G H G' H' → (H' d = some (.xd gs) ∧ H d = none) → RepF K cl G' gs fs → E (.ref (cl c)) (some d) H'
/-- the first parameter is changed -/
def spI (K : PySem.W.Frag) (cl : Nat → Addr) (n : Nat) (f : PV → List PV → Option (PV × RO)) : Sp := fun vs H Q E => vs.length = n ∧ ∃ (a : Addr) (ws : List V) (G : Hp) (x x' : PV) (xs : List PV) (r : RO), vs = .ref a :: ws ∧ Same G H ∧ G a = none ∧
  OwnAt K cl G H a x ∧ RepL K cl G ws xs ∧ f x xs = some (x', r) ∧
  match r with
  | .ret y => ∀ (v : V) (G' H' : Hp), GrownI a G H G' H' → OwnAt K cl G' H' a x' → Rep K cl G' v y → Q v H'
  | .exc c fs => ∀ (d : Addr) (gs : List (Str × V)) (G' H' : Hp), GrownI a G H G' H' → OwnAt K cl G' H' a x' → (H' d = some (.xd gs) ∧ H d = none) → RepF K cl G' gs fs → E (.ref (cl c)) (some d) H'
def stoP (N : Nat) (xs : List PV) : Sto := xs.map (fun x => some (.p x)) ++ List.replicate (N - xs.length) none
def endP : Option (Rs Fl) → Option RO
  | some (.ok .nx _) => some (.ret .non)
  | some (.ok (.rt y) _) => some (.ret y)
  | some (.ex c fs _) => some (.exc c fs)
  | _ => none
def runP (N : Nat) (m : M Fl) (xs : List PV) : Option RO := endP (m (stoP N xs))
def endI : Option (Rs Fl) → Option (PV × RO)
  | some (.ok .nx (some (.i x) :: _)) => some (x, .ret .non)
  | some (.ok (.rt y) (some (.i x) :: _)) => some (x, .ret y)
  | some (.ex c fs (some (.i x) :: _)) => some (x, .exc c fs)
  | _ => none
def runI (N : Nat) (m : M Fl) (x : PV) (xs : List PV) : Option (PV × RO) := endI (m (some (.i x) :: stoP (N - 1) xs))

section
variable {K : PySem.W.Frag} {cl : Nat → Addr} {F : Fr} {G G' H H' : Hp} {σ : L2.St} {S : Sto}
theorem StOk.grown (k : StOk K cl F G H σ S) (g : Grown G H G' H') : StOk K cl F G' H' σ S := by
  have gn : ∀ {a : Addr} {x : PV}, G a = none → OwnAt K cl G H a x → G' a = none ∧ H' a = H a := fun {a x} n q => by
    obtain ⟨o, e⟩ := q.there
    refine ⟨?_, by rw [e]; exact g.h a o e⟩
    cases z : G' a with
    | none => rfl
    | some u =>
      rcases g.new a u z with y | y
      · rw [n] at y; cases y
      · rw [e] at y; cases y
  refine ⟨g.gh, k.ex0.trans g.g, k.len, fun i x e => ?_, fun i x e => ?_, fun i x e => ?_, k.dist, k.io, k.ioh, k.iod, fun a o e n => g.h a o (k.frame a o e n), fun a o e => ?_, fun a o e => ?_⟩
  · obtain ⟨v, e1, r⟩ := k.val i x e
    exact ⟨v, e1, r.mono g.g⟩
  · obtain ⟨a, e1, ga, ha, q⟩ := k.own i x e
    obtain ⟨n, e2⟩ := gn ga q
    exact ⟨a, e1, n, ha, q.mono g.g e2⟩
  · obtain ⟨a, e1, ga, ha, q⟩ := k.inn i x e
    obtain ⟨n, e2⟩ := gn ga q
    exact ⟨a, e1, n, ha, q.mono g.g e2⟩
  · rcases g.new a o e with y | y
    · exact k.gnew a o y
    · exact .inr (k.free0 y)
  · obtain ⟨r1, r2, r3, r4⟩ := k.rsv a o e
    refine ⟨g.h a o r1, ?_, r3, r4⟩
    cases z : G' a with
    | none => rfl
    | some u =>
      rcases g.new a u z with y | y
      · rw [r2] at y; cases y
      · rw [r1] at y; cases y
/-- behind a call that changed the own object of slot i -/
theorem StOk.grownO (k : StOk K cl F G H σ S) {i : Nat} {a : Addr} {x y : PV} (hs : S[i]? = some (some (.o x))) (ha : σ[i]? = some (some (V.ref a))) (g : GrownI a G H G' H') (q : OwnAt K cl G' H' a y) : StOk K cl F G' H' σ (S.set i (some (.o y))) := by
  obtain ⟨a', e1, ga, h0, w⟩ := k.own i x hs
  rw [ha] at e1
  cases e1
  have gn : ∀ {b : Addr} {z : PV}, G b = none → OwnAt K cl G H b z → G' b = none := fun {b z} n q => by
    obtain ⟨o, e⟩ := q.there
    cases y : G' b with
    | none => rfl
    | some u =>
      rcases g.new b u y with y | y
      · rw [n] at y; cases y
      · rw [e] at y; cases y
  have hb : ∀ {b : Addr} {z : PV}, b ≠ a → OwnAt K cl G H b z → H' b = H b := fun {b z} n q => by
    obtain ⟨o, e⟩ := q.there
    rw [e]; exact g.h b o n e
  refine ⟨g.gh, k.ex0.trans g.g, by rw [List.length_set]; exact k.len, fun j z e => ?_, fun j z e => ?_, fun j z e => ?_, fun j l b y' z e1 e2 e3 e4 => ?_, fun j b e => ?_, k.ioh, k.iod, fun b u e n => ?_, fun b o e => ?_, fun b o e => ?_⟩
  · rcases set_get e with ⟨rfl, q, lt⟩ | ⟨n, q⟩
    · cases q
    · obtain ⟨v, e1, r⟩ := k.val j z q
      exact ⟨v, e1, r.mono g.g⟩
  · rcases set_get e with ⟨rfl, q', lt⟩ | ⟨n, q'⟩
    · cases q'
      exact ⟨a, ha, gn ga w, h0, q⟩
    · obtain ⟨b, e1, gb, hb0, w'⟩ := k.own j z q'
      have ne : b ≠ a := fun zz => n (k.dist j i b z x q' hs e1 (by rw [zz]; exact ha))
      exact ⟨b, e1, gn gb w', hb0, w'.mono g.g (hb ne w')⟩
  · rcases set_get e with ⟨rfl, q, lt⟩ | ⟨n, q'⟩
    · cases q
    · obtain ⟨b, e1, gb, hb0, w'⟩ := k.inn j z q'
      have ne : b ≠ a := fun zz => by
        obtain ⟨u, hu⟩ := k.ioh j b hb0
        rw [zz, h0] at hu
        cases hu
      exact ⟨b, e1, gn gb w', hb0, w'.mono g.g (hb ne w')⟩
  · have hj : ∃ y0, S[j]? = some (some (.o y0)) := by
      rcases set_get e1 with ⟨rfl, q, lt⟩ | ⟨n, q⟩
      · exact ⟨x, hs⟩
      · exact ⟨_, q⟩
    have hl : ∃ y0, S[l]? = some (some (.o y0)) := by
      rcases set_get e2 with ⟨rfl, q, lt⟩ | ⟨n, q⟩
      · exact ⟨x, hs⟩
      · exact ⟨_, q⟩
    obtain ⟨y1, h1⟩ := hj
    obtain ⟨y2, h2⟩ := hl
    exact k.dist j l b y1 y2 h1 h2 e3 e4
  · obtain ⟨x', hx⟩ := k.io j b e
    refine ⟨x', ?_⟩
    rw [List.getElem?_set_ne (fun z => by rw [← z, hs] at hx; cases hx)]
    exact hx
  · exact g.h b u (fun z => by rw [z, h0] at e; cases e) (k.frame b u e n)
  · rcases g.new b o e with y | y
    · exact k.gnew b o y
    · exact .inr (k.free0 y)
  · obtain ⟨r1, r2, r3, r4⟩ := k.rsv b o e
    have ne : b ≠ a := fun z => r4 i x hs (by rw [z]; exact ha)
    refine ⟨g.h b o ne r1, ?_, r3, fun j y' q' z => ?_⟩
    · cases z : G' b with
      | none => rfl
      | some u =>
        rcases g.new b u z with y | y
        · rw [r2] at y; cases y
        · rw [r1] at y; cases y
    rcases set_get q' with ⟨rfl, q2, lt⟩ | ⟨n, q2⟩
    · exact r4 j x hs z
    · exact r4 j y' q2 z
theorem StOk.grownII (k : StOk K cl F G H σ S) {i : Nat} {a : Addr} {x y : PV} (hs : S[i]? = some (some (.i x))) (ha : σ[i]? = some (some (V.ref a))) (g : GrownI a G H G' H') (q : OwnAt K cl G' H' a y) : StOk K cl F G' H' σ (S.set i (some (.i y))) := by
  obtain ⟨a', e1, ga, hio, w⟩ := k.inn i x hs
  rw [ha] at e1
  cases e1
  have gn : ∀ {b : Addr} {z : PV}, G b = none → OwnAt K cl G H b z → G' b = none := fun {b z} n q => by
    obtain ⟨o, e⟩ := q.there
    cases y : G' b with
    | none => rfl
    | some u =>
      rcases g.new b u y with y | y
      · rw [n] at y; cases y
      · rw [e] at y; cases y
  have hb : ∀ {b : Addr} {z : PV}, b ≠ a → OwnAt K cl G H b z → H' b = H b := fun {b z} n q => by
    obtain ⟨o, e⟩ := q.there
    rw [e]; exact g.h b o n e
  refine ⟨g.gh, k.ex0.trans g.g, by rw [List.length_set]; exact k.len, fun j z e => ?_, fun j z e => ?_, fun j z e => ?_, fun j l b y' z e1 e2 e3 e4 => ?_, fun j b e => ?_, k.ioh, k.iod, fun b u e n => ?_, fun b o e => ?_, fun b o e => ?_⟩
  · rcases set_get e with ⟨rfl, q, lt⟩ | ⟨n, q⟩
    · cases q
    · obtain ⟨v, e1, r⟩ := k.val j z q
      exact ⟨v, e1, r.mono g.g⟩
  · rcases set_get e with ⟨rfl, q', lt⟩ | ⟨n, q'⟩
    · cases q'
    · obtain ⟨b, e1, gb, hb0, w'⟩ := k.own j z q'
      have ne : b ≠ a := fun zz => by
        obtain ⟨u, hu⟩ := k.ioh i a hio
        rw [← zz, hb0] at hu
        cases hu
      exact ⟨b, e1, gn gb w', hb0, w'.mono g.g (hb ne w')⟩
  · rcases set_get e with ⟨rfl, q', lt⟩ | ⟨n, q'⟩
    · cases q'
      exact ⟨a, ha, gn ga w, hio, q⟩
    · obtain ⟨b, e1, gb, hb0, w'⟩ := k.inn j z q'
      have ne : b ≠ a := fun zz => n (k.iod j i b hb0 (by rw [zz]; exact hio))
      exact ⟨b, e1, gn gb w', hb0, w'.mono g.g (hb ne w')⟩
  · rcases set_get e1 with ⟨rfl, q, lt⟩ | ⟨n, q1⟩
    · cases q
    · rcases set_get e2 with ⟨rfl, q, lt⟩ | ⟨n, q2⟩
      · cases q
      · exact k.dist j l b _ _ q1 q2 e3 e4
  · by_cases z : j = i
    · subst z
      exact ⟨y, List.getElem?_set_self ((List.getElem?_eq_some_iff.mp hs).1)⟩
    · obtain ⟨x', hx⟩ := k.io j b e
      exact ⟨x', by rw [List.getElem?_set_ne (Ne.symm z)]; exact hx⟩
  · exact g.h b u (fun z => n i (by rw [z]; exact hio)) (k.frame b u e n)
  · rcases g.new b o e with y | y
    · exact k.gnew b o y
    · exact .inr (k.free0 y)
  · obtain ⟨r1, r2, r3, r4⟩ := k.rsv b o e
    have ne : b ≠ a := fun z => by
      obtain ⟨u', hu⟩ := k.ioh i a hio
      rw [← z, r3] at hu
      cases hu
    refine ⟨g.h b o ne r1, ?_, r3, fun j y' q' z => ?_⟩
    · cases z : G' b with
      | none => rfl
      | some u =>
        rcases g.new b u z with y | y
        · rw [r2] at y; cases y
        · rw [r1] at y; cases y
    rcases set_get q' with ⟨rfl, q2, lt⟩ | ⟨n, q2⟩
    · cases q2
    · exact r4 j y' q2 z
end

/-! ### the stores at a def's entry -/
theorem get_replicate {α : Type} {n i : Nat} {x y : α} (h : (List.replicate n x)[i]? = some y) : y = x := by
  rw [List.getElem?_replicate] at h
  split at h
  · exact (Option.some.inj h).symm
  · cases h
theorem stoP_get {N : Nat} {xs : List PV} {i : Nat} {y : SV} (h : (stoP N xs)[i]? = some (some y)) : ∃ x, xs[i]? = some x ∧ y = .p x := by
  unfold stoP at h
  by_cases z : i < xs.length
  · rw [List.getElem?_append_left (by rw [List.length_map]; exact z), List.getElem?_map] at h
    cases e : xs[i]? with
    | none => rw [e] at h; cases h
    | some x =>
      rw [e] at h
      exact ⟨x, rfl, by injection h with h; injection h with h; exact h.symm⟩
  · rw [List.getElem?_append_right (by rw [List.length_map]; omega)] at h
    have := get_replicate h
    cases this
theorem start_get {N : List Str} {vs : List V} {i : Nat} {v : V} (h : vs[i]? = some v) : (L2.start N vs)[i]? = some (some v) := by
  unfold L2.start
  obtain ⟨hi, e⟩ := List.getElem?_eq_some_iff.mp h
  rw [List.getElem?_append_left (by rw [List.length_map]; exact hi), List.getElem?_map, h]
  rfl
theorem start_len {N : List Str} {vs : List V} (h : vs.length ≤ N.length) : (L2.start N vs).length = N.length := by
  unfold L2.start
  rw [List.length_append, List.length_map, List.length_replicate]
  omega
theorem stoP_len {N : Nat} {xs : List PV} (h : xs.length ≤ N) : (stoP N xs).length = N := by
  unfold stoP
  rw [List.length_append, List.length_map, List.length_replicate]
  omega
theorem stOk_startP {K : PySem.W.Frag} {cl : Nat → Addr} {G H : Hp} {N : List Str} {vs : List V} {xs : List PV} (e : Same G H) (r : RepL K cl G vs xs) (hl : vs.length ≤ N.length) :
    StOk K cl ⟨G, H, fun _ => none, fun _ => none⟩ G H (L2.start N vs) (stoP N.length xs) := by
  refine ⟨e, Same.refl _, ?_, fun i x h => ?_, fun i x h => ?_, fun i x h => ?_, fun i j a x y h _ _ _ => ?_, fun i a h => ?_, fun i a h => ?_, fun i j a h => ?_, fun a o h _ => h, fun a o h => .inl h, fun a o h => by cases h⟩
  · rw [start_len hl, stoP_len (by rw [← r.length]; exact hl)]
  · obtain ⟨x', hx, q⟩ := stoP_get h
    cases q
    obtain ⟨v, ev, rv⟩ := r.get hx
    exact ⟨v, start_get ev, rv⟩
  · obtain ⟨x', hx, q⟩ := stoP_get h
    cases q
  · obtain ⟨x', hx, q⟩ := stoP_get h
    cases q
  · obtain ⟨x', hx, q⟩ := stoP_get h
    cases q
  · cases h
  · cases h
  · cases h
theorem stOk_startI {K : PySem.W.Frag} {cl : Nat → Addr} {G H : Hp} {N : List Str} {a : Addr} {x : PV} {vs : List V} {xs : List PV} (e : Same G H) (ga : G a = none) (q : OwnAt K cl G H a x) (r : RepL K cl G vs xs) (hl : vs.length + 1 ≤ N.length) :
    StOk K cl ⟨G, H, fun i => if i = 0 then some a else none, fun _ => none⟩ G H (L2.start N (.ref a :: vs)) (some (.i x) :: stoP (N.length - 1) xs) := by
  have tl : ∀ {i : Nat} {y : SV}, (some (SV.i x) :: stoP (N.length - 1) xs)[i]? = some (some y) → (i = 0 ∧ y = .i x) ∨ ∃ j z, i = j + 1 ∧ xs[j]? = some z ∧ y = .p z := fun {i y} h => by
    cases i with
    | zero =>
      have h' : some (SV.i x) = some y := by simpa using h
      exact .inl ⟨rfl, (Option.some.inj h').symm⟩
    | succ j =>
      have h' : (stoP (N.length - 1) xs)[j]? = some (some y) := by simpa using h
      obtain ⟨z, e1, e2⟩ := stoP_get h'
      exact .inr ⟨j, z, rfl, e1, e2⟩
  refine ⟨e, Same.refl _, ?_, fun i y h => ?_, fun i y h => ?_, fun i y h => ?_, fun i j b y z h1 h2 _ _ => ?_, fun i b h => ?_, fun i b h => ?_, fun i j b h1 h2 => ?_, fun b o h _ => h, fun b o h => .inl h, fun b o h => by cases h⟩
  · rw [start_len (by rw [List.length_cons]; exact hl), List.length_cons, stoP_len (by rw [← r.length]; omega)]
    omega
  · rcases tl h with ⟨_, q'⟩ | ⟨j, z, rfl, e1, e2⟩
    · cases q'
    · cases e2
      obtain ⟨v, ev, rv⟩ := r.get e1
      exact ⟨v, start_get (by simpa using ev), rv⟩
  · rcases tl h with ⟨_, q'⟩ | ⟨j, z, rfl, e1, e2⟩
    · cases q'
    · cases e2
  · rcases tl h with ⟨e0, q'⟩ | ⟨j, z, rfl, e1, e2⟩
    · cases q'
      subst e0
      exact ⟨a, start_get (by simp), ga, rfl, q⟩
    · cases e2
  · rcases tl h1 with ⟨e0, q'⟩ | ⟨j, z, rfl, e1, e2⟩
    · cases q'
    · cases e2
  · dsimp only at h
    split at h
    · rename_i z
      subst z
      exact ⟨x, rfl⟩
    · cases h
  · dsimp only at h
    split at h
    · cases h
      exact q.there
    · cases h
  · dsimp only at h1 h2
    split at h1
    · split at h2
      · rename_i z1 z2
        rw [z1, z2]
      · cases h2
    · cases h1

section
variable {P : Program} {w : World} {K : PySem.W.Frag} {mg : Str → Option Value} {base : Heap} {cl : Nat → Addr}
/-- a def whose body is a computation over stores -/
theorem fnP {x qual : Str} {st : Stmt} {f : Addr} {fd : FuncData} {N ps : List Str} {k : Nat} {m : M Fl} (F : Fun K x qual st f fd) (S : FnScope N ps (defScope st))
    (hb : ∀ (cdv : Value) (A : Around) (outer : List Env) (s : Shared) (H : Hp) (E : XK), Room k (A.deeper (envOfC qual (defScope st) s.heap.objs.size f cdv)) →
      SMs (cxOf (L2N.CX P w) P w K mg base N qual (defScope st) f cdv A outer s H E) cl (fun c d _ H' => E c d H') (defBody st) m) :
    FnOk P w K mg base (L2N.CX P w) (k + 1) f fd ps (spP K cl ps.length (runP N.length m)) := by
  obtain ⟨oc, od, kV, doc, pm, an, cdv, ct, osl, rfl, lk, hcd⟩ := F.ex
  have hps : ps.length ≤ N.length := by
    have := congrArg List.length S.pre
    rw [List.length_take] at this
    omega
  refine fn_of lk hcd S (fun vs H Q E h => h.1) fun A outer s H vs Q E hr hsp => ?_
  obtain ⟨t, pt, dt⟩ := hb cdv A outer s H E hr
  obtain ⟨hl, G, xs, r, e, rl, hf, hq⟩ := hsp
  refine ⟨t, pt, ?_⟩
  have st0 := stOk_startP (N := N) e rl (by rw [hl]; exact hps)
  unfold runP endP at hf
  have gr : ∀ {G' H' : Hp} {σ' : L2.St} {S' : Sto}, Same G G' → StOk K cl ⟨G, H, fun _ => none, fun _ => none⟩ G' H' σ' S' → Grown G H G' H' := fun {G' H' σ' S'} s k => ⟨s, k.ex, fun a o h => k.frame a o h (fun i z => by cases z), k.gnew⟩
  split at hf
  · rename_i S' em
    cases hf
    exact dt _ G H _ _ _ _ st0 em fun σ' G' H' s' k' => hq .non G' H' (gr s' k') .non
  · rename_i y S' em
    cases hf
    exact dt _ G H _ _ _ _ st0 em fun v σ' G' H' s' k' r' => hq v G' H' (gr s' k') r'
  · rename_i c fs S' em
    cases hf
    exact dt _ G H _ _ _ _ st0 em fun d gs σ' G' H' s' k' a b => hq d gs G' H' (gr s' k') ⟨a.1, a.2.1⟩ b
  · cases hf
theorem fnI {x qual : Str} {st : Stmt} {f : Addr} {fd : FuncData} {N ps : List Str} {k : Nat} {m : M Fl} (F : Fun K x qual st f fd) (S : FnScope N ps (defScope st))
    (hb : ∀ (cdv : Value) (A : Around) (outer : List Env) (s : Shared) (H : Hp) (E : XK), Room k (A.deeper (envOfC qual (defScope st) s.heap.objs.size f cdv)) →
      SMs (cxOf (L2N.CX P w) P w K mg base N qual (defScope st) f cdv A outer s H E) cl (fun c d _ H' => E c d H') (defBody st) m) :
    FnOk P w K mg base (L2N.CX P w) (k + 1) f fd ps (spI K cl ps.length (runI N.length m)) := by
  obtain ⟨oc, od, kV, doc, pm, an, cdv, ct, osl, rfl, lk, hcd⟩ := F.ex
  have hps : ps.length ≤ N.length := by
    have := congrArg List.length S.pre
    rw [List.length_take] at this
    omega
  refine fn_of lk hcd S (fun vs H Q E h => h.1) fun A outer s H vs Q E hr hsp => ?_
  obtain ⟨t, pt, dt⟩ := hb cdv A outer s H E hr
  obtain ⟨hl, a, ws, G, x, x', xs, r, rfl, e, ga, ho, rl, hf, hq⟩ := hsp
  refine ⟨t, pt, ?_⟩
  have st0 := stOk_startI (N := N) e ga ho rl (by rw [List.length_cons] at hl; omega)
  unfold runI endI at hf
  have gr : ∀ {G' H' : Hp} {σ' : L2.St} {S' : Sto} {y : PV}, Same G G' → StOk K cl ⟨G, H, fun i => if i = 0 then some a else none, fun _ => none⟩ G' H' σ' (some (.i y) :: S') → GrownI a G H G' H' ∧ OwnAt K cl G' H' a y := fun {G' H' σ' S' y} s k => by
    refine ⟨⟨s, k.ex, fun b o n h => k.frame b o h (fun i z => ?_), k.gnew⟩, ?_⟩
    · dsimp only at z
      split at z
      · cases z; exact n rfl
      · cases z
    · obtain ⟨b, _, _, e1, q⟩ := k.inn 0 y rfl
      have e1' : some a = some b := e1
      cases e1'
      exact q
  split at hf
  · rename_i x1 S' em
    cases hf
    exact dt _ G H _ _ _ _ st0 em fun σ' G' H' s' k' => hq .non G' H' (gr s' k').1 (gr s' k').2 .non
  · rename_i y x1 S' em
    cases hf
    exact dt _ G H _ _ _ _ st0 em fun v σ' G' H' s' k' r' => hq v G' H' (gr s' k').1 (gr s' k').2 r'
  · rename_i c fs x1 S' em
    cases hf
    exact dt _ G H _ _ _ _ st0 em fun d gs σ' G' H' s' k' a b => hq d gs G' H' (gr s' k').1 (gr s' k').2 ⟨a.1, a.2.1⟩ b
  · cases hf
end
end Kp
set_option Elab.async false
set_option linter.all false
set_option maxRecDepth 100000
set_option maxHeartbeats 2000000
namespace Kp
open PySem PyProof.Rows L2

/-! ### data -/
mutual
def PV.dat : PV → PyData
  | .non => .none
  | .bl b => .bool b
  | .int i => .int i
  | .str x => .str x
  | .tup xs => .tuple (PV.datL xs)
  | .lst xs => .list (PV.datL xs)
  | .frl ns => .list (ns.map .int)
  | .dct _ => .none
  | .obj _ _ => .none
  | .glb _ => .none
  | .xo _ _ _ _ => .none
  | .raw _ => .none
def PV.datL : List PV → List PyData
  | [] => []
  | x :: xs => PV.dat x :: PV.datL xs
end
mutual
/-- plain data: no dict, no instance -/
def PV.isD : PV → Bool
  | .tup xs => PV.isDL xs
  | .lst xs => PV.isDL xs
  | .dct _ => false
  | .obj _ _ => false
  | .glb _ => false
  | .xo _ _ _ _ => false
  | .raw _ => false
  | _ => true
def PV.isDL : List PV → Bool
  | [] => true
  | x :: xs => PV.isD x && PV.isDL xs
end
theorem plainAll_ints : ∀ ns : List Int, PyData.plainAll (ns.map PyData.int) = true
  | [] => rfl
  | n :: ns => by
    show (PyData.plain (.int n) && PyData.plainAll (ns.map PyData.int)) = true
    rw [plainAll_ints ns]
    rfl
mutual
theorem dat_plain : ∀ x : PV, (PV.dat x).plain = true
  | .non => rfl
  | .bl _ => rfl
  | .int _ => rfl
  | .str _ => rfl
  | .tup xs => by unfold PV.dat PyData.plain; exact datL_plain xs
  | .lst xs => by unfold PV.dat PyData.plain; exact datL_plain xs
  | .frl ns => by unfold PV.dat PyData.plain; exact plainAll_ints ns
  | .dct _ => rfl
  | .obj _ _ => rfl
  | .glb _ => rfl
  | .xo _ _ _ _ => rfl
  | .raw _ => rfl
theorem datL_plain : ∀ xs : List PV, PyData.plainAll (PV.datL xs) = true
  | [] => rfl
  | x :: xs => by
    unfold PV.datL PyData.plainAll
    rw [dat_plain x, datL_plain xs]
    rfl
end
section
variable {K : PySem.W.Frag} {cl : Nat → Addr} {H : Hp}
theorem dpAll_ints : ∀ ns : List Int, DpAll K H (ns.map V.int) (ns.map PyData.int)
  | [] => .nil
  | n :: ns => .cons (.int n) (dpAll_ints ns)
mutual
theorem Rep.dp : ∀ {v : V} {x : PV}, Rep K cl H v x → PV.isD x = true → Dp K H v (PV.dat x)
  | _, _, .non, _ => .non
  | _, _, .bl b, _ => .bl b
  | _, _, .int i, _ => .int i
  | _, _, .str x _, _ => .str x
  | _, _, .frl h, _ => .lst h (dpAll_ints _)
  | _, _, .tup h _ hs, d => .tup h.sq (RepL.dp hs (by unfold PV.isD at d; exact d))
  | _, _, .lst h _ hs, d => .lst (SqL.of h) (RepL.dp hs (by unfold PV.isD at d; exact d))
  | _, _, .dct h hs, d => by cases d
  | _, _, .obj h hs, d => by cases d
theorem RepL.dp : ∀ {vs : List V} {xs : List PV}, RepL K cl H vs xs → PV.isDL xs = true → DpAll K H vs (PV.datL xs)
  | _, _, .nil, _ => .nil
  | _, _, .cons h hs, d => by
    unfold PV.isDL at d
    rw [Bool.and_eq_true] at d
    exact .cons (Rep.dp h d.1) (RepL.dp hs d.2)
end
end

/-! ### == , != , in, not in, of data -/
def pEqB (x y : PV) : Option Bool := if PV.isD x && PV.isD y && decide (min (PV.dat x).depth (PV.dat y).depth ≤ 60) then some (PyData.eqv (PV.dat x) (PV.dat y)) else none
def pEq (x y : PV) : Option PV := (pEqB x y).map PV.bl
def pNe (x y : PV) : Option PV := (pEqB x y).map fun b => .bl (!b)
theorem pEqB_some {x y : PV} {b : Bool} (h : pEqB x y = some b) : PV.isD x = true ∧ PV.isD y = true ∧ min (PV.dat x).depth (PV.dat y).depth ≤ 60 ∧ b = PyData.eqv (PV.dat x) (PV.dat y) := by
  unfold pEqB at h
  split at h
  · rename_i c
    simp only [Bool.and_eq_true, decide_eq_true_eq] at c
    exact ⟨c.1.1, c.1.2, c.2, (Option.some.inj h).symm⟩
  · cases h
section
variable {X : Cx} {cl : Nat → Addr} {W : WX} {pos : Pos}
def rEqP (K : PySem.W.Frag) (n : Bool) : R2 := fun x y H Q => ∃ d e, Dp K H x d ∧ Dp K H y e ∧ d.plain = true ∧ e.plain = true ∧ min d.depth e.depth ≤ 60 ∧ Q (.bl (if n then !PyData.eqv d e else PyData.eqv d e)) H
theorem op_eqP (hu : X.A.units + 64 < cLine) : OpR X (compareOp .Eq) (rEqP X.K false) := by
  intro pins s σ H x y v u Q I rx ry h
  obtain ⟨d, e, hd, he, sd, se, hz, q⟩ := h
  obtain ⟨as, r1⟩ := Dp.reads I d x v hd rx
  obtain ⟨bs, r2⟩ := Dp.reads I e y u he ry
  exact SeqAt.eq_plain r1 r2 sd se (by omega) ⟨.bl _, H, I, rfl, q⟩
theorem op_neP (hu : X.A.units + 64 < cLine) : OpR X (compareOp .NotEq) (rEqP X.K true) := by
  intro pins s σ H x y v u Q I rx ry h
  obtain ⟨d, e, hd, he, sd, se, hz, q⟩ := h
  obtain ⟨as, r1⟩ := Dp.reads I d x v hd rx
  obtain ⟨bs, r2⟩ := Dp.reads I e y u he ry
  exact SeqAt.ne_plain r1 r2 sd se (by omega) ⟨.bl _, H, I, rfl, q⟩
theorem bs_eqP : BinS X.K cl (rEqP X.K false) pEq := by
  intro G H v u x y z Q e rv ru hz k
  unfold pEq at hz
  cases q : pEqB x y with
  | none => rw [q] at hz; cases hz
  | some b =>
    rw [q] at hz
    cases hz
    obtain ⟨h1, h2, h3, rfl⟩ := pEqB_some q
    exact ⟨_, _, (rv.mono e).dp h1, (ru.mono e).dp h2, dat_plain x, dat_plain y, h3, k _ _ (.inl ⟨rfl, .bl _⟩)⟩
theorem bs_neP : BinS X.K cl (rEqP X.K true) pNe := by
  intro G H v u x y z Q e rv ru hz k
  unfold pNe at hz
  cases q : pEqB x y with
  | none => rw [q] at hz; cases hz
  | some b =>
    rw [q] at hz
    cases hz
    obtain ⟨h1, h2, h3, rfl⟩ := pEqB_some q
    exact ⟨_, _, (rv.mono e).dp h1, (ru.mono e).dp h2, dat_plain x, dat_plain y, h3, k _ _ (.inl ⟨rfl, .bl _⟩)⟩
theorem br_eq (hu : X.A.units + 64 < cLine) : BinR X cl (compareOp .Eq) pEq := ⟨_, op_eqP hu, bs_eqP⟩
theorem br_ne (hu : X.A.units + 64 < cLine) : BinR X cl (compareOp .NotEq) pNe := ⟨_, op_neP hu, bs_neP⟩

/-- x in c -/
def pInB (x c : PV) : Option Bool :=
  match c with
  | .tup ys => if PV.isD x && PV.isDL ys && decide (min (PyData.depthAll (PV.datL ys)) (PV.dat x).depth ≤ 60) then some ((PV.datL ys).any fun d => PyData.eqv d (PV.dat x)) else none
  | .lst ys => if PV.isD x && PV.isDL ys && decide (min (PyData.depthAll (PV.datL ys)) (PV.dat x).depth ≤ 60) then some ((PV.datL ys).any fun d => PyData.eqv d (PV.dat x)) else none
  | .str z => match x with
    | .str y => if y.length = 1 then (y.cps.toList.head?).map fun c => decide (c ∈ z.cps.toList) else none
    | _ => none
  | _ => none
def pIn (x c : PV) : Option PV := (pInB x c).map PV.bl
def pNotIn (x c : PV) : Option PV := (pInB x c).map fun b => .bl (!b)
def rInP (K : PySem.W.Frag) (n : Bool) : R2 := fun x y H Q => ∃ d ds, Dp K H x d ∧ (Dp K H y (.list ds) ∨ Dp K H y (.tuple ds)) ∧ d.plain = true ∧ PyData.plainAll ds = true ∧ min (PyData.depthAll ds) d.depth ≤ 60 ∧ Q (.bl (if n then !ds.any fun z => PyData.eqv z d else ds.any fun z => PyData.eqv z d)) H
theorem op_inP (hu : X.A.units + 64 < cLine) : OpR X (compareOp .In) (rInP X.K false) := by
  intro pins s σ H x y v u Q I rx ry h
  obtain ⟨d, ds, hd, he, sd, se, hz, q⟩ := h
  obtain ⟨as, r1⟩ := Dp.reads I d x v hd rx
  rcases he with he | he
  · obtain ⟨bs, r2⟩ := Dp.reads I _ y u he ry
    exact SeqAt.in_list_data r2 r1 se sd (by omega) ⟨.bl _, H, I, rfl, q⟩
  · obtain ⟨bs, r2⟩ := Dp.reads I _ y u he ry
    exact SeqAt.in_tuple_data r2 r1 se sd (by omega) ⟨.bl _, H, I, rfl, q⟩
theorem op_notInP (hu : X.A.units + 64 < cLine) : OpR X (compareOp .NotIn) (rInP X.K true) := by
  intro pins s σ H x y v u Q I rx ry h
  obtain ⟨d, ds, hd, he, sd, se, hz, q⟩ := h
  obtain ⟨as, r1⟩ := Dp.reads I d x v hd rx
  rcases he with he | he
  · obtain ⟨bs, r2⟩ := Dp.reads I _ y u he ry
    exact SeqAt.notIn_list_data r2 r1 se sd (by omega) ⟨.bl _, H, I, rfl, q⟩
  · obtain ⟨bs, r2⟩ := Dp.reads I _ y u he ry
    exact SeqAt.notIn_tuple_data r2 r1 se sd (by omega) ⟨.bl _, H, I, rfl, q⟩
def rInSg (n : Bool) : R2 := fun x y H Q => ∃ (c : Nat) (z : Str), x = .str ⟨#[c]⟩ ∧ y = .str z ∧ Q (.bl (if n then !decide (c ∈ z.cps.toList) else decide (c ∈ z.cps.toList))) H
theorem br_in (hu : X.A.units + 64 < cLine) : BinR X cl (compareOp .In) pIn := by
  refine ⟨_, (op_inP hu).or (op_in_sign (X := X)), ?_⟩
  intro G H v u x y z Q e rv ru hz k
  unfold pIn pInB at hz
  cases y <;> try (cases hz; done)
  · -- str
    cases x <;> try (cases hz; done)
    rename_i zs ys
    dsimp only at hz
    split at hz <;> try (cases hz; done)
    rename_i hl
    cases rv
    cases ru
    obtain ⟨⟨ls⟩⟩ := ys
    cases ls with
    | nil => cases hl
    | cons c r =>
      cases r with
      | nil =>
        have hz' : PV.bl (decide (c ∈ zs.cps.toList)) = z := Option.some.inj (by simpa using hz)
        subst hz'
        exact .inr ⟨c, zs, rfl, rfl, k _ _ (.inl ⟨rfl, .bl _⟩)⟩
      | cons _ _ => simp [Str.length] at hl
  all_goals
    rename_i ys
    dsimp only at hz
    split at hz <;> try (cases hz; done)
    rename_i c
    simp only [Bool.and_eq_true, decide_eq_true_eq] at c
    cases hz
  · refine .inl ⟨_, _, (rv.mono e).dp c.1.1, .inr ((ru.mono e).dp (by unfold PV.isD; exact c.1.2)), dat_plain x, datL_plain ys, c.2, k _ _ (.inl ⟨rfl, .bl _⟩)⟩
  · refine .inl ⟨_, _, (rv.mono e).dp c.1.1, .inl ((ru.mono e).dp (by unfold PV.isD; exact c.1.2)), dat_plain x, datL_plain ys, c.2, k _ _ (.inl ⟨rfl, .bl _⟩)⟩
theorem br_notIn (hu : X.A.units + 64 < cLine) : BinR X cl (compareOp .NotIn) pNotIn := by
  refine ⟨_, (op_notInP hu).or (op_notIn_sign (X := X)), ?_⟩
  intro G H v u x y z Q e rv ru hz k
  unfold pNotIn pInB at hz
  cases y <;> try (cases hz; done)
  · -- str
    cases x <;> try (cases hz; done)
    rename_i zs ys
    dsimp only at hz
    split at hz <;> try (cases hz; done)
    rename_i hl
    cases rv
    cases ru
    obtain ⟨⟨ls⟩⟩ := ys
    cases ls with
    | nil => cases hl
    | cons c r =>
      cases r with
      | nil =>
        have hz' : PV.bl (!decide (c ∈ zs.cps.toList)) = z := Option.some.inj (by simpa using hz)
        subst hz'
        exact .inr ⟨c, zs, rfl, rfl, k _ _ (.inl ⟨rfl, .bl _⟩)⟩
      | cons _ _ => simp [Str.length] at hl
  all_goals
    rename_i ys
    dsimp only at hz
    split at hz <;> try (cases hz; done)
    rename_i c
    simp only [Bool.and_eq_true, decide_eq_true_eq] at c
    cases hz
  · refine .inl ⟨_, _, (rv.mono e).dp c.1.1, .inr ((ru.mono e).dp (by unfold PV.isD; exact c.1.2)), dat_plain x, datL_plain ys, c.2, k _ _ (.inl ⟨rfl, .bl _⟩)⟩
  · refine .inl ⟨_, _, (rv.mono e).dp c.1.1, .inl ((ru.mono e).dp (by unfold PV.isD; exact c.1.2)), dat_plain x, datL_plain ys, c.2, k _ _ (.inl ⟨rfl, .bl _⟩)⟩

/-! ### < , <= , > , >= -/
def pLtB (x y : PV) : Option Bool :=
  match x, y with
  | .int i, .int j => some (decide (i < j))
  | .str a, .str b => some (decide (a.cps.toList < b.cps.toList))
  | .tup a, .tup b => if PV.isDL a && PV.isDL b && PySem.W.alike (.tuple (PV.datL a)) (.tuple (PV.datL b)) && decide (min (PyData.depth (.tuple (PV.datL a))) (PyData.depth (.tuple (PV.datL b))) ≤ 60) then some (PySem.W.dataLt (.tuple (PV.datL a)) (.tuple (PV.datL b))) else none
  | _, _ => none
def pLt (x y : PV) : Option PV := (pLtB x y).map PV.bl
def pGt (x y : PV) : Option PV := (pLtB y x).map PV.bl
def pLe (x y : PV) : Option PV := (pLtB y x).map fun b => .bl (!b)
def pGe (x y : PV) : Option PV := (pLtB x y).map fun b => .bl (!b)
def rLtP (K : PySem.W.Frag) : R2 := fun x y H Q => ∃ d e, Dp K H x d ∧ Dp K H y e ∧ PySem.W.alike d e = true ∧ d ≠ .none ∧ min d.depth e.depth ≤ 60 ∧ Q (.bl (PySem.W.dataLt d e)) H
theorem op_ltP (hu : X.A.units + 64 < cLine) : OpR X (compareOp .Lt) (rLtP X.K) := by
  intro pins s σ H x y v u Q I rx ry h
  obtain ⟨d, e, hd, he, al, nn, hz, q⟩ := h
  obtain ⟨as, r1⟩ := Dp.reads I d x v hd rx
  obtain ⟨bs, r2⟩ := Dp.reads I e y u he ry
  exact PySem.W.lt_data r1 r2 al nn (by omega) ⟨.bl _, H, I, rfl, q⟩
theorem br_lt (hu : X.A.units + 64 < cLine) : BinR X cl (compareOp .Lt) pLt := by
  refine ⟨_, (op_ltP hu).or ((op_lt (X := X)).or op_lt_str), ?_⟩
  intro G H v u x y z Q e rv ru hz k
  unfold pLt pLtB at hz
  cases x <;> cases y <;> try (cases hz; done)
  · cases hz
    cases rv
    cases ru
    exact .inr (.inl ⟨_, _, rfl, rfl, k _ _ (.inl ⟨rfl, .bl _⟩)⟩)
  · cases hz
    cases rv
    cases ru
    exact .inr (.inr ⟨_, _, rfl, rfl, k _ _ (.inl ⟨rfl, .bl _⟩)⟩)
  · rename_i a b
    dsimp only at hz
    split at hz <;> try (cases hz; done)
    rename_i c
    simp only [Bool.and_eq_true, decide_eq_true_eq] at c
    cases hz
    exact .inl ⟨_, _, (rv.mono e).dp (by unfold PV.isD; exact c.1.1.1), (ru.mono e).dp (by unfold PV.isD; exact c.1.1.2), c.1.2, (fun q => by cases q), c.2, k _ _ (.inl ⟨rfl, .bl _⟩)⟩
def pGtI (x y : PV) : Option PV := match x, y with
    | .int i, .int j => some (.bl (decide (j < i)))
    | .str a, .str b => some (.bl (decide (b.cps.toList < a.cps.toList)))
    | _, _ => none
def pLeI (x y : PV) : Option PV := match x, y with
    | .int i, .int j => some (.bl (decide (i ≤ j)))
    | .str a, .str b => some (.bl (!decide (b.cps.toList < a.cps.toList)))
    | _, _ => none
def pGeI (x y : PV) : Option PV := match x, y with
    | .int i, .int j => some (.bl (decide (j ≤ i)))
    | .str a, .str b => some (.bl (!decide (a.cps.toList < b.cps.toList)))
    | _, _ => none
def rGtS : R2 := fun x y H Q => ∃ i j, x = .str i ∧ y = .str j ∧ Q (.bl (decide (j.cps.toList < i.cps.toList))) H
theorem br_gt : BinR X cl (compareOp .Gt) pGtI := by
  refine ⟨_, (op_gt (X := X)).or op_gt_str, ?_⟩
  intro G H v u x y z Q e rv ru hz k
  cases x <;> cases y <;> try (cases hz; done)
  · cases hz
    cases rv
    cases ru
    exact .inl ⟨_, _, rfl, rfl, k _ _ (.inl ⟨rfl, .bl _⟩)⟩
  · cases hz
    cases rv
    cases ru
    exact .inr ⟨_, _, rfl, rfl, k _ _ (.inl ⟨rfl, .bl _⟩)⟩
theorem br_le : BinR X cl (compareOp .LtE) pLeI := by
  refine ⟨_, (op_le (X := X)).or op_le_str, ?_⟩
  intro G H v u x y z Q e rv ru hz k
  cases x <;> cases y <;> try (cases hz; done)
  · cases hz
    cases rv
    cases ru
    exact .inl ⟨_, _, rfl, rfl, k _ _ (.inl ⟨rfl, .bl _⟩)⟩
  · cases hz
    cases rv
    cases ru
    exact .inr ⟨_, _, rfl, rfl, k _ _ (.inl ⟨rfl, .bl _⟩)⟩
theorem br_ge : BinR X cl (compareOp .GtE) pGeI := by
  refine ⟨_, (op_ge (X := X)).or op_ge_str, ?_⟩
  intro G H v u x y z Q e rv ru hz k
  cases x <;> cases y <;> try (cases hz; done)
  · cases hz
    cases rv
    cases ru
    exact .inl ⟨_, _, rfl, rfl, k _ _ (.inl ⟨rfl, .bl _⟩)⟩
  · cases hz
    cases rv
    cases ru
    exact .inr ⟨_, _, rfl, rfl, k _ _ (.inl ⟨rfl, .bl _⟩)⟩
end
end Kp
set_option Elab.async false
set_option linter.all false
set_option maxRecDepth 100000
set_option maxHeartbeats 2000000
namespace Kp
open PySem PyProof.Rows L2

/-! ### tuples that are made, with their objects told -/
section
variable {X : Cx} {pos : Pos}
def tupO (its : List Value) : Obj := { cls := .type "tuple", data := .seq its.toArray }
theorem tup_laid {pins : List (Addr × Obj)} {σ : L2.St} {H : Hp} {s : Shared} {h' : Heap} {t' : Nat} {ys : List V} {us : List Value} (I : Inv X pins σ H { s with heap := h', toks := t' }) (r : Vals ys us) (hz : ys.length ≤ sizeLine) :
    Inv X pins σ (upd H h'.objs.size (.frz (tupO us) (.tup ys))) { s with heap := h'.push (tupO us), toks := t' } :=
  I.laid (t' := t') (fun _ _ e => Heap.get?_push_of_some _ e) (Nat.le_refl _) ⟨Heap.get?_push_size _ rfl, hz, us, r, IsTup.new _ _⟩
def tTupF (t : TA) : TE := fun σ H Q => t σ H fun xs H1 => xs.length ≤ sizeLine ∧ ∀ (p : Addr) (o : Obj), o.dict = none → H1 p = none → Q (.ref p) (upd H1 p (.frz o (.tup xs)))
theorem pe_tupF {es : List Expr} {t : TA} {x1} (h : PA X es t) : PE X (.Tuple es x1 pos) (tTupF t) := by
  refine ⟨fun pins s σ H Q I hq => ?_⟩
  refine wpAny_Tuple_spliced (thn (h.run pos pins s σ H _ I hq) fun us s1 ⟨xs, H1, I1, r, z, q⟩ => ⟨by rw [← r.length]; exact z, ?_⟩)
  obtain ⟨hp, g, d, tk, os⟩ := s1
  exact ⟨.ref hp.objs.size, _, tup_laid (s := ⟨hp, g, d, tk, os⟩) (h' := hp) (t' := tk) I1 r z, rfl, q _ _ rfl (I1.hok.fresh (Nat.le_refl _))⟩
def rTupleOfF (K : PySem.W.Frag) : List V → Hp → VK → Prop := fun xs H Q => ∃ p ys, xs = [V.ref p] ∧ ((SqL K H p ys ∧ ∀ (l : Addr) (o : Obj), o.dict = none → H l = none → Q (.ref l) (upd H l (.frz o (.tup ys)))) ∨ (SqT K H p ys ∧ Q (.ref p) H))
theorem cr_tupleF : CallR X (.type "tuple") (rTupleOfF X.K) := by
  intro pins s σ H xs us Q I r h
  obtain ⟨p, ys, rfl, h⟩ := h
  obtain ⟨u, rfl, rx⟩ := vals1 r
  obtain rfl : u = Value.ref p := rx
  rcases h with ⟨hq, q⟩ | ⟨hq, q⟩
  · obtain ⟨its, rv, pl, hz⟩ := I.list hq
    refine call_tuple_list pl.isList (fun h' kp => ?_) (by simp only [List.size_toArray]; have := rv.length; omega)
    have I1 : Inv X pins σ H { s with heap := h', toks := s.toks } := I.kept (t' := s.toks) kp
    exact ⟨.ref h'.objs.size, _, tup_laid I1 rv hz, rfl, q _ _ rfl (I1.hok.fresh (Nat.le_refl _))⟩
  · obtain ⟨its, rv, pl, hz⟩ := I.tuple hq
    exact call_tuple_same pl ⟨.ref p, H, I, rfl, q⟩
def rSlF (K : PySem.W.Frag) : V → Option Int → Option Int → Hp → VK → Prop := fun x lo hi H Q => ∃ a xs, x = .ref a ∧ SqT K H a xs ∧
  (HT.sIx xs.length 0 lo = 0 ∧ HT.sIx xs.length xs.length hi = xs.length → Q (.ref a) H) ∧ (¬ (HT.sIx xs.length 0 lo = 0 ∧ HT.sIx xs.length xs.length hi = xs.length) → ∀ (p : Addr) (o : Obj), o.dict = none → H p = none → Q (.ref p) (upd H p (.frz o (.tup (cutV xs lo hi)))))
theorem sl_tupF : SlR X (rSlF X.K) := by
  intro pins s σ H x v vl vu lo hi sl Q I rx hs pl pu h
  obtain ⟨a, xs, rfl, hx, q1, q2⟩ := h
  obtain rfl : v = Value.ref a := rx
  obtain ⟨its, rv, ht, hz⟩ := I.tuple hx
  have hlen : its.toArray.size = xs.length := by rw [List.size_toArray]; exact rv.length.symm
  refine ⟨"tuple", _, PyProof.Rows.slot_tuple_getitem.lookup, ht.typeIs, ?_⟩
  by_cases hw : HT.sIx xs.length 0 lo = 0 ∧ HT.sIx xs.length xs.length hi = xs.length
  · exact getItem_tuple_whole ht hs pl pu (by rw [hlen]; exact hw) ⟨.ref a, H, I, rfl, q1 hw⟩
  · refine HT.getItem_tuple_cut ht hs pl pu (by rw [hlen]; exact hw) ?_ (by rw [hlen]; exact hz)
    rw [hlen]
    have rc : Vals (cutV xs lo hi) _ := (rv.drop (HT.sIx xs.length 0 lo)).take (HT.sIx xs.length xs.length hi - HT.sIx xs.length 0 lo)
    obtain ⟨hp, g, d, tk, os⟩ := s
    exact ⟨.ref hp.objs.size, _, tup_laid (s := ⟨hp, g, d, tk, os⟩) (h' := hp) (t' := tk) I rc (Nat.le_trans (cutV_length xs lo hi) hz), rfl, q2 hw _ _ rfl (I.hok.fresh (Nat.le_refl _))⟩
def rCatF (K : PySem.W.Frag) : R2 := fun x y H Q => ∃ a b xs ys, x = .ref a ∧ y = .ref b ∧ SqT K H a xs ∧ SqT K H b ys ∧ xs.length + ys.length ≤ sizeLine ∧
  (xs = [] → Q (.ref b) H) ∧ (xs ≠ [] → ys = [] → Q (.ref a) H) ∧ (xs ≠ [] → ys ≠ [] → ∀ (p : Addr) (o : Obj), o.dict = none → H p = none → Q (.ref p) (upd H p (.frz o (.tup (xs ++ ys)))))
theorem op_catF : OpR X (binaryOp .Add) (rCatF X.K) := by
  intro pins s σ H x y v u Q I rx ry h
  obtain ⟨a, b, xs, ys, rfl, rfl, ha, hb, hz, q0, q1, q2⟩ := h
  obtain rfl : v = Value.ref a := rx
  obtain rfl : u = Value.ref b := ry
  obtain ⟨its, r1, p1, _⟩ := I.tuple ha
  obtain ⟨its2, r2, p2, _⟩ := I.tuple hb
  by_cases hx : xs = []
  · subst hx
    cases r1
    exact cat_tup0 p1 p2 ⟨.ref b, H, I, rfl, q0 rfl⟩
  · refine HT.cat_tup p1 p2 (fun z => hx (r1.nil_iff.mp z)) (fun z => ⟨.ref a, H, I, rfl, q1 hx (r2.nil_iff.mp z)⟩) (fun z => ?_) (by rw [← r1.length, ← r2.length]; exact hz)
    obtain ⟨hp, g, d, tk, os⟩ := s
    exact ⟨.ref hp.objs.size, _, tup_laid (s := ⟨hp, g, d, tk, os⟩) (h' := hp) (t' := tk) I (r1.append r2) (by rw [List.length_append]; exact hz), rfl, q2 hx (fun w => z (r2.nil_iff.mpr w)) _ _ rfl (I.hok.fresh (Nat.le_refl _))⟩
end
end Kp
set_option Elab.async false
set_option linter.all false
set_option maxRecDepth 100000
set_option maxHeartbeats 2000000
namespace Kp
open PySem PyProof.Rows L2

section
variable {X : Cx} {cl : Nat → Addr} {W : WX} {pos : Pos}
theorem repL_nil_iff {K : PySem.W.Frag} {H : Hp} {vs : List V} {xs : List PV} (r : RepL K cl H vs xs) : vs = [] ↔ xs = [] := by
  cases r <;> simp
/-! ### + - * % // ** -/
def pAdd (x y : PV) : Option PV := match x, y with
  | .int i, .int j => some (.int (i + j))
  | .str a, .str b => if a.length + b.length ≤ sizeLine then some (.str (a ++ b)) else none
  | .tup a, .tup b => if a.length + b.length ≤ sizeLine then some (.tup (a ++ b)) else none
  | .lst a, .lst b => if a.length + b.length ≤ sizeLine then some (.lst (a ++ b)) else none
  | _, _ => none
theorem str_append_len (a b : Str) : (a ++ b).length = a.length + b.length := by
  obtain ⟨a⟩ := a
  obtain ⟨b⟩ := b
  show (a ++ b).size = a.size + b.size
  rw [Array.size_append]
theorem br_add : BinR X cl (binaryOp .Add) pAdd := by
  refine ⟨_, (op_add (X := X)).or (op_add_str.or (op_catF.or op_cat)), ?_⟩
  intro G H v u x y z Q e rv ru hz k
  unfold pAdd at hz
  cases x <;> cases y <;> try (cases hz; done)
  · cases hz
    cases rv
    cases ru
    exact .inl ⟨_, _, rfl, rfl, k _ _ (.inl ⟨rfl, .int _⟩)⟩
  · dsimp only at hz
    split at hz <;> try (cases hz; done)
    rename_i c
    cases hz
    cases rv
    cases ru
    exact .inr (.inl ⟨_, _, rfl, rfl, c, k _ _ (.inl ⟨rfl, .str _ (by rw [str_append_len]; exact c)⟩)⟩)
  · dsimp only at hz
    split at hz <;> try (cases hz; done)
    rename_i c
    cases hz
    cases rv with
    | @tup a1 vs1 xs1 hs z1 hr =>
      cases ru with
      | @tup a2 vs2 xs2 hs2 z2 hr2 =>
        have hz : (vs1 ++ vs2).length ≤ sizeLine := by rw [List.length_append, hr.length, hr2.length]; exact c
        refine .inr (.inr (.inl ⟨_, _, _, _, rfl, rfl, sqt_mono e hs, sqt_mono e hs2, by rw [hr.length, hr2.length]; exact c, fun z => ?_, fun z z2 => ?_, fun z z2 p o ho hp => ?_⟩))
        · have z' := (repL_nil_iff hr).mp z
          subst z'
          exact k _ _ (.inl ⟨rfl, .tup hs2 z2 hr2⟩)
        · have z' := (repL_nil_iff hr2).mp z2
          subst z'
          rw [List.append_nil] at k
          exact k _ _ (.inl ⟨rfl, .tup hs z1 hr⟩)
        · exact k _ _ (.inr ⟨p, _, hp, rfl, .tup (tupAt_new ho) hz ((hr.mono (same_new (e.free hp))).append (hr2.mono (same_new (e.free hp))))⟩)
  · dsimp only at hz
    split at hz <;> try (cases hz; done)
    rename_i c
    cases hz
    cases rv with
    | @lst a1 vs1 xs1 hs z1 hr =>
      cases ru with
      | @lst a2 vs2 xs2 hs2 z2 hr2 =>
        have hz : (vs1 ++ vs2).length ≤ sizeLine := by rw [List.length_append, hr.length, hr2.length]; exact c
        exact .inr (.inr (.inr ⟨_, _, _, _, rfl, rfl, e _ _ hs, e _ _ hs2, by rw [hr.length, hr2.length]; exact c, fun p hp => k _ _ (.inr ⟨p, _, hp, rfl, .lst upd_same hz ((hr.mono (same_new (e.free hp))).append (hr2.mono (same_new (e.free hp))))⟩)⟩))
def pSub (x y : PV) : Option PV := match x, y with
  | .int i, .int j => some (.int (i - j))
  | _, _ => none
theorem br_sub : BinR X cl (binaryOp .Sub) pSub := by
  refine ⟨_, op_sub, ?_⟩
  intro G H v u x y z Q e rv ru hz k
  unfold pSub at hz
  cases x <;> cases y <;> try (cases hz; done)
  cases hz
  cases rv
  cases ru
  exact ⟨_, _, rfl, rfl, k _ _ (.inl ⟨rfl, .int _⟩)⟩
/-- one factor small -/
def pMul (x y : PV) : Option PV := match x, y with
  | .int i, .int j => if (decide (-(2 ^ 64) < i) && decide (i < 2 ^ 64)) || (decide (-(2 ^ 64) < j) && decide (j < 2 ^ 64)) then some (.int (i * j)) else none
  | _, _ => none
theorem br_mul : BinR X cl (binaryOp .Mult) pMul := by
  refine ⟨_, op_mul, ?_⟩
  intro G H v u x y z Q e rv ru hz k
  unfold pMul at hz
  cases x <;> cases y <;> try (cases hz; done)
  dsimp only at hz
  split at hz <;> try (cases hz; done)
  rename_i c
  simp only [Bool.or_eq_true, Bool.and_eq_true, decide_eq_true_eq] at c
  cases hz
  cases rv
  cases ru
  exact ⟨_, _, rfl, rfl, c, k _ _ (.inl ⟨rfl, .int _⟩)⟩
def pMod (x y : PV) : Option PV := match x, y with
  | .int i, .int j => if 0 < j then some (.int (i % j)) else none
  | _, _ => none
theorem br_mod : BinR X cl (binaryOp .Mod) pMod := by
  refine ⟨_, op_mod, ?_⟩
  intro G H v u x y z Q e rv ru hz k
  unfold pMod at hz
  cases x <;> cases y <;> try (cases hz; done)
  dsimp only at hz
  split at hz <;> try (cases hz; done)
  rename_i c
  cases hz
  cases rv
  cases ru
  exact ⟨_, _, rfl, rfl, c, k _ _ (.inl ⟨rfl, .int _⟩)⟩
def pDiv (x y : PV) : Option PV := match x, y with
  | .int i, .int j => if 0 < j ∧ j < 1073741824 then some (.int (i / j)) else none
  | _, _ => none
theorem br_div : BinR X cl (binaryOp .FloorDiv) pDiv := by
  refine ⟨_, op_fdiv, ?_⟩
  intro G H v u x y z Q e rv ru hz k
  unfold pDiv at hz
  cases x <;> cases y <;> try (cases hz; done)
  dsimp only at hz
  split at hz <;> try (cases hz; done)
  rename_i c
  cases hz
  cases rv
  cases ru
  exact ⟨_, _, rfl, rfl, c, k _ _ (.inl ⟨rfl, .int _⟩)⟩
def pPow (x y : PV) : Option PV := match x, y with
  | .int i, .int j => if 0 ≤ j ∧ j ≤ 1000000 ∧ i.natAbs < 2 ^ 64 then some (.int (i ^ j.toNat)) else none
  | _, _ => none
theorem br_pow : BinR X cl (binaryOp .Pow) pPow := by
  refine ⟨_, op_pow, ?_⟩
  intro G H v u x y z Q e rv ru hz k
  unfold pPow at hz
  cases x <;> cases y <;> try (cases hz; done)
  dsimp only at hz
  split at hz <;> try (cases hz; done)
  rename_i c
  cases hz
  cases rv
  cases ru
  exact ⟨_, _, rfl, rfl, c, k _ _ (.inl ⟨rfl, .int _⟩)⟩
/-- -x -/
def pNeg (x : PV) : Option PV := match x with
  | .int i => some (.int (-i))
  | _ => none
def mUn (g : PV → Option PV) (m : M PV) : M PV := bnd m fun x => lift (g x)
theorem em_neg {a : Expr} {m : M PV} (h : EM X cl W a m) : EM X cl W (.UnaryOp .USub a pos) (mUn pNeg m) := by
  obtain ⟨t, p, d⟩ := h
  refine ⟨_, pe_un un_neg p, fun F G H σ S rr Q st hm hp => ?_⟩
  refine d.step st hm hp fun x S1 v G1 H1 hm1 s1 st1 rv hp1 => ?_
  obtain ⟨z, ez, rfl⟩ := lift_eq hm1
  unfold pNeg at ez
  cases x <;> try (cases ez; done)
  cases ez
  cases rv
  exact ⟨_, rfl, hp1 _ _ _ (Same.refl _) st1 (.int _)⟩

/-! ### x is None -/
def mIsN (n : Bool) (m : M PV) : M PV := bnd m fun x => ret (match x with
  | .non => .bl (!n)
  | _ => .bl n)
theorem rep_non {K : PySem.W.Frag} {H : Hp} {v : V} {x : PV} (r : Rep K cl H v x) : decide (v = V.non) = (match x with | .non => true | _ => false) := by
  cases r <;> rfl
theorem em_isN {a : Expr} {j p'} {m : M PV} (h : EM X cl W a m) : EM X cl W (.Compare a [.Is] [.Constant .none j p'] pos) (mIsN false m) := by
  obtain ⟨t, p, d⟩ := h
  refine ⟨_, pe_cmp (pc_isN p), fun F G H σ S rr Q st hm hp => ?_⟩
  refine d.step st hm hp fun x S1 v G1 H1 hm1 s1 st1 rv hp1 => ?_
  cases hm1
  rw [rep_non rv]
  refine hp1 _ _ _ (Same.refl _) st1 ?_
  cases x <;> exact .bl _
theorem em_notN {a : Expr} {j p'} {m : M PV} (h : EM X cl W a m) : EM X cl W (.Compare a [.IsNot] [.Constant .none j p'] pos) (mIsN true m) := by
  obtain ⟨t, p, d⟩ := h
  refine ⟨_, pe_cmp (pc_notN p), fun F G H σ S rr Q st hm hp => ?_⟩
  refine d.step st hm hp fun x S1 v G1 H1 hm1 s1 st1 rv hp1 => ?_
  cases hm1
  rw [rep_non rv]
  refine hp1 _ _ _ (Same.refl _) st1 ?_
  cases x <;> exact .bl _

/-! ### tests -/
theorem does_tB {t : TE} {m : M PV} (d : Does X.K cl W (RV X.K cl) t m) : Does X.K cl W RB (tB t) (mTest m) := by
  intro F G H σ S rr Q st hm hp
  refine d.step (R2 := RB) st hm hp fun y S1 v G1 H1 hm1 s1 st1 rv hp1 => ?_
  cases y <;> simp only [asB] at hm1 <;> try (cases hm1; done)
  cases hm1
  cases rv
  exact ⟨_, rfl, hp1 _ _ _ (Same.refl _) st1 rfl⟩
theorem tm_isN {a : Expr} {j p'} {m : M PV} (h : EM X cl W a m) : TM X cl W (.Compare a [.Is] [.Constant .none j p'] pos) (mTest (mIsN false m)) := by
  obtain ⟨t, p, d⟩ := h
  refine ⟨_, pt_cmp (pc_isN p), does_tB fun F G H σ S rr Q st hm hp => ?_⟩
  refine d.step st hm hp fun x S1 v G1 H1 hm1 s1 st1 rv hp1 => ?_
  cases hm1
  rw [rep_non rv]
  refine hp1 _ _ _ (Same.refl _) st1 ?_
  cases x <;> exact .bl _
theorem tm_notN {a : Expr} {j p'} {m : M PV} (h : EM X cl W a m) : TM X cl W (.Compare a [.IsNot] [.Constant .none j p'] pos) (mTest (mIsN true m)) := by
  obtain ⟨t, p, d⟩ := h
  refine ⟨_, pt_cmp (pc_notN p), does_tB fun F G H σ S rr Q st hm hp => ?_⟩
  refine d.step st hm hp fun x S1 v G1 H1 hm1 s1 st1 rv hp1 => ?_
  cases hm1
  rw [rep_non rv]
  refine hp1 _ _ _ (Same.refl _) st1 ?_
  cases x <;> exact .bl _
/-- an expression's truth as a test: its value is a bool -/
theorem tm_val {e : Expr} {m : M PV} (h : EM X cl W e m) (he : ∀ whole, isTrue e X.env whole = (do let v ← whole; standAt e.pos; holding [v] (truthy v)) := by intro _; rfl) : TM X cl W e (mTest m) := by
  obtain ⟨t, p, d⟩ := h
  exact ⟨_, pt_val p he, does_tB d⟩
/-- a value's truth -/
def truP : PV → Option Bool
  | .non => some false
  | .bl b => some b
  | .int i => some (i != 0)
  | .str x => some ((x.length : Int) != 0)
  | .tup xs => some (!xs.isEmpty)
  | .lst xs => some (!xs.isEmpty)
  | .frl xs => some (!xs.isEmpty)
  | .dct kvs => some (!kvs.isEmpty)
  | .obj _ _ => none
  | .glb _ => none
  | .xo _ _ _ _ => none
  | .raw _ => none
theorem repL_empty {K : PySem.W.Frag} {H : Hp} {vs : List V} {xs : List PV} (r : RepL K cl H vs xs) : vs.isEmpty = xs.isEmpty := by cases r <;> rfl
theorem repK_empty {K : PySem.W.Frag} {H : Hp} {vs : List (Key × V)} {xs : List (PV × PV)} (r : RepK K cl H vs xs) : vs.isEmpty = xs.isEmpty := by cases r <;> rfl
theorem tru_rep {K : PySem.W.Frag} {H : Hp} {v : V} {x : PV} {b : Bool} (r : Rep K cl H v x) (h : truP x = some b) : TruV K v H b := by
  unfold truP at h
  cases r <;> try (cases h; done)
  all_goals try cases h
  · exact rfl
  · exact rfl
  · exact rfl
  · rename_i x h
    exact ⟨h, rfl⟩
  · rename_i a ns h
    exact .inl ⟨_, h, by simp⟩
  · rename_i a vs xs hs z hr
    exact .inr (.inl ⟨_, hs.sq, by rw [repL_empty hr]⟩)
  · rename_i a vs xs hs z hr
    exact .inl ⟨_, SqL.of hs, by rw [repL_empty hr]⟩
  · rename_i a vs xs hs hr
    exact .inr (.inr ⟨_, hs, by rw [repK_empty hr]⟩)
def mTru (m : M PV) : M Bool := bnd m fun x => lift (truP x)
theorem tm_tru {e : Expr} {m : M PV} (h : EM X cl W e m) (he : ∀ whole, isTrue e X.env whole = (do let v ← whole; standAt e.pos; holding [v] (truthy v)) := by intro _; rfl) : TM X cl W e (mTru m) := by
  obtain ⟨t, p, d⟩ := h
  refine ⟨_, pt_truth p he, fun F G H σ S rr Q st hm hp => ?_⟩
  refine d.step (R2 := RB) st hm hp fun y S1 v G1 H1 hm1 s1 st1 rv hp1 => ?_
  obtain ⟨z, ez, rfl⟩ := lift_eq hm1
  exact ⟨z, tru_rep (rv.mono st1.ex) ez, hp1 _ _ _ (Same.refl _) st1 rfl⟩
/-- not, and, or of tests -/
def mNot (m : M Bool) : M Bool := bnd m fun b => ret (!b)
def mAnd (m n : M Bool) : M Bool := bnd m fun b => if b = true then n else ret false
def mOr (m n : M Bool) : M Bool := bnd m fun b => if b = true then ret true else n
theorem tm_not {a : Expr} {m : M Bool} (h : TM X cl W a m) : TM X cl W (.UnaryOp .Not a pos) (mNot m) := by
  obtain ⟨t, p, d⟩ := h
  refine ⟨_, pt_not p, fun F G H σ S rr Q st hm hp => ?_⟩
  refine d.step (R2 := RB) st hm hp fun y S1 v G1 H1 hm1 s1 st1 rv hp1 => ?_
  cases hm1
  cases rv
  exact hp1 _ _ _ (Same.refl _) st1 rfl
def WM (X : Cx) (cl : Nat → Addr) (W : WX) (e : Expr) (m : M Bool) : Prop := ∃ t, PW X e t ∧ Does X.K cl W RB t m
theorem tm_w {e : Expr} {m : M Bool} (h : WM X cl W e m) : TM X cl W e m := by
  obtain ⟨t, p, d⟩ := h
  exact ⟨t, p.pt, d⟩
theorem wm_and1 {a : Expr} {m : M Bool} (h : TM X cl W a m) : WM X cl W (.BoolOp .And [a] pos) m := by
  obtain ⟨t, p, d⟩ := h
  exact ⟨t, pw_and1 p, d⟩
theorem wm_or1 {a : Expr} {m : M Bool} (h : TM X cl W a m) : WM X cl W (.BoolOp .Or [a] pos) m := by
  obtain ⟨t, p, d⟩ := h
  exact ⟨t, pw_or1 p, d⟩
theorem wm_and {a b : Expr} {rest : List Expr} {m n : M Bool} (h : TM X cl W a m) (h2 : WM X cl W (.BoolOp .And (b :: rest) pos) n) : WM X cl W (.BoolOp .And (a :: b :: rest) pos) (mAnd m n) := by
  obtain ⟨t, p, d⟩ := h
  obtain ⟨u, q, du⟩ := h2
  refine ⟨_, pw_and p q, fun F G H σ S rr Q st hm hp => ?_⟩
  refine d.step (R2 := RB) st hm hp fun y S1 v G1 H1 hm1 s1 st1 rv hp1 => ?_
  cases rv
  cases y with
  | true => exact du F G1 H1 σ S1 _ _ st1 hm1 hp1
  | false =>
    cases hm1
    exact hp1 _ _ _ (Same.refl _) st1 rfl
theorem wm_or {a b : Expr} {rest : List Expr} {m n : M Bool} (h : TM X cl W a m) (h2 : WM X cl W (.BoolOp .Or (b :: rest) pos) n) : WM X cl W (.BoolOp .Or (a :: b :: rest) pos) (mOr m n) := by
  obtain ⟨t, p, d⟩ := h
  obtain ⟨u, q, du⟩ := h2
  refine ⟨_, pw_or p q, fun F G H σ S rr Q st hm hp => ?_⟩
  refine d.step (R2 := RB) st hm hp fun y S1 v G1 H1 hm1 s1 st1 rv hp1 => ?_
  cases rv
  cases y with
  | false => exact du F G1 H1 σ S1 _ _ st1 hm1 hp1
  | true =>
    cases hm1
    exact hp1 _ _ _ (Same.refl _) st1 rfl
/-- not, and, or as values that are bools -/
def mB (m : M Bool) : M PV := bnd m fun b => ret (.bl b)
theorem em_one {op : BoolOp} {a : Expr} {m : M PV} (h : EM X cl W a m) : EM X cl W (.BoolOp op [a] pos) (mB (mTest m)) := by
  obtain ⟨t, p, d⟩ := h
  refine ⟨_, pe_one p, fun F G H σ S rr Q st hm hp => ?_⟩
  have e : m S = some rr := by
    rcases bnd_some hm with ⟨b, S1, e1, e2⟩ | ⟨c, fs, S1, e1, e2⟩
    · rcases bnd_some e1 with ⟨x, S2, e3, e4⟩ | ⟨c, fs, S2, e3, e4⟩
      · cases x <;> try (cases e4; done)
        cases e4
        cases e2
        exact e3
      · cases e4
    · subst e2
      rcases bnd_some e1 with ⟨x, S2, e3, e4⟩ | ⟨c', fs', S2, e3, e4⟩
      · cases x <;> try (cases e4; done)
      · cases e4
        exact e3
  exact d F G H σ S rr Q st e hp
theorem em_and {a b : Expr} {rest : List Expr} {m : M PV} {n : M Bool} (h : EM X cl W a m) (h2 : EM X cl W (.BoolOp .And (b :: rest) pos) (mB n)) : EM X cl W (.BoolOp .And (a :: b :: rest) pos) (mB (mAnd (mTest m) n)) := by
  obtain ⟨t, p, d⟩ := h
  obtain ⟨u, q, du⟩ := h2
  refine ⟨_, pe_and p q, fun F G H σ S rr Q st hm hp => ?_⟩
  have hm' : bnd m (fun x => bnd (asB x) fun b => if b = true then mB n else ret (.bl false)) S = some rr := by
    rw [← hm]
    unfold mB mAnd mTest bnd
    cases m S with
    | none => rfl
    | some r => cases r with
      | ok y S1 => cases y <;> try rfl
                   rename_i b
                   cases b <;> rfl
      | ex c fs S1 => rfl
  refine d.step st hm' hp fun y S1 v G1 H1 hm1 s1 st1 rv hp1 => ?_
  cases y <;> try (cases hm1; done)
  rename_i b
  cases rv
  refine ⟨b, rfl, ?_⟩
  cases b with
  | true => exact du F G1 H1 σ S1 _ _ st1 hm1 hp1
  | false =>
    cases hm1
    exact hp1 _ _ _ (Same.refl _) st1 (.bl _)
theorem em_or {a b : Expr} {rest : List Expr} {m : M PV} {n : M Bool} (h : EM X cl W a m) (h2 : EM X cl W (.BoolOp .Or (b :: rest) pos) (mB n)) : EM X cl W (.BoolOp .Or (a :: b :: rest) pos) (mB (mOr (mTest m) n)) := by
  obtain ⟨t, p, d⟩ := h
  obtain ⟨u, q, du⟩ := h2
  refine ⟨_, pe_or p q, fun F G H σ S rr Q st hm hp => ?_⟩
  have hm' : bnd m (fun x => bnd (asB x) fun b => if b = true then ret (.bl true) else mB n) S = some rr := by
    rw [← hm]
    unfold mB mOr mTest bnd
    cases m S with
    | none => rfl
    | some r => cases r with
      | ok y S1 => cases y <;> try rfl
                   rename_i b
                   cases b <;> rfl
      | ex c fs S1 => rfl
  refine d.step st hm' hp fun y S1 v G1 H1 hm1 s1 st1 rv hp1 => ?_
  cases y <;> try (cases hm1; done)
  rename_i b
  cases rv
  refine ⟨b, rfl, ?_⟩
  cases b with
  | false => exact du F G1 H1 σ S1 _ _ st1 hm1 hp1
  | true =>
    cases hm1
    exact hp1 _ _ _ (Same.refl _) st1 (.bl _)
theorem em_not {a : Expr} {m : M PV} (h : EM X cl W a m) : EM X cl W (.UnaryOp .Not a pos) (mB (mNot (mTest m))) := by
  obtain ⟨t, p, d⟩ := h
  refine ⟨_, pe_not p, fun F G H σ S rr Q st hm hp => ?_⟩
  have hm' : bnd m (fun x => bnd (asB x) fun b => ret (.bl (!b))) S = some rr := by
    rw [← hm]
    unfold mB mNot mTest bnd
    cases m S with
    | none => rfl
    | some r => cases r with
      | ok y S1 => cases y <;> rfl
      | ex c fs S1 => rfl
  refine d.step st hm' hp fun y S1 v G1 H1 hm1 s1 st1 rv hp1 => ?_
  cases y <;> try (cases hm1; done)
  rename_i b
  cases rv
  cases hm1
  exact ⟨b, rfl, hp1 _ _ _ (Same.refl _) st1 (.bl _)⟩
/-- a if t else b -/
def mIfE (c : M Bool) (m n : M PV) : M PV := bnd c fun b => if b = true then m else n
theorem em_ife {c a b : Expr} {mc : M Bool} {m n : M PV} (hc : TM X cl W c mc) (ha : EM X cl W a m) (hb : EM X cl W b n) : EM X cl W (.IfExp c a b pos) (mIfE mc m n) := by
  obtain ⟨tc, pc, dc⟩ := hc
  obtain ⟨ta, pa, da⟩ := ha
  obtain ⟨tb, pb, db⟩ := hb
  refine ⟨_, pe_ifExp pc pa pb, fun F G H σ S rr Q st hm hp => ?_⟩
  refine dc.step (R2 := RV X.K cl) st hm hp fun y S1 v G1 H1 hm1 s1 st1 rv hp1 => ?_
  cases rv
  cases y with
  | true => exact da F G1 H1 σ S1 _ _ st1 hm1 hp1
  | false => exact db F G1 H1 σ S1 _ _ st1 hm1 hp1
/-- a op b op' c -/
def mChain (g g' : PV → PV → Option PV) (ma mb mc : M PV) : M PV := bnd ma fun x => bnd mb fun y => bnd (lift (g x y)) fun z => bnd (asB z) fun b => if b = true then bnd mc fun u => lift (g' y u) else ret (.bl false)
theorem does_chain {g g' : PV → PV → Option PV} {r r' : R2} {ta tb tc : TE} {ma mb mc : M PV} (hr : BinS X.K cl r g) (hr' : BinS X.K cl r' g') (h1 : Does X.K cl W (RV X.K cl) ta ma) (h2 : Does X.K cl W (RV X.K cl) tb mb) (h3 : Does X.K cl W (RV X.K cl) tc mc) :
    Does X.K cl W (RV X.K cl) (tChain r r' ta tb tc) (mChain g g' ma mb mc) := by
  intro F G H σ S rr Q st hm hp
  refine h1.step st hm hp fun x S1 v G1 H1 hm1 s1 st1 rv hp1 => ?_
  refine h2.step st1 hm1 hp1 fun y S2 u G2 H2 hm2 s2 st2 ru hp2 => ?_
  obtain ⟨z, ez, hm3⟩ := lift_bnd hm2
  cases z <;> try (cases hm3; done)
  rename_i b
  refine hr G2 H2 v u x y _ _ st2.ex (rv.mono s2) ru ez fun w H' q => ?_
  obtain ⟨G3, s3, st3, r3⟩ := st2.res1 q
  cases r3
  refine ⟨b, rfl, ?_⟩
  have hp3 := hp2.mono s3
  cases b with
  | false =>
    cases hm3
    exact hp3 _ _ _ (Same.refl _) st3 (.bl _)
  | true =>
    rw [if_pos rfl]
    refine h3.step st3 hm3 hp3 fun c S4 w' G4 H4 hm4 s4 st4 rw' hp4 => ?_
    obtain ⟨z, ez, rfl⟩ := lift_eq hm4
    exact hr' G4 H4 u w' y c z Q st4.ex ((ru.mono s3).mono s4) rw' ez fun w H' q => hp4.res1 st4 q
theorem em_chain {op op' : CmpOp} {a b c : Expr} {g g' : PV → PV → Option PV} {ma mb mc : M PV} (hb : BinR X cl (compareOp op) g) (hb2 : BinR X cl (compareOp op') g') (h1 : EM X cl W a ma) (h2 : EM X cl W b mb) (h3 : EM X cl W c mc)
    (hm : lastMarks [op, op'] [b, c] = false := by with_unfolding_all rfl) : EM X cl W (.Compare a [op, op'] [b, c] pos) (mChain g g' ma mb mc) := by
  obtain ⟨ta, pa, da⟩ := h1
  obtain ⟨tb, pb, db⟩ := h2
  obtain ⟨tc, pc, dc⟩ := h3
  obtain ⟨r, ho, hs⟩ := hb
  obtain ⟨r', ho', hs'⟩ := hb2
  exact ⟨_, pe_chain ho ho' pa pb pc hm, does_chain hs hs' da db dc⟩
theorem tm_chain {op op' : CmpOp} {a b c : Expr} {g g' : PV → PV → Option PV} {ma mb mc : M PV} (hb : BinR X cl (compareOp op) g) (hb2 : BinR X cl (compareOp op') g') (h1 : EM X cl W a ma) (h2 : EM X cl W b mb) (h3 : EM X cl W c mc)
    (hm : lastMarks [op, op'] [b, c] = false := by with_unfolding_all rfl) : TM X cl W (.Compare a [op, op'] [b, c] pos) (mTest (mChain g g' ma mb mc)) := by
  obtain ⟨ta, pa, da⟩ := h1
  obtain ⟨tb, pb, db⟩ := h2
  obtain ⟨tc, pc, dc⟩ := h3
  obtain ⟨r, ho, hs⟩ := hb
  obtain ⟨r', ho', hs'⟩ := hb2
  exact ⟨_, pt_chain ho ho' pa pb pc hm, does_test (does_chain hs hs' da db dc)⟩

/-! ### argument lists, displays -/
def mArgs : List (M PV) → M (List PV)
  | [] => ret []
  | m :: ms => bnd m fun x => bnd (mArgs ms) fun xs => ret (x :: xs)
theorem am_nil : AM X cl W [] (mArgs []) := ⟨_, pa_nil, fun F G H σ S rr Q st hm hp => by
  cases hm
  exact hp _ _ _ (Same.refl _) st .nil⟩
theorem am_cons {e : Expr} {es : List Expr} {m : M PV} {ms : List (M PV)} (h : EM X cl W e m) (hr : AM X cl W es (mArgs ms)) (hs : starEach (e :: es) X.env = (false, eval e X.env) :: starEach es X.env := by rfl) : AM X cl W (e :: es) (mArgs (m :: ms)) := by
  obtain ⟨t, p, d⟩ := h
  obtain ⟨u, q, du⟩ := hr
  refine ⟨_, pa_cons p q hs, fun F G H σ S rr Q st hm hp => ?_⟩
  refine d.step (R2 := RL X.K cl) st hm hp fun y S1 v G1 H1 hm1 s1 st1 rv hp1 => ?_
  refine du.step (R2 := RL X.K cl) st1 hm1 hp1 fun ys S2 vs G2 H2 hm2 s2 st2 rvs hp2 => ?_
  cases hm2
  exact hp2 _ _ _ (Same.refl _) st2 (.cons (rv.mono s2) rvs)
def mTup (ms : List (M PV)) : M PV := bnd (mArgs ms) fun xs => ret (.tup xs)
theorem mArgs_len : ∀ {ms : List (M PV)} {S S' : Sto} {xs : List PV}, mArgs ms S = some (.ok xs S') → xs.length = ms.length
  | [], _, _, _, h => by cases h; rfl
  | m :: ms, S, S', xs, h => by
    rcases bnd_some h with ⟨x, S1, e1, e2⟩ | ⟨c, fs, S1, _, e2⟩
    · rcases bnd_some e2 with ⟨ys, S2, e3, e4⟩ | ⟨c, fs, S2, _, e4⟩
      · cases e4
        rw [List.length_cons, List.length_cons, mArgs_len e3]
      · cases e4
    · cases e2
theorem Does.step' {α β γ δ : Type} {K : PySem.W.Frag} {F : Fr} {G H : Hp} {σ : L2.St} {S : Sto} {R1 : Hp → β → α → Prop} {R2 : Hp → δ → γ → Prop} {t1 : L2.St → Hp → (β → Hp → Prop) → Prop} {m1 : M α} {k : α → M γ} {r : Rs γ} {Q1 : β → Hp → Prop} {Q2 : δ → Hp → Prop}
    (h1 : Does K cl W R1 t1 m1) (st : StOk K cl F G H σ S) (hm : bnd m1 k S = some r) (hp : Post K cl R2 F W G σ Q2 r)
    (hk : ∀ (y : α) (S1 : Sto) (v : β) (G1 H1 : Hp), m1 S = some (.ok y S1) → k y S1 = some r → Same G G1 → StOk K cl F G1 H1 σ S1 → R1 G1 v y → Post K cl R2 F W G1 σ Q2 r → Q1 v H1) : t1 σ H Q1 := by
  unfold bnd at hm
  cases e : m1 S with
  | none =>
    rw [e] at hm
    cases hm
  | some r1 =>
    rw [e] at hm
    cases r1 with
    | ok y S1 =>
      refine h1 F G H σ S _ Q1 st e ?_
      exact fun v G1 H1 s k1 x => hk y S1 v G1 H1 e hm s k1 x (hp.mono s)
    | ex c fs S1 =>
      have hm' : Rs.ex c fs S1 = r := Option.some.inj hm
      subst hm'
      exact h1 F G H σ S _ Q1 st e hp
theorem em_tup {es : List Expr} {ms : List (M PV)} {x1} (h : AM X cl W es (mArgs ms)) (hl : ms.length ≤ 1000 := by decide) : EM X cl W (.Tuple es x1 pos) (mTup ms) := by
  obtain ⟨t, p, d⟩ := h
  refine ⟨_, pe_tupF p, fun F G H σ S rr Q st hm hp => ?_⟩
  refine d.step' (R2 := RV X.K cl) st hm hp fun y S1 v G1 H1 e1 hm1 s1 st1 rv hp1 => ?_
  cases hm1
  have hz : v.length ≤ sizeLine := by
    rw [rv.length, mArgs_len e1]
    exact Nat.le_trans hl (by decide)
  exact ⟨hz, fun p o ho hn => hp1.res1 st1 (.inr ⟨p, _, hn, rfl, .tup (tupAt_new ho) hz (rv.mono (same_new (st1.free hn)))⟩)⟩
def mLst (ms : List (M PV)) : M PV := bnd (mArgs ms) fun xs => ret (.lst xs)
theorem em_lst {es : List Expr} {ms : List (M PV)} (h : AM X cl W es (mArgs ms)) (hl : ms.length ≤ 1000 := by decide) : EM X cl W (.List es pos) (mLst ms) := by
  obtain ⟨t, p, d⟩ := h
  refine ⟨_, pe_lst p, fun F G H σ S rr Q st hm hp => ?_⟩
  refine d.step' (R2 := RV X.K cl) st hm hp fun y S1 v G1 H1 e1 hm1 s1 st1 rv hp1 => ?_
  cases hm1
  have hz : v.length ≤ sizeLine := by
    rw [rv.length, mArgs_len e1]
    exact Nat.le_trans hl (by decide)
  exact ⟨hz, fun p hn => hp1.res1 st1 (.inr ⟨p, _, hn, rfl, .lst upd_same hz (rv.mono (same_new (st1.free hn)))⟩)⟩

/-! ### x[i], x[a:b], o.f -/
def pIdx (x i : PV) : Option PV := match x, i with
  | .tup xs, .int k => atI xs k
  | .lst xs, .int k => atI xs k
  | .frl ns, .int k => (atI ns k).map PV.int
  | .str z, .int k => (atI z.cps.toList k).map fun c => .str ⟨#[c]⟩
  | _, _ => none
theorem atI_rep {K : PySem.W.Frag} {H : Hp} {vs : List V} {xs : List PV} {k : Int} {x : PV} (r : RepL K cl H vs xs) (h : atI xs k = some x) : ∃ v, atI vs k = some v ∧ Rep K cl H v x := by
  unfold atI at h ⊢
  rw [r.length]
  cases e : ixN xs.length k with
  | none => rw [e] at h; cases h
  | some j =>
    rw [e] at h
    exact r.get h
theorem atI_map {α β : Type} {f : α → β} {xs : List α} {k : Int} : atI (xs.map f) k = (atI xs k).map f := by
  unfold atI
  rw [List.length_map]
  cases ixN xs.length k with
  | none => rfl
  | some j => exact List.getElem?_map
theorem bs_idx : BinS X.K cl (rIx X.K) pIdx := by
  intro G H v u x y z Q e rv ru hz k
  unfold pIdx at hz
  cases x <;> cases y <;> try (cases hz; done)
  · rename_i zs i
    cases rv with
    | str _ hl =>
      cases ru
      dsimp only at hz
      cases q : atI zs.cps.toList i with
      | none => rw [q] at hz; cases hz
      | some c =>
        rw [q] at hz
        cases hz
        exact .inr (.inr ⟨_, _, c, rfl, rfl, hl, q, k _ _ (.inl ⟨rfl, .str _ (by show 1 ≤ sizeLine; decide)⟩)⟩)
  · cases rv with
    | tup hs _ hr =>
      cases ru
      obtain ⟨w, ew, rw'⟩ := atI_rep hr hz
      exact .inr (.inl ⟨_, _, _, w, rfl, rfl, sqt_mono e hs, ew, k _ _ (.inl ⟨rfl, rw'⟩)⟩)
  · cases rv with
    | lst hs _ hr =>
      cases ru
      obtain ⟨w, ew, rw'⟩ := atI_rep hr hz
      exact .inl ⟨_, _, _, w, rfl, rfl, SqL.of (e _ _ hs), ew, k _ _ (.inl ⟨rfl, rw'⟩)⟩
  · rename_i ns i
    cases rv with
    | frl hs =>
      cases ru
      dsimp only at hz
      cases q : atI ns i with
      | none => rw [q] at hz; cases hz
      | some c =>
        rw [q] at hz
        cases hz
        exact .inl ⟨_, _, _, .int c, rfl, rfl, e.seq hs, by rw [atI_map, q]; rfl, k _ _ (.inl ⟨rfl, .int _⟩)⟩
theorem em_idx {a b : Expr} {ma mb : M PV} (ha : EM X cl W a ma) (hb : EM X cl W b mb) (hs : PlainIx b := by exact fun _ _ => rfl) : EM X cl W (.Subscript a b pos) (mBin pIdx ma mb) := by
  obtain ⟨ta, pa, da⟩ := ha
  obtain ⟨tb, pb, db⟩ := hb
  exact ⟨_, pe_ix ix_seq pa pb hs, does_bin bs_idx da db⟩
end
end Kp
set_option Elab.async false
set_option linter.all false
set_option maxRecDepth 100000
set_option maxHeartbeats 2000000
namespace Kp
open PySem PyProof.Rows L2

section
variable {X : Cx} {cl : Nat → Addr} {W : WX} {pos : Pos}
/-! ### x[a:b] -/
def cutL {α : Type} (xs : List α) (lo hi : Option Int) : List α := (xs.drop (HT.sIx xs.length 0 lo)).take (HT.sIx xs.length xs.length hi - HT.sIx xs.length 0 lo)
def pSl (x : PV) (lo hi : Option Int) : Option PV := match x with
  | .tup xs => some (.tup (cutL xs lo hi))
  | .lst xs => some (.lst (cutL xs lo hi))
  | .frl ns => if (cutL ns lo hi).length ≤ sizeLine then some (.lst ((cutL ns lo hi).map PV.int)) else none
  | .str z => some (.str (cutS z lo hi))
  | _ => none
theorem repL_cut {K : PySem.W.Frag} {H : Hp} {vs : List V} {xs : List PV} (r : RepL K cl H vs xs) (lo hi : Option Int) : RepL K cl H (cutV vs lo hi) (cutL xs lo hi) := by
  unfold cutV cutL
  rw [r.length]
  exact (r.drop _).take _
theorem cutL_map {α β : Type} {f : α → β} {xs : List α} {lo hi : Option Int} : cutL (xs.map f) lo hi = (cutL xs lo hi).map f := by
  unfold cutL
  rw [List.length_map, List.map_take, List.map_drop]
theorem cutV_ints {ns : List Int} {lo hi : Option Int} : cutV (ns.map V.int) lo hi = (cutL ns lo hi).map V.int := cutL_map (f := V.int)
theorem cutL_whole {α : Type} {xs : List α} {lo hi : Option Int} (h1 : HT.sIx xs.length 0 lo = 0) (h2 : HT.sIx xs.length xs.length hi = xs.length) : cutL xs lo hi = xs := by
  unfold cutL
  rw [h1, h2]
  simp
/-- an optional bound of a slice -/
def OM (X : Cx) (cl : Nat → Addr) (W : WX) (e : Option Expr) (m : M (Option Int)) : Prop :=
  ∃ t, PO X e t ∧ Does X.K cl W (fun _ v x => v = x) t m
def mNoB : M (Option Int) := ret none
def mBd (m : M PV) : M (Option Int) := bnd m fun x => match x with
  | .int i => ret (some i)
  | _ => fun _ => none
theorem om_none : OM X cl W none mNoB := ⟨_, po_none, fun F G H σ S rr Q st hm hp => by
  cases hm
  exact hp _ _ _ (Same.refl _) st rfl⟩
theorem om_some {e : Expr} {m : M PV} (h : EM X cl W e m) : OM X cl W (some e) (mBd m) := by
  obtain ⟨t, p, d⟩ := h
  refine ⟨_, po_some p, fun F G H σ S rr Q st hm hp => ?_⟩
  refine d.step (R2 := fun _ v x => v = x) st hm hp fun y S1 v G1 H1 hm1 s1 st1 rv hp1 => ?_
  cases y <;> try (cases hm1; done)
  cases hm1
  cases rv
  exact ⟨_, rfl, hp1 _ _ _ (Same.refl _) st1 rfl⟩
def mSl (m : M PV) (lo hi : M (Option Int)) : M PV := bnd m fun x => bnd lo fun a => bnd hi fun b => lift (pSl x a b)
theorem em_sl {e : Expr} {lo hi : Option Expr} {m : M PV} {ml mh : M (Option Int)} {p2 : Pos} (he : EM X cl W e m) (hl : OM X cl W lo ml) (hh : OM X cl W hi mh) : EM X cl W (.Subscript e (.Slice lo hi none p2) pos) (mSl m ml mh) := by
  obtain ⟨t, p, d⟩ := he
  obtain ⟨tl, pl, dl⟩ := hl
  obtain ⟨th, ph, dh⟩ := hh
  refine ⟨_, pe_slice (sl_list.or (sl_tupF.or sl_str)) p pl ph, fun F G H σ S rr Q st hm hp => ?_⟩
  refine d.step st hm hp fun x S1 v G1 H1 hm1 s1 st1 rv hp1 => ?_
  refine dl.step st1 hm1 hp1 fun a S2 a' G2 H2 hm2 s2 st2 ra hp2 => ?_
  subst ra
  refine dh.step st2 hm2 hp2 fun b S3 b' G3 H3 hm3 s3 st3 rb hp3 => ?_
  subst rb
  obtain ⟨z, ez, rfl⟩ := lift_eq hm3
  have r3 := (rv.mono s2).mono s3
  unfold pSl at ez
  cases x <;> try (cases ez; done)
  · cases ez
    cases r3 with
    | str _ hl => exact .inr (.inr ⟨_, rfl, hl, hp3.res1 st3 (.inl ⟨rfl, .str _ (Nat.le_trans (cutS_length _ _ _) hl)⟩)⟩)
  · cases ez
    cases r3 with
    | tup hs hz hr =>
      refine .inr (.inl ⟨_, _, rfl, sqt_mono st3.ex hs, fun z => hp3.res1 st3 (.inl ⟨rfl, ?_⟩), fun _ p o ho hn => hp3.res1 st3 (.inr ⟨p, _, hn, rfl, .tup (tupAt_new ho) (Nat.le_trans (cutV_length _ _ _) hz) ((repL_cut hr _ _).mono (same_new (st3.free hn)))⟩)⟩)
      have hl := hr.length
      rw [hl] at z
      rw [cutL_whole z.1 z.2]
      exact .tup hs hz hr
  · cases ez
    cases r3 with
    | lst hs hz hr => exact .inl ⟨_, _, rfl, SqL.of (st3.ex _ _ hs), fun p hn => hp3.res1 st3 (.inr ⟨p, _, hn, rfl, .lst upd_same (Nat.le_trans (cutV_length _ _ _) hz) ((repL_cut hr _ _).mono (same_new (st3.free hn)))⟩)⟩
  · dsimp only at ez
    split at ez <;> try (cases ez; done)
    rename_i c
    cases ez
    cases r3 with
    | frl hs => exact .inl ⟨_, _, rfl, st3.ex.seq hs, fun p hn => hp3.res1 st3 (.inr ⟨p, _, hn, rfl, .lst upd_same (by rw [cutV_ints, List.length_map]; exact c) (by rw [cutV_ints]; exact repL_ints _)⟩)⟩

/-! ### o.f -/
def pFld (c : Nat) (f : Str) (x : PV) : Option PV := match x with
  | .obj d fs => if d = c then fs.lookup f else none
  | _ => none
theorem em_fld {e : Expr} {c : Nat} {f : Str} {m : M PV} (he : EM X cl W e m) (hc : Cls X.K (cl c)) (hn : NoAttr X.K (cl c) f) (hb : attributeBase e f X.env (eval e X.env) = eval e X.env := by rfl) : EM X cl W (.Attribute e f pos) (mUn (pFld c f) m) := by
  obtain ⟨t, p, d⟩ := he
  refine ⟨_, pe_fld p hb, fun F G H σ S rr Q st hm hp => ?_⟩
  refine d.step st hm hp fun x S1 v G1 H1 hm1 s1 st1 rv hp1 => ?_
  obtain ⟨z, ez, rfl⟩ := lift_eq hm1
  unfold pFld at ez
  cases x <;> try (cases ez; done)
  dsimp only at ez
  split at ez <;> try (cases ez; done)
  rename_i q
  subst q
  cases rv with
  | obj hs hr =>
    obtain ⟨w, ew, rw'⟩ := hr.lookup ez
    exact ⟨_, _, _, _, w, rfl, st1.ex _ _ hs, hc, hn, ew, hp1 _ _ _ (Same.refl _) st1 rw'⟩

/-! ### calls -/
def roM : Option RO → M PV
  | some (.ret y) => ret y
  | some (.exc c fs) => fun S => some (.ex c fs S)
  | none => fun _ => none
def mCall (f : List PV → Option RO) (ms : List (M PV)) : M PV := bnd (mArgs ms) fun xs => roM (f xs)
/-- what a promise is worth to a caller -/
theorem spP_use {F : Fr} {G H : Hp} {σ : L2.St} {S : Sto} {n : Nat} {f : List PV → Option RO} {vs : List V} {xs : List PV} {Q : VK} {r : Rs PV} (st : StOk X.K cl F G H σ S) (rl : RepL X.K cl G vs xs) (hl : vs.length = n) (hm : roM (f xs) S = some r) (hp : Post X.K cl (RV X.K cl) F W G σ Q r) :
    spP X.K cl n f vs H Q (WE W σ) := by
  refine ⟨hl, G, xs, ?_⟩
  cases e : f xs with
  | none => rw [e] at hm; cases hm
  | some ro =>
    rw [e] at hm
    refine ⟨ro, st.ex, rl, rfl, ?_⟩
    cases ro with
    | ret y =>
      cases hm
      exact fun v G' H' g r' => hp v G' H' g.g (st.grown g) r'
    | exc c fs =>
      cases hm
      exact fun d gs G' H' g a b => hp d gs G' H' g.g (st.grown g) ⟨a.1, st.free0 a.2, st.rfree a.2⟩ b
theorem em_call {x : Str} {k : Nat} {f : Addr} {fd : FuncData} {ps : List Str} {n : Nat} {g : List PV → Option RO} {p : Pos} {e : Expr} {es : List Expr} {ms : List (M PV)} (tk : L2N.Takes X W) (F : FnOk X.prog X.w X.K X.mg X.base (L2N.CX X.prog X.w) k f fd ps (spP X.K cl n g)) (hr : Room k X.A) (hm : X.mg x = some (.ref f)) (hk : PySem.W.keepIn X.K (.ref f) = true)
    (hb : Binds X.K fd ps []) (ha : AM X cl W (e :: es) (mArgs ms)) (hl : ms.length = n := by rfl) (hg : Gl X x := by rfl) (hdb : (x == ("__debug__" : Str)) = false := by decide) (he : starEach (e :: es) X.env = (false, eval e X.env) :: starEach es X.env := by rfl) (hpl : (backTo pos (starEach es X.env)).any (·.1) = false := by rfl) :
    EM X cl W (.Call (.Name x p) (e :: es) [] pos) (mCall g ms) := by
  obtain ⟨t, pa, d⟩ := ha
  refine ⟨_, pe_callS (E := WE W) F hr hg hm hk hb (fun σ => L2N.passAt tk σ) pa hdb he hpl, fun F G H σ S rr Q st hm hp => ?_⟩
  refine d.step' (R2 := RV X.K cl) st hm hp fun y S1 v G1 H1 e1 hm1 s1 st1 rv hp1 => ?_
  exact spP_use st1 rv (by rw [rv.length, mArgs_len e1]; exact hl) hm1 hp1
/-- the object in slot i is handed in to be changed -/
def mIn (i : Nat) (h : PV → Option (PV × RO)) : M PV := fun S => match S[i]? with
  | some (some (.o x)) => match h x with
    | some (x', .ret y) => some (.ok y (S.set i (some (.o x'))))
    | some (x', .exc c fs) => some (.ex c fs (S.set i (some (.o x'))))
    | none => none
  | some (some (.i x)) => match h x with
    | some (x', .ret y) => some (.ok y (S.set i (some (.i x'))))
    | some (x', .exc c fs) => some (.ex c fs (S.set i (some (.i x'))))
    | none => none
  | _ => none
theorem spI_use {F : Fr} {G H : Hp} {σ : L2.St} {S : Sto} {n i : Nat} {f : PV → List PV → Option (PV × RO)} {v0 : V} {vs : List V} {xs : List PV} {Q : VK} {r : Rs PV} (st : StOk X.K cl F G H σ S) (rl : RepL X.K cl G vs xs) (hl : vs.length + 1 = n) (hv : σ[i]? = some (some v0))
    (hm : mIn i (fun x => f x xs) S = some r) (hp : Post X.K cl (RV X.K cl) F W G σ Q r) : spI X.K cl n f (v0 :: vs) H Q (WE W σ) := by
  refine ⟨by rw [List.length_cons]; exact hl, ?_⟩
  unfold mIn at hm
  split at hm
  · rename_i x e
    obtain ⟨a, ea, ga, h0, q⟩ := st.own i x e
    rw [ea] at hv
    cases hv
    simp only [] at hm
    cases ef : f x xs with
    | none => rw [ef] at hm; cases hm
    | some z =>
      obtain ⟨x', ro⟩ := z
      rw [ef] at hm
      refine ⟨a, vs, G, x, x', xs, ro, rfl, st.ex, ga, q, rl, ef, ?_⟩
      cases ro with
      | ret y =>
        cases hm
        exact fun v G' H' g q' r' => hp v G' H' g.g (st.grownO e ea g q') r'
      | exc c fs =>
        cases hm
        exact fun d gs G' H' g q' a b => hp d gs G' H' g.g (st.grownO e ea g q') ⟨a.1, st.free0 a.2, st.rfree a.2⟩ b
  · rename_i x e
    obtain ⟨a, ea, ga, h0, q⟩ := st.inn i x e
    rw [ea] at hv
    cases hv
    simp only [] at hm
    cases ef : f x xs with
    | none => rw [ef] at hm; cases hm
    | some z =>
      obtain ⟨x', ro⟩ := z
      rw [ef] at hm
      refine ⟨a, vs, G, x, x', xs, ro, rfl, st.ex, ga, q, rl, ef, ?_⟩
      cases ro with
      | ret y =>
        cases hm
        exact fun v G' H' g q' r' => hp v G' H' g.g (st.grownII e ea g q') r'
      | exc c fs =>
        cases hm
        exact fun d gs G' H' g q' a b => hp d gs G' H' g.g (st.grownII e ea g q') ⟨a.1, st.free0 a.2, st.rfree a.2⟩ b
  · cases hm
/-- the slot's object is there (own or handed in) -/
def isO (i : Nat) (S : Sto) : Bool := match S[i]? with
  | some (some (.o _)) => true
  | some (some (.i _)) => true
  | _ => false
theorem isO_ref {F : Fr} {G H : Hp} {σ : L2.St} {S : Sto} {i : Nat} (st : StOk X.K cl F G H σ S) (h : isO i S = true) : ∃ v, σ[i]? = some (some v) := by
  unfold isO at h
  split at h
  · rename_i x e
    obtain ⟨a, ea, _⟩ := st.own i x e
    exact ⟨_, ea⟩
  · rename_i x e
    obtain ⟨a, ea, _⟩ := st.inn i x e
    exact ⟨_, ea⟩
  · cases h
def mCallI (i : Nat) (f : PV → List PV → Option (PV × RO)) (ms : List (M PV)) : M PV := fun S => if isO i S then bnd (mArgs ms) (fun xs => mIn i (fun x => f x xs)) S else none
theorem em_callI {x : Str} {k i : Nat} {f : Addr} {fd : FuncData} {ps : List Str} {n : Nat} {g : PV → List PV → Option (PV × RO)} {p : Pos} {e : Expr} {es : List Expr} {ms : List (M PV)} (tk : L2N.Takes X W) (F : FnOk X.prog X.w X.K X.mg X.base (L2N.CX X.prog X.w) k f fd ps (spI X.K cl n g)) (hr : Room k X.A) (hm : X.mg x = some (.ref f)) (hk : PySem.W.keepIn X.K (.ref f) = true)
    (hb : Binds X.K fd ps []) (he0 : PE X e (tVar i)) (ha : AM X cl W es (mArgs ms)) (hl : ms.length + 1 = n := by rfl) (hg : Gl X x := by rfl) (hdb : (x == ("__debug__" : Str)) = false := by decide) (he : starEach (e :: es) X.env = (false, eval e X.env) :: starEach es X.env := by rfl) (hpl : (backTo pos (starEach es X.env)).any (·.1) = false := by rfl) :
    EM X cl W (.Call (.Name x p) (e :: es) [] pos) (mCallI i g ms) := by
  obtain ⟨t, pa, d⟩ := ha
  refine ⟨_, pe_callS (E := WE W) F hr hg hm hk hb (fun σ => L2N.passAt tk σ) (pa_cons he0 pa he) hdb he hpl, fun F G H σ S rr Q st hm hp => ?_⟩
  unfold mCallI at hm
  split at hm <;> try (cases hm; done)
  rename_i ho
  obtain ⟨v0, ev⟩ := isO_ref st ho
  refine ⟨v0, ev, ?_⟩
  refine d.step' (R2 := RV X.K cl) st hm hp fun y S1 v G1 H1 e1 hm1 s1 st1 rv hp1 => ?_
  exact spI_use st1 rv (by rw [rv.length, mArgs_len e1]; exact hl) ev hm1 hp1

/-! ### methods -/
/-- o.m(e, ..), what it may raise told at the slots -/
def tMethS (C : Addr) (m : Str) (sp : Sp) (E : L2.St → XK) (ta : TE) (t : TA) : TE := fun σ H Q => ta σ H fun x H1 => ∃ a dx fs, x = .ref a ∧ H1 a = some (.ins C dx fs) ∧ fs.lookup m = none ∧
  t σ H1 fun vs H2 => sp (x :: vs) H2 Q (E σ)
theorem pe_methS' {k : Nat} {f C : Addr} {fd : FuncData} {ps : List Str} {sp : Sp} {E : L2.St → XK} {CX : CXT} {m : Str} {apos : Pos} {e o : Expr} {es : List Expr} {ta : TE} {t : TA} {pl : Sem Bool} (he : PE X o ta) (c : Cls X.K C) (hm : Meth X.K C m f) (F : FnOk X.prog X.w X.K X.mg X.base CX k f fd ps sp) (hr : Room k X.A) (hb : Binds X.K fd ps []) (hx : ∀ σ, PassesAt CX X σ (E σ)) (ha : PA X (e :: es) t)
    (hst : starEach (e :: es) X.env = (false, eval e X.env) :: starEach es X.env := by rfl) (hpl : (backTo pos (starEach es X.env)).any (·.1) = false := by rfl)
    (ht : eval (.Call (.Attribute o m apos) (e :: es) [] pos) X.env = (do
      let ov ← eval o X.env
      standAt apos.atName
      let (f, first) ← holding [ov] (getMethod ov m pl)
      callWith pos f first (backTo pos (starEach (e :: es) X.env)) (backToKw pos (keywordEach [] X.env))) := by rfl) :
    PE X (.Call (.Attribute o m apos) (e :: es) [] pos) (tMethS C m sp E ta t) := by
  refine ⟨fun pins s σ H Q I h => ?_⟩
  refine PySem.W.methodCall_KW (pl := pl) (thn (he.run pins s σ H _ I h) fun u s1 ⟨x, H1, I1, rx, a, dx, fs, ex, ea, l, q⟩ => ?_) ht
  subst ex
  obtain rfl : u = Value.ref a := rx
  refine getmeth_ok I1 ea c hm l ?_
  refine PySem.W.callWith_K (first := [.ref a]) (h₀ := X.base) I.ok.mod.kin hm.kp (thn (ha.run pos pins s1 σ H1 _ I1 q) fun us s2 ⟨vs, H2, I2, r, q2⟩ => ⟨I2.kIn, ?_⟩) hst hpl
  exact run_fnS (us := .ref a :: us) (vs := .ref a :: vs) F hr hb (hx σ) I2 (.cons rfl r) q2
theorem pe_methS0' {k : Nat} {f C : Addr} {fd : FuncData} {ps : List Str} {sp : Sp} {E : L2.St → XK} {CX : CXT} {m : Str} {apos : Pos} {o : Expr} {ta : TE} {pl : Sem Bool} (he : PE X o ta) (c : Cls X.K C) (hm : Meth X.K C m f) (F : FnOk X.prog X.w X.K X.mg X.base CX k f fd ps sp) (hr : Room k X.A) (hb : Binds X.K fd ps []) (hx : ∀ σ, PassesAt CX X σ (E σ))
    (ht : eval (.Call (.Attribute o m apos) [] [] pos) X.env = (do
      let ov ← eval o X.env
      standAt apos.atName
      let (f, first) ← holding [ov] (getMethod ov m pl)
      callWith pos f first (backTo pos (starEach [] X.env)) (backToKw pos (keywordEach [] X.env))) := by rfl) :
    PE X (.Call (.Attribute o m apos) [] [] pos) (tMethS C m sp E ta tNil) := by
  refine ⟨fun pins s σ H Q I h => ?_⟩
  refine PySem.W.methodCall_KW (pl := pl) (thn (he.run pins s σ H _ I h) fun u s1 ⟨x, H1, I1, rx, a, dx, fs, ex, ea, l, q⟩ => ?_) ht
  subst ex
  obtain rfl : u = Value.ref a := rx
  refine getmeth_ok I1 ea c hm l ?_
  exact PySem.W.callWith_K0 (first := [.ref a]) I1.kIn hm.kp (run_fnS (us := [.ref a]) (vs := [.ref a]) F hr hb (hx σ) I1 (.cons rfl .nil) q)
/-- a method of a plain object -/
def mMeth (c : Nat) (m : Str) (f : List PV → Option RO) (mo : M PV) (ms : List (M PV)) : M PV := bnd mo fun x => match x with
  | .obj d fs => if d = c ∧ fs.lookup m = none then bnd (mArgs ms) fun xs => roM (f (.obj d fs :: xs)) else fun _ => none
  | _ => fun _ => none
theorem does_meth {k : Nat} {c : Nat} {m : Str} {n : Nat} {g : List PV → Option RO} {ta : TE} {t : TA} {mo : M PV} {ms : List (M PV)} (do_ : Does X.K cl W (RV X.K cl) ta mo) (da : Does X.K cl W (RL X.K cl) t (mArgs ms)) (hl : ms.length + 1 = n) :
    Does X.K cl W (RV X.K cl) (tMethS (cl c) m (spP X.K cl n g) (WE W) ta t) (mMeth c m g mo ms) := by
  intro F G H σ S rr Q st hm hp
  refine do_.step (R2 := RV X.K cl) st hm hp fun y S1 v G1 H1 hm1 s1 st1 rv hp1 => ?_
  cases y <;> try (cases hm1; done)
  rename_i d fs
  dsimp only at hm1
  split at hm1 <;> try (cases hm1; done)
  rename_i q
  obtain ⟨q1, q2⟩ := q
  subst q1
  obtain ⟨a, dx, gs, ea, rf⟩ : ∃ a dx gs, v = .ref a ∧ ∃ e : G1 a = some (.ins (cl d) dx gs), RepF X.K cl G1 gs fs := by
    cases rv with
    | obj hs hr => exact ⟨_, _, _, rfl, hs, hr⟩
  subst ea
  obtain ⟨eg, rf⟩ := rf
  refine ⟨a, dx, gs, rfl, st1.ex _ _ eg, rf.lookup_none q2, ?_⟩
  refine da.step' (R2 := RV X.K cl) st1 hm1 hp1 fun ys S2 vs G2 H2 e2 hm2 s2 st2 rvs hp2 => ?_
  exact spP_use st2 (.cons (rv.mono s2) rvs) (by rw [List.length_cons, rvs.length, mArgs_len e2]; exact hl) hm2 hp2
theorem em_meth {k : Nat} {c : Nat} {f : Addr} {fd : FuncData} {ps : List Str} {n : Nat} {g : List PV → Option RO} {m : Str} {apos : Pos} {e o : Expr} {es : List Expr} {mo : M PV} {ms : List (M PV)} {pl : Sem Bool} (tk : L2N.Takes X W) (c' : Cls X.K (cl c)) (hm : Meth X.K (cl c) m f) (F : FnOk X.prog X.w X.K X.mg X.base (L2N.CX X.prog X.w) k f fd ps (spP X.K cl n g)) (hr : Room k X.A) (hb : Binds X.K fd ps [])
    (ho : EM X cl W o mo) (ha : AM X cl W (e :: es) (mArgs ms)) (hl : ms.length + 1 = n := by rfl)
    (hst : starEach (e :: es) X.env = (false, eval e X.env) :: starEach es X.env := by rfl) (hpl : (backTo pos (starEach es X.env)).any (·.1) = false := by rfl)
    (ht : eval (.Call (.Attribute o m apos) (e :: es) [] pos) X.env = (do
      let ov ← eval o X.env
      standAt apos.atName
      let (f, first) ← holding [ov] (getMethod ov m pl)
      callWith pos f first (backTo pos (starEach (e :: es) X.env)) (backToKw pos (keywordEach [] X.env))) := by rfl) :
    EM X cl W (.Call (.Attribute o m apos) (e :: es) [] pos) (mMeth c m g mo ms) := by
  obtain ⟨ta, po, do_⟩ := ho
  obtain ⟨t, pa, da⟩ := ha
  exact ⟨_, pe_methS' (E := WE W) po c' hm F hr hb (fun σ => L2N.passAt tk σ) pa hst hpl ht, does_meth (k := k) do_ da hl⟩
theorem em_meth0 {k : Nat} {c : Nat} {f : Addr} {fd : FuncData} {ps : List Str} {g : List PV → Option RO} {m : Str} {apos : Pos} {o : Expr} {mo : M PV} {pl : Sem Bool} (tk : L2N.Takes X W) (c' : Cls X.K (cl c)) (hm : Meth X.K (cl c) m f) (F : FnOk X.prog X.w X.K X.mg X.base (L2N.CX X.prog X.w) k f fd ps (spP X.K cl 1 g)) (hr : Room k X.A) (hb : Binds X.K fd ps [])
    (ho : EM X cl W o mo)
    (ht : eval (.Call (.Attribute o m apos) [] [] pos) X.env = (do
      let ov ← eval o X.env
      standAt apos.atName
      let (f, first) ← holding [ov] (getMethod ov m pl)
      callWith pos f first (backTo pos (starEach [] X.env)) (backToKw pos (keywordEach [] X.env))) := by rfl) :
    EM X cl W (.Call (.Attribute o m apos) [] [] pos) (mMeth c m g mo []) := by
  obtain ⟨ta, po, do_⟩ := ho
  obtain ⟨t, pa, da⟩ := am_nil (X := X) (cl := cl) (W := W)
  refine ⟨_, pe_methS0' (E := WE W) po c' hm F hr hb (fun σ => L2N.passAt tk σ) ht, ?_⟩
  exact does_meth (k := k) (t := tNil) do_ (fun F G H σ S rr Q st hm hp => by
    cases hm
    exact hp _ _ _ (Same.refl _) st .nil) rfl

/-! ### C(..) -/
def tMakeS (C : Addr) (sp : Sp) (E : L2.St → XK) (t : TA) : TE := fun σ H Q => t σ H fun vs H1 => ∀ x dx, H1 x = none → H1 dx = none → dx ≠ x →
  sp (.ref x :: vs) (upd (upd H1 dx (.own x)) x (.ins C dx [])) (fun v H2 => v = .non ∧ Q (.ref x) H2) (E σ)
theorem run_makeS {k : Nat} {f C : Addr} {fd : FuncData} {ps : List Str} {sp : Sp} {E : L2.St → XK} {CX : CXT} {pins : List (Addr × Obj)} {σ : L2.St} {H : Hp} {s : Shared} {Q : VK} {us : List Value} {vs : List V} (M : Mk X.K C f) (F : FnOk X.prog X.w X.K X.mg X.base CX k f fd ps sp) (hr : Room (k + 1) X.A) (hb : Binds X.K fd ps [])
    (hx : PassesAt CX X σ (E σ)) (I : Inv X pins σ H s) (r : Vals vs us)
    (h : ∀ x dx, H x = none → H dx = none → dx ≠ x → sp (.ref x :: vs) (upd (upd H dx (.own x)) x (.ins C dx [])) (fun v H2 => v = .non ∧ Q (.ref x) H2) (E σ)) :
    wpAny (model X.prog X.w) X.A (call (.ref C) us) (EP X pins σ Q) X.xe s := by
  have hq := h (s.heap.objs.size + 1) s.heap.objs.size (I.hok.fresh (Nat.le_succ _)) (I.hok.fresh (Nat.le_refl _)) (Nat.ne_of_lt (Nat.lt_succ_self _))
  have I2 := Inv.made (C := C) I
  have r2 : Vals (V.ref (s.heap.objs.size + 1) :: vs) (Value.ref (s.heap.objs.size + 1) :: us) := .cons rfl r
  have hl : (Value.ref (s.heap.objs.size + 1) :: us).length = ps.length := by
    have e := r2.length
    rw [F.len _ _ _ _ hq] at e
    exact e.symm
  have hb2 := hb _ (Value.ref (s.heap.objs.size + 1) :: us) I2.kIn (by rw [List.append_nil]; exact hl)
  rw [List.append_nil] at hb2
  refine wpAny_call (make_map (f := f) I.kIn M.makes M.init (beq_iff_eq.mp M.fn) (codeAny_mono (F.run _ X.stack _ _ ⟨Value.ref (s.heap.objs.size + 1) :: us, []⟩ (Value.ref (s.heap.objs.size + 1) :: us) _ _ (E σ) (hr.make C us [])
    (I2.env0.make C us []) hb2 r2 hq) fun r s' hq' => ?_))
  cases r with
  | error e => exact hx pins _ _ e s' I2 hq'
  | ok fl =>
    cases fl with
    | ret u =>
      obtain ⟨v, H', I3, rv, ev, q3⟩ := I2.after hq'
      subst ev
      exact ⟨rv, ⟨V.ref (s.heap.objs.size + 1), H', I3, rfl, q3⟩⟩
    | next => exact False.elim hq'
    | brk => exact False.elim hq'
    | cont => exact False.elim hq'
theorem pe_makeS {x : Str} {k : Nat} {f C : Addr} {fd : FuncData} {ps : List Str} {sp : Sp} {E : L2.St → XK} {CX : CXT} {p : Pos} {e : Expr} {es : List Expr} {t : TA} (M : Mk X.K C f) (F : FnOk X.prog X.w X.K X.mg X.base CX k f fd ps sp) (hr : Room (k + 1) X.A) (hg : Gl X x) (hm : X.mg x = some (.ref C)) (hb : Binds X.K fd ps []) (hx : ∀ σ, PassesAt CX X σ (E σ))
    (ha : PA X (e :: es) t) (hdb : (x == ("__debug__" : Str)) = false := by decide) (he : starEach (e :: es) X.env = (false, eval e X.env) :: starEach es X.env := by rfl) (hpl : (backTo pos (starEach es X.env)).any (·.1) = false := by rfl) :
    PE X (.Call (.Name x p) (e :: es) [] pos) (tMakeS C sp E t) := by
  refine ⟨fun pins s σ H Q I h => ?_⟩
  refine wpAny_Call_Name_kw (ld_glob I hg hm ?_ hdb)
  refine PySem.W.callWith_K (h₀ := X.base) I.ok.mod.kin M.kp (thn (ha.run pos pins s σ H _ I h) fun us s1 ⟨vs, H1, I1, r, q⟩ => ⟨I1.kIn, ?_⟩) he hpl
  exact run_makeS M F hr hb (hx σ) I1 r q
def mkM (h : PV → Option (PV × RO)) (c : Nat) : M PV := fun S => match h (.obj c []) with
  | some (x', .ret .non) => some (.ok x' S)
  | some (_, .exc c' fs) => some (.ex c' fs S)
  | _ => none
def mMake (c : Nat) (f : PV → List PV → Option (PV × RO)) (ms : List (M PV)) : M PV := bnd (mArgs ms) fun xs => mkM (fun x => f x xs) c
theorem grownI_new {a : Addr} {G H G' H' H1 : Hp} (g : GrownI a G H1 G' H') (ha : H a = none) (hs : Same H H1) : Same H H' := fun b o e => g.h b o (fun z => by rw [z, ha] at e; cases e) (hs b o e)
theorem does_make {c n : Nat} {g : PV → List PV → Option (PV × RO)} {t : TA} {ms : List (M PV)} (da : Does X.K cl W (RL X.K cl) t (mArgs ms)) (hl : ms.length + 1 = n) : Does X.K cl W (RV X.K cl) (tMakeS (cl c) (spI X.K cl n g) (WE W) t) (mMake c g ms) := by
  intro F G H σ S rr Q st hm hp
  refine da.step' (R2 := RV X.K cl) st hm hp fun ys S2 vs G2 H2 e2 hm2 s2 st2 rvs hp2 => ?_
  intro x dx hx hdx ne
  refine ⟨by rw [List.length_cons, rvs.length, mArgs_len e2]; exact hl, ?_⟩
  unfold mkM at hm2
  have st3 : StOk X.K cl F G2 (upd (upd H2 dx (.own x)) x (.ins (cl c) dx [])) σ S2 := (st2.allocO hdx).allocO (by rw [upd_ne (Ne.symm ne)]; exact hx)
  have hs : Same H2 (upd (upd H2 dx (.own x)) x (.ins (cl c) dx [])) := (same_new hdx).trans (same_new (by rw [upd_ne (Ne.symm ne)]; exact hx))
  have gx : G2 x = none := st2.free hx
  simp only [] at hm2
  cases ef : g (.obj c []) ys with
  | none => rw [ef] at hm2; cases hm2
  | some z =>
    obtain ⟨x', ro⟩ := z
    rw [ef] at hm2
    refine ⟨x, vs, G2, .obj c [], x', ys, ro, rfl, st3.ex, gx, ⟨dx, [], upd_same, .nil⟩, rvs, ef, ?_⟩
    -- behind the call: all that stood stands
    have gro : ∀ {G' H' : Hp}, GrownI x G2 (upd (upd H2 dx (.own x)) x (.ins (cl c) dx [])) G' H' → Grown G2 H2 G' H' := fun {G' H'} gg => by
      refine ⟨gg.g, gg.gh, grownI_new gg hx hs, fun a o e => ?_⟩
      rcases gg.new a o e with y | y
      · exact .inl y
      · by_cases z1 : a = x
        · rw [z1]; exact .inr hx
        · rw [upd_ne z1] at y
          by_cases z2 : a = dx
          · rw [z2]; exact .inr hdx
          · rw [upd_ne z2] at y
            exact .inr y
    cases ro with
    | ret y =>
      cases y <;> try (cases hm2; done)
      cases hm2
      intro v G' H' gg q' r'
      cases r'
      refine ⟨rfl, ?_⟩
      have gx' : G' x = none := by
        cases z : G' x with
        | none => rfl
        | some u =>
          rcases gg.new x u z with y | y
          · rw [gx] at y; cases y
          · rw [upd_same] at y; cases y
      obtain ⟨o, ho, r⟩ := own_freeze gx' q'
      have gr := gro gg
      have stf := st2.grown (G' := upd G' x o) (H' := H') ⟨gr.g.trans (same_new gx'), fun b u e => by
        by_cases z : b = x
        · subst z; rw [upd_same] at e; rw [← e]; exact ho
        · rw [upd_ne z] at e; exact gr.gh b u e, gr.h, fun b u e => by
        by_cases z : b = x
        · rw [z]; exact .inr hx
        · rw [upd_ne z] at e; exact gr.new b u e⟩
      exact hp2 _ _ _ (gr.g.trans (same_new gx')) stf r
    | exc c' fs =>
      cases hm2
      exact fun d gs G' H' gg q' a b => hp2 d gs G' H' gg.g (st2.grown (gro gg)) ⟨a.1, st2.free0 (hs.free a.2), st2.rfree (hs.free a.2)⟩ b
theorem em_make {x : Str} {k c : Nat} {f : Addr} {fd : FuncData} {ps : List Str} {n : Nat} {g : PV → List PV → Option (PV × RO)} {p : Pos} {e : Expr} {es : List Expr} {ms : List (M PV)} (tk : L2N.Takes X W) (M : Mk X.K (cl c) f) (F : FnOk X.prog X.w X.K X.mg X.base (L2N.CX X.prog X.w) k f fd ps (spI X.K cl n g)) (hr : Room (k + 1) X.A) (hm : X.mg x = some (.ref (cl c)))
    (hb : Binds X.K fd ps []) (ha : AM X cl W (e :: es) (mArgs ms)) (hl : ms.length + 1 = n := by rfl) (hg : Gl X x := by rfl) (hdb : (x == ("__debug__" : Str)) = false := by decide) (he : starEach (e :: es) X.env = (false, eval e X.env) :: starEach es X.env := by rfl) (hpl : (backTo pos (starEach es X.env)).any (·.1) = false := by rfl) :
    EM X cl W (.Call (.Name x p) (e :: es) [] pos) (mMake c g ms) := by
  obtain ⟨t, pa, da⟩ := ha
  exact ⟨_, pe_makeS (E := WE W) M F hr hg hm hb (fun σ => L2N.passAt tk σ) pa hdb he hpl, does_make da hl⟩
end
end Kp
set_option Elab.async false
set_option linter.all false
set_option maxRecDepth 100000
set_option maxHeartbeats 2000000
namespace Kp
open PySem PyProof.Rows L2

/-! ### list comprehensions -/
def wipeS (S : Sto) : List Nat → Sto
  | [] => S
  | v :: vs => (wipeS S vs).set v none
theorem wipeS_length (S : Sto) : ∀ vs : List Nat, (wipeS S vs).length = S.length
  | [] => rfl
  | v :: vs => by unfold wipeS; rw [List.length_set, wipeS_length S vs]
theorem wipeS_out {S : Sto} {i : Nat} : ∀ {vs : List Nat}, i ∉ vs → (wipeS S vs)[i]? = S[i]?
  | [], _ => rfl
  | v :: vs, h => by
    unfold wipeS
    rw [List.getElem?_set_ne (fun z => h (by rw [z]; exact List.mem_cons_self))]
    exact wipeS_out fun z => h (List.mem_cons_of_mem _ z)
theorem wipeS_in {S : Sto} {i : Nat} {y : SV} : ∀ {vs : List Nat}, i ∈ vs → (wipeS S vs)[i]? ≠ some (some y)
  | [], h => by cases h
  | v :: vs, h => by
    unfold wipeS
    intro q
    rcases set_get q with ⟨_, q', _⟩ | ⟨n, q'⟩
    · cases q'
    · rcases List.mem_cons.mp h with z | z
      · exact n z
      · exact wipeS_in z q'
/-- the slots vs of S, the others of S2 -/
def backS (S : Sto) (S2 : Sto) : List Nat → Sto
  | [] => S2
  | v :: vs => (backS S S2 vs).set v (S[v]?.join)
theorem backS_length (S S2 : Sto) : ∀ vs : List Nat, (backS S S2 vs).length = S2.length
  | [] => rfl
  | v :: vs => by unfold backS; rw [List.length_set, backS_length S S2 vs]
theorem backS_out {S S2 : Sto} {i : Nat} : ∀ {vs : List Nat}, i ∉ vs → (backS S S2 vs)[i]? = S2[i]?
  | [], _ => rfl
  | v :: vs, h => by
    unfold backS
    rw [List.getElem?_set_ne (fun z => h (by rw [z]; exact List.mem_cons_self))]
    exact backS_out fun z => h (List.mem_cons_of_mem _ z)
theorem backS_in {S S2 : Sto} {i : Nat} {y : SV} : ∀ {vs : List Nat}, i ∈ vs → (backS S S2 vs)[i]? = some (some y) → S[i]? = some (some y)
  | [], h, _ => by cases h
  | v :: vs, h, q => by
    unfold backS at q
    rcases set_get q with ⟨z, q', _⟩ | ⟨n, q'⟩
    · subst z
      cases e : S[i]? with
      | none => rw [e] at q'; cases q'
      | some w => rw [e] at q'; rw [q']; rfl
    · rcases List.mem_cons.mp h with z | z
      · exact absurd z n
      · exact backS_in z q'
section
variable {K : PySem.W.Frag} {cl : Nat → Addr} {F : Fr} {G G' H H' : Hp} {σ σ2 : L2.St} {S S2 : Sto}
/-- the slots vs are forgotten -/
theorem StOk.wiped {vs : List Nat} (k : StOk K cl F G H σ2 S) (hw : wipe σ2 vs = wipe σ vs) (hio : ∀ i ∈ vs, F.io i = none) : StOk K cl F G H (wipe σ vs) (wipeS S vs) := by
  have out : ∀ {i : Nat} {y : SV}, (wipeS S vs)[i]? = some (some y) → i ∉ vs ∧ S[i]? = some (some y) := fun {i y} q => by
    by_cases z : i ∈ vs
    · exact absurd q (wipeS_in z)
    · exact ⟨z, by rw [← wipeS_out z]; exact q⟩
  have so : ∀ {i : Nat}, i ∉ vs → (L2.wipe σ vs)[i]? = σ2[i]? := fun {i} n => by rw [← hw]; exact wipe_out n
  refine ⟨k.ex, k.ex0, by rw [wipeS_length, ← hw, wipe_length]; exact k.len, fun i x e => ?_, fun i x e => ?_, fun i x e => ?_, fun i j a x y e1 e2 e3 e4 => ?_, fun i a e => ?_, k.ioh, k.iod, k.frame, k.gnew, fun a o e => ?_⟩
  · obtain ⟨n, q⟩ := out e
    rw [so n]
    exact k.val i x q
  · obtain ⟨n, q⟩ := out e
    rw [so n]
    exact k.own i x q
  · obtain ⟨n, q⟩ := out e
    rw [so n]
    exact k.inn i x q
  · obtain ⟨n1, q1⟩ := out e1
    obtain ⟨n2, q2⟩ := out e2
    rw [so n1] at e3
    rw [so n2] at e4
    exact k.dist i j a x y q1 q2 e3 e4
  · obtain ⟨x, hx⟩ := k.io i a e
    have n : i ∉ vs := fun z => by rw [hio i z] at e; cases e
    exact ⟨x, by rw [wipeS_out n]; exact hx⟩
  · obtain ⟨r1, r2, r3, r4⟩ := k.rsv a o e
    refine ⟨r1, r2, r3, fun i x q z => ?_⟩
    obtain ⟨n, q'⟩ := out q
    rw [so n] at z
    exact r4 i x q' z
/-- .. and come back -/
theorem StOk.back {vs : List Nat} {G1 H1 : Hp} (k1 : StOk K cl F G1 H1 σ S) (hs : Same G1 G) (k : StOk K cl F G H (wipe σ vs) S2) (hp : ∀ i ∈ vs, ∀ y, S[i]? = some (some y) → ∃ x, y = .p x) (hio : ∀ i ∈ vs, F.io i = none) : StOk K cl F G H σ (backS S S2 vs) := by
  have so : ∀ {i : Nat}, i ∉ vs → (L2.wipe σ vs)[i]? = σ[i]? := fun {i} n => wipe_out n
  have own : ∀ {i : Nat} {x : PV}, (backS S S2 vs)[i]? = some (some (.o x)) → i ∉ vs ∧ S2[i]? = some (some (.o x)) := fun {i x} e => by
    by_cases z : i ∈ vs
    · obtain ⟨w, hw⟩ := hp i z _ (backS_in z e)
      cases hw
    · exact ⟨z, by rw [← backS_out z]; exact e⟩
  refine ⟨k.ex, k.ex0, by rw [backS_length, ← k.len, wipe_length], fun i x e => ?_, fun i x e => ?_, fun i x e => ?_, fun i j a x y e1 e2 e3 e4 => ?_, fun i a e => ?_, k.ioh, k.iod, k.frame, k.gnew, fun a o e => ?_⟩
  · by_cases z : i ∈ vs
    · obtain ⟨v, ev, rv⟩ := k1.val i x (backS_in z e)
      exact ⟨v, ev, rv.mono hs⟩
    · rw [backS_out z] at e
      rw [← so z]
      exact k.val i x e
  · obtain ⟨n, q⟩ := own e
    rw [← so n]
    exact k.own i x q
  · by_cases z : i ∈ vs
    · obtain ⟨w, hw⟩ := hp i z _ (backS_in z e)
      cases hw
    · rw [backS_out z] at e
      rw [← so z]
      exact k.inn i x e
  · obtain ⟨n1, q1⟩ := own e1
    obtain ⟨n2, q2⟩ := own e2
    rw [← so n1] at e3
    rw [← so n2] at e4
    exact k.dist i j a x y q1 q2 e3 e4
  · obtain ⟨x, hx⟩ := k.io i a e
    have n : i ∉ vs := fun z => by rw [hio i z] at e; cases e
    exact ⟨x, by rw [backS_out n]; exact hx⟩
  · obtain ⟨r1, r2, r3, r4⟩ := k.rsv a o e
    refine ⟨r1, r2, r3, fun i x q z => ?_⟩
    obtain ⟨n, q'⟩ := own q
    rw [← so n] at z
    exact r4 i x q' z
end
/-- the turns: what is made of the items -/
def lcGo (vs : List Nat) (g : PV → Sto → Option Sto) (mt : M Bool) (me : M PV) : List PV → Sto → Option (List PV × Sto)
  | [], S => some ([], S)
  | y :: ys, S => match g y S with
    | none => none
    | some S1 => match mt S1 with
      | some (.ok true S2) => match me S2 with
        | some (.ok z S3) => match lcGo vs g mt me ys (wipeS S3 vs) with
          | some (zs, S4) => some (z :: zs, S4)
          | none => none
        | _ => none
      | some (.ok false S2) => lcGo vs g mt me ys (wipeS S2 vs)
      | _ => none
def plainAt (S : Sto) (vs : List Nat) : Bool := vs.all fun i => match S[i]? with
  | some (some (.o _)) => false
  | some (some (.i _)) => false
  | none => false
  | _ => true
def mLc (vs : List Nat) (mi : M (List PV)) (g : PV → Sto → Option Sto) (mt : M Bool) (me : M PV) : M PV := fun S => match mi S with
  | some (.ok ys S1) => if ys.length ≤ sizeLine ∧ plainAt S1 vs = true then match lcGo vs g mt me ys (wipeS S1 vs) with
      | some (zs, S2) => some (.ok (.lst zs) (backS S1 S2 vs))
      | none => none
    else none
  | _ => none
def mYes : M Bool := ret true
theorem lcGo_len {vs : List Nat} {g : PV → Sto → Option Sto} {mt : M Bool} {me : M PV} : ∀ {ys : List PV} {S S' : Sto} {zs : List PV}, lcGo vs g mt me ys S = some (zs, S') → zs.length ≤ ys.length
  | [], S, S', zs, h => by
    unfold lcGo at h
    cases h
    exact Nat.le_refl _
  | y :: ys, S, S', zs, h => by
    unfold lcGo at h
    split at h
    · cases h
    · split at h
      · split at h
        · split at h
          · rename_i e
            cases h
            have := lcGo_len e
            simp only [List.length_cons]
            omega
          · cases h
        · cases h
      · have := lcGo_len h
        simp only [List.length_cons]
        omega
      · cases h
section
variable {X : Cx} {cl : Nat → Addr} {W : WX} {pos : Pos}
/-- a test of a comprehension -/
def TsM (X : Cx) (cl : Nat → Addr) (W : WX) (ifs : List Expr) (m : M Bool) : Prop := ∃ t, PTs X ifs t ∧ Does X.K cl W RB t m
theorem ts_nil : TsM X cl W [] mYes := ⟨_, pts_nil, fun F G H σ S rr Q st hm hp => by
  cases hm
  exact hp _ _ _ (Same.refl _) st rfl⟩
theorem ts_one {c : Expr} {m : M Bool} (h : TM X cl W c m) : TsM X cl W [c] m := by
  obtain ⟨t, p, d⟩ := h
  exact ⟨_, pts_one p, d⟩
abbrev W0 : WX := fun _ _ _ _ => False
/-- the targets take their items into the slots vs alone -/
def gIn (vs : List Nat) (t : TG) : Prop := ∀ (v : V) (σ : L2.St) (H : Hp) (Q Q' : L2.St → Hp → Prop), t v (wipe σ vs) H Q → (∀ σ' H', wipe σ' vs = wipe σ vs → Q σ' H' → Q' σ' H') → t v (wipe σ vs) H Q'
theorem does_lc {vs : List Nat} {wi : TI} {tg : TG} {tt : TT} {te : TE} {mi : M (List PV)} {g : PV → Sto → Option Sto} {mt : M Bool} {me : M PV} (hi : DoesI X.K cl W wi mi) (hg : DoesG X.K cl tg g) (hgi : gIn vs tg)
    (ht : Does X.K cl W0 RB tt mt) (he : Does X.K cl W0 (RV X.K cl) te me) : Does X.K cl W (RV X.K cl) (tLc wi tg tt te vs) (mLc vs mi g mt me) := by
  intro F G H σ S r Q st hm hp
  unfold mLc at hm
  split at hm <;> try (cases hm; done)
  rename_i ys S1 e1
  split at hm <;> try (cases hm; done)
  rename_i c
  obtain ⟨hlen, hpl⟩ := c
  split at hm <;> try (cases hm; done)
  rename_i zs S2 eg
  cases hm
  refine hi F G H σ S ys S1 _ st e1 fun J G1 H1 s1 st1 hw => ?_
  intro D hD
  have plain : ∀ i ∈ vs, ∀ y, S1[i]? = some (some y) → ∃ x, y = .p x := fun i hi y e => by
    have := List.all_eq_true.mp hpl i hi
    rw [e] at this
    cases y with
    | p x => exact ⟨x, rfl⟩
    | o x => cases this
    | i x => cases this
  have hio : ∀ i ∈ vs, F.io i = none := fun i hi => by
    cases q : F.io i with
    | none => rfl
    | some a =>
      obtain ⟨x, hx⟩ := st1.io i a q
      have := List.all_eq_true.mp hpl i hi
      rw [hx] at this
      cases this
  have fr := st1.rfree hD
  have stw := st1.wiped (σ := σ) (vs := vs) rfl hio
  have hfresh : ∀ (i : Nat) (x : PV), (wipeS S1 vs)[i]? = some (some (.o x)) → (wipe σ vs)[i]? ≠ some (some (V.ref D)) := fun i x e z => by
    obtain ⟨a, ea, _, _, q⟩ := stw.own i x e
    rw [z] at ea
    cases ea
    obtain ⟨o, ho⟩ := q.there
    rw [hD] at ho
    cases ho
  have st2 := stw.rsvNew (o := .lst []) hD hfresh
  -- the turns
  refine ⟨fun i n H' => n + i = ys.length ∧ ∃ (G' : Hp) (S' : Sto) (acc : List V) (done rest : List PV), Same G1 G' ∧ acc.length ≤ i ∧ StOk X.K cl { F with R := fun b => if b = D then some (.lst acc) else F.R b } G' H' (wipe σ vs) S' ∧ RepL X.K cl G' acc done ∧
    done ++ rest = zs ∧ lcGo vs g mt me (ys.drop i) S' = some (rest, S2), ⟨ys.length, Nat.add_zero _, G1, _, [], [], zs, Same.refl _, Nat.zero_le _, st2, .nil, rfl, eg⟩, ?_⟩
  rintro i n H' ⟨hn, G', S', acc, dn, rest, s', hacc, st', rl, hz, hl⟩
  obtain ⟨hgo, hstop⟩ := hw i G' H' s' st'.ex
  cases e : ys[i]? with
  | none =>
    have hle : ys.length ≤ i := List.getElem?_eq_none_iff.mp e
    refine .inl ⟨hstop hle, ?_⟩
    rw [List.drop_eq_nil_of_le hle] at hl
    unfold lcGo at hl
    cases hl
    rw [List.append_nil] at hz
    subst hz
    obtain ⟨st3, gD⟩ := st'.rsvEnd fr
    have hzl : acc.length ≤ sizeLine := by
      rw [rl.length]
      exact Nat.le_trans (lcGo_len eg) hlen
    have sg : Same G' (upd G' D (.lst acc)) := same_new gD
    exact hp _ _ _ (s1.trans (s'.trans sg)) (StOk.back st1 (s'.trans sg) st3 plain hio) (.lst upd_same hzl (rl.mono sg))
  | some y =>
    obtain ⟨hlt, _⟩ := List.getElem?_eq_some_iff.mp e
    have hd : ys.drop i = y :: ys.drop (i + 1) := by
      rw [List.drop_eq_getElem_cons hlt]
      have : ys[i] = y := by
        have := List.getElem?_eq_getElem hlt
        rw [e] at this
        exact (Option.some.inj this).symm
      rw [this]
    rw [hd] at hl
    unfold lcGo at hl
    obtain ⟨go, hy⟩ := hgo y e
    refine .inr ⟨go, fun H3 => (n - 1) + (i + 1) = ys.length ∧ ∃ (G' : Hp) (S' : Sto) (acc : List V) (done rest : List PV), Same G1 G' ∧ acc.length ≤ i + 1 ∧ StOk X.K cl { F with R := fun b => if b = D then some (.lst acc) else F.R b } G' H3 (wipe σ vs) S' ∧ RepL X.K cl G' acc done ∧
      done ++ rest = zs ∧ lcGo vs g mt me (ys.drop (i + 1)) S' = some (rest, S2), fun H3 q => ⟨n - 1, by omega, q⟩, fun x H3 hx => ?_⟩
    obtain ⟨G3, s3, st3, r3⟩ := st'.res1 (hy x H3 hx)
    cases eg1 : g y S' with
    | none => rw [eg1] at hl; cases hl
    | some Sg =>
      rw [eg1] at hl
      refine hgi x σ H3 (fun σ' H' => H' = H3 ∧ StOk X.K cl { F with R := fun b => if b = D then some (.lst acc) else F.R b } G3 H3 σ' Sg) _ (hg _ G3 H3 _ S' Sg x y _ st3 r3 eg1 fun σ4 st4 => ⟨rfl, st4⟩) fun σ4 H4 hwσ q4 => ⟨hwσ, ?_⟩
      obtain ⟨rfl, st4⟩ := q4
      simp only [] at hl
      cases et : mt Sg with
      | none => rw [et] at hl; cases hl
      | some rt =>
        rw [et] at hl
        cases rt with
        | ex c fs S5 => cases hl
        | ok b S5 =>
          refine ht _ G3 _ σ4 Sg _ _ st4 et ?_
          intro b' G5 H5 s5 st5 hb
          cases hb
          cases b with
          | false =>
            simp only [] at hl
            rw [if_neg Bool.false_ne_true]
            exact ⟨by omega, G5, _, acc, dn, rest, (s'.trans s3).trans s5, Nat.le_succ_of_le hacc, st5.wiped hwσ hio, (rl.mono s3).mono s5, hz, hl⟩
          | true =>
            simp only [] at hl
            rw [if_pos rfl]
            cases ee : me S5 with
            | none => rw [ee] at hl; cases hl
            | some re =>
              rw [ee] at hl
              cases re with
              | ex c fs S6 => cases hl
              | ok z S6 =>
                simp only [] at hl
                cases eg6 : lcGo vs g mt me (ys.drop (i + 1)) (wipeS S6 vs) with
                | none => rw [eg6] at hl; cases hl
                | some q6 =>
                  obtain ⟨zs6, S7⟩ := q6
                  rw [eg6] at hl
                  cases hl
                  refine he _ G5 H5 σ4 S5 _ _ st5 ee ?_
                  intro w G6 H6 s6 st6 rw'
                  have hH := (st6.rsv D (.lst acc) (if_pos rfl)).1
                  refine ⟨acc, hH, by omega, by omega, G6, _, acc ++ [w], dn ++ [z], zs6, ((s'.trans s3).trans s5).trans s6, by rw [List.length_append, List.length_singleton]; omega,
                    StOk.rsvSet (st6.wiped hwσ hio), (((rl.mono s3).mono s5).mono s6).append (.one rw'), by rw [List.append_assoc]; exact hz, eg6⟩
theorem em_lc {elt tg iter : Expr} {ifs : List Expr} {scope : Scope} {own : List (Str × Nat)} {mi : M (List PV)} {g : PV → Sto → Option Sto} {t : TG} {mt : M Bool} {me : M PV} (hc : X.calm = true) (hN : X.N.Nodup) (hi : IM X cl W tg iter mi) (ok : BlkOk X.N X.env.scope scope own)
    (hg : ∀ (s : Shared) (H : Hp) (C : Addr) (cl' : List (Str × Addr)) (fp : List Addr), PG (X.blk s H scope (compEnvC scope cl' C X.env) fp) tg t) (hgd : DoesG X.K cl t g)
    (hgi : gIn (own.map (·.2)) t)
    (ht : ∃ tt, (∀ (s : Shared) (H : Hp) (C : Addr) (cl' : List (Str × Addr)) (fp : List Addr), PTs (X.blk s H scope (compEnvC scope cl' C X.env) fp) ifs tt) ∧ Does X.K cl W0 RB tt mt)
    (he : ∃ te, (∀ (s : Shared) (H : Hp) (C : Addr) (cl' : List (Str × Addr)) (fp : List Addr), PE (X.blk s H scope (compEnvC scope cl' C X.env) fp) elt te) ∧ Does X.K cl W0 (RV X.K cl) te me)
    (hs : ∀ x, foldedSetIterable iter X.env x = pure x := by intro _; rfl) :
    EM X cl W (.ListComp elt [⟨tg, iter, ifs, 0⟩] scope pos) (mLc (own.map (·.2)) mi g mt me) := by
  obtain ⟨wi, pi, di⟩ := hi
  obtain ⟨tt, pt, dt⟩ := ht
  obtain ⟨te, pe, de⟩ := he
  exact ⟨_, pe_lc hc hN pi ok hg pt pe hs, does_lc di hgd hgi dt de⟩
end
end Kp
set_option Elab.async false
set_option linter.all false
set_option maxRecDepth 100000
set_option maxHeartbeats 2000000
namespace Kp
open PySem PyProof.Rows L2

/-! ### targets -/
section
variable {K : PySem.W.Frag} {cl : Nat → Addr}
theorem does_gN {i : Nat} : DoesG K cl (gName i) (gN i) := fun F G H σ S S' v y Q st r h k => by
  unfold gN at h
  split at h
  · rename_i u S2 e
    cases h
    exact k _ (put_ok st e r)
  · cases h
def gTs : List (PV → Sto → Option Sto) → List PV → Sto → Option Sto
  | [], [], S => some S
  | g :: gs, y :: ys, S => match g y S with
    | some S' => gTs gs ys S'
    | none => none
  | _, _, _ => none
def gT (gs : List (PV → Sto → Option Sto)) : PV → Sto → Option Sto := fun y S => match y with
  | .tup xs => gTs gs xs S
  | _ => none
theorem gTs_len : ∀ {gs : List (PV → Sto → Option Sto)} {ys : List PV} {S S' : Sto}, gTs gs ys S = some S' → ys.length = gs.length
  | [], [], _, _, _ => rfl
  | [], _ :: _, _, _, h => by cases h
  | _ :: _, [], _, _, h => by cases h
  | g :: gs, y :: ys, S, S', h => by
    unfold gTs at h
    split at h
    · rw [List.length_cons, List.length_cons, gTs_len h]
    · cases h
def DoesGs (K : PySem.W.Frag) (cl : Nat → Addr) (t : TGs) (g : List PV → Sto → Option Sto) : Prop :=
  ∀ (F : Fr) (G H : Hp) (σ : L2.St) (S S' : Sto) (vs : List V) (ys : List PV) (Q : L2.St → Hp → Prop), StOk K cl F G H σ S → RepL K cl G vs ys → g ys S = some S' →
    (∀ σ', StOk K cl F G H σ' S' → Q σ' H) → t vs σ H Q
theorem does_gNil : DoesGs K cl gNil (gTs []) := fun F G H σ S S' vs ys Q st r h k => by
  cases ys with
  | nil =>
    cases r
    cases h
    exact ⟨rfl, k σ st⟩
  | cons y ys => cases h
theorem does_gCons {t : TG} {u : TGs} {g : PV → Sto → Option Sto} {gs : List (PV → Sto → Option Sto)} (h1 : DoesG K cl t g) (h2 : DoesGs K cl u (gTs gs)) : DoesGs K cl (gCons t u) (gTs (g :: gs)) := fun F G H σ S S' vs ys Q st r h k => by
  cases ys with
  | nil => cases h
  | cons y ys =>
    cases r with
    | cons rv rvs =>
      unfold gTs at h
      split at h
      · rename_i S1 e
        exact ⟨_, _, rfl, h1 F G H σ S S1 _ y _ st rv e fun σ' st' => h2 F G H σ' S1 S' _ ys Q st' rvs h k⟩
      · cases h
theorem does_gT {n : Nat} {u : TGs} {gs : List (PV → Sto → Option Sto)} (h2 : DoesGs K cl u (gTs gs)) (hn : gs.length = n) : DoesG K cl (gTup K n u) (gT gs) := fun F G H σ S S' v y Q st r h k => by
  cases y <;> try (cases h; done)
  cases r with
  | tup hs hz hr => exact ⟨_, _, rfl, sqt_mono st.ex hs, by rw [hr.length, gTs_len h]; exact hn, h2 F G H σ S S' _ _ Q st hr h k⟩
/-- the target takes the slots vs alone -/
def gInA (vs : List Nat) (t : TG) : Prop := ∀ (v : V) (σ : L2.St) (H : Hp) (Q Q' : L2.St → Hp → Prop), t v σ H Q → (∀ σ' H', wipe σ' vs = wipe σ vs → Q σ' H' → Q' σ' H') → t v σ H Q'
def gInAs (vs : List Nat) (t : TGs) : Prop := ∀ (v : List V) (σ : L2.St) (H : Hp) (Q Q' : L2.St → Hp → Prop), t v σ H Q → (∀ σ' H', wipe σ' vs = wipe σ vs → Q σ' H' → Q' σ' H') → t v σ H Q'
theorem wipe_get (σ : L2.St) (vs : List Nat) (j : Nat) : (wipe σ vs)[j]? = if j ∈ vs then (if j < σ.length then some none else none) else σ[j]? := by
  by_cases h : j ∈ vs
  · rw [if_pos h]
    by_cases lt : j < σ.length
    · rw [if_pos lt]
      cases e : (wipe σ vs)[j]? with
      | none =>
        have := List.getElem?_eq_none_iff.mp e
        rw [wipe_length] at this
        omega
      | some w =>
        cases w with
        | none => rfl
        | some x => exact absurd h (wipe_some e).2
    · rw [if_neg lt]
      exact List.getElem?_eq_none (by rw [wipe_length]; omega)
  · rw [if_neg h]
    exact wipe_out h
theorem wipe_ext {σ σ' : L2.St} {vs : List Nat} (hl : σ.length = σ'.length) (h : ∀ j, j ∉ vs → σ[j]? = σ'[j]?) : wipe σ vs = wipe σ' vs := by
  apply List.ext_getElem?
  intro j
  rw [wipe_get, wipe_get, hl]
  by_cases q : j ∈ vs
  · rw [if_pos q, if_pos q]
  · rw [if_neg q, if_neg q]
    exact h j q
theorem gin_N {vs : List Nat} {i : Nat} (h : i ∈ vs) : gInA vs (gName i) := fun v σ H Q Q' q k => by
  refine k _ _ (wipe_ext (by rw [List.length_set]) fun j hj => ?_) q
  rw [List.getElem?_set_ne (fun z => hj (by rw [← z]; exact h))]
theorem gin_Nil {vs : List Nat} : gInAs vs gNil := fun v σ H Q Q' q k => ⟨q.1, k _ _ rfl q.2⟩
theorem gin_Cons {vs : List Nat} {t : TG} {u : TGs} (h1 : gInA vs t) (h2 : gInAs vs u) : gInAs vs (gCons t u) := fun v σ H Q Q' q k => by
  obtain ⟨x, r, e, q⟩ := q
  exact ⟨x, r, e, h1 x σ H _ _ q fun σ1 H1 w q1 => h2 r σ1 H1 _ _ q1 fun σ2 H2 w2 q2 => k σ2 H2 (w2.trans w) q2⟩
theorem gin_T {vs : List Nat} {n : Nat} {u : TGs} (h : gInAs vs u) : gInA vs (gTup K n u) := fun v σ H Q Q' q k => by
  obtain ⟨a, xs, e, hs, hl, q⟩ := q
  exact ⟨a, xs, e, hs, hl, h xs σ H _ _ q k⟩
theorem gin_of {vs : List Nat} {t : TG} (h : gInA vs t) : gIn vs t := fun v σ H Q Q' q k => by
  refine h v _ H _ _ q fun σ' H' w q' => k σ' H' (w.trans ?_) q'
  exact wipe_ext (wipe_length _ _) fun j hj => wipe_out hj
end

section
variable {X : Cx} {cl : Nat → Addr} {W : WX} {pos : Pos}
theorem gm_of {tg : Expr} {t : TG} {g : PV → Sto → Option Sto} (h : PG X tg t) (d : DoesG X.K cl t g) : GM X cl tg g := ⟨t, h, d⟩
/-- a, b = e -/
def mAsg (m : M PV) (g : PV → Sto → Option Sto) : M Fl := bnd m fun x => fun S => match g x S with
  | some S' => some (.ok .nx S')
  | none => none
theorem sm_asg {tg e : Expr} {m : M PV} {g : PV → Sto → Option Sto} (h : EM X cl W e m) (hg : GM X cl tg g) (hs : swapsWithSole [tg] e pos.line X.env = pure false := by rfl) (hw : swappedStores [tg] e X.env = pure none := by rfl)
    (h1 : (assignEach [tg] X.env).map (·.2) = [assign tg X.env] := by rfl) : SM X cl W (.Assign [tg] e pos) (mAsg m g) := by
  obtain ⟨t, p, d⟩ := h
  obtain ⟨u, q, dg⟩ := hg
  refine ⟨_, ps_asg p q hs hw h1, fun F G H σ S r D st hm hp => ?_⟩
  refine d.stepS st hm hp fun y S1 v G1 H1 hm1 s1 st1 rv hp1 => ?_
  split at hm1
  · rename_i S2 e
    cases hm1
    exact dg F G1 H1 σ S1 S2 v y _ st1 rv e fun σ' st' => hp1 σ' G1 H1 (Same.refl _) st'
  · cases hm1

/-! ### peeks: an own object is looked at, not handed on -/
def pk (i : Nat) (S : Sto) : Option PV := match S[i]? with
  | some (some (.p x)) => some x
  | some (some (.o x)) => some x
  | some (some (.i x)) => some x
  | _ => none
def PV.atom : PV → Bool
  | .non => true
  | .bl _ => true
  | .int _ => true
  | .str _ => true
  | _ => false
theorem Rep.atom {K : PySem.W.Frag} {H H' : Hp} {v : V} {x : PV} (r : Rep K cl H v x) (h : x.atom = true) : Rep K cl H' v x := by
  cases r <;> first | exact .non | exact .bl _ | exact .int _ | exact .str _ ‹_› | cases h
/-- the slot's value, plain over a heap that knows the own object, too -/
theorem pk_view {K : PySem.W.Frag} {F : Fr} {G H : Hp} {σ : L2.St} {S : Sto} {i : Nat} {x : PV} (st : StOk K cl F G H σ S) (h : pk i S = some x) :
    ∃ (v : V) (G' : Hp), σ[i]? = some (some v) ∧ Same G G' ∧ Same G' H ∧ Rep K cl G' v x := by
  have fz : ∀ {a : Addr}, G a = none → OwnAt K cl G H a x → ∃ (G' : Hp), Same G G' ∧ Same G' H ∧ Rep K cl G' (.ref a) x := fun {a} ga q => by
    obtain ⟨o, ho, r⟩ := own_freeze ga q
    refine ⟨_, same_new ga, fun b u e => ?_, r⟩
    by_cases z : b = a
    · subst z
      rw [upd_same] at e
      rw [← e]; exact ho
    · rw [upd_ne z] at e
      exact st.ex b u e
  unfold pk at h
  split at h
  · rename_i y e
    cases h
    obtain ⟨v, ev, rv⟩ := st.val i _ e
    exact ⟨v, G, ev, Same.refl _, st.ex, rv⟩
  · rename_i y e
    cases h
    obtain ⟨a, ea, ga, h0, q⟩ := st.own i _ e
    obtain ⟨G', s1, s2, r⟩ := fz ga q
    exact ⟨_, G', ea, s1, s2, r⟩
  · rename_i y e
    cases h
    obtain ⟨a, ea, ga, hio, q⟩ := st.inn i _ e
    obtain ⟨G', s1, s2, r⟩ := fz ga q
    exact ⟨_, G', ea, s1, s2, r⟩
  · cases h
/-- an operation's end with an atom -/
theorem post_atom {F : Fr} {G G' H H' : Hp} {σ : L2.St} {S : Sto} {Q : VK} {z : PV} {w : V} (h : Post X.K cl (RV X.K cl) F W G σ Q (.ok z S)) (st : StOk X.K cl F G H σ S) (hz : z.atom = true) (q : Res1 X.K cl G' H z w H') : Q w H' := by
  rcases q with ⟨rfl, r⟩ | ⟨p, o, hp, rfl, r⟩
  · exact h w G _ (Same.refl _) st (r.atom hz)
  · exact h w _ _ (same_new (st.free hp)) (st.alloc hp) (r.atom hz)
def opk (i : Nat) (f : PV → Option PV) : M PV := fun S => match pk i S with
  | some x => match f x with
    | some z => if z.atom then some (.ok z S) else none
    | none => none
  | none => none
theorem opk_some {i : Nat} {f : PV → Option PV} {S : Sto} {r : Rs PV} (h : opk i f S = some r) : ∃ x z, pk i S = some x ∧ f x = some z ∧ z.atom = true ∧ r = .ok z S := by
  unfold opk at h
  split at h
  · rename_i x e
    split at h
    · rename_i z ez
      split at h
      · rename_i hz
        cases h
        exact ⟨x, z, e, ez, hz, rfl⟩
      · cases h
    · cases h
  · cases h
def guardPk {α : Type} (i : Nat) (m : M α) : M α := fun S => match pk i S with
  | some _ => m S
  | none => none
theorem guardPk_some {α : Type} {i : Nat} {m : M α} {S : Sto} {r : Rs α} (h : guardPk i m S = some r) : (∃ x, pk i S = some x) ∧ m S = some r := by
  unfold guardPk at h
  split at h
  · rename_i x e
    exact ⟨⟨x, e⟩, h⟩
  · cases h
/-- a op e, a a name -/
def mBinL (g : PV → PV → Option PV) (i : Nat) (mb : M PV) : M PV := guardPk i (bnd mb fun y => opk i fun x => g x y)
def mBinR (g : PV → PV → Option PV) (ma : M PV) (i : Nat) : M PV := bnd ma fun x => opk i fun y => g x y
theorem does_binL {i : Nat} {g : PV → PV → Option PV} {r : R2} {tb : TE} {mb : M PV} (hr : BinS X.K cl r g) (h2 : Does X.K cl W (RV X.K cl) tb mb) : Does X.K cl W (RV X.K cl) (tOp r (tVar i) tb) (mBinL g i mb) := by
  intro F G H σ S rr Q st hm hp
  obtain ⟨⟨x0, e0⟩, hm⟩ := guardPk_some hm
  obtain ⟨v, G0, ev, _⟩ := pk_view st e0
  refine ⟨v, ev, ?_⟩
  refine h2.step st hm hp fun y S2 u G2 H2 hm2 s2 st2 ru hp2 => ?_
  obtain ⟨x, z, e1, ez, hz, rfl⟩ := opk_some hm2
  obtain ⟨v', G3, ev', s3, s3', rv⟩ := pk_view st2 e1
  rw [ev] at ev'
  cases ev'
  exact hr G3 H2 v u x y z Q s3' rv (ru.mono s3) ez fun w H' q => post_atom hp2 st2 hz q
theorem does_binR {i : Nat} {g : PV → PV → Option PV} {r : R2} {ta : TE} {ma : M PV} (hr : BinS X.K cl r g) (h1 : Does X.K cl W (RV X.K cl) ta ma) : Does X.K cl W (RV X.K cl) (tOp r ta (tVar i)) (mBinR g ma i) := by
  intro F G H σ S rr Q st hm hp
  refine h1.step st hm hp fun x S2 u G2 H2 hm2 s2 st2 ru hp2 => ?_
  obtain ⟨y, z, e1, ez, hz, rfl⟩ := opk_some hm2
  obtain ⟨v', G3, ev', s3, s3', rv⟩ := pk_view st2 e1
  exact ⟨v', ev', hr G3 H2 u v' x y z Q s3' (ru.mono s3) rv ez fun w H' q => post_atom hp2 st2 hz q⟩
theorem em_cmpL {op : CmpOp} {a b : Expr} {i : Nat} {g : PV → PV → Option PV} {mb : M PV} (hb : BinR X cl (compareOp op) g) (ha : PE X a (tVar i)) (hb' : EM X cl W b mb) (hm : behindInMarks op b = false) : EM X cl W (.Compare a [op] [b] pos) (mBinL g i mb) := by
  obtain ⟨tb, pb, db⟩ := hb'
  obtain ⟨r, ho, hs⟩ := hb
  exact ⟨_, pe_cmpR ho ha pb hm, does_binL hs db⟩
theorem em_cmpRt {op : CmpOp} {a b : Expr} {i : Nat} {g : PV → PV → Option PV} {ma : M PV} (hb : BinR X cl (compareOp op) g) (ha : EM X cl W a ma) (hb' : PE X b (tVar i)) (hm : behindInMarks op b = false) : EM X cl W (.Compare a [op] [b] pos) (mBinR g ma i) := by
  obtain ⟨ta, pa, da⟩ := ha
  obtain ⟨r, ho, hs⟩ := hb
  exact ⟨_, pe_cmpR ho pa hb' hm, does_binR hs da⟩
theorem tm_cmpL {op : CmpOp} {a b : Expr} {i : Nat} {g : PV → PV → Option PV} {mb : M PV} (hb : BinR X cl (compareOp op) g) (ha : PE X a (tVar i)) (hb' : EM X cl W b mb) (hm : behindInMarks op b = false) : TM X cl W (.Compare a [op] [b] pos) (mTest (mBinL g i mb)) := by
  obtain ⟨tb, pb, db⟩ := hb'
  obtain ⟨r, ho, hs⟩ := hb
  exact ⟨_, pt_cmpR ho ha pb hm, does_test (does_binL hs db)⟩
theorem tm_cmpRt {op : CmpOp} {a b : Expr} {i : Nat} {g : PV → PV → Option PV} {ma : M PV} (hb : BinR X cl (compareOp op) g) (ha : EM X cl W a ma) (hb' : PE X b (tVar i)) (hm : behindInMarks op b = false) : TM X cl W (.Compare a [op] [b] pos) (mTest (mBinR g ma i)) := by
  obtain ⟨ta, pa, da⟩ := ha
  obtain ⟨r, ho, hs⟩ := hb
  exact ⟨_, pt_cmpR ho pa hb' hm, does_test (does_binR hs da)⟩
end
end Kp
set_option Elab.async false
set_option linter.all false
set_option maxRecDepth 100000
set_option maxHeartbeats 2000000
namespace Kp
open PySem PyProof.Rows L2

/-! ### dicts: keys ints and texts -/
def keyEq : PV → PV → Bool
  | .int i, .int j => decide (i = j)
  | .str a, .str b => decide (a = b)
  | _, _ => false
def isKey : PV → Option Key
  | .int i => some (.inl i)
  | .str s => some (.inr s)
  | _ => none
def dGet (kvs : List (PV × PV)) (y : PV) : Option PV := (kvs.find? fun kv => keyEq kv.1 y).map (·.2)
def dPut (kvs : List (PV × PV)) (y z : PV) : List (PV × PV) := if (kvs.any fun kv => keyEq kv.1 y) = true then kvs.map (fun kv => if keyEq kv.1 y = true then (kv.1, z) else kv) else kvs ++ [(y, z)]
theorem isKey_some {y : PV} {k : Key} (h : isKey y = some k) : y = keyPV k := by
  cases y <;> first | (cases h; rfl) | cases h
theorem keyEq_key (j k : Key) : keyEq (keyPV j) (keyPV k) = decide (j = k) := by
  rcases j with i | a <;> rcases k with i' | b
  · show decide (i = i') = decide (Sum.inl i = (Sum.inl i' : Key))
    congr 1
    exact propext ⟨fun e => by rw [e], fun e => by cases e; rfl⟩
  · rfl
  · rfl
  · show decide (a = b) = decide (Sum.inr a = (Sum.inr b : Key))
    congr 1
    exact propext ⟨fun e => by rw [e], fun e => by cases e; rfl⟩
theorem rep_key {K : PySem.W.Frag} {cl : Nat → Addr} {H : Hp} {v : V} {k : Key} (r : Rep K cl H v (keyPV k)) : v = kV k := by
  cases k with
  | inl i => cases r; rfl
  | inr s => cases r; rfl
section
variable {K : PySem.W.Frag} {cl : Nat → Addr} {H : Hp}
theorem RepK.get : ∀ {gs : List (Key × V)} {kvs : List (PV × PV)} {k : Key}, RepK K cl H gs kvs → (∀ x, dGet kvs (keyPV k) = some x → ∃ v, valV gs k = some v ∧ Rep K cl H v x) ∧ (dGet kvs (keyPV k) = none → valV gs k = none)
  | _, _, _, .nil => ⟨(fun x h => by cases h), (fun _ => rfl)⟩
  | _, _, k, .cons (k := j) (v := v) (vs := vs) (x := x) (xs := xs) h hs => by
    have ih := RepK.get (k := k) hs
    by_cases e : j = k
    · subst e
      have e1 : dGet ((keyPV j, x) :: xs) (keyPV j) = some x := by
        unfold dGet
        rw [List.find?_cons, keyEq_key]
        simp
      rw [e1, valV_pos rfl]
      exact ⟨fun y q => by cases q; exact ⟨_, rfl, h⟩, fun q => by cases q⟩
    · have e1 : dGet ((keyPV j, x) :: xs) (keyPV k) = dGet xs (keyPV k) := by
        unfold dGet
        rw [List.find?_cons, keyEq_key]
        simp [e]
      rw [e1, valV_neg e]
      exact ih
theorem RepK.any : ∀ {gs : List (Key × V)} {kvs : List (PV × PV)} {k : Key}, RepK K cl H gs kvs → (kvs.any fun kv => keyEq kv.1 (keyPV k)) = gs.any fun kv => decide (kv.1 = k)
  | _, _, _, .nil => rfl
  | _, _, k, .cons (k := j) h hs => by
    simp only [List.any_cons]
    rw [RepK.any hs, keyEq_key]
theorem RepK.repl : ∀ {gs : List (Key × V)} {kvs : List (PV × PV)} {k : Key} {v : V} {z : PV}, RepK K cl H gs kvs → Rep K cl H v z → RepK K cl H (gs.map fun kv => if kv.1 = k then (kv.1, v) else kv) (kvs.map fun kv => if keyEq kv.1 (keyPV k) = true then (kv.1, z) else kv)
  | _, _, _, _, _, .nil, _ => .nil
  | _, _, k, _, _, .cons (k := j) h hs, r => by
    simp only [List.map_cons]
    rw [keyEq_key]
    by_cases e : j = k
    · subst e
      simp only [decide_true, if_true]
      exact .cons r (RepK.repl hs r)
    · rw [if_neg e, if_neg (by simp [e])]
      exact .cons h (RepK.repl hs r)
theorem RepK.append : ∀ {gs gs' : List (Key × V)} {kvs kvs' : List (PV × PV)}, RepK K cl H gs kvs → RepK K cl H gs' kvs' → RepK K cl H (gs ++ gs') (kvs ++ kvs')
  | _, _, _, _, .nil, h => h
  | _, _, _, _, .cons h hs, k => .cons h (RepK.append hs k)
theorem RepK.put {gs : List (Key × V)} {kvs : List (PV × PV)} {k : Key} {v : V} {z : PV} (h : RepK K cl H gs kvs) (r : Rep K cl H v z) : RepK K cl H (putK gs k v) (dPut kvs (keyPV k) z) := by
  unfold putK dPut
  rw [h.any]
  split
  · exact h.repl r
  · exact h.append (.cons r .nil)
theorem RepK.length : ∀ {gs : List (Key × V)} {kvs : List (PV × PV)}, RepK K cl H gs kvs → gs.length = kvs.length
  | _, _, .nil => rfl
  | _, _, .cons _ hs => by rw [List.length_cons, List.length_cons, RepK.length hs]
end

section
variable {X : Cx} {cl : Nat → Addr} {W : WX} {pos : Pos}
/-! ### x[k] -/
def rIxD : R2 := fun x y H Q => ∃ a v, x = .ref a ∧ DGet H a y (some v) ∧ Q v H
theorem ix_dct (hu : X.A.units + 1 < cLine) : IxR X rIxD := by
  intro value slice pins s σ H x y v u Q I rx ry h hs
  obtain ⟨a, w, rfl, g, q⟩ := h
  obtain rfl : v = Value.ref a := rx
  have hT := dict_typeIs I g
  unfold subscriptTail
  refine wpAny_bind ?_
  rw [getitemInPython_of_ne hT.not_modules]
  refine wpAny_bind (wpAny_specialOf hT PySem.F.slot_dict_getitem.lookup ?_)
  have fin : wpAny (model X.prog X.w) X.A (subscripted slice false (.ref a) u) (fun r s₃ => wpAny (model X.prog X.w) X.A (letTemporaryGo value (.ref a) r >>= fun _ => pure r) (EP X pins σ Q) X.xe s₃) X.xe s := by
    rw [hs]
    exact wpAny_operating (d_getItem hu I g ry fun w' s3 I3 rw' => wpAny_bind (wpAny_letTemporaryGo (wpAny_pure ⟨w, H, I3, rw', q⟩)))
  first
    | exact wpAny_pure (wpAny_bind fin)
    | exact wpAny_bind (wpAny_pure (wpAny_bind fin))
    | exact wpAny_bind fin
def rIxA (K : PySem.W.Frag) : R2 := fun x y H Q => rIx K x y H Q ∨ rIxD x y H Q
theorem ix_any (hu : X.A.units + 64 < cLine) : IxR X (rIxA X.K) := ix_seq.or (ix_dct (by omega))
def pIx (x i : PV) : Option PV := match x with
  | .dct kvs => if (isKey i).isSome then dGet kvs i else none
  | _ => pIdx x i
theorem bs_ix : BinS X.K cl (rIxA X.K) pIx := by
  intro G H v u x y z Q e rv ru hz k
  unfold pIx at hz
  cases x <;> try exact .inl (bs_idx G H v u _ y z Q e rv ru hz k)
  dsimp only at hz
  split at hz <;> try (cases hz; done)
  rename_i kvs hk
  obtain ⟨kk, ek⟩ := Option.isSome_iff_exists.mp hk
  obtain rfl := isKey_some ek
  obtain rfl := rep_key ru
  cases rv with
  | dct hs hr =>
    obtain ⟨w, ew, rw'⟩ := hr.get.1 _ hz
    refine .inr ⟨_, w, rfl, ?_, k _ _ (.inl ⟨rfl, rw'⟩)⟩
    rw [← ew]
    exact DGet.k (e _ _ hs)
theorem em_ix {a b : Expr} {ma mb : M PV} (hu : X.A.units + 64 < cLine) (ha : EM X cl W a ma) (hb : EM X cl W b mb) (hs : PlainIx b := by exact fun _ _ => rfl) : EM X cl W (.Subscript a b pos) (mBin pIx ma mb) := by
  obtain ⟨ta, pa, da⟩ := ha
  obtain ⟨tb, pb, db⟩ := hb
  exact ⟨_, pe_ix (ix_any hu) pa pb hs, does_bin bs_ix da db⟩
/-- x[k], x a name -/
def mIxV (i : Nat) (mk : M PV) : M PV := guardPk i (bnd mk fun y => fun S => match pk i S with
  | some x => match pIx x y with
    | some z => some (.ok z S)
    | none => none
  | none => none)
theorem em_ixV {a b : Expr} {i : Nat} {mb : M PV} (hu : X.A.units + 64 < cLine) (ha : PE X a (tVar i)) (hb : EM X cl W b mb) (hs : PlainIx b := by exact fun _ _ => rfl) : EM X cl W (.Subscript a b pos) (mIxV i mb) := by
  obtain ⟨tb, pb, db⟩ := hb
  refine ⟨_, pe_ix (ix_any hu) ha pb hs, fun F G H σ S rr Q st hm hp => ?_⟩
  obtain ⟨⟨x0, e0⟩, hm⟩ := guardPk_some hm
  obtain ⟨v, G0, ev, _⟩ := pk_view st e0
  refine ⟨v, ev, ?_⟩
  refine db.step st hm hp fun y S2 u G2 H2 hm2 s2 st2 ru hp2 => ?_
  split at hm2 <;> try (cases hm2; done)
  rename_i x e1
  split at hm2 <;> try (cases hm2; done)
  rename_i z ez
  cases hm2
  have own : ∀ {a : Addr}, v = .ref a → OwnAt X.K cl G2 H2 a x → rIxA X.K v u H2 Q := fun {a} ea q => by
    subst ea
    unfold pIx at ez
    cases x <;> try exact q.elim
    · obtain ⟨vs, e2, hz, r⟩ := q
      unfold pIdx at ez
      cases y <;> try (cases ez; done)
      cases ru
      obtain ⟨w, ew, rw'⟩ := atI_rep r ez
      exact .inl (.inl ⟨_, _, _, w, rfl, rfl, SqL.of e2, ew, hp2 w G2 H2 (Same.refl _) st2 rw'⟩)
    · obtain ⟨gs, e2, r⟩ := q
      dsimp only at ez
      split at ez <;> try (cases ez; done)
      rename_i kvs hk
      obtain ⟨kk, ek⟩ := Option.isSome_iff_exists.mp hk
      obtain rfl := isKey_some ek
      obtain rfl := rep_key ru
      obtain ⟨w, ew, rw'⟩ := r.get.1 _ ez
      refine .inr ⟨_, w, rfl, ?_, hp2 w G2 H2 (Same.refl _) st2 rw'⟩
      rw [← ew]
      exact DGet.k e2
    · cases ez
  unfold pk at e1
  split at e1
  · rename_i y' e
    cases e1
    obtain ⟨v', ev', rv⟩ := st2.val i _ e
    rw [ev] at ev'
    cases ev'
    exact bs_ix G2 H2 v u x y z Q st2.ex rv ru ez fun w H' q => hp2.res1 st2 q
  · rename_i y' e
    cases e1
    obtain ⟨a, ea, ga, h0, q⟩ := st2.own i _ e
    rw [ev] at ea
    cases ea
    exact own rfl q
  · rename_i y' e
    cases e1
    obtain ⟨a, ea, ga, h0, q⟩ := st2.inn i _ e
    rw [ev] at ea
    cases ea
    exact own rfl q
  · cases e1

/-! ### y in d -/
def rInD (n : Bool) : R2 := fun y x H Q => ∃ a o, x = .ref a ∧ DGet H a y o ∧ Q (.bl (if n then !o.isSome else o.isSome)) H
theorem op_inD (hu : X.A.units + 1 < cLine) : OpR X (compareOp .In) (rInD false) := by
  intro pins s σ H y x u v Q I ry rx h
  obtain ⟨a, o, rfl, g, q⟩ := h
  obtain rfl : v = Value.ref a := rx
  exact d_in hu I g ry fun s3 I3 => ⟨.bl o.isSome, H, I3, rfl, q⟩
theorem op_notInD (hu : X.A.units + 1 < cLine) : OpR X (compareOp .NotIn) (rInD true) := by
  intro pins s σ H y x u v Q I ry rx h
  obtain ⟨a, o, rfl, g, q⟩ := h
  obtain rfl : v = Value.ref a := rx
  exact d_notIn hu I g ry fun s3 I3 => ⟨.bl (!o.isSome), H, I3, rfl, q⟩
def pHasB (x c : PV) : Option Bool := match c with
  | .dct kvs => if (isKey x).isSome then some (dGet kvs x).isSome else none
  | _ => pInB x c
def pHas (x c : PV) : Option PV := (pHasB x c).map PV.bl
def pHasNot (x c : PV) : Option PV := (pHasB x c).map fun b => .bl (!b)
theorem dget_rep {G H : Hp} {u v : V} {x : PV} {kvs : List (PV × PV)} (e : Same G H) (hk : (isKey x).isSome = true) (rx : Rep X.K cl G v x) (r : Rep X.K cl G u (.dct kvs)) : ∃ a o, u = .ref a ∧ DGet H a v o ∧ o.isSome = (dGet kvs x).isSome := by
  obtain ⟨kk, ek⟩ := Option.isSome_iff_exists.mp hk
  obtain rfl := isKey_some ek
  obtain rfl := rep_key rx
  cases r with
  | dct hs hr =>
    refine ⟨_, _, rfl, DGet.k (e _ _ hs), ?_⟩
    cases q : dGet kvs (keyPV kk) with
    | none => rw [hr.get.2 q]; rfl
    | some z =>
      obtain ⟨w, ew, _⟩ := hr.get.1 _ q
      rw [ew]
      rfl
theorem br_has (hu : X.A.units + 64 < cLine) : BinR X cl (compareOp .In) pHas := by
  obtain ⟨r, hr, hs⟩ := br_in (X := X) (cl := cl) hu
  refine ⟨_, hr.or (op_inD (by omega)), ?_⟩
  intro G H v u x y z Q e rv ru hz k
  unfold pHas pHasB at hz
  cases y <;> try exact .inl (hs G H v u x _ z Q e rv ru hz k)
  dsimp only at hz
  split at hz <;> try (cases hz; done)
  rename_i kvs hk
  cases hz
  obtain ⟨a, o, e1, g, e2⟩ := dget_rep e hk rv ru
  refine .inr ⟨a, o, e1, g, ?_⟩
  rw [if_neg Bool.false_ne_true, e2]
  exact k _ _ (.inl ⟨rfl, .bl _⟩)
theorem br_hasNot (hu : X.A.units + 64 < cLine) : BinR X cl (compareOp .NotIn) pHasNot := by
  obtain ⟨r, hr, hs⟩ := br_notIn (X := X) (cl := cl) hu
  refine ⟨_, hr.or (op_notInD (by omega)), ?_⟩
  intro G H v u x y z Q e rv ru hz k
  unfold pHasNot pHasB at hz
  cases y <;> try exact .inl (hs G H v u x _ z Q e rv ru hz k)
  dsimp only at hz
  split at hz <;> try (cases hz; done)
  rename_i kvs hk
  cases hz
  obtain ⟨a, o, e1, g, e2⟩ := dget_rep e hk rv ru
  refine .inr ⟨a, o, e1, g, ?_⟩
  rw [if_pos rfl, e2]
  exact k _ _ (.inl ⟨rfl, .bl _⟩)

/-! ### x[k] = e -/
def pPut (x k v : PV) : Option PV := match x with
  | .lst xs => match k with
    | .int j => match ixN xs.length j with
      | some n => some (.lst (xs.set n v))
      | none => none
    | _ => none
  | .dct kvs => if (isKey k).isSome && decide (kvs.length < sizeLine) then some (.dct (dPut kvs k v)) else none
  | _ => none
def rSetA : TSet := fun o i v H Q => rSetL o i v H Q ∨ ∃ a H', o = .ref a ∧ DPut H a i v H' ∧ Q H'
theorem pset_any (hu : X.A.units + 64 < cLine) : PSet X rSetA := by
  intro pins s σ H o i v ov iv u Q I ro ri rv h
  rcases h with h | ⟨a, H', e, g, q⟩
  · exact set_list pins s σ H o i v ov iv u Q I ro ri rv h
  · subst e
    obtain rfl : ov = Value.ref a := ro
    exact d_setItem (by omega) I g ri rv fun s4 I4 => ⟨H', I4, q⟩
def updO (i : Nat) (f : PV → Option PV) : M Unit := fun S => match S[i]? with
  | some (some (.o x)) => match f x with
    | some x' => some (.ok () (S.set i (some (.o x'))))
    | none => none
  | some (some (.i x)) => match f x with
    | some x' => some (.ok () (S.set i (some (.i x'))))
    | none => none
  | _ => none
theorem updO_use {K : PySem.W.Frag} {F : Fr} {G H : Hp} {σ : L2.St} {S : Sto} {i : Nat} {f : PV → Option PV} {r : Rs Unit} (st : StOk K cl F G H σ S) (h : updO i f S = some r) : ∃ (a : Addr) (x x' : PV) (S' : Sto), r = .ok () S' ∧ σ[i]? = some (some (.ref a)) ∧ G a = none ∧ OwnAt K cl G H a x ∧ f x = some x' ∧
    ∀ o, OwnAt K cl G (upd H a o) a x' → StOk K cl F G (upd H a o) σ S' := by
  unfold updO at h
  split at h
  · rename_i x e
    split at h <;> try (cases h; done)
    rename_i x' ex
    cases h
    obtain ⟨a, ea, ga, h0, q⟩ := st.own i x e
    exact ⟨a, x, x', _, rfl, ea, ga, q, ex, fun o w => st.chg e ea w⟩
  · rename_i x e
    split at h <;> try (cases h; done)
    rename_i x' ex
    cases h
    obtain ⟨a, ea, ga, h0, q⟩ := st.inn i x e
    exact ⟨a, x, x', _, rfl, ea, ga, q, ex, fun o w => st.chgi e ea w⟩
  · cases h
def mPut (i : Nat) (mk me : M PV) : M Fl := bnd me fun v => guardPk i (bnd mk fun k => bnd (updO i fun x => pPut x k v) fun _ => ret .nx)
theorem set_any {K : PySem.W.Frag} {G H : Hp} {a : Addr} {x k v x' : PV} {wk wv : V} {Q : Hp → Prop} (q : OwnAt K cl G H a x) (rk : Rep K cl G wk k) (rv : Rep K cl G wv v) (h : pPut x k v = some x') (hq : ∀ o, OwnAt K cl G (upd H a o) a x' → Q (upd H a o)) : rSetA (.ref a) wk wv H Q := by
  unfold pPut at h
  cases x <;> try exact q.elim
  · obtain ⟨vs, e, hz, r⟩ := q
    dsimp only at h
    cases k <;> try (cases h; done)
    dsimp only at h
    split at h <;> try (cases h; done)
    rename_i en
    cases h
    cases rk
    exact .inl ⟨a, vs, _, _, rfl, rfl, e, by rw [r.length]; exact en, hq _ ⟨_, upd_same, by rw [List.length_set]; exact hz, r.set _ rv⟩⟩
  · obtain ⟨gs, e, r⟩ := q
    dsimp only at h
    split at h <;> try (cases h; done)
    rename_i kvs c
    simp only [Bool.and_eq_true, decide_eq_true_eq] at c
    cases h
    obtain ⟨kk, ek⟩ := Option.isSome_iff_exists.mp c.1
    obtain rfl := isKey_some ek
    obtain rfl := rep_key rk
    exact .inr ⟨a, _, rfl, DPut.k e (by rw [r.length]; exact c.2), hq _ ⟨_, upd_same, r.put rv⟩⟩
  · cases h
theorem sm_put {o k e : Expr} {i : Nat} {mk me : M PV} {pos' : Pos} (hu : X.A.units + 64 < cLine) (ho : PE X o (tVar i)) (hk : EM X cl W k mk) (he : EM X cl W e me)
    (ha : ∀ v, assign (.Subscript o k pos') X.env v = (do
      let ov ← holding [v] (eval o X.env)
      let iv ← holding [v, ov] (eval k X.env)
      standAt pos'
      holding [v, ov, iv] (setItem ov iv v)
      release [v, ov, iv] []) := by intro _; rfl)
    (hs : swapsWithSole [.Subscript o k pos'] e pos.line X.env = pure false := by rfl) (hw : swappedStores [.Subscript o k pos'] e X.env = pure none := by rfl)
    (h1 : (assignEach [.Subscript o k pos'] X.env).map (·.2) = [assign (.Subscript o k pos') X.env] := by rfl) : SM X cl W (.Assign [.Subscript o k pos'] e pos) (mPut i mk me) := by
  obtain ⟨te, pe, de⟩ := he
  obtain ⟨tk, pk', dk⟩ := hk
  refine ⟨_, ps_asg pe (pg_sub ho pk' (pset_any hu) ha) hs hw h1, fun F G H σ S r D st hm hp => ?_⟩
  refine de.stepS st hm hp fun v S1 wv G1 H1 hm1 s1 st1 rv hp1 => ?_
  obtain ⟨⟨x0, e0⟩, hm1⟩ := guardPk_some hm1
  obtain ⟨w0, G0, ev, _⟩ := pk_view st1 e0
  refine ⟨w0, ev, ?_⟩
  refine dk.stepS st1 hm1 hp1 fun kk S2 wk G2 H2 hm2 s2 st2 rk hp2 => ?_
  rcases bnd_some hm2 with ⟨u, S3, e3, e4⟩ | ⟨c, fs, S3, e3, _⟩
  · cases e4
    obtain ⟨a, x, x', S', e5, ea, ga, q, ef, fin⟩ := updO_use st2 e3
    cases e5
    rw [ev] at ea
    cases ea
    exact set_any q rk (rv.mono s2) ef fun o w => hp2 _ _ _ (Same.refl _) (fin o w)
  · obtain ⟨a, x, x', S', e5, _⟩ := updO_use st2 e3
    cases e5

/-! ### methods of own objects -/
def isOT (T : String) (i : Nat) (S : Sto) : Bool := match S[i]? with
  | some (some (.o (.lst _))) => T == "list"
  | some (some (.i (.lst _))) => T == "list"
  | some (some (.o (.dct _))) => T == "dict"
  | some (some (.i (.dct _))) => T == "dict"
  | _ => false
theorem isOT_ty {F : Fr} {G H : Hp} {σ : L2.St} {S : Sto} {T : String} {i : Nat} (st : StOk X.K cl F G H σ S) (h : isOT T i S = true) : ∃ a, σ[i]? = some (some (V.ref a)) ∧ tyV X.K T (.ref a) H := by
  unfold isOT at h
  split at h
  · rename_i xs e
    obtain ⟨a, ea, _, _, vs, eh, _⟩ := st.own i _ e
    exact ⟨a, ea, .inl ⟨beq_iff_eq.mp h, vs, SqL.of eh⟩⟩
  · rename_i xs e
    obtain ⟨a, ea, _, _, vs, eh, _⟩ := st.inn i _ e
    exact ⟨a, ea, .inl ⟨beq_iff_eq.mp h, vs, SqL.of eh⟩⟩
  · rename_i xs e
    obtain ⟨a, ea, _, _, vs, eh, _⟩ := st.own i _ e
    exact ⟨a, ea, .inr (.inr (.inl ⟨beq_iff_eq.mp h, .inl ⟨vs, eh⟩⟩))⟩
  · rename_i xs e
    obtain ⟨a, ea, _, _, vs, eh, _⟩ := st.inn i _ e
    exact ⟨a, ea, .inr (.inr (.inl ⟨beq_iff_eq.mp h, .inl ⟨vs, eh⟩⟩))⟩
  · cases h
def MtO (K : PySem.W.Frag) (cl : Nat → Addr) (r : V → List V → Hp → VK → Prop) (f : PV → List PV → Option (PV × PV)) : Prop :=
  ∀ (G H : Hp) (a : Addr) (x : PV) (vs : List V) (xs : List PV) (x' z : PV) (Q : VK), Same G H → G a = none → OwnAt K cl G H a x → RepL K cl G vs xs → f x xs = some (x', z) →
    (∀ w o, OwnAt K cl G (upd H a o) a x' → Rep K cl G w z → Q w (upd H a o)) → r (.ref a) vs H Q
def updR (i : Nat) (f : PV → Option (PV × PV)) : M PV := fun S => match S[i]? with
  | some (some (.o x)) => match f x with
    | some (x', z) => some (.ok z (S.set i (some (.o x'))))
    | none => none
  | some (some (.i x)) => match f x with
    | some (x', z) => some (.ok z (S.set i (some (.i x'))))
    | none => none
  | _ => none
theorem updR_use {K : PySem.W.Frag} {F : Fr} {G H : Hp} {σ : L2.St} {S : Sto} {i : Nat} {f : PV → Option (PV × PV)} {r : Rs PV} (st : StOk K cl F G H σ S) (h : updR i f S = some r) : ∃ (a : Addr) (x x' z : PV) (S' : Sto), r = .ok z S' ∧ σ[i]? = some (some (.ref a)) ∧ G a = none ∧ OwnAt K cl G H a x ∧ f x = some (x', z) ∧
    ∀ o, OwnAt K cl G (upd H a o) a x' → StOk K cl F G (upd H a o) σ S' := by
  unfold updR at h
  split at h
  · rename_i x e
    split at h <;> try (cases h; done)
    rename_i x' z ex
    cases h
    obtain ⟨a, ea, ga, h0, q⟩ := st.own i x e
    exact ⟨a, x, x', z, _, rfl, ea, ga, q, ex, fun o w => st.chg e ea w⟩
  · rename_i x e
    split at h <;> try (cases h; done)
    rename_i x' z ex
    cases h
    obtain ⟨a, ea, ga, h0, q⟩ := st.inn i x e
    exact ⟨a, x, x', z, _, rfl, ea, ga, q, ex, fun o w => st.chgi e ea w⟩
  · cases h
def mMt (T : String) (i : Nat) (f : PV → List PV → Option (PV × PV)) (ms : List (M PV)) : M PV := fun S => if isOT T i S = true then bnd (mArgs ms) (fun xs => updR i fun x => f x xs) S else none
theorem does_mt {T : String} {i : Nat} {r : V → List V → Hp → VK → Prop} {f : PV → List PV → Option (PV × PV)} {t : TA} {ms : List (M PV)} (hr : MtO X.K cl r f) (da : Does X.K cl W (RL X.K cl) t (mArgs ms)) : Does X.K cl W (RV X.K cl) (tBM X.K T r (tVar i) t) (mMt T i f ms) := by
  intro F G H σ S rr Q st hm hp
  unfold mMt at hm
  split at hm <;> try (cases hm; done)
  rename_i hT
  obtain ⟨a, ea, ty⟩ := isOT_ty st hT
  refine ⟨_, ea, ty, ?_⟩
  refine da.step (R2 := RV X.K cl) st hm hp fun xs S2 vs G2 H2 hm2 s2 st2 rv hp2 => ?_
  obtain ⟨a', x, x', z, S', e5, ea', ga, q, ef, fin⟩ := updR_use st2 hm2
  subst e5
  rw [ea] at ea'
  cases ea'
  exact hr G2 H2 a x vs xs x' z Q st2.ex ga q rv ef fun w o q' r' => hp2 w G2 _ (Same.refl _) (fin o q') r'
theorem em_mt {o e : Expr} {es : List Expr} {name : Str} {apos : Pos} {T id : String} {r : V → List V → Hp → VK → Prop} {f : PV → List PV → Option (PV × PV)} {i : Nat} {ms : List (M PV)} (pa : PlainAttrs T) (slot : Slot T name id) (hty : typeOf (.builtin id) = pure (.type "method_descriptor")) (hm : MtR X id r) (hr : MtO X.K cl r f) (ho : PE X o (tVar i)) (ha : AM X cl W (e :: es) (mArgs ms))
    (hbase : attributeBase o name X.env (eval o X.env) = eval o X.env := by rfl)
    (hfew : ((backTo pos (starEach (e :: es) X.env)).all (fun x => !x.1) && (backToKw pos (keywordEach [] X.env)).all (fun x => x.1.isSome)
      && decide ((e :: es).length + ([] : List Keyword).length + (if ([] : List Keyword).isEmpty then 0 else 1) < 30)) = true := by rfl)
    (hline : (apos.endLine == pos.line) = true := by rfl) (hs : starEach (e :: es) X.env = (false, eval e X.env) :: starEach es X.env := by rfl) (hplain : (backTo pos (starEach es X.env)).any (·.1) = false := by rfl) :
    EM X cl W (.Call (.Attribute o name apos) (e :: es) [] pos) (mMt T i f ms) := by
  obtain ⟨t, pa', da⟩ := ha
  exact ⟨_, pe_bm pa slot hty hm ho pa' hbase hfew hline hs hplain, does_mt hr da⟩
/-- append -/
def fApp (x : PV) (xs : List PV) : Option (PV × PV) := match x, xs with
  | .lst ys, [y] => if ys.length < sizeLine then some (.lst (ys ++ [y]), .non) else none
  | _, _ => none
theorem mto_app : MtO X.K cl rAppend fApp := by
  intro G H a x vs xs x' z Q e ga q rl h k
  unfold fApp at h
  split at h <;> try (cases h; done)
  split at h <;> try (cases h; done)
  rename_i ys y hl
  cases h
  obtain ⟨ws, eh, hz, r⟩ := q
  cases rl with
  | cons ry rn =>
    cases rn
    have hw : ws.length < sizeLine := by rw [r.length]; exact hl
    exact ⟨a, ws, _, rfl, rfl, eh, hw, k _ _ ⟨_, upd_same, by rw [List.length_append, List.length_singleton]; omega, r.append (.one ry)⟩ .non⟩
def mApp (i : Nat) (m : M PV) : M Fl := mDrop (mMt "list" i fApp [m])
theorem sm_app {o e : Expr} {apos p : Pos} {i : Nat} {m : M PV} (ho : PE X o (tVar i)) (he : EM X cl W e m)
    (hbase : attributeBase o "append" X.env (eval o X.env) = eval o X.env := by rfl)
    (hfew : ((backTo p (starEach [e] X.env)).all (fun x => !x.1) && (backToKw p (keywordEach [] X.env)).all (fun x => x.1.isSome)
      && decide ([e].length + ([] : List Keyword).length + (if ([] : List Keyword).isEmpty then 0 else 1) < 30)) = true := by rfl)
    (hline : (apos.endLine == p.line) = true := by rfl) (hs : starEach [e] X.env = (false, eval e X.env) :: starEach [] X.env := by rfl) (hplain : (backTo p (starEach [] X.env)).any (·.1) = false := by rfl)
    (hsw : swapsWith (.Call (.Attribute o "append" apos) [e] [] p) none pos.line X.env = pure false := by rfl) :
    SM X cl W (.Expr (.Call (.Attribute o "append" apos) [e] [] p) pos) (mApp i m) :=
  sm_expr (em_mt PySem.F.plainAttrs_list PySem.F.slot_list_append PySem.F.type_list_append mt_append mto_app ho (am_cons he am_nil hs) hbase hfew hline hs hplain) hsw
end
end Kp
set_option Elab.async false
set_option linter.all false
set_option maxRecDepth 100000
set_option maxHeartbeats 2000000
namespace Kp
open PySem PyProof.Rows L2

/-! ### fresh objects, to be changed -/
def PostF (K : PySem.W.Frag) (cl : Nat → Addr) (F : Fr) (W : WX) (G : Hp) (σ : L2.St) (Q : V → Hp → Prop) : Rs PV → Prop
  | .ok x S' => ∀ (a : Addr) (G' H' : Hp), Same G G' → StOk K cl F G' H' σ S' → G' a = none → F.H0 a = none → F.R a = none → (∀ (i : Nat) (y : PV), S'[i]? = some (some (.o y)) → σ[i]? ≠ some (some (V.ref a))) → OwnAt K cl G' H' a x → Q (.ref a) H'
  | .ex c fs S' => ExP K cl F W G σ c fs S'
def DoesF (K : PySem.W.Frag) (cl : Nat → Addr) (W : WX) (t : TE) (m : M PV) : Prop :=
  ∀ (F : Fr) (G H : Hp) (σ : L2.St) (S : Sto) (r : Rs PV) (Q : VK), StOk K cl F G H σ S → m S = some r → PostF K cl F W G σ Q r → t σ H Q
def FM (X : Cx) (cl : Nat → Addr) (W : WX) (e : Expr) (m : M PV) : Prop := ∃ t, PE X e t ∧ DoesF X.K cl W t m
section
variable {K : PySem.W.Frag} {cl : Nat → Addr} {F : Fr} {G H : Hp} {σ : L2.St} {S : Sto} {a : Addr}
/-- a fresh object is plain from now on -/
theorem StOk.freezeNew (k : StOk K cl F G H σ S) (hg : G a = none) (h0 : F.H0 a = none) (hR : F.R a = none) (hn : ∀ (i : Nat) (y : PV), S[i]? = some (some (.o y)) → σ[i]? ≠ some (some (V.ref a))) {x : PV} (q : OwnAt K cl G H a x) :
    ∃ G', Same G G' ∧ StOk K cl F G' H σ S ∧ Rep K cl G' (.ref a) x := by
  obtain ⟨o, ho, r⟩ := own_freeze hg q
  have k1 : StOk K cl { F with R := fun b => if b = a then some o else F.R b } G H σ S := by
    refine ⟨k.ex, k.ex0, k.len, k.val, k.own, k.inn, k.dist, k.io, k.ioh, k.iod, k.frame, k.gnew, fun b u e => ?_⟩
    dsimp only at e
    split at e
    · rename_i z
      cases e
      rw [z]
      exact ⟨ho, hg, h0, hn⟩
    · exact k.rsv b u e
  exact ⟨_, same_new hg, (k1.rsvEnd hR).1, r⟩
theorem StOk.newSlot (k : StOk K cl F G H σ S) (h : H a = none) : ∀ (i : Nat) (y : PV), S[i]? = some (some (.o y)) → σ[i]? ≠ some (some (V.ref a)) := fun i y e z => by
  obtain ⟨b, eb, _, _, q⟩ := k.own i y e
  rw [z] at eb
  cases eb
  obtain ⟨o, ho⟩ := q.there
  rw [h] at ho
  cases ho
end
section
variable {X : Cx} {cl : Nat → Addr} {W : WX} {pos : Pos}
theorem em_fm {e : Expr} {m : M PV} (h : FM X cl W e m) : EM X cl W e m := by
  obtain ⟨t, p, d⟩ := h
  refine ⟨t, p, fun F G H σ S r Q st hm hp => d F G H σ S r Q st hm ?_⟩
  cases r with
  | ok x S' =>
    intro a G' H' s k hg h0 hR hn q
    obtain ⟨G2, s2, k2, r2⟩ := k.freezeNew hg h0 hR hn q
    exact hp _ G2 H' (s.trans s2) k2 r2
  | ex c fs S' => exact hp
/-- behind an allocation -/
theorem postF_new {F : Fr} {G H : Hp} {σ : L2.St} {S : Sto} {Q : VK} {x : PV} {p : Addr} {o : HO} (h : PostF X.K cl F W G σ Q (.ok x S)) (st : StOk X.K cl F G H σ S) (hp : H p = none) (q : OwnAt X.K cl G (upd H p o) p x) : Q (.ref p) (upd H p o) :=
  h p G _ (Same.refl _) (st.allocO hp) (st.free hp) (st.free0 hp) (st.rfree hp) (st.newSlot hp) q
def putO (i : Nat) (x : PV) : M Unit := fun S => match S[i]? with
  | some (some (.i _)) => none
  | none => none
  | _ => some (.ok () (S.set i (some (.o x))))
def mSetO (i : Nat) (m : M PV) : M Fl := bnd m fun x => bnd (putO i x) fun _ => ret .nx
theorem doesF_set {i : Nat} {t : TE} {m : M PV} (d : DoesF X.K cl W t m) : DoesS X.K cl W (tAsg t (gName i)) (mSetO i m) := by
  intro F G H σ S r D st hm hp
  unfold mSetO at hm
  rcases bnd_some hm with ⟨x, S1, e1, e2⟩ | ⟨c, fs, S1, e1, e2⟩
  · rcases bnd_some e2 with ⟨u, S2, e3, e4⟩ | ⟨c, fs, S2, e3, _⟩
    · cases e4
      refine d F G H σ S _ _ st e1 ?_
      intro a G' H' s k hg h0 hR hn q
      unfold putO at e3
      split at e3
      · cases e3
      · cases e3
      · rename_i n1 n2
        cases e3
        exact hp _ G' H' s (k.seto hg h0 hR hn q (io_none k n1))
    · unfold putO at e3
      split at e3 <;> cases e3
  · subst e2
    refine d F G H σ S _ _ st e1 ?_
    exact fun dd gs G' H' s k a b => hp dd gs σ G' H' s k a b
theorem sm_setO {i : Nat} {x : Str} {e : Expr} {m : M PV} {pos' : Pos} (hN : X.N.Nodup) (hi : X.N[i]? = some x) (hx : Loc X.env.scope x) (h : FM X cl W e m) (hs : swapsWith e (some (.Name x pos')) pos.line X.env = pure false := by rfl)
    (hf : X.fn x = true ∨ X.env.scope.names.lookup x = some .local := by first | exact .inl rfl | exact .inr rfl | assumption) : SM X cl W (.Assign [.Name x pos'] e pos) (mSetO i m) := by
  obtain ⟨t, p, d⟩ := h
  exact ⟨_, ps_set hN hi hx p hs hf, doesF_set d⟩
/-! displays -/
theorem Does.stepF {α β : Type} {F : Fr} {G H : Hp} {σ : L2.St} {S : Sto} {R1 : Hp → β → α → Prop} {t1 : L2.St → Hp → (β → Hp → Prop) → Prop} {m1 : M α} {k : α → M PV} {r : Rs PV} {Q1 : β → Hp → Prop} {Q2 : VK}
    (h1 : Does X.K cl W R1 t1 m1) (st : StOk X.K cl F G H σ S) (hm : bnd m1 k S = some r) (hp : PostF X.K cl F W G σ Q2 r)
    (hk : ∀ (y : α) (S1 : Sto) (v : β) (G1 H1 : Hp), m1 S = some (.ok y S1) → k y S1 = some r → Same G G1 → StOk X.K cl F G1 H1 σ S1 → R1 G1 v y → PostF X.K cl F W G1 σ Q2 r → Q1 v H1) : t1 σ H Q1 := by
  unfold bnd at hm
  cases e : m1 S with
  | none =>
    rw [e] at hm
    cases hm
  | some r1 =>
    rw [e] at hm
    cases r1 with
    | ok y S1 =>
      refine h1 F G H σ S _ Q1 st e ?_
      intro v G1 H1 s k1 x
      refine hk y S1 v G1 H1 e hm s k1 x ?_
      cases r with
      | ok x S' => exact fun a G2 H2 s2 => hp a G2 H2 (s.trans s2)
      | ex c fs S' => exact ExP.mono s hp
    | ex c fs S1 =>
      have hm' : Rs.ex c fs S1 = r := Option.some.inj hm
      subst hm'
      exact h1 F G H σ S _ Q1 st e hp
theorem fm_lst {es : List Expr} {ms : List (M PV)} (h : AM X cl W es (mArgs ms)) (hl : ms.length ≤ 1000 := by decide) : FM X cl W (.List es pos) (mLst ms) := by
  obtain ⟨t, p, d⟩ := h
  refine ⟨_, pe_lst p, fun F G H σ S rr Q st hm hp => ?_⟩
  refine d.stepF st hm hp fun y S1 v G1 H1 e1 hm1 s1 st1 rv hp1 => ?_
  cases hm1
  have hz : v.length ≤ sizeLine := by
    rw [rv.length, mArgs_len e1]
    exact Nat.le_trans hl (by decide)
  exact ⟨hz, fun p hn => postF_new hp1 st1 hn ⟨_, upd_same, hz, rv⟩⟩
def mDct : M PV := ret (.dct [])
theorem fm_dct : FM X cl W (.Dict [] [] pos) mDct := ⟨_, pe_dnewK, fun F G H σ S rr Q st hm hp => by
  cases hm
  exact fun p hn => postF_new hp st hn ⟨_, upd_same, .nil⟩⟩

/-! ### builtins -/
theorem repL1 {K : PySem.W.Frag} {H : Hp} {vs : List V} {x : PV} (r : RepL K cl H vs [x]) : ∃ v, vs = [v] ∧ Rep K cl H v x := by
  cases r with
  | cons rv rn =>
    cases rn
    exact ⟨_, rfl, rv⟩
theorem repL2 {K : PySem.W.Frag} {H : Hp} {vs : List V} {x y : PV} (r : RepL K cl H vs [x, y]) : ∃ v w, vs = [v, w] ∧ Rep K cl H v x ∧ Rep K cl H w y := by
  cases r with
  | cons rv rn =>
    obtain ⟨w, rfl, rw'⟩ := repL1 rn
    exact ⟨_, w, rfl, rv, rw'⟩
def CallS (K : PySem.W.Frag) (cl : Nat → Addr) (r : List V → Hp → VK → Prop) (g : List PV → Option PV) : Prop :=
  ∀ (G H : Hp) (vs : List V) (xs : List PV) (z : PV) (Q : VK), Same G H → RepL K cl G vs xs → g xs = some z → (∀ w H', Res1 K cl G H z w H' → Q w H') → r vs H Q
def CallSF (K : PySem.W.Frag) (cl : Nat → Addr) (r : List V → Hp → VK → Prop) (g : List PV → Option PV) : Prop :=
  ∀ (G H : Hp) (vs : List V) (xs : List PV) (z : PV) (Q : VK), Same G H → RepL K cl G vs xs → g xs = some z → (∀ p o, H p = none → OwnAt K cl G (upd H p o) p z → Q (.ref p) (upd H p o)) → r vs H Q
theorem CallS.or {r r' : List V → Hp → VK → Prop} {g g' : List PV → Option PV} (h : CallS X.K cl r g) (h' : CallS X.K cl r' g') : CallS X.K cl (fun xs H Q => r xs H Q ∨ r' xs H Q) (fun xs => match g xs with | some z => some z | none => g' xs) := by
  intro G H vs xs z Q e rl hz k
  dsimp only at hz
  split at hz
  · rename_i z' ez
    cases hz
    exact .inl (h G H vs xs _ Q e rl ez k)
  · exact .inr (h' G H vs xs z Q e rl hz k)
def mCB (g : List PV → Option PV) (ms : List (M PV)) : M PV := bnd (mArgs ms) fun xs => lift (g xs)
theorem does_cb {r : List V → Hp → VK → Prop} {g : List PV → Option PV} {t : TA} {ms : List (M PV)} (hr : CallS X.K cl r g) (da : Does X.K cl W (RL X.K cl) t (mArgs ms)) : Does X.K cl W (RV X.K cl) (tCB r t) (mCB g ms) := by
  intro F G H σ S rr Q st hm hp
  refine da.step (R2 := RV X.K cl) st hm hp fun xs S2 vs G2 H2 hm2 s2 st2 rv hp2 => ?_
  obtain ⟨z, ez, rfl⟩ := lift_eq hm2
  exact hr G2 H2 vs xs z Q st2.ex rv ez fun w H' q => hp2.res1 st2 q
theorem doesF_cb {r : List V → Hp → VK → Prop} {g : List PV → Option PV} {t : TA} {ms : List (M PV)} (hr : CallSF X.K cl r g) (da : Does X.K cl W (RL X.K cl) t (mArgs ms)) : DoesF X.K cl W (tCB r t) (mCB g ms) := by
  intro F G H σ S rr Q st hm hp
  refine da.stepF st hm hp fun xs S2 vs G2 H2 e2 hm2 s2 st2 rv hp2 => ?_
  obtain ⟨z, ez, rfl⟩ := lift_eq hm2
  exact hr G2 H2 vs xs z Q st2.ex rv ez fun p o hn q => postF_new hp2 st2 hn q
theorem em_cb {x : Str} {p : Pos} {e : Expr} {es : List Expr} {id : String} {r : List V → Hp → VK → Prop} {g : List PV → Option PV} {ms : List (M PV)} (hc : CallR X (.builtin id) r) (hr : CallS X.K cl r g) (hm : X.mg x = none) (ha : AM X cl W (e :: es) (mArgs ms)) (hg : Gl X x := by rfl) (hv : bootBuiltins x = some (.builtin id) := by rfl) (hn : x ≠ "__name__" := by decide) (hdb : (x == ("__debug__" : Str)) = false := by decide)
    (he : starEach (e :: es) X.env = (false, eval e X.env) :: starEach es X.env := by rfl) (hpl : (backTo pos (starEach es X.env)).any (·.1) = false := by rfl) : EM X cl W (.Call (.Name x p) (e :: es) [] pos) (mCB g ms) := by
  obtain ⟨t, pa, da⟩ := ha
  exact ⟨_, pe_callB hc hg hm hv pa hn hdb he hpl, does_cb hr da⟩
theorem em_ct {x : Str} {p : Pos} {e : Expr} {es : List Expr} {T : String} {r : List V → Hp → VK → Prop} {g : List PV → Option PV} {ms : List (M PV)} (hc : CallR X (.type T) r) (hr : CallS X.K cl r g) (hm : X.mg x = none) (ha : AM X cl W (e :: es) (mArgs ms)) (hg : Gl X x := by rfl) (hv : bootBuiltins x = some (.type T) := by rfl) (hn : x ≠ "__name__" := by decide) (hdb : (x == ("__debug__" : Str)) = false := by decide)
    (he : starEach (e :: es) X.env = (false, eval e X.env) :: starEach es X.env := by rfl) (hpl : (backTo pos (starEach es X.env)).any (·.1) = false := by rfl) : EM X cl W (.Call (.Name x p) (e :: es) [] pos) (mCB g ms) := by
  obtain ⟨t, pa, da⟩ := ha
  exact ⟨_, pe_callTy hc hg hm hv pa hn hdb he hpl, does_cb hr da⟩
theorem fm_cb {x : Str} {p : Pos} {e : Expr} {es : List Expr} {id : String} {r : List V → Hp → VK → Prop} {g : List PV → Option PV} {ms : List (M PV)} (hc : CallR X (.builtin id) r) (hr : CallSF X.K cl r g) (hm : X.mg x = none) (ha : AM X cl W (e :: es) (mArgs ms)) (hg : Gl X x := by rfl) (hv : bootBuiltins x = some (.builtin id) := by rfl) (hn : x ≠ "__name__" := by decide) (hdb : (x == ("__debug__" : Str)) = false := by decide)
    (he : starEach (e :: es) X.env = (false, eval e X.env) :: starEach es X.env := by rfl) (hpl : (backTo pos (starEach es X.env)).any (·.1) = false := by rfl) : FM X cl W (.Call (.Name x p) (e :: es) [] pos) (mCB g ms) := by
  obtain ⟨t, pa, da⟩ := ha
  exact ⟨_, pe_callB hc hg hm hv pa hn hdb he hpl, doesF_cb hr da⟩
theorem fm_ct {x : Str} {p : Pos} {e : Expr} {es : List Expr} {T : String} {r : List V → Hp → VK → Prop} {g : List PV → Option PV} {ms : List (M PV)} (hc : CallR X (.type T) r) (hr : CallSF X.K cl r g) (hm : X.mg x = none) (ha : AM X cl W (e :: es) (mArgs ms)) (hg : Gl X x := by rfl) (hv : bootBuiltins x = some (.type T) := by rfl) (hn : x ≠ "__name__" := by decide) (hdb : (x == ("__debug__" : Str)) = false := by decide)
    (he : starEach (e :: es) X.env = (false, eval e X.env) :: starEach es X.env := by rfl) (hpl : (backTo pos (starEach es X.env)).any (·.1) = false := by rfl) : FM X cl W (.Call (.Name x p) (e :: es) [] pos) (mCB g ms) := by
  obtain ⟨t, pa, da⟩ := ha
  exact ⟨_, pe_callTy hc hg hm hv pa hn hdb he hpl, doesF_cb hr da⟩
/-- one argument, a name: looked at alone, an atom comes -/
def mCBV (g : List PV → Option PV) (i : Nat) : M PV := opk i fun x => g [x]
theorem am_v {e : Expr} {i : Nat} (h : PE X e (tVar i)) (hs : starEach [e] X.env = (false, eval e X.env) :: starEach [] X.env := by rfl) : PA X [e] (tCons (tVar i) tNil) := pa_cons h pa_nil hs
theorem does_cbV {r : List V → Hp → VK → Prop} {g : List PV → Option PV} {i : Nat} (hr : CallS X.K cl r g) : Does X.K cl W (RV X.K cl) (tCB r (tCons (tVar i) tNil)) (mCBV g i) := by
  intro F G H σ S rr Q st hm hp
  obtain ⟨x, z, e1, ez, hz, rfl⟩ := opk_some hm
  obtain ⟨v, G', ev, s1, s2, rv⟩ := pk_view st e1
  exact ⟨v, ev, hr G' H [v] [x] z Q s2 (.one rv) ez fun w H' q => post_atom hp st hz q⟩
theorem em_cbV {x : Str} {p : Pos} {e : Expr} {i : Nat} {id : String} {r : List V → Hp → VK → Prop} {g : List PV → Option PV} (hc : CallR X (.builtin id) r) (hr : CallS X.K cl r g) (hm : X.mg x = none) (he0 : PE X e (tVar i)) (hg : Gl X x := by rfl) (hv : bootBuiltins x = some (.builtin id) := by rfl) (hn : x ≠ "__name__" := by decide) (hdb : (x == ("__debug__" : Str)) = false := by decide)
    (he : starEach [e] X.env = (false, eval e X.env) :: starEach [] X.env := by rfl) (hpl : (backTo pos (starEach [] X.env)).any (·.1) = false := by rfl) : EM X cl W (.Call (.Name x p) [e] [] pos) (mCBV g i) :=
  ⟨_, pe_callB hc hg hm hv (am_v he0 he) hn hdb he hpl, does_cbV hr⟩
/-! len -/
def pLen : List PV → Option PV
  | [.tup xs] => some (.int xs.length)
  | [.lst xs] => some (.int xs.length)
  | [.frl xs] => some (.int xs.length)
  | [.str z] => some (.int z.length)
  | [.dct kvs] => some (.int kvs.length)
  | _ => none
theorem cr_lenA : CallR X (.builtin "len") (fun xs H Q => (∃ x n, xs = [x] ∧ LenV X.K x H n ∧ Q (.int n) H) ∨ ∃ a kvs, xs = [V.ref a] ∧ H a = some (.dK kvs) ∧ Q (.int kvs.length) H) := call_len.or call_lenD
theorem cs_len : CallS X.K cl (fun xs H Q => (∃ x n, xs = [x] ∧ LenV X.K x H n ∧ Q (.int n) H) ∨ ∃ a kvs, xs = [V.ref a] ∧ H a = some (.dK kvs) ∧ Q (.int kvs.length) H) pLen := by
  intro G H vs xs z Q e rl hz k
  unfold pLen at hz
  split at hz <;> try (cases hz; done)
  all_goals
    cases hz
    obtain ⟨v, rfl, rv⟩ := repL1 rl
  · cases rv with
    | tup hs _ hr => exact .inl ⟨_, _, rfl, .inr ⟨_, sqt_mono e hs, rfl⟩, k _ _ (.inl ⟨rfl, by rw [hr.length]; exact .int _⟩)⟩
  · cases rv with
    | lst hs _ hr => exact .inl ⟨_, _, rfl, .inl ⟨_, SqL.of (e _ _ hs), rfl⟩, k _ _ (.inl ⟨rfl, by rw [hr.length]; exact .int _⟩)⟩
  · cases rv with
    | frl hs => exact .inl ⟨_, _, rfl, .inl ⟨_, e.seq hs, rfl⟩, k _ _ (.inl ⟨rfl, by rw [List.length_map]; exact .int _⟩)⟩
  · cases rv with
    | str _ hl => exact .inl ⟨_, _, rfl, ⟨hl, rfl⟩, k _ _ (.inl ⟨rfl, .int _⟩)⟩
  · cases rv with
    | dct hs hr => exact .inr ⟨_, _, rfl, e _ _ hs, k _ _ (.inl ⟨rfl, by rw [hr.length]; exact .int _⟩)⟩
/-! abs, int, sum, any, all, tuple, list -/
def pAbs : List PV → Option PV
  | [.int i] => some (.int (if i < 0 then -i else i))
  | _ => none
theorem cs_abs : CallS X.K cl (fun xs H Q => ∃ i, xs = [.int i] ∧ Q (.int (if i < 0 then -i else i)) H) pAbs := by
  intro G H vs xs z Q e rl hz k
  unfold pAbs at hz
  split at hz <;> try (cases hz; done)
  cases hz
  cases rl with
  | cons rv rn =>
  cases rn
  cases rv
  exact ⟨_, rfl, k _ _ (.inl ⟨rfl, .int _⟩)⟩
def pInt : List PV → Option PV
  | [.int i] => some (.int i)
  | [.bl b] => some (.int (if b then 1 else 0))
  | _ => none
theorem cs_int : CallS X.K cl (fun xs H Q => (∃ i, xs = [V.int i] ∧ Q (.int i) H) ∨ ∃ k, xs = [V.bl k] ∧ Q (.int (if k then 1 else 0)) H) pInt := by
  intro G H vs xs z Q e rl hz k
  unfold pInt at hz
  split at hz <;> try (cases hz; done)
  · cases hz
    cases rl with
    | cons rv rn =>
    cases rn
    cases rv
    exact .inl ⟨_, rfl, k _ _ (.inl ⟨rfl, .int _⟩)⟩
  · cases hz
    cases rl with
    | cons rv rn =>
    cases rn
    cases rv
    exact .inr ⟨_, rfl, k _ _ (.inl ⟨rfl, .int _⟩)⟩
def intsP : List PV → Option (List Int)
  | [] => some []
  | .int i :: xs => (intsP xs).map (i :: ·)
  | _ => none
def blsP : List PV → Option (List Bool)
  | [] => some []
  | .bl i :: xs => (blsP xs).map (i :: ·)
  | _ => none
theorem ints_rep {K : PySem.W.Frag} {H : Hp} : ∀ {xs : List PV} {ns : List Int} {vs : List V}, intsP xs = some ns → RepL K cl H vs xs → vs = ns.map V.int
  | [], ns, vs, h, r => by cases h; cases r; rfl
  | x :: xs, ns, vs, h, r => by
    cases x <;> try (cases h; done)
    unfold intsP at h
    cases e : intsP xs with
    | none => rw [e] at h; cases h
    | some ms =>
      rw [e] at h
      cases h
      cases r with
      | cons rv rs =>
        cases rv
        rw [ints_rep e rs]
        rfl
theorem bls_rep {K : PySem.W.Frag} {H : Hp} : ∀ {xs : List PV} {ns : List Bool} {vs : List V}, blsP xs = some ns → RepL K cl H vs xs → vs = ns.map V.bl
  | [], ns, vs, h, r => by cases h; cases r; rfl
  | x :: xs, ns, vs, h, r => by
    cases x <;> try (cases h; done)
    unfold blsP at h
    cases e : blsP xs with
    | none => rw [e] at h; cases h
    | some ms =>
      rw [e] at h
      cases h
      cases r with
      | cons rv rs =>
        cases rv
        rw [bls_rep e rs]
        rfl
def pSum : List PV → Option PV
  | [.lst xs] => (intsP xs).map fun ns => .int ns.sum
  | _ => none
theorem cs_sum : CallS X.K cl (rSum X.K) pSum := by
  intro G H vs xs z Q e rl hz k
  unfold pSum at hz
  split at hz <;> try (cases hz; done)
  rename_i ys
  cases q : intsP ys with
  | none => rw [q] at hz; cases hz
  | some ns =>
    rw [q] at hz
    cases hz
    cases rl with
    | cons rv rn =>
    cases rn
    cases rv with
    | lst hs _ hr => exact ⟨_, ns, rfl, by rw [← ints_rep q hr]; exact SqL.of (e _ _ hs), k _ _ (.inl ⟨rfl, .int _⟩)⟩
def pAny : List PV → Option PV
  | [.lst xs] => (blsP xs).map fun ns => .bl (ns.any id)
  | _ => none
def pAll : List PV → Option PV
  | [.lst xs] => (blsP xs).map fun ns => .bl (ns.all id)
  | _ => none
theorem cs_any : CallS X.K cl (rAny X.K) pAny := by
  intro G H vs xs z Q e rl hz k
  unfold pAny at hz
  split at hz <;> try (cases hz; done)
  rename_i ys
  cases q : blsP ys with
  | none => rw [q] at hz; cases hz
  | some ns =>
    rw [q] at hz
    cases hz
    cases rl with
    | cons rv rn =>
    cases rn
    cases rv with
    | lst hs _ hr => exact ⟨_, ns, rfl, by rw [← bls_rep q hr]; exact SqL.of (e _ _ hs), k _ _ (.inl ⟨rfl, .bl _⟩)⟩
theorem cs_all : CallS X.K cl (rAll X.K) pAll := by
  intro G H vs xs z Q e rl hz k
  unfold pAll at hz
  split at hz <;> try (cases hz; done)
  rename_i ys
  cases q : blsP ys with
  | none => rw [q] at hz; cases hz
  | some ns =>
    rw [q] at hz
    cases hz
    cases rl with
    | cons rv rn =>
    cases rn
    cases rv with
    | lst hs _ hr => exact ⟨_, ns, rfl, by rw [← bls_rep q hr]; exact SqL.of (e _ _ hs), k _ _ (.inl ⟨rfl, .bl _⟩)⟩
def pTuple : List PV → Option PV
  | [.lst xs] => some (.tup xs)
  | [.tup xs] => some (.tup xs)
  | _ => none
theorem cr_tuple : CallR X (.type "tuple") (rTupleOfF X.K) := cr_tupleF
theorem cs_tuple : CallS X.K cl (rTupleOfF X.K) pTuple := by
  intro G H vs xs z Q e rl hz k
  unfold pTuple at hz
  split at hz <;> try (cases hz; done)
  all_goals
    cases hz
    obtain ⟨v, rfl, rv⟩ := repL1 rl
  · cases rv with
    | lst hs hl hr => exact ⟨_, _, rfl, .inl ⟨SqL.of (e _ _ hs), fun p o ho hn => k _ _ (.inr ⟨p, _, hn, rfl, .tup (tupAt_new ho) hl (hr.mono (same_new (e.free hn)))⟩)⟩⟩
  · cases rv with
    | tup hs hl hr => exact ⟨_, _, rfl, .inr ⟨sqt_mono e hs, k _ _ (.inl ⟨rfl, .tup hs hl hr⟩)⟩⟩
def pList : List PV → Option PV
  | [.lst xs] => some (.lst xs)
  | [.tup xs] => some (.lst xs)
  | _ => none
def rListOf (K : PySem.W.Frag) : List V → Hp → VK → Prop := fun xs H Q => ∃ p ys, xs = [V.ref p] ∧ (SqL K H p ys ∨ SqT K H p ys) ∧ ∀ l, H l = none → Q (.ref l) (upd H l (.lst ys))
theorem cr_list : CallR X (.type "list") (rListOf X.K) := call_list_of
theorem cs_list : CallSF X.K cl (rListOf X.K) pList := by
  intro G H vs xs z Q e rl hz k
  unfold pList at hz
  split at hz <;> try (cases hz; done)
  all_goals
    cases hz
    obtain ⟨v, rfl, rv⟩ := repL1 rl
  · cases rv with
    | lst hs hl hr => exact ⟨_, _, rfl, .inl (SqL.of (e _ _ hs)), fun p hn => k p _ hn ⟨_, upd_same, hl, hr⟩⟩
  · cases rv with
    | tup hs hl hr => exact ⟨_, _, rfl, .inr (sqt_mono e hs), fun p hn => k p _ hn ⟨_, upd_same, hl, hr⟩⟩
end
end Kp
set_option Elab.async false
set_option linter.all false
set_option maxRecDepth 100000
set_option maxHeartbeats 2000000
namespace Kp
open PySem PyProof.Rows L2

section
variable {X : Cx} {cl : Nat → Addr} {W : WX} {pos : Pos}
/-! ### a comprehension's list, to be changed -/
theorem doesF_lc {vs : List Nat} {wi : TI} {tg : TG} {tt : TT} {te : TE} {mi : M (List PV)} {g : PV → Sto → Option Sto} {mt : M Bool} {me : M PV} (hi : DoesI X.K cl W wi mi) (hg : DoesG X.K cl tg g) (hgi : gIn vs tg)
    (ht : Does X.K cl W0 RB tt mt) (he : Does X.K cl W0 (RV X.K cl) te me) : DoesF X.K cl W (tLc wi tg tt te vs) (mLc vs mi g mt me) := by
  intro F G H σ S r Q st hm hp
  unfold mLc at hm
  split at hm <;> try (cases hm; done)
  rename_i ys S1 e1
  split at hm <;> try (cases hm; done)
  rename_i c
  obtain ⟨hlen, hpl⟩ := c
  split at hm <;> try (cases hm; done)
  rename_i zs S2 eg
  cases hm
  refine hi F G H σ S ys S1 _ st e1 fun J G1 H1 s1 st1 hw => ?_
  intro D hD
  have plain : ∀ i ∈ vs, ∀ y, S1[i]? = some (some y) → ∃ x, y = .p x := fun i hi y e => by
    have := List.all_eq_true.mp hpl i hi
    rw [e] at this
    cases y with
    | p x => exact ⟨x, rfl⟩
    | o x => cases this
    | i x => cases this
  have hio : ∀ i ∈ vs, F.io i = none := fun i hi => by
    cases q : F.io i with
    | none => rfl
    | some a =>
      obtain ⟨x, hx⟩ := st1.io i a q
      have := List.all_eq_true.mp hpl i hi
      rw [hx] at this
      cases this
  have fr := st1.rfree hD
  have stw := st1.wiped (σ := σ) (vs := vs) rfl hio
  have hfresh : ∀ (i : Nat) (x : PV), (wipeS S1 vs)[i]? = some (some (.o x)) → (wipe σ vs)[i]? ≠ some (some (V.ref D)) := fun i x e z => by
    obtain ⟨a, ea, _, _, q⟩ := stw.own i x e
    rw [z] at ea
    cases ea
    obtain ⟨o, ho⟩ := q.there
    rw [hD] at ho
    cases ho
  have st2 := stw.rsvNew (o := .lst []) hD hfresh
  -- the turns
  refine ⟨fun i n H' => n + i = ys.length ∧ ∃ (G' : Hp) (S' : Sto) (acc : List V) (done rest : List PV), Same G1 G' ∧ acc.length ≤ i ∧ StOk X.K cl { F with R := fun b => if b = D then some (.lst acc) else F.R b } G' H' (wipe σ vs) S' ∧ RepL X.K cl G' acc done ∧
    done ++ rest = zs ∧ lcGo vs g mt me (ys.drop i) S' = some (rest, S2), ⟨ys.length, Nat.add_zero _, G1, _, [], [], zs, Same.refl _, Nat.zero_le _, st2, .nil, rfl, eg⟩, ?_⟩
  rintro i n H' ⟨hn, G', S', acc, dn, rest, s', hacc, st', rl, hz, hl⟩
  obtain ⟨hgo, hstop⟩ := hw i G' H' s' st'.ex
  cases e : ys[i]? with
  | none =>
    have hle : ys.length ≤ i := List.getElem?_eq_none_iff.mp e
    refine .inl ⟨hstop hle, ?_⟩
    rw [List.drop_eq_nil_of_le hle] at hl
    unfold lcGo at hl
    cases hl
    rw [List.append_nil] at hz
    subst hz
    obtain ⟨st3, hD3, gD, h0D, hnD⟩ := st'.rsvOwn fr
    have hzl : acc.length ≤ sizeLine := by
      rw [rl.length]
      exact Nat.le_trans (lcGo_len eg) hlen
    refine hp _ _ _ (s1.trans s') (StOk.back st1 s' st3 plain hio) gD h0D fr (fun j y q z => ?_) ⟨acc, hD3, hzl, rl⟩
    by_cases zz : j ∈ vs
    · obtain ⟨w, hw'⟩ := plain j zz _ (backS_in zz q)
      cases hw'
    · rw [backS_out zz] at q
      exact hnD j y q (by rw [wipe_out zz]; exact z)
  | some y =>
    obtain ⟨hlt, _⟩ := List.getElem?_eq_some_iff.mp e
    have hd : ys.drop i = y :: ys.drop (i + 1) := by
      rw [List.drop_eq_getElem_cons hlt]
      have : ys[i] = y := by
        have := List.getElem?_eq_getElem hlt
        rw [e] at this
        exact (Option.some.inj this).symm
      rw [this]
    rw [hd] at hl
    unfold lcGo at hl
    obtain ⟨go, hy⟩ := hgo y e
    refine .inr ⟨go, fun H3 => (n - 1) + (i + 1) = ys.length ∧ ∃ (G' : Hp) (S' : Sto) (acc : List V) (done rest : List PV), Same G1 G' ∧ acc.length ≤ i + 1 ∧ StOk X.K cl { F with R := fun b => if b = D then some (.lst acc) else F.R b } G' H3 (wipe σ vs) S' ∧ RepL X.K cl G' acc done ∧
      done ++ rest = zs ∧ lcGo vs g mt me (ys.drop (i + 1)) S' = some (rest, S2), fun H3 q => ⟨n - 1, by omega, q⟩, fun x H3 hx => ?_⟩
    obtain ⟨G3, s3, st3, r3⟩ := st'.res1 (hy x H3 hx)
    cases eg1 : g y S' with
    | none => rw [eg1] at hl; cases hl
    | some Sg =>
      rw [eg1] at hl
      refine hgi x σ H3 (fun σ' H' => H' = H3 ∧ StOk X.K cl { F with R := fun b => if b = D then some (.lst acc) else F.R b } G3 H3 σ' Sg) _ (hg _ G3 H3 _ S' Sg x y _ st3 r3 eg1 fun σ4 st4 => ⟨rfl, st4⟩) fun σ4 H4 hwσ q4 => ⟨hwσ, ?_⟩
      obtain ⟨rfl, st4⟩ := q4
      simp only [] at hl
      cases et : mt Sg with
      | none => rw [et] at hl; cases hl
      | some rt =>
        rw [et] at hl
        cases rt with
        | ex c fs S5 => cases hl
        | ok b S5 =>
          refine ht _ G3 _ σ4 Sg _ _ st4 et ?_
          intro b' G5 H5 s5 st5 hb
          cases hb
          cases b with
          | false =>
            simp only [] at hl
            rw [if_neg Bool.false_ne_true]
            exact ⟨by omega, G5, _, acc, dn, rest, (s'.trans s3).trans s5, Nat.le_succ_of_le hacc, st5.wiped hwσ hio, (rl.mono s3).mono s5, hz, hl⟩
          | true =>
            simp only [] at hl
            rw [if_pos rfl]
            cases ee : me S5 with
            | none => rw [ee] at hl; cases hl
            | some re =>
              rw [ee] at hl
              cases re with
              | ex c fs S6 => cases hl
              | ok z S6 =>
                simp only [] at hl
                cases eg6 : lcGo vs g mt me (ys.drop (i + 1)) (wipeS S6 vs) with
                | none => rw [eg6] at hl; cases hl
                | some q6 =>
                  obtain ⟨zs6, S7⟩ := q6
                  rw [eg6] at hl
                  cases hl
                  refine he _ G5 H5 σ4 S5 _ _ st5 ee ?_
                  intro w G6 H6 s6 st6 rw'
                  have hH := (st6.rsv D (.lst acc) (if_pos rfl)).1
                  refine ⟨acc, hH, by omega, by omega, G6, _, acc ++ [w], dn ++ [z], zs6, ((s'.trans s3).trans s5).trans s6, by rw [List.length_append, List.length_singleton]; omega,
                    StOk.rsvSet (st6.wiped hwσ hio), (((rl.mono s3).mono s5).mono s6).append (.one rw'), by rw [List.append_assoc]; exact hz, eg6⟩

/-- what a comprehension consists of -/
structure LcM (X : Cx) (cl : Nat → Addr) (W : WX) (elt tg iter : Expr) (ifs : List Expr) (scope : Scope) (own : List (Str × Nat)) (mi : M (List PV)) (g : PV → Sto → Option Sto) (mt : M Bool) (me : M PV) : Prop where
  hi : IM X cl W tg iter mi
  ok : BlkOk X.N X.env.scope scope own
  hg : ∃ t, (∀ (s : Shared) (H : Hp) (C : Addr) (cl' : List (Str × Addr)) (fp : List Addr), PG (X.blk s H scope (compEnvC scope cl' C X.env) fp) tg t) ∧ DoesG X.K cl t g ∧ gIn (own.map (·.2)) t
  ht : ∃ tt, (∀ (s : Shared) (H : Hp) (C : Addr) (cl' : List (Str × Addr)) (fp : List Addr), PTs (X.blk s H scope (compEnvC scope cl' C X.env) fp) ifs tt) ∧ Does X.K cl W0 RB tt mt
  he : ∃ te, (∀ (s : Shared) (H : Hp) (C : Addr) (cl' : List (Str × Addr)) (fp : List Addr), PE (X.blk s H scope (compEnvC scope cl' C X.env) fp) elt te) ∧ Does X.K cl W0 (RV X.K cl) te me
section
variable {elt tg iter : Expr} {ifs : List Expr} {scope : Scope} {own : List (Str × Nat)} {mi : M (List PV)} {g : PV → Sto → Option Sto} {mt : M Bool} {me : M PV}
theorem LcM.em (h : LcM X cl W elt tg iter ifs scope own mi g mt me) (hc : X.calm = true) (hN : X.N.Nodup) (hs : ∀ x, foldedSetIterable iter X.env x = pure x := by intro _; rfl) : EM X cl W (.ListComp elt [⟨tg, iter, ifs, 0⟩] scope pos) (mLc (own.map (·.2)) mi g mt me) := by
  obtain ⟨t, pg, dg, gi⟩ := h.hg
  exact em_lc hc hN h.hi h.ok pg dg gi h.ht h.he hs
theorem LcM.fm (h : LcM X cl W elt tg iter ifs scope own mi g mt me) (hc : X.calm = true) (hN : X.N.Nodup) (hs : ∀ x, foldedSetIterable iter X.env x = pure x := by intro _; rfl) : FM X cl W (.ListComp elt [⟨tg, iter, ifs, 0⟩] scope pos) (mLc (own.map (·.2)) mi g mt me) := by
  obtain ⟨t, pg, dg, gi⟩ := h.hg
  obtain ⟨wi, pi, di⟩ := h.hi
  obtain ⟨tt, pt, dt⟩ := h.ht
  obtain ⟨te, pe, de⟩ := h.he
  exact ⟨_, pe_lc hc hN pi h.ok pg pt pe hs, doesF_lc di dg gi dt de⟩
/-- name = [..] -/
theorem LcM.set {i : Nat} {y : Str} {py spos : Pos} (h : LcM X cl W elt tg iter ifs scope own mi g mt me) (hc : X.calm = true) (hN : X.N.Nodup) (hy : X.N[i]? = some y) (hyl : X.env.scope.names.lookup y = some .local)
    (hsw : swapsWith (.ListComp elt [⟨tg, iter, ifs, 0⟩] scope pos) (some (.Name y py)) spos.line X.env = pure true) (hs : ∀ x, foldedSetIterable iter X.env x = pure x := by intro _; rfl) :
    SM X cl W (.Assign [.Name y py] (.ListComp elt [⟨tg, iter, ifs, 0⟩] scope pos) spos) (mSet i (mLc (own.map (·.2)) mi g mt me)) := by
  obtain ⟨t, pg, dg, gi⟩ := h.hg
  obtain ⟨wi, pi, di⟩ := h.hi
  obtain ⟨tt, pt, dt⟩ := h.ht
  obtain ⟨te, pe, de⟩ := h.he
  refine ⟨_, ps_setLc hc hN hy hyl hsw pi h.ok pg pt pe hs, fun F G H σ S r D st hm hp => ?_⟩
  refine (does_lc di dg gi dt de).stepS st hm hp fun y S1 v G1 H1 hm1 s1 st1 rv hp1 => ?_
  obtain ⟨S2, h2, h3⟩ := bnd_put hm1
  cases h3
  exact hp1 _ G1 H1 (Same.refl _) (put_ok st1 h2 rv)
theorem LcM.setO {i : Nat} {y : Str} {py spos : Pos} (h : LcM X cl W elt tg iter ifs scope own mi g mt me) (hc : X.calm = true) (hN : X.N.Nodup) (hy : X.N[i]? = some y) (hyl : X.env.scope.names.lookup y = some .local)
    (hsw : swapsWith (.ListComp elt [⟨tg, iter, ifs, 0⟩] scope pos) (some (.Name y py)) spos.line X.env = pure true) (hs : ∀ x, foldedSetIterable iter X.env x = pure x := by intro _; rfl) :
    SM X cl W (.Assign [.Name y py] (.ListComp elt [⟨tg, iter, ifs, 0⟩] scope pos) spos) (mSetO i (mLc (own.map (·.2)) mi g mt me)) := by
  obtain ⟨t, pg, dg, gi⟩ := h.hg
  obtain ⟨wi, pi, di⟩ := h.hi
  obtain ⟨tt, pt, dt⟩ := h.ht
  obtain ⟨te, pe, de⟩ := h.he
  exact ⟨_, ps_setLc hc hN hy hyl hsw pi h.ok pg pt pe hs, doesF_set (doesF_lc di dg gi dt de)⟩
end

/-! ### ranges, texts -/
def rangeP (lo : Int) (n : Nat) : List PV := (List.range n).map fun i : Nat => PV.int (lo + (i : Int))
theorem rangeP_get {lo : Int} {n i : Nat} : (rangeP lo n)[i]? = if i < n then some (.int (lo + (i : Int))) else none := by
  unfold rangeP
  rw [List.getElem?_map]
  by_cases h : i < n
  · rw [if_pos h, List.getElem?_range h]
    rfl
  · rw [if_neg h, List.getElem?_eq_none (by rw [List.length_range]; omega)]
    rfl
theorem rangeP_len {lo : Int} {n : Nat} : (rangeP lo n).length = n := by
  unfold rangeP
  rw [List.length_map, List.length_range]
theorem walks_range {G : Hp} {lo : Int} {n : Nat} : Walks X.K cl (Itr lo n) G (rangeP lo n) := by
  intro i G2 H2 s1 s2
  refine ⟨fun y e => ?_, fun e => by rw [rangeP_len] at e; exact e⟩
  rw [rangeP_get] at e
  split at e <;> try (cases e; done)
  rename_i hi
  cases e
  refine ⟨hi, fun x H3 hy => ?_⟩
  obtain ⟨e3, rfl⟩ := hy
  exact .inl ⟨e3, .int _⟩
def inR (j : Int) : Bool := decide (-(2 ^ 62) ≤ j) && decide (j < 2 ^ 62)
def mRng1 (m : M PV) : M (List PV) := bnd m fun x => match x with
  | .int j => if inR j = true then ret (rangeP 0 j.toNat) else fun _ => none
  | _ => fun _ => none
def mRng2 (m n : M PV) : M (List PV) := bnd m fun x => bnd n fun y => match x, y with
  | .int i, .int j => if inR i = true ∧ inR j = true then ret (rangeP i (j - i).toNat) else fun _ => none
  | _, _ => fun _ => none
theorem im_rng1 {tg a : Expr} {m : M PV} {p : Pos} (h : EM X cl W a m) (hm : X.mg "range" = none) (hg : Gl X "range" := by rfl) (hs : starEach [a] X.env = [(false, eval a X.env)] := by rfl) : IM X cl W tg (.Call (.Name "range" p) [a] [] pos) (mRng1 m) := by
  obtain ⟨t, pe, d⟩ := h
  refine ⟨_, pi_range1 hg hm (pa_cons pe pa_nil hs) hs, fun F G H σ S ys S' R st hm k => ?_⟩
  rcases bnd_some hm with ⟨x, S1, e1, e2⟩ | ⟨c, fs, S1, _, e2⟩
  · cases x <;> try (cases e2; done)
    dsimp only at e2
    split at e2 <;> try (cases e2; done)
    rename_i j c
    cases e2
    refine d F G H σ S _ _ st e1 fun v G1 H1 s1 st1 rv => ?_
    cases rv
    simp only [inR, Bool.and_eq_true, decide_eq_true_eq] at c
    exact ⟨j, rfl, c.1, c.2, k _ G1 H1 s1 st1 walks_range⟩
  · cases e2
theorem im_rng2 {tg a b : Expr} {m n : M PV} {p : Pos} (h : EM X cl W a m) (h2 : EM X cl W b n) (hm : X.mg "range" = none) (hg : Gl X "range" := by rfl) (hs : starEach [a, b] X.env = [(false, eval a X.env), (false, eval b X.env)] := by rfl) (hs2 : starEach [b] X.env = [(false, eval b X.env)] := by rfl) : IM X cl W tg (.Call (.Name "range" p) [a, b] [] pos) (mRng2 m n) := by
  obtain ⟨t, pe, d⟩ := h
  obtain ⟨u, pf, du⟩ := h2
  refine ⟨_, pi_range2 hg hm (pa_cons pe (pa_cons pf pa_nil hs2) (by rw [hs, hs2])) hs hs2, fun F G H σ S ys S' R st hm k => ?_⟩
  rcases bnd_some hm with ⟨x, S1, e1, e2⟩ | ⟨c, fs, S1, _, e2⟩
  · rcases bnd_some e2 with ⟨y, S2, e3, e4⟩ | ⟨c, fs, S2, _, e4⟩
    · cases x <;> try (cases e4; done)
      cases y <;> try (cases e4; done)
      dsimp only at e4
      split at e4 <;> try (cases e4; done)
      rename_i i j c
      cases e4
      refine d F G H σ S _ _ st e1 fun v G1 H1 s1 st1 rv => ?_
      refine du F G1 H1 σ S1 _ _ st1 e3 fun w G2 H2 s2 st2 rw' => ?_
      cases rv
      cases rw'
      simp only [inR, Bool.and_eq_true, decide_eq_true_eq] at c
      exact ⟨i, j, rfl, ⟨c.1.1, c.1.2, c.2.1, c.2.2⟩, k _ G2 H2 (s1.trans s2) st2 walks_range⟩
    · cases e4
  · cases e2
def charsP (x : Str) : List PV := x.cps.toList.map fun c => .str ⟨#[c]⟩
theorem walks_str {G : Hp} {x : Str} : Walks X.K cl (Its x) G (charsP x) := by
  intro i G2 H2 s1 s2
  refine ⟨fun y e => ?_, fun e => ?_⟩
  · unfold charsP at e
    rw [List.getElem?_map] at e
    cases q : x.cps.toList[i]? with
    | none => rw [q] at e; cases e
    | some c =>
      rw [q] at e
      cases e
      rw [Array.getElem?_toList] at q
      refine ⟨(Array.getElem?_eq_some_iff.mp q).1, fun z H3 hy => ?_⟩
      obtain ⟨e3, c', hc, rfl⟩ := hy
      rw [q] at hc
      cases hc
      exact .inl ⟨e3, .str _ (by show 1 ≤ sizeLine; decide)⟩
  · unfold charsP at e
    rw [List.length_map] at e
    show x.cps.size ≤ i
    rw [← Array.length_toList]
    exact e
def mIterS (m : M PV) : M (List PV) := bnd m fun x => match x with
  | .str z => ret (charsP z)
  | _ => fun _ => none
theorem im_str {tg l : Expr} {m : M PV} (h : EM X cl W l m) : IM X cl W tg l (mIterS m) := by
  obtain ⟨t, p, d⟩ := h
  refine ⟨_, pi_str p, fun F G H σ S ys S' R st hm k => ?_⟩
  rcases bnd_some hm with ⟨x, S1, e1, e2⟩ | ⟨c, fs, S1, _, e2⟩
  · cases x <;> try (cases e2; done)
    cases e2
    refine d F G H σ S _ _ st e1 fun v G1 H1 s1 st1 rv => ?_
    cases rv
    exact ⟨_, rfl, k _ G1 H1 s1 st1 walks_str⟩
  · cases e2
/-- any of the kinds (which one is told by the derivation's value) -/
theorem pi_or {tg e : Expr} {t u : TI} (h : PI X tg e t) (h' : PI X tg e u) : PI X tg e (fun σ H R => t σ H R ∨ u σ H R) :=
  ⟨fun pins s σ H R I q => q.elim (fun q => h.run pins s σ H R I q) fun q => h'.run pins s σ H R I q⟩
def mIterA (m : M PV) : M (List PV) := bnd m fun x => match x with
  | .lst xs => ret xs
  | .frl ns => ret (ns.map PV.int)
  | .tup xs => ret xs
  | .str z => ret (charsP z)
  | _ => fun _ => none
theorem im_any {tg l : Expr} {m : M PV} (h : EM X cl W l m) : IM X cl W tg l (mIterA m) := by
  obtain ⟨t, p, d⟩ := h
  refine ⟨_, pi_or (pi_list p) (pi_or (pi_tup p) (pi_str p)), fun F G H σ S ys S' R st hm k => ?_⟩
  rcases bnd_some hm with ⟨x, S1, e1, e2⟩ | ⟨c, fs, S1, _, e2⟩
  · cases x <;> try (cases e2; done)
    · cases e2
      refine .inr (.inr (d F G H σ S _ _ st e1 fun v G1 H1 s1 st1 rv => ?_))
      cases rv
      exact ⟨_, rfl, k _ G1 H1 s1 st1 walks_str⟩
    · cases e2
      refine .inr (.inl (d F G H σ S _ _ st e1 fun v G1 H1 s1 st1 rv => ?_))
      cases rv with
      | tup hs hz hr => exact ⟨_, rfl, ⟨_, sqt_mono st1.ex hs⟩, k _ G1 H1 s1 st1 (walks_tup hs hr)⟩
    · cases e2
      refine .inl (d F G H σ S _ _ st e1 fun v G1 H1 s1 st1 rv => ?_)
      cases rv with
      | lst hs hz hr => exact ⟨_, rfl, ⟨_, .inl (.inl (st1.ex _ _ hs))⟩, k _ G1 H1 s1 st1 (walks_list (.inl (.inl hs)) hr)⟩
    · cases e2
      refine .inl (d F G H σ S _ _ st e1 fun v G1 H1 s1 st1 rv => ?_)
      cases rv with
      | frl hs => exact ⟨_, rfl, ⟨_, st1.ex.seq hs⟩, k _ G1 H1 s1 st1 (walks_list hs (repL_ints _))⟩
  · cases e2
end
end Kp
set_option Elab.async false
set_option linter.all false
set_option maxRecDepth 100000
set_option maxHeartbeats 2000000
namespace Kp
open PySem PyProof.Rows L2

/-! ### isinstance -/
def tyN : PV → Option String
  | .non => some "NoneType"
  | .bl _ => some "bool"
  | .int _ => some "int"
  | .str _ => some "str"
  | .tup _ => some "tuple"
  | .lst _ => some "list"
  | .dct _ => some "dict"
  | _ => none
/-- what an own class's record says for isinstance -/
structure InsF (K : PySem.W.Frag) (C : Addr) : Prop where
  cl : Cls K C
  ha : PySem.W.findIn K (.ref C) "__class__" = some (some (.builtin "object.__class__"))
  hn : PySem.W.specialIn K (.builtin "object.__class__") "__get__" = some (some (.builtin "getset_descriptor.__get__"))
  htk : PySem.W.takesIn K (.builtin "object.__class__") = some true
  hm : PySem.W.mroIn K C (.type "object") = some true
section
variable {K : PySem.W.Frag} {cl : Nat → Addr} {G H : Hp}
theorem tyx_rep {v : V} {x : PV} {t : String} (e : Same G H) (r : Rep K cl G v x) (h : tyN x = some t) : TyX K H v (.type t) := by
  cases r with
  | non => cases h; exact .base .non
  | bl b => cases h; exact .base (.bl b)
  | int i => cases h; exact .base (.int i)
  | str x _ => cases h; exact .base (.str x)
  | frl _ => cases h
  | tup hs _ _ =>
    cases h
    rcases hs with ⟨o, _, hs⟩ | ⟨o, its, n, h1, h2, _⟩
    · exact .fTuple (e _ _ hs)
    · exact .kTuple h1 h2
  | lst hs _ _ => cases h; exact .base (.lst (e _ _ hs))
  | dct hs _ => cases h; exact .base (.dK (e _ _ hs))
  | obj _ _ => cases h
  | glb _ => cases h
  | xo _ _ => cases h
  | raw _ => cases h
theorem tyx_obj {v : V} {c : Nat} {fs : List (Str × PV)} (e : Same G H) (r : Rep K cl G v (.obj c fs)) (f : InsF K (cl c)) : TyX K H v (.ref (cl c)) := by
  cases r with
  | obj hs _ => exact .base (.ins (e _ _ hs) f.cl f.ha f.hn f.htk f.hm)
end
def tyVl (cl : Nat → Addr) : PV → Option Value
  | .obj c _ => some (.ref (cl c))
  | x => (tyN x).map Value.type
/-- an answer to isinstance(x, u) that is right -/
def IsaOk (K : PySem.W.Frag) (cl : Nat → Addr) (u : Value) (ans : PV → Option Bool) : Prop :=
  ∀ (x : PV) (b : Bool), ans x = some b → ∃ t, tyVl cl x = some t ∧ (∀ (G H : Hp) (v : V), Same G H → Rep K cl G v x → TyX K H v t) ∧ PySem.W.kitOne K t u = some b
/-- of a built-in type; oc tells own classes' instances -/
def ansT (oc : Nat → Option Bool) (T : String) (x : PV) : Option Bool := match x with
  | .obj c _ => oc c
  | x => match tyN x with
    | some t => kitB t T
    | none => none
theorem tyVl_data {cl : Nat → Addr} {x : PV} {t : String} (h : tyN x = some t) : tyVl cl x = some (.type t) := by
  cases x <;> first | (cases h; rfl) | cases h
theorem isa_T {K : PySem.W.Frag} {cl : Nat → Addr} {oc : Nat → Option Bool} {T : String} (h : ∀ c b, oc c = some b → InsF K (cl c) ∧ PySem.W.kitOne K (.ref (cl c)) (.type T) = some b) : IsaOk K cl (.type T) (ansT oc T) := by
  intro x b ha
  by_cases q : ∃ c fs, x = .obj c fs
  · obtain ⟨c, fs, rfl⟩ := q
    obtain ⟨h1, h2⟩ := h c b ha
    exact ⟨_, rfl, fun G H v e r => tyx_obj e r h1, h2⟩
  · have ha' : (match tyN x with | some t => kitB t T | none => none) = some b := by
      unfold ansT at ha
      split at ha
      · rename_i c fs
        exact absurd ⟨c, fs, rfl⟩ q
      · exact ha
    cases et : tyN x with
    | none => rw [et] at ha'; cases ha'
    | some t =>
      rw [et] at ha'
      exact ⟨_, tyVl_data et, fun G H v e r => tyx_rep e r et, kit_ty ha'⟩
def noOc : Nat → Option Bool := fun _ => none
theorem isa_T0 {K : PySem.W.Frag} {cl : Nat → Addr} {T : String} : IsaOk K cl (.type T) (ansT noOc T) := isa_T fun c b h => by cases h
/-- of an own class -/
def ansO (oc : Nat → Option Bool) (x : PV) : Option Bool := match x with
  | .obj c _ => oc c
  | x => match tyN x with
    | some _ => some false
    | none => none
theorem isa_O {K : PySem.W.Frag} {cl : Nat → Addr} {oc : Nat → Option Bool} {C : Addr} (h : ∀ c b, oc c = some b → InsF K (cl c) ∧ PySem.W.kitOne K (.ref (cl c)) (.ref C) = some b) (h2 : ∀ x t, tyN x = some t → PySem.W.kitOne K (.type t) (.ref C) = some false) : IsaOk K cl (.ref C) (ansO oc) := by
  intro x b ha
  by_cases q : ∃ c fs, x = .obj c fs
  · obtain ⟨c, fs, rfl⟩ := q
    obtain ⟨h1, h2⟩ := h c b ha
    exact ⟨_, rfl, fun G H v e r => tyx_obj e r h1, h2⟩
  · have ha' : (match tyN x with | some _ => some false | none => none) = some b := by
      unfold ansO at ha
      split at ha
      · rename_i c fs
        exact absurd ⟨c, fs, rfl⟩ q
      · exact ha
    cases et : tyN x with
    | none => rw [et] at ha'; cases ha'
    | some t =>
      rw [et] at ha'
      cases ha'
      exact ⟨_, tyVl_data et, fun G H v e r => tyx_rep e r et, h2 x t et⟩
/-- a tuple of answers -/
def ansAny : List (PV → Option Bool) → PV → Option Bool
  | [], _ => some false
  | a :: as, x => match a x with
    | some true => some true
    | some false => ansAny as x
    | none => none
section
variable {X : Cx} {cl : Nat → Addr} {W : WX} {pos : Pos}
def mIsa (ans : PV → Option Bool) (m : M PV) : M PV := bnd m fun x => lift ((ans x).map PV.bl)
theorem em_isa {x : Expr} {c : Expr} {cv : V} {u : Value} {ans : PV → Option Bool} {m : M PV} {p : Pos} (h : IsaOk X.K cl u ans) (hv : ClsV cv u) (hm : X.mg "isinstance" = none) (hx : EM X cl W x m) (hc : PE X c (tC cv)) (hg : Gl X "isinstance" := by rfl)
    (he : starEach [x, c] X.env = (false, eval x X.env) :: starEach [c] X.env := by rfl) (he2 : starEach [c] X.env = (false, eval c X.env) :: starEach [] X.env := by rfl) (hpl : (backTo pos (starEach [c] X.env)).any (·.1) = false := by rfl) :
    EM X cl W (.Call (.Name "isinstance" p) [x, c] [] pos) (mIsa ans m) := by
  obtain ⟨t, pe, d⟩ := hx
  refine ⟨_, pe_callB call_isi hg hm PyProof.Rows.boot_isinstance (pa_cons pe (pa_cons hc pa_nil he2) he) (by decide) (by decide) he hpl, fun F G H σ S rr Q st hm hp => ?_⟩
  refine d.step (R2 := RV X.K cl) st hm hp fun y S1 v G1 H1 hm1 s1 st1 rv hp1 => ?_
  obtain ⟨z, ez, rfl⟩ := lift_eq hm1
  cases ea : ans y with
  | none => rw [ea] at ez; cases ez
  | some b =>
    rw [ea] at ez
    cases ez
    obtain ⟨t, _, h1, h2⟩ := h y b ea
    exact ⟨v, cv, t, u, b, rfl, hv, h1 _ _ _ st1.ex rv, h2, hp1 _ _ _ (Same.refl _) st1 (.bl _)⟩
/-- the answers for a tuple of classes -/
inductive IsaL (K : PySem.W.Frag) (cl : Nat → Addr) : List V → List Value → List (PV → Option Bool) → Prop
  | nil : IsaL K cl [] [] []
  | cons {c : V} {u : Value} {ans : PV → Option Bool} {cs : List V} {us : List Value} {as : List (PV → Option Bool)} : ClsV c u → IsaOk K cl u ans → IsaL K cl cs us as → IsaL K cl (c :: cs) (u :: us) (ans :: as)
theorem IsaL.paired {K : PySem.W.Frag} {cl : Nat → Addr} : ∀ {cs : List V} {us : List Value} {as : List (PV → Option Bool)}, IsaL K cl cs us as → Paired ClsV cs us
  | _, _, _, .nil => .nil
  | _, _, _, .cons h _ hs => .cons h hs.paired
theorem IsaL.any {K : PySem.W.Frag} {cl : Nat → Addr} {x : PV} : ∀ {cs : List V} {us : List Value} {as : List (PV → Option Bool)} {b : Bool} {t : Value}, IsaL K cl cs us as → tyVl cl x = some t → ansAny as x = some b → PySem.W.kitAny K t us = some b
  | _, _, _, b, t, .nil, et, h => by cases h; rfl
  | _, _, _, b, t, .cons (ans := ans) (as := as) h1 h2 hs, et, h => by
    unfold ansAny at h
    cases e : ans x with
    | none => rw [e] at h; cases h
    | some b1 =>
      rw [e] at h
      obtain ⟨t', et', _, k⟩ := h2 x b1 e
      rw [et] at et'
      cases et'
      refine kitAny_cons k (fun q => ?_) fun q => ?_
      · subst q
        exact hs.any et h
      · subst q
        cases h
        rfl
theorem IsaL.ty {K : PySem.W.Frag} {cl : Nat → Addr} {x : PV} {cs : List V} {us : List Value} {as : List (PV → Option Bool)} {b : Bool} (h : IsaL K cl cs us as) (hne : as ≠ []) (ha : ansAny as x = some b) : ∃ t, tyVl cl x = some t ∧ (∀ (G H : Hp) (v : V), Same G H → Rep K cl G v x → TyX K H v t) := by
  cases h with
  | nil => exact absurd rfl hne
  | @cons c u ans cs us as h1 h2 hs =>
    unfold ansAny at ha
    cases e : ans x with
    | none => rw [e] at ha; cases ha
    | some b1 =>
      obtain ⟨t', et', k1, _⟩ := h2 x b1 e
      exact ⟨t', et', k1⟩
/-- several constants as arguments -/
def tCs : List V → TA
  | [] => tNil
  | c :: cs => tCons (tC c) (tCs cs)
theorem tCs_run : ∀ {cs : List V} {σ : L2.St} {H : Hp} {Q : List V → Hp → Prop}, Q cs H → tCs cs σ H Q
  | [], σ, H, Q, h => h
  | c :: cs, σ, H, Q, h => tCs_run (cs := cs) (Q := fun vs H' => Q (c :: vs) H') h
theorem em_isaT {x : Expr} {es : List Expr} {cs : List V} {us : List Value} {as : List (PV → Option Bool)} {m : M PV} {p p2 : Pos} {k : Nat} (h : IsaL X.K cl cs us as) (hm : X.mg "isinstance" = none) (hx : EM X cl W x m) (hc : PA X es (tCs cs)) (hz : cs.length ≤ 1000 := by decide) (hne : as ≠ [] := by exact List.cons_ne_nil _ _) (hg : Gl X "isinstance" := by rfl)
    (he : starEach [x, .Tuple es k p2] X.env = (false, eval x X.env) :: starEach [.Tuple es k p2] X.env := by rfl) (he2 : starEach [.Tuple es k p2] X.env = (false, eval (.Tuple es k p2) X.env) :: starEach [] X.env := by rfl) (hpl : (backTo pos (starEach [.Tuple es k p2] X.env)).any (·.1) = false := by rfl) :
    EM X cl W (.Call (.Name "isinstance" p) [x, .Tuple es k p2] [] pos) (mIsa (ansAny as) m) := by
  obtain ⟨t, pe, d⟩ := hx
  refine ⟨_, pe_callB call_isiT hg hm PyProof.Rows.boot_isinstance (pa_cons pe (pa_cons (pe_tup hc) pa_nil he2) he) (by decide) (by decide) he hpl, fun F G H σ S rr Q st hm hp => ?_⟩
  refine d.step (R2 := RV X.K cl) st hm hp fun y S1 v G1 H1 hm1 s1 st1 rv hp1 => ?_
  obtain ⟨z, ez, rfl⟩ := lift_eq hm1
  cases ea : ansAny as y with
  | none => rw [ea] at ez; cases ez
  | some b =>
    rw [ea] at ez
    cases ez
    refine tCs_run ⟨Nat.le_trans hz (by decide), fun p hn => ?_⟩
    obtain ⟨t, et, ht⟩ := h.ty hne ea
    refine ⟨v, p, cs, t, us, b, rfl, upd_same, h.paired, (ht _ _ _ (st1.ex.trans (same_new hn)) rv), h.any et ea, ?_⟩
    exact hp1 _ _ _ (same_new (st1.free hn)) (st1.alloc hn) (.bl _)
end
end Kp
set_option Elab.async false
set_option linter.all false
set_option maxRecDepth 100000
set_option maxHeartbeats 2000000
namespace Kp
open PySem PyProof.Rows L2

/-! ### exceptions of own classes whose __init__ calls an own base's (which is ValueError's) -/
structure BaseX (K : PySem.W.Frag) (B : Addr) : Prop where
  rd : PySem.W.readsIn K B (.type "type") = true
  fc : PySem.W.findCls K (.ref B) (.type "type") "__init__" = some (.val (.builtin "ValueError.__init__"))
  ga : PySem.W.specialIn K (.ref B) "__getattribute__" = some (some (.builtin "type.__getattribute__"))
section
variable {X : Cx} {cl : Nat → Addr} {W : WX} {pos : Pos}
theorem pe_binit {b : Str} {B : Addr} {e : Expr} {es : List Expr} {ta : TA} {p1 p2 : Pos} {pl : Sem Bool} (f : BaseX X.K B) (hg : Gl X b) (hm : X.mg b = some (.ref B)) (ha : PA X (e :: es) ta) (hdb : (b == ("__debug__" : Str)) = false := by decide)
    (hc : eval (.Call (.Attribute (.Name b p1) "__init__" p2) (e :: es) [] pos) X.env = (do
      let ov ← eval (.Name b p1) X.env
      standAt p2.atName
      let (f, first) ← holding [ov] (getMethod ov "__init__" pl)
      callWith pos f first (backTo pos (starEach (e :: es) X.env)) (backToKw pos (keywordEach [] X.env))) := by rfl)
    (he : starEach (e :: es) X.env = (false, eval e X.env) :: starEach es X.env := by rfl) (hpl : (backTo pos (starEach es X.env)).any (·.1) = false := by rfl) :
    PE X (.Call (.Attribute (.Name b p1) "__init__" p2) (e :: es) [] pos) (tVeI X.K ta) := by
  refine ⟨fun pins s σ H Q I h => ?_⟩
  refine PySem.W.methodCall_KW (ld_glob I hg hm ?_ hdb) hc
  refine PySem.W.method_cls I.kIn f.ga (PySem.W.cls_value I.kIn f.rd f.fc (by decide +kernel) ?_)
  show wpAny _ _ (callWith pos (Value.builtin "ValueError.__init__") [] (backTo pos (starEach (e :: es) X.env)) []) _ _ _
  refine PyProof.Rows.callWith_method1 (thn (ha.run pos pins _ σ H _ (I.tok _) h) fun us s1 ⟨vs, H1, I1, r1, a, C, ws, ev, hl, T, ea, q⟩ => ?_) he hpl
  subst ev
  cases r1 with
  | @cons _ u0 _ ur ra rr =>
    obtain rfl : u0 = Value.ref a := ra
    exact oinit_ok T I1 ea (by rw [← Paired.length rr, sizeLine_eq]; omega) fun s' J => ⟨.non, H1, J, rfl, q⟩

/-- the fields that __init__ leaves: field, parameter's slot, in the body's order -/
def fldsOf (fl : List (Str × Nat)) (vs : List V) : List (Str × V) := fl.foldl (fun acc p => (p.1, vs.getD p.2 .non) :: acc) []
def spX (C : Addr) (n : Nat) (fl : List (Str × Nat)) : Sp := fun vs H Q _ => vs.length = n ∧ ∃ (a : Addr) (ws : List V), vs = .ref a :: ws ∧ H a = some (exo a C none) ∧
  ∀ dx, H dx = none → dx ≠ a → Q .non (upd (upd H dx (exd dx (fldsOf fl vs))) a (exo a C (some dx)))
theorem upd_swap {H : Hp} {a b : Addr} {x y z : HO} (h : a ≠ b) : upd (upd (upd H a x) b y) a z = upd (upd H a z) b y := by
  funext c
  by_cases e1 : c = a
  · subst e1
    rw [upd_same, upd_ne h, upd_same]
  · rw [upd_ne e1]
    by_cases e2 : c = b
    · subst e2
      rw [upd_same, upd_same]
    · rw [upd_ne e2, upd_ne e2, upd_ne e1, upd_ne e1]
/-- the body's rows behind the first one: self.f = x, .. -/
def tOsts (K : PySem.W.Frag) : List (Str × Nat) → TS
  | [] => fun D σ H => D.nx σ H
  | [p] => tOst K p.1 (tVar 0) (tVar p.2)
  | p :: ps => tSeq (tOst K p.1 (tVar 0) (tVar p.2)) (tOsts K ps)
theorem osts_run {K : PySem.W.Frag} {C a dx : Addr} {σ : L2.St} {vs : List V} {D : Ends} (T : OexC K C) (h0 : σ[0]? = some (some (.ref a))) (hv : ∀ (j : Nat) (v : V), vs[j]? = some v → σ[j]? = some (some v)) (hne : dx ≠ a) : ∀ {fl : List (Str × Nat)} {fs : List (Str × V)} {H : Hp},
    (∀ p ∈ fl, p.2 < vs.length ∧ PySem.W.findIn K (.ref C) p.1 = some none) → fs.length + fl.length ≤ 900 → H dx = none → D.nx σ (upd (upd H dx (exd dx (fl.foldl (fun acc p => (p.1, vs.getD p.2 .non) :: acc) fs))) a (exo a C (some dx))) → tOsts K fl D σ (upd (upd H dx (exd dx fs)) a (exo a C (some dx)))
  | [], fs, H, _, _, _, k => k
  | p :: ps, fs, H, hf, hl, hd, k => by
    obtain ⟨h1, h2⟩ := hf p List.mem_cons_self
    have ev : vs[p.2]? = some (vs.getD p.2 .non) := by
      rw [List.getD_eq_getElem?_getD, List.getElem?_eq_getElem h1]
      rfl
    have step : ∀ {D' : Ends}, D'.nx σ (upd (upd H dx (exd dx ((p.1, vs.getD p.2 .non) :: fs))) a (exo a C (some dx))) → tOst K p.1 (tVar 0) (tVar p.2) D' σ (upd (upd H dx (exd dx fs)) a (exo a C (some dx))) := fun {D'} q => by
      refine ⟨_, hv _ _ ev, _, h0, a, C, rfl, T, h2, .inr ⟨dx, fs, upd_same, by rw [upd_ne hne, upd_same], by omega, ?_⟩⟩
      rw [upd_swap hne]
      exact q
    have hl' : ((p.1, vs.getD p.2 .non) :: fs).length + ps.length ≤ 900 := by
      simp only [List.length_cons] at hl ⊢
      omega
    cases ps with
    | nil => exact step k
    | cons p2 ps => exact step (osts_run T h0 hv hne (fun q hq => hf q (List.mem_cons_of_mem _ hq)) hl' hd k)
/-- such a class's __init__ keeps its promise -/
theorem fnX {P : Program} {w : World} {K : PySem.W.Frag} {mg : Str → Option Value} {base : Heap} {x qual : Str} {st : Stmt} {f : Addr} {fd : FuncData} {N ps : List Str} {k : Nat} {C : Addr} {p0 : Str × Nat} {fl : List (Str × Nat)} {ta : TA} (F : Fun K x qual st f fd) (S : FnScope N ps (defScope st)) (T : OexC K C)
    (hfl : ∀ p ∈ p0 :: fl, p.2 < ps.length ∧ PySem.W.findIn K (.ref C) p.1 = some none) (hlen : fl.length < 100)
    (hb : ∀ (cdv : Value) (A : Around) (outer : List Env) (s : Shared) (H : Hp) (E : XK), Room k (A.deeper (envOfC qual (defScope st) s.heap.objs.size f cdv)) →
      PSs (cxOf (L2N.CX P w) P w K mg base N qual (defScope st) f cdv A outer s H E) (defBody st) (tSeq (tDrop (tVeI K (tCons (tVar 0) ta))) (tOsts K (p0 :: fl))))
    (hta : ∀ (σ : L2.St) (H : Hp) (Q : List V → Hp → Prop), (∀ ws : List V, ws.length ≤ 10 → Q ws H) → ta σ H Q) :
    FnOk P w K mg base (L2N.CX P w) (k + 1) f fd ps (spX C ps.length (p0 :: fl)) := by
  obtain ⟨oc, od, kV, doc, pm, an, cdv, ct, osl, rfl, lk, hcd⟩ := F.ex
  have hps : ps.length ≤ N.length := by
    have := congrArg List.length S.pre
    rw [List.length_take] at this
    omega
  refine fn_of lk hcd S (fun vs H Q E h => h.1) fun A outer s H vs Q E hr hsp => ?_
  obtain ⟨hl, a, ws, rfl, ha, hq⟩ := hsp
  refine ⟨_, hb cdv A outer s H E hr, ?_⟩
  have hv : ∀ (j : Nat) (v : V), (V.ref a :: ws)[j]? = some v → (L2.start N (V.ref a :: ws))[j]? = some (some v) := fun j v e => start_get e
  have h0 := hv 0 (.ref a) rfl
  refine ⟨_, h0, hta _ _ _ fun us hu => ⟨a, C, us, rfl, by omega, T, ha, ?_⟩⟩
  obtain ⟨h1, h2⟩ := hfl p0 List.mem_cons_self
  have ev : (V.ref a :: ws)[p0.2]? = some ((V.ref a :: ws).getD p0.2 .non) := by
    rw [List.getD_eq_getElem?_getD, List.getElem?_eq_getElem (by rw [hl]; exact h1)]
    rfl
  have first : ∀ {D' : Ends}, (∀ dx, H dx = none → dx ≠ a → D'.nx (L2.start N (V.ref a :: ws)) (upd (upd H dx (exd dx [(p0.1, (V.ref a :: ws).getD p0.2 .non)])) a (exo a C (some dx)))) → tOst K p0.1 (tVar 0) (tVar p0.2) D' (L2.start N (V.ref a :: ws)) H := fun {D'} q =>
    ⟨_, hv _ _ ev, _, h0, a, C, rfl, T, h2, .inl ⟨ha, q⟩⟩
  cases fl with
  | nil => exact first fun dx h3 h4 => hq dx h3 h4
  | cons p1 fl =>
    refine first fun dx h3 h4 => ?_
    refine osts_run T h0 hv h4 (fun q hq' => ?_) ?_ h3 (hq dx h3 h4)
    · obtain ⟨g1, g2⟩ := hfl q (List.mem_cons_of_mem _ hq')
      exact ⟨by rw [hl]; exact g1, g2⟩
    · have e1 : [(p0.1, (V.ref a :: ws).getD p0.2 .non)].length = 1 := rfl
      rw [e1]
      omega
/-- C(e, ..), as an exception -/
theorem pmkN {x : Str} {e : Expr} {es : List Expr} {ta : TA} {p : Pos} {C fI : Addr} {k : Nat} {fd : FuncData} {ps : List Str} {sp : Sp} (T : OexC X.K C) (iC : PySem.W.findIn X.K (.ref C) "__init__" = some (some (.ref fI))) (tI : PySem.W.typeIn X.K (.ref fI) = some (.type "function"))
    (F1 : FnOk X.prog X.w X.K X.mg X.base (L2N.CX X.prog X.w) k fI fd ps sp) (hr : Room (k + 1) X.A) (hb : Binds X.K fd ps []) (tk : L2N.Takes X W) (hg : Gl X x) (hm : X.mg x = some (.ref C)) (ha : PA X (e :: es) ta)
    (hdb : (x == ("__debug__" : Str)) = false := by decide) (he : starEach (e :: es) X.env = (false, eval e X.env) :: starEach es X.env := by rfl) (hpl : (backTo pos (starEach es X.env)).any (·.1) = false := by rfl) :
    L2N.PMk X (.Call (.Name x p) (e :: es) [] pos) (tMkO C sp [] ta) := by
  intro pins s σ H Q I h
  obtain ⟨nm, q0, N0, bs, bm, sn, sub, ab, col, dd, k0, k1, k2, k3, k5, hC, hbm⟩ := T.cls
  refine wpAny_Call_Name_kw (ld_glob I hg hm ?_ hdb)
  refine PySem.W.callWith_K (h₀ := X.base) I.ok.mod.kin T.kC (thn (ha.run pos pins s σ H _ I h) fun us s1 ⟨vs, H1, I1, r1, hz, q1⟩ => ⟨I1.kIn, ?_⟩) he hpl
  show wpAny _ _ (call (.ref C) us) _ _ _
  obtain ⟨hp, g, dr, tk', os⟩ := s1
  let e1 : Addr := hp.objs.size + 1
  have hsz : hp.objs.size ≤ e1 := Nat.le_succ _
  have hn : H1 e1 = none := I1.hok.fresh hsz
  have hq := q1 e1 hn
  rw [List.append_nil] at hq
  let hp2 : Heap := (hp.push (PySem.W.kdv_tup us)).push (PySem.HandSPX.excO C hp.objs.size)
  have kk : ∀ b o, hp.get? b = some o → hp2.get? b = some o := fun b o q => Heap.get?_push_of_some _ (Heap.get?_push_of_some _ q)
  have hget : hp2.get? e1 = some (PySem.HandSPX.excO C hp.objs.size) := by show ((hp.push (PySem.W.kdv_tup us)).push (PySem.HandSPX.excO C hp.objs.size)).get? (hp.objs.size + 1) = _; heap_get
  have I2 : Inv X pins σ (upd H1 e1 (exo e1 C none)) ⟨hp2, g, dr, tk', os⟩ := I1.laid (t' := tk') (a := e1) (o := exo e1 C none) (h' := hp2) kk hsz (exo_ok hget)
  have r2 : Vals (V.ref e1 :: vs) (Value.ref e1 :: us) := .cons rfl r1
  have hl : (Value.ref e1 :: us).length = ps.length := by
    have q := r2.length
    rw [F1.len _ _ _ _ hq] at q
    exact q.symm
  have b2 := hb _ (Value.ref e1 :: us) I2.kIn (by rw [List.append_nil]; exact hl)
  rw [List.append_nil] at b2
  refine wpAny_call (PySem.HandSPX.call_own F.excBase_ValueError (fun Y => PySem.HandSPX.refsVE_contains Y bm hbm) (I1.kIn _ _ hC) (PySem.W.looks_findIn I1.kIn iC) (fun self => PySem.W.bind_fn I1.kIn self tI) (by rw [← Paired.length r1, sizeLine_eq]; omega)
    (codeAny_mono (F1.run _ X.stack _ _ ⟨Value.ref e1 :: us, []⟩ (Value.ref e1 :: us) _ _ (fun _ _ _ => False) (hr.make C us []) (I2.env0.make C us []) b2 r2 hq) fun r s' hq' => ?_))
  cases r with
  | error er =>
    obtain ⟨_, _, _, _, _, _, _, _, _, _, _, _, no⟩ := hq'
    exact no.elim
  | ok fl =>
    cases fl with
    | ret u =>
      obtain ⟨v, H2, os2, bare2, un2, hok2, rv, ev, d, fs, ea, ed, hd1, q2⟩ := hq'
      subst ev
      obtain ⟨h2, g2, d2, t2, os'⟩ := s'
      obtain ⟨t0, G, J, kG, ge, hoe, na⟩ := mk_end0 (d2 := d2) (t2 := t2) I1 hsz kk un2 hok2 os2 bare2 ea ed hd1
      exact ⟨rv, e1, _, _, ⟨G, g2, d2, t2, os'⟩, _, .ref C, some d, rfl, J, kG, ge, hoe, ⟨rfl, rfl, fun vs hv => by cases hv; rfl⟩, rfl, rfl, na, rfl, bare2, raises_own T.exC T.tyC, q2⟩
    | next => exact False.elim hq'
    | brk => exact False.elim hq'
    | cont => exact False.elim hq'
end

/-! ### raise C(e, ..) -/
/-- the fields: field, argument's place (0 the first argument) -/
def fldsP (fl : List (Str × Nat)) (xs : List PV) : List (Str × PV) := fl.foldl (fun acc p => (p.1, xs.getD p.2 .non) :: acc) []
def mRaise (c : Nat) (fl : List (Str × Nat)) (ms : List (M PV)) : M Fl := bnd (mArgs ms) fun xs => fun S => some (.ex c (fldsP fl xs) S)
theorem flds_rep {K : PySem.W.Frag} {cl : Nat → Addr} {H : Hp} {v0 : V} {vs : List V} {xs : List PV} (r : RepL K cl H vs xs) : ∀ {fl : List (Str × Nat)} {as : List (Str × V)} {bs : List (Str × PV)}, (∀ p ∈ fl, p.2 < xs.length) → RepF K cl H as bs →
    RepF K cl H ((fl.map fun p => (p.1, p.2 + 1)).foldl (fun acc p => (p.1, (v0 :: vs).getD p.2 .non) :: acc) as) (fl.foldl (fun acc p => (p.1, xs.getD p.2 .non) :: acc) bs)
  | [], _, _, _, h => h
  | p :: fl, as, bs, hf, h => by
    show RepF K cl H ((fl.map fun p => (p.1, p.2 + 1)).foldl (fun acc p => (p.1, (v0 :: vs).getD p.2 .non) :: acc) ((p.1, (v0 :: vs).getD (p.2 + 1) .non) :: as)) (fl.foldl (fun acc p => (p.1, xs.getD p.2 .non) :: acc) ((p.1, xs.getD p.2 .non) :: bs))
    refine flds_rep (fl := fl) r (fun q hq => hf q (List.mem_cons_of_mem _ hq)) (RepF.cons ?_ h)
    have hlt := hf p List.mem_cons_self
    have ex : xs[p.2]? = some (xs.getD p.2 .non) := by
      rw [List.getD_eq_getElem?_getD, List.getElem?_eq_getElem hlt]
      rfl
    obtain ⟨v, ev, rv⟩ := r.get ex
    show Rep K cl H ((v0 :: vs).getD (p.2 + 1) .non) (xs.getD p.2 .non)
    rw [List.getD_cons_succ, List.getD_eq_getElem?_getD, ev]
    exact rv
section
variable {X : Cx} {cl : Nat → Addr} {W : WX} {pos : Pos}
theorem sm_raise {x : Str} {e : Expr} {es : List Expr} {p p2 : Pos} {c : Nat} {fI : Addr} {k : Nat} {fd : FuncData} {ps : List Str} {fl : List (Str × Nat)} {ms : List (M PV)} (hcm : X.calm = true) (tk : L2N.Takes X W) (T : OexC X.K (cl c)) (iC : PySem.W.findIn X.K (.ref (cl c)) "__init__" = some (some (.ref fI))) (tI : PySem.W.typeIn X.K (.ref fI) = some (.type "function"))
    (F1 : FnOk X.prog X.w X.K X.mg X.base (L2N.CX X.prog X.w) k fI fd ps (spX (cl c) ps.length (fl.map fun p => (p.1, p.2 + 1)))) (hr : Room (k + 1) X.A) (hb : Binds X.K fd ps []) (hm : X.mg x = some (.ref (cl c))) (ha : AM X cl W (e :: es) (mArgs ms)) (hl : ms.length + 1 = ps.length := by rfl) (hz : ms.length ≤ 10 := by decide) (hfl : ∀ p ∈ fl, p.2 < ms.length := by decide)
    (hg : Gl X x := by rfl) (hdb : (x == ("__debug__" : Str)) = false := by decide) (he : starEach (e :: es) X.env = (false, eval e X.env) :: starEach es X.env := by rfl) (hpl : (backTo p2 (starEach es X.env)).any (·.1) = false := by rfl) :
    SM X cl W (.Raise (some (.Call (.Name x p) (e :: es) [] p2)) none pos) (mRaise c fl ms) := by
  obtain ⟨t, pa, d⟩ := ha
  refine ⟨_, L2N.ps_raise hcm tk (pmkN T iC tI F1 hr hb tk hg hm pa hdb he hpl), fun F G H σ S r D st hm1 hp => ?_⟩
  unfold mRaise at hm1
  rcases bnd_some hm1 with ⟨xs, S1, e1, e2⟩ | ⟨c', fs, S1, e1, e2⟩
  · cases e2
    refine d F G H σ S _ _ st e1 fun vs G1 H1 s1 st1 rv => ?_
    have hlv : vs.length = ms.length := by rw [rv.length, mArgs_len e1]
    refine ⟨by omega, fun a hna => ?_⟩
    rw [List.append_nil]
    refine ⟨by rw [List.length_cons, hlv]; exact hl, a, vs, rfl, upd_same, fun dx hdx hne => ?_⟩
    have hdx1 : H1 dx = none := by
      rw [upd_ne hne] at hdx
      exact hdx
    refine ⟨rfl, dx, fldsOf (fl.map fun p => (p.1, p.2 + 1)) (.ref a :: vs), upd_same, by rw [upd_ne hne, upd_same], hdx1, ?_⟩
    have eH : upd (del (upd (upd (upd H1 a (exo a (cl c) none)) dx (exd dx (fldsOf (fl.map fun p => (p.1, p.2 + 1)) (.ref a :: vs)))) a (exo a (cl c) (some dx))) a) dx (.xd (fldsOf (fl.map fun p => (p.1, p.2 + 1)) (.ref a :: vs))) = upd H1 dx (.xd (fldsOf (fl.map fun p => (p.1, p.2 + 1)) (.ref a :: vs))) := by
      funext b
      by_cases e1 : b = dx
      · rw [e1, upd_same, upd_same]
      · rw [upd_ne e1, upd_ne e1]
        by_cases e2 : b = a
        · rw [e2, del_same, hna]
        · rw [del_ne e2, upd_ne e2, upd_ne e1, upd_ne e2]
    rw [eH]
    exact hp dx _ σ G1 _ s1 (st1.allocO hdx1) ⟨upd_same, st1.free0 hdx1, st1.rfree hdx1⟩ (flds_rep (v0 := .ref a) rv (fun p hp' => by rw [mArgs_len e1]; exact hfl p hp') .nil)
  · subst e2
    refine d F G H σ S _ _ st e1 fun dd gs G' H' s k' a b => ?_
    exact hp dd gs σ G' H' s k' a b

/-! ### self.f = e -/
def putFP (f : Str) (v : PV) : List (Str × PV) → List (Str × PV)
  | [] => [(f, v)]
  | (g, x) :: r => if g = f then (g, v) :: r else (g, x) :: putFP f v r
theorem repF_put {K : PySem.W.Frag} {H : Hp} {f : Str} {v : V} {x : PV} (rx : Rep K cl H v x) : ∀ {gs : List (Str × V)} {fs : List (Str × PV)}, RepF K cl H gs fs → RepF K cl H (putF f v gs) (putFP f x fs)
  | _, _, .nil => .cons rx .nil
  | _, _, .cons (f := g) h hs => by
    unfold putF putFP
    split
    · exact .cons rx hs
    · exact .cons h (repF_put rx hs)
def pSetF (c : Nat) (f : Str) (v : PV) : PV → Option PV
  | .obj d fs => if d = c ∧ fs.length < 100 then some (.obj d (putFP f v fs)) else none
  | _ => none
def mSetF (i c : Nat) (f : Str) (me : M PV) : M Fl := bnd me fun v => bnd (updO i (pSetF c f v)) fun _ => ret .nx
theorem sm_setF {o e : Expr} {i c : Nat} {f : Str} {me : M PV} {pos' : Pos} (hc : Cls X.K (cl c)) (hn : NoAttr X.K (cl c) f) (ho : PE X o (tVar i)) (he : EM X cl W e me) (hs : swapsWith e (some (.Attribute o f pos')) pos.line X.env = pure false := by rfl) :
    SM X cl W (.Assign [.Attribute o f pos'] e pos) (mSetF i c f me) := by
  obtain ⟨te, pe, de⟩ := he
  refine ⟨_, ps_fld ho pe hs, fun F G H σ S r D st hm hp => ?_⟩
  refine de.stepS st hm hp fun v S1 wv G1 H1 hm1 s1 st1 rv hp1 => ?_
  rcases bnd_some hm1 with ⟨u, S3, e3, e4⟩ | ⟨c', fs, S3, e3, _⟩
  · cases e4
    obtain ⟨a, x, x', S', e5, ea, ga, q, ef, fin⟩ := updO_use st1 e3
    cases e5
    refine ⟨_, ea, ?_⟩
    unfold pSetF at ef
    cases x <;> try (cases ef; done)
    dsimp only at ef
    split at ef <;> try (cases ef; done)
    rename_i cc
    obtain ⟨rfl, hlen⟩ := cc
    cases ef
    obtain ⟨dx, gs, eh, rf⟩ := q
    exact ⟨a, _, dx, gs, rfl, eh, hc, hn, by rw [rf.length]; omega, hp1 σ G1 _ (Same.refl _) (fin _ ⟨dx, _, upd_same, repF_put rv rf⟩)⟩
  · obtain ⟨a, x, x', S', e5, _⟩ := updO_use st1 e3
    cases e5
/-- x.f, x a name -/
def mFldV (i c : Nat) (f : Str) : M PV := fun S => match pk i S with
  | some x => match pFld c f x with
    | some z => some (.ok z S)
    | none => none
  | none => none
theorem em_fldV {e : Expr} {i c : Nat} {f : Str} (he : PE X e (tVar i)) (hc : Cls X.K (cl c)) (hn : NoAttr X.K (cl c) f) (hb : attributeBase e f X.env (eval e X.env) = eval e X.env := by rfl) : EM X cl W (.Attribute e f pos) (mFldV i c f) := by
  refine ⟨_, pe_fld he hb, fun F G H σ S rr Q st hm hp => ?_⟩
  unfold mFldV at hm
  split at hm <;> try (cases hm; done)
  rename_i x e1
  split at hm <;> try (cases hm; done)
  rename_i z ez
  cases hm
  unfold pFld at ez
  cases x <;> try (cases ez; done)
  dsimp only at ez
  split at ez <;> try (cases ez; done)
  rename_i q
  subst q
  have own : ∀ {a : Addr}, σ[i]? = some (some (.ref a)) → OwnAt X.K cl G H a (.obj _ _) → tFld X.K (tVar i) f σ H Q := fun {a} ea q => by
    obtain ⟨dx, gs, eh, rf⟩ := q
    obtain ⟨w, ew, rw'⟩ := rf.lookup ez
    exact ⟨_, ea, _, _, _, _, w, rfl, eh, hc, hn, ew, hp _ _ _ (Same.refl _) st rw'⟩
  unfold pk at e1
  split at e1
  · rename_i y' e
    cases e1
    obtain ⟨v', ev', rv⟩ := st.val i _ e
    cases rv with
    | obj hs hr =>
      obtain ⟨w, ew, rw'⟩ := hr.lookup ez
      exact ⟨_, ev', _, _, _, _, w, rfl, st.ex _ _ hs, hc, hn, ew, hp _ _ _ (Same.refl _) st rw'⟩
  · rename_i y' e
    cases e1
    obtain ⟨a, ea, ga, h0, q⟩ := st.own i _ e
    exact own ea q
  · rename_i y' e
    cases e1
    obtain ⟨a, ea, ga, h0, q⟩ := st.inn i _ e
    exact own ea q
  · cases e1
end
end Kp
set_option Elab.async false
set_option linter.all false
set_option maxRecDepth 100000
set_option maxHeartbeats 2000000
namespace Kp
open PySem PyProof.Rows L2

/-! ### one reading for all the contexts of a block -/
section
variable {X : Cx} {cl : Nat → Addr} {scope : Scope}
theorem takes_W0 {X : Cx} : L2N.Takes X W0 := fun u s' ⟨a, B, sI, pins, σ, H, cls, d, e, I, nb, up, sky, na, os, ag, w⟩ => w.elim
theorem blk_em {elt : Expr} {me : M PV} (h : ∀ (s : Shared) (H : Hp) (C : Addr) (cl' : List (Str × Addr)) (fp : List Addr), EM (X.blk s H scope (compEnvC scope cl' C X.env) fp) cl W0 elt me) :
    ∃ te, (∀ (s : Shared) (H : Hp) (C : Addr) (cl' : List (Str × Addr)) (fp : List Addr), PE (X.blk s H scope (compEnvC scope cl' C X.env) fp) elt te) ∧ Does X.K cl W0 (RV X.K cl) te me := by
  refine ⟨fun σ H Q => ∀ (s : Shared) (H0 : Hp) (C : Addr) (cl' : List (Str × Addr)) (fp : List Addr), Classical.choose (h s H0 C cl' fp) σ H Q, fun s H0 C cl' fp => ?_, fun F G H σ S r Q st hm hp s H0 C cl' fp => ?_⟩
  · exact ⟨fun pins s2 σ H Q I q => (Classical.choose_spec (h s H0 C cl' fp)).1.run pins s2 σ H Q I (q s H0 C cl' fp)⟩
  · exact (Classical.choose_spec (h s H0 C cl' fp)).2 F G H σ S r Q st hm hp
theorem blk_ts {ifs : List Expr} {mt : M Bool} (h : ∀ (s : Shared) (H : Hp) (C : Addr) (cl' : List (Str × Addr)) (fp : List Addr), TsM (X.blk s H scope (compEnvC scope cl' C X.env) fp) cl W0 ifs mt) :
    ∃ tt, (∀ (s : Shared) (H : Hp) (C : Addr) (cl' : List (Str × Addr)) (fp : List Addr), PTs (X.blk s H scope (compEnvC scope cl' C X.env) fp) ifs tt) ∧ Does X.K cl W0 RB tt mt := by
  refine ⟨fun σ H Q => ∀ (s : Shared) (H0 : Hp) (C : Addr) (cl' : List (Str × Addr)) (fp : List Addr), Classical.choose (h s H0 C cl' fp) σ H Q, fun s H0 C cl' fp => ?_, fun F G H σ S r Q st hm hp s H0 C cl' fp => ?_⟩
  · exact ⟨fun pins s2 σ H Q I q => (Classical.choose_spec (h s H0 C cl' fp)).1.run pins s2 σ H Q I (q s H0 C cl' fp)⟩
  · exact (Classical.choose_spec (h s H0 C cl' fp)).2 F G H σ S r Q st hm hp
theorem blk_tg {tg : Expr} {t : TG} {g : PV → Sto → Option Sto} {vs : List Nat} (h : ∀ (s : Shared) (H : Hp) (C : Addr) (cl' : List (Str × Addr)) (fp : List Addr), PG (X.blk s H scope (compEnvC scope cl' C X.env) fp) tg t) (d : DoesG X.K cl t g) (gi : gInA vs t) :
    ∃ t, (∀ (s : Shared) (H : Hp) (C : Addr) (cl' : List (Str × Addr)) (fp : List Addr), PG (X.blk s H scope (compEnvC scope cl' C X.env) fp) tg t) ∧ DoesG X.K cl t g ∧ gIn vs t := ⟨t, h, d, gin_of gi⟩
end
section
variable {X : Cx} {cl : Nat → Addr} {W : WX} {pos : Pos}
theorem em_v (i : Nat) {x : Str} (hN : X.N[i]? = some x := by rfl) (hv : Vis X.env.scope x := by first | exact Or.inl rfl | exact Or.inr (Or.inl rfl) | exact Or.inr (Or.inr rfl)) (hd : (x == ("__debug__" : Str)) = false := by decide)
    (hcd : (x == ("__classdict__" : Str)) = false := by decide) : EM X cl W (.Name x pos) (mVar i) := em_pv (pe_var hN hv hd hcd)
/-- truth of a slot's content, looked at alone -/
def mTruV (i : Nat) : M Bool := fun S => match pk i S with
  | some x => match truP x with
    | some b => some (.ok b S)
    | none => none
  | none => none
theorem tm_truV {e : Expr} {i : Nat} (h : PE X e (tVar i)) (he : ∀ whole, isTrue e X.env whole = (do let v ← whole; standAt e.pos; holding [v] (truthy v)) := by intro _; rfl) : TM X cl W e (mTruV i) := by
  refine ⟨_, pt_truth h he, fun F G H σ S rr Q st hm hp => ?_⟩
  unfold mTruV at hm
  split at hm <;> try (cases hm; done)
  rename_i x e1
  split at hm <;> try (cases hm; done)
  rename_i b eb
  cases hm
  obtain ⟨v, G', ev, s1, s2, rv⟩ := pk_view st e1
  exact ⟨v, ev, b, tru_rep (rv.mono s2) eb, hp _ _ _ (Same.refl _) st rfl⟩
end
end Kp
set_option Elab.async false
set_option linter.all false
set_option maxRecDepth 100000
set_option maxHeartbeats 2000000
namespace Kp
open PySem PyProof.Rows L2

theorem hu64 {k : Nat} {A : Around} (r : Room k A) : A.units + 64 < cLine := by have := r.un; omega
/-! ### defs that give a fresh object to be changed -/
def spO (K : PySem.W.Frag) (cl : Nat → Addr) (n : Nat) (f : List PV → Option RO) : Sp := fun vs H Q E => vs.length = n ∧ ∃ (G : Hp) (xs : List PV) (r : RO), Same G H ∧ RepL K cl G vs xs ∧ f xs = some r ∧
  match r with
  | .ret y => ∀ (a : Addr) (G' H' : Hp), Grown G H G' H' → G' a = none → H a = none → OwnAt K cl G' H' a y → Q (.ref a) H'
  | .exc c fs => ∀ (d : Addr) (gs : List (Str × V)) (G' H' : Hp), Grown G H G' H' → (H' d = some (.xd gs) ∧ H d = none) → RepF K cl G' gs fs → E (.ref (cl c)) (some d) H'
def endV : Option (Rs PV) → Option RO
  | some (.ok y _) => some (.ret y)
  | some (.ex c fs _) => some (.exc c fs)
  | none => none
def runO (N : Nat) (m : M PV) (xs : List PV) : Option RO := endV (m (stoP N xs))
theorem free0_none {K : PySem.W.Frag} {cl : Nat → Addr} {F : Fr} {G H : Hp} {σ : L2.St} {S : Sto} {a : Addr} (h : F.H0 a = none) : F.H0 a = none := h
section
variable {P : Program} {w : World} {K : PySem.W.Frag} {mg : Str → Option Value} {base : Heap} {cl : Nat → Addr}
theorem fnO {x qual : Str} {st : Stmt} {f : Addr} {fd : FuncData} {N ps : List Str} {k : Nat} {m : M PV} {e : Expr} {pos : Pos} (F : Fun K x qual st f fd) (S : FnScope N ps (defScope st)) (hbody : defBody st = [.Return (some e) pos])
    (hb : ∀ (cdv : Value) (A : Around) (outer : List Env) (s : Shared) (H : Hp) (E : XK), Room k (A.deeper (envOfC qual (defScope st) s.heap.objs.size f cdv)) →
      FM (cxOf (L2N.CX P w) P w K mg base N qual (defScope st) f cdv A outer s H E) cl (fun c d _ H' => E c d H') e m) :
    FnOk P w K mg base (L2N.CX P w) (k + 1) f fd ps (spO K cl ps.length (runO N.length m)) := by
  obtain ⟨oc, od, kV, doc, pm, an, cdv, ct, osl, rfl, lk, hcd⟩ := F.ex
  have hps : ps.length ≤ N.length := by
    have := congrArg List.length S.pre
    rw [List.length_take] at this
    omega
  refine fn_of lk hcd S (fun vs H Q E h => h.1) fun A outer s H vs Q E hr hsp => ?_
  obtain ⟨t, pt, dt⟩ := hb cdv A outer s H E hr
  obtain ⟨hl, G, xs, r, eG, rl, hf, hq⟩ := hsp
  rw [hbody]
  refine ⟨_, pss_one (ps_ret pt), ?_⟩
  have st0 := stOk_startP (N := N) eG rl (by rw [hl]; exact hps)
  unfold runO endV at hf
  have gr : ∀ {G' H' : Hp} {σ' : L2.St} {S' : Sto}, Same G G' → StOk K cl ⟨G, H, fun _ => none, fun _ => none⟩ G' H' σ' S' → Grown G H G' H' := fun {G' H' σ' S'} s k => ⟨s, k.ex, fun a o h => k.frame a o h (fun i z => by cases z), k.gnew⟩
  split at hf
  · rename_i y S' em
    cases hf
    exact dt _ G H _ _ _ _ st0 em fun a G' H' s' k' hg h0 hR hn q => hq a G' H' (gr s' k') hg h0 q
  · rename_i c fs S' em
    cases hf
    exact dt _ G H _ _ _ _ st0 em fun d gs G' H' s' k' a b => hq d gs G' H' (gr s' k') ⟨a.1, a.2.1⟩ b
  · cases hf
/-- nothing is promised -/
theorem fn_none {CX : CXT} {k : Nat} {f : Addr} {fd : FuncData} {ps : List Str} {n : Nat} : FnOk P w K mg base CX k f fd ps (spP K cl n fun _ => none) :=
  ⟨(fun vs H Q E h => by obtain ⟨_, _, _, _, _, _, z, _⟩ := h; cases z), (fun A outer s H args us vs Q E hr he hb hv h => by obtain ⟨_, _, _, _, _, _, z, _⟩ := h; cases z)⟩
end
section
variable {X : Cx} {cl : Nat → Addr} {W : WX} {pos : Pos}
theorem fm_call {x : Str} {k : Nat} {f : Addr} {fd : FuncData} {ps : List Str} {n : Nat} {g : List PV → Option RO} {p : Pos} {e : Expr} {es : List Expr} {ms : List (M PV)} (tk : L2N.Takes X W) (F : FnOk X.prog X.w X.K X.mg X.base (L2N.CX X.prog X.w) k f fd ps (spO X.K cl n g)) (hr : Room k X.A) (hm : X.mg x = some (.ref f)) (hk : PySem.W.keepIn X.K (.ref f) = true)
    (hb : Binds X.K fd ps []) (ha : AM X cl W (e :: es) (mArgs ms)) (hl : ms.length = n := by rfl) (hg : Gl X x := by rfl) (hdb : (x == ("__debug__" : Str)) = false := by decide) (he : starEach (e :: es) X.env = (false, eval e X.env) :: starEach es X.env := by rfl) (hpl : (backTo pos (starEach es X.env)).any (·.1) = false := by rfl) :
    FM X cl W (.Call (.Name x p) (e :: es) [] pos) (mCall g ms) := by
  obtain ⟨t, pa, d⟩ := ha
  refine ⟨_, pe_callS (E := WE W) F hr hg hm hk hb (fun σ => L2N.passAt tk σ) pa hdb he hpl, fun F G H σ S rr Q st hm hp => ?_⟩
  refine d.stepF st hm hp fun y S1 v G1 H1 e1 hm1 s1 st1 rv hp1 => ?_
  refine ⟨by rw [rv.length, mArgs_len e1]; exact hl, G1, y, ?_⟩
  cases e : g y with
  | none => rw [e] at hm1; cases hm1
  | some ro =>
    rw [e] at hm1
    refine ⟨ro, st1.ex, rv, rfl, ?_⟩
    cases ro with
    | ret z =>
      cases hm1
      exact fun a G' H' g hg h0 q => hp1 a G' H' g.g (st1.grown g) hg (st1.free0 h0) (st1.rfree h0) (st1.newSlot h0) q
    | exc c fs =>
      cases hm1
      exact fun d gs G' H' g a b => hp1 d gs G' H' g.g (st1.grown g) ⟨a.1, st1.free0 a.2, st1.rfree a.2⟩ b
end
end Kp
set_option Elab.async false
set_option linter.all false
set_option maxRecDepth 100000
set_option maxHeartbeats 2000000
namespace Kp
open PySem PyProof.Rows L2

/-! ### calls that raise nothing, by operators and built-in functions -/
abbrev EN : XK := fun _ _ _ => False
theorem spP_quiet {K : PySem.W.Frag} {cl : Nat → Addr} {F : Fr} {G H : Hp} {σ : L2.St} {S : Sto} {n : Nat} {f : List PV → Option RO} {vs : List V} {xs : List PV} {y : PV} {Q : VK} (st : StOk K cl F G H σ S) (rl : RepL K cl G vs xs) (hl : vs.length = n) (hf : f xs = some (.ret y))
    (k : ∀ (v : V) (G' H' : Hp), Grown G H G' H' → Rep K cl G' v y → Q v H') : spP K cl n f vs H Q EN :=
  ⟨hl, G, xs, .ret y, st.ex, rl, hf, fun v G' H' g r => k v G' H' g r⟩
theorem spP_quiet' {K : PySem.W.Frag} {cl : Nat → Addr} {G H : Hp} {n : Nat} {f : List PV → Option RO} {vs : List V} {xs : List PV} {y : PV} {Q : VK} (st : Same G H) (rl : RepL K cl G vs xs) (hl : vs.length = n) (hf : f xs = some (.ret y))
    (k : ∀ (v : V) (G' H' : Hp), Grown G H G' H' → Rep K cl G' v y → Q v H') : spP K cl n f vs H Q EN :=
  ⟨hl, G, xs, .ret y, st, rl, hf, fun v G' H' g r => k v G' H' g r⟩
section
variable {X : Cx}
/-- the call of an own def that raises nothing, wherever it is made -/
theorem run_q {k : Nat} {f : Addr} {fd : FuncData} {ps : List Str} {sp : Sp} {A' : Around} {pins : List (Addr × Obj)} {σ : L2.St} {H : Hp} {s : Shared} {Q : VK} {us : List Value} {vs : List V} {E' : Value → Shared → Prop} (hA : A'.frames = X.A.frames) (hr : Room k A')
    (F : FnOk X.prog X.w X.K X.mg X.base (L2N.CX X.prog X.w) k f fd ps sp) (hb : Binds X.K fd ps []) (I : Inv X pins σ H s) (r : Vals vs us) (h : sp vs H Q EN) : wpAny (model X.prog X.w) A' (call (.ref f) us) (EP X pins σ Q) E' s := by
  have hl : us.length = ps.length := by rw [← r.length]; exact F.len _ _ _ _ h
  have b := hb s us I.kIn (by rw [List.append_nil]; exact hl)
  rw [List.append_nil] at b
  have e0 : Env0 X.prog X.w X.K X.mg X.base A' X.stack s H := by
    have e := I.env0
    exact ⟨by rw [hA]; exact e.frames, e.mod, e.bs, e.bsz, e.funs, e.frf, e.hok, e.bare⟩
  refine wpAny_call (codeAny_mono (F.run A' X.stack s H ⟨us, []⟩ us vs Q EN hr e0 b r h) fun q s' hq => ?_)
  cases q with
  | error e =>
    obtain ⟨_, _, _, _, _, _, _, _, _, _, _, _, no⟩ := hq
    exact no.elim
  | ok fl =>
    cases fl with
    | ret u => exact I.after hq
    | next => exact False.elim hq
    | brk => exact False.elim hq
    | cont => exact False.elim hq
theorem ins_inst {pins : List (Addr × Obj)} {σ : L2.St} {H : Hp} {s : Shared} {a C dx : Addr} {fs : List (Str × V)} (I : Inv X pins σ H s) (e : H a = some (.ins C dx fs)) : ∃ ox od, PySem.W.InstAt s.heap a ox C (some od) ∧ ox.data = .plain := by
  obtain ⟨mA, J, _⟩ := ins_get I.hok e
  obtain ⟨od, J, _⟩ := J.look
  exact ⟨_, od, J, rfl⟩

/-! ### len(o) -/
def rLenO (C : Addr) (sp : Sp) : List V → Hp → VK → Prop := fun xs H Q => ∃ a dx fs, xs = [.ref a] ∧ H a = some (.ins C dx fs) ∧ sp [.ref a] H (fun v H' => ∃ n : Int, v = .int n ∧ (0 ≤ n ∧ n < 2 ^ 63) ∧ Q (.int n) H') EN
theorem call_lenO {k : Nat} {f C : Addr} {fd : FuncData} {ps : List Str} {sp : Sp} (hs : PySem.W.findIn X.K (.ref C) "__len__" = some (some (.ref f))) (hf : PySem.W.isFn X.K (.ref f) = true) (hr : Room (k + 1) X.A) (F : FnOk X.prog X.w X.K X.mg X.base (L2N.CX X.prog X.w) k f fd ps sp) (hb : Binds X.K fd ps []) :
    CallR X (.builtin "len") (rLenO C sp) := by
  intro pins s σ H xs us Q I r h
  obtain ⟨a, dx, fs, rfl, e, h⟩ := h
  obtain ⟨u, rfl, ru⟩ := vals1 r
  obtain rfl : u = Value.ref a := ru
  obtain ⟨ox, od, J, _⟩ := ins_inst I e
  obtain ⟨m, fr⟩ := I.fr
  refine PySem.W.len_K fr I.ok.mod.kin J hs hf (thn (run_q (vs := [V.ref a]) (us := [Value.ref a]) rfl hr.in1 F hb I (.cons rfl .nil) h) fun w s' ⟨v, H', I', rv, n, ev, hn, q⟩ => ?_)
  subst ev
  obtain ⟨t, rfl⟩ := rv
  exact ⟨hn, .int n, H', I'.tok _, ⟨_, rfl⟩, q⟩

/-! ### y in o -/
def rInO (C : Addr) (sp : Sp) (n : Bool) : R2 := fun y x H Q => ∃ a dx fs, x = .ref a ∧ H a = some (.ins C dx fs) ∧ sp [.ref a, y] H (fun v H' => ∃ b : Bool, v = .bl b ∧ Q (.bl (if n then !b else b)) H') EN
theorem op_inO {k : Nat} {f C : Addr} {fd : FuncData} {ps : List Str} {sp : Sp} (hs : PySem.W.findIn X.K (.ref C) "__contains__" = some (some (.ref f))) (hf : PySem.W.isFn X.K (.ref f) = true) (hr : Room k X.A) (F : FnOk X.prog X.w X.K X.mg X.base (L2N.CX X.prog X.w) k f fd ps sp) (hb : Binds X.K fd ps []) :
    OpR X (compareOp .In) (rInO C sp false) := by
  intro pins s σ H y x u v Q I ry rx h
  obtain ⟨a, dx, fs, rfl, e, h⟩ := h
  obtain rfl : v = Value.ref a := rx
  obtain ⟨ox, od, J, _⟩ := ins_inst I e
  obtain ⟨m, fr⟩ := I.fr
  refine PySem.W.in_K fr I.ok.mod.kin J hs hf (thn (run_q (vs := [V.ref a, y]) (us := [Value.ref a, u]) rfl hr F hb I (.cons rfl (.cons ry .nil)) h) fun w s' ⟨v, H', I', rv, b, ev, q⟩ => ?_)
  subst ev
  cases rv
  exact wpAny_truthy_bool ⟨.bl b, H', I', rfl, q⟩

/-! ### o == y -/
def rEqO (C : Addr) (sp : Sp) (K : PySem.W.Frag) : R2 := fun x y H Q => ∃ a dx fs tb, x = .ref a ∧ H a = some (.ins C dx fs) ∧ TyX K H y tb ∧ PySem.W.notFirst K C tb = true ∧ sp [.ref a, y] H (fun v H' => ∃ b : Bool, v = .bl b ∧ Q (.bl b) H') EN
theorem op_eqO {k : Nat} {f C : Addr} {fd : FuncData} {ps : List Str} {sp : Sp} (hs : PySem.W.findIn X.K (.ref C) "__eq__" = some (some (.ref f))) (hf : PySem.W.isFn X.K (.ref f) = true) (hr : Room k X.A) (F : FnOk X.prog X.w X.K X.mg X.base (L2N.CX X.prog X.w) k f fd ps sp) (hb : Binds X.K fd ps []) :
    OpR X (compareOp .Eq) (rEqO C sp X.K) := by
  intro pins s σ H x y v u Q I rx ry h
  obtain ⟨a, dx, fs, tb, rfl, e, ty, nf, h⟩ := h
  obtain rfl : v = Value.ref a := rx
  obtain ⟨ox, od, J, _⟩ := ins_inst I e
  obtain ⟨m, fr⟩ := I.fr
  obtain ⟨P, Z, p, _⟩ := kit_of I ry ty
  show wpAny (model X.prog X.w) X.A (richCompare .Eq (.ref a) u) (EP X pins σ Q) X.xe s
  refine PySem.W.cmp_K (op := .Eq) (tb := tb) hr.units0 fr I.ok.mod.kin J (Z.ty _ _ I.kIn p) nf hs hf (thn (run_q (vs := [V.ref a, y]) (us := [Value.ref a, u]) rfl hr F hb I (.cons rfl (.cons ry .nil)) h) fun w s' ⟨v, H', I', rv, b, ev, q⟩ => ?_)
  subst ev
  cases rv
  exact ⟨.bl b, H', I', rfl, q⟩
end

/-! ### operations that call: what stood stands -/
def BinGS (K : PySem.W.Frag) (cl : Nat → Addr) (r : R2) (g : PV → PV → Option PV) : Prop :=
  ∀ (G H : Hp) (v u : V) (x y z : PV) (Q : VK), Same G H → Rep K cl G v x → Rep K cl G u y → g x y = some z → (∀ w G' H', Grown G H G' H' → Rep K cl G' w z → Q w H') → r v u H Q
theorem Grown.res1 {K : PySem.W.Frag} {cl : Nat → Addr} {G H H' : Hp} {z : PV} {w : V} (e : Same G H) (q : Res1 K cl G H z w H') : ∃ G', Grown G H G' H' ∧ Rep K cl G' w z := by
  rcases q with ⟨rfl, r⟩ | ⟨p, o, hp, rfl, r⟩
  · exact ⟨G, ⟨Same.refl _, e, Same.refl _, fun a o h => .inl h⟩, r⟩
  · refine ⟨_, ⟨same_new (e.free hp), same_upd e, same_new hp, fun a u h => ?_⟩, r⟩
    by_cases z : a = p
    · rw [z]; exact .inr hp
    · rw [upd_ne z] at h
      exact .inl h
theorem BinS.g {K : PySem.W.Frag} {cl : Nat → Addr} {r : R2} {g : PV → PV → Option PV} (h : BinS K cl r g) : BinGS K cl r g := by
  intro G H v u x y z Q e rv ru hz k
  refine h G H v u x y z Q e rv ru hz fun w H' q => ?_
  obtain ⟨G', gr, r'⟩ := Grown.res1 e q
  exact k w G' H' gr r'
def orG (g g' : PV → PV → Option PV) : PV → PV → Option PV := fun x y => match g x y with
  | some z => some z
  | none => g' x y
theorem BinGS.or {K : PySem.W.Frag} {cl : Nat → Addr} {r r' : R2} {g g' : PV → PV → Option PV} (h : BinGS K cl r g) (h' : BinGS K cl r' g') : BinGS K cl (fun x y H Q => r x y H Q ∨ r' x y H Q) (orG g g') := by
  intro G H v u x y z Q e rv ru hz k
  unfold orG at hz
  split at hz
  · rename_i z' ez
    cases hz
    exact .inl (h G H v u x y _ Q e rv ru ez k)
  · exact .inr (h' G H v u x y z Q e rv ru hz k)
def BinGR (X : Cx) (cl : Nat → Addr) (f : Value → Value → Sem Value) (g : PV → PV → Option PV) : Prop := ∃ r : R2, OpR X f r ∧ BinGS X.K cl r g
section
variable {X : Cx} {cl : Nat → Addr} {W : WX} {pos : Pos}
theorem BinR.g {f : Value → Value → Sem Value} {g : PV → PV → Option PV} (h : BinR X cl f g) : BinGR X cl f g := by
  obtain ⟨r, ho, hs⟩ := h
  exact ⟨r, ho, hs.g⟩
theorem BinGR.or {f : Value → Value → Sem Value} {g g' : PV → PV → Option PV} (h : BinGR X cl f g) (h' : BinGR X cl f g') : BinGR X cl f (orG g g') := by
  obtain ⟨r, ho, hs⟩ := h
  obtain ⟨r', ho', hs'⟩ := h'
  exact ⟨_, ho.or ho', hs.or hs'⟩
theorem does_binG {g : PV → PV → Option PV} {r : R2} {ta tb : TE} {ma mb : M PV} (hr : BinGS X.K cl r g) (h1 : Does X.K cl W (RV X.K cl) ta ma) (h2 : Does X.K cl W (RV X.K cl) tb mb) : Does X.K cl W (RV X.K cl) (tOp r ta tb) (mBin g ma mb) := by
  intro F G H σ S rr Q st hm hp
  refine h1.step st hm hp fun x S1 v G1 H1 hm1 s1 st1 rv hp1 => ?_
  refine h2.step st1 hm1 hp1 fun y S2 u G2 H2 hm2 s2 st2 ru hp2 => ?_
  obtain ⟨z, ez, rfl⟩ := lift_eq hm2
  exact hr G2 H2 v u x y z Q st2.ex (rv.mono s2) ru ez fun w G' H' gr r' => hp2 w G' H' gr.g (st2.grown gr) r'
theorem em_cmpG {op : CmpOp} {a b : Expr} {g : PV → PV → Option PV} {ma mb : M PV} (hb : BinGR X cl (compareOp op) g) (ha : EM X cl W a ma) (hb' : EM X cl W b mb) (hm : behindInMarks op b = false) : EM X cl W (.Compare a [op] [b] pos) (mBin g ma mb) := by
  obtain ⟨ta, pa, da⟩ := ha
  obtain ⟨tb, pb, db⟩ := hb'
  obtain ⟨r, ho, hs⟩ := hb
  exact ⟨_, pe_cmpR ho pa pb hm, does_binG hs da db⟩
theorem tm_cmpG {op : CmpOp} {a b : Expr} {g : PV → PV → Option PV} {ma mb : M PV} (hb : BinGR X cl (compareOp op) g) (ha : EM X cl W a ma) (hb' : EM X cl W b mb) (hm : behindInMarks op b = false) : TM X cl W (.Compare a [op] [b] pos) (mTest (mBin g ma mb)) := by
  obtain ⟨ta, pa, da⟩ := ha
  obtain ⟨tb, pb, db⟩ := hb'
  obtain ⟨r, ho, hs⟩ := hb
  exact ⟨_, pt_cmpR ho pa pb hm, does_test (does_binG hs da db)⟩
/-- o == y by the class's own __eq__ -/
def roB : Option RO → Option PV
  | some (.ret (.bl b)) => some (.bl b)
  | _ => none
theorem roB_some {r : Option RO} {z : PV} (h : roB r = some z) : ∃ b, r = some (.ret (.bl b)) ∧ z = .bl b := by
  unfold roB at h
  split at h
  · rename_i b
    cases h
    exact ⟨b, rfl, rfl⟩
  · cases h
def pEqO (c : Nat) (ok : PV → Bool) (f : List PV → Option RO) (x y : PV) : Option PV := match x with
  | .obj d fs => if d = c ∧ ok y = true then roB (f [.obj d fs, y]) else none
  | _ => none
theorem br_eqO {k c : Nat} {f : Addr} {fd : FuncData} {ps : List Str} {g : List PV → Option RO} {ok : PV → Bool} (hs : PySem.W.findIn X.K (.ref (cl c)) "__eq__" = some (some (.ref f))) (hf : PySem.W.isFn X.K (.ref f) = true) (hr : Room k X.A) (F : FnOk X.prog X.w X.K X.mg X.base (L2N.CX X.prog X.w) k f fd ps (spP X.K cl 2 g)) (hb : Binds X.K fd ps [])
    (hok : ∀ y, ok y = true → ∃ t, tyVl cl y = some t ∧ (∀ (G H : Hp) (v : V), Same G H → Rep X.K cl G v y → TyX X.K H v t) ∧ PySem.W.notFirst X.K (cl c) t = true) : BinGR X cl (compareOp .Eq) (pEqO c ok g) := by
  refine ⟨_, op_eqO hs hf hr F hb, ?_⟩
  intro G H v u x y z Q e rv ru hz kk
  unfold pEqO at hz
  cases x <;> try (cases hz; done)
  dsimp only at hz
  split at hz <;> try (cases hz; done)
  rename_i q
  obtain ⟨q1, q2⟩ := q
  subst q1
  obtain ⟨b, eb, rfl⟩ := roB_some hz
  obtain ⟨t, _, ht, nf⟩ := hok y q2
  obtain ⟨a, dx, gs, ea, eg⟩ : ∃ a dx gs, v = .ref a ∧ G a = some (.ins (cl _) dx gs) := by
    cases rv with
    | obj h1 h2 => exact ⟨_, _, _, rfl, h1⟩
  subst ea
  exact ⟨a, dx, gs, t, rfl, e _ _ eg, ht G H u e ru, nf, spP_quiet' e (.cons rv (.cons ru .nil)) rfl eb fun w G' H' gr r' => by cases r'; exact ⟨b, rfl, kk _ G' H' gr (.bl b)⟩⟩
/-- y in o by the class's own __contains__ -/
def pInO (c : Nat) (f : List PV → Option RO) (y x : PV) : Option PV := match x with
  | .obj d fs => if d = c then roB (f [.obj d fs, y]) else none
  | _ => none
theorem br_inO {k c : Nat} {f : Addr} {fd : FuncData} {ps : List Str} {g : List PV → Option RO} (hs : PySem.W.findIn X.K (.ref (cl c)) "__contains__" = some (some (.ref f))) (hf : PySem.W.isFn X.K (.ref f) = true) (hr : Room k X.A) (F : FnOk X.prog X.w X.K X.mg X.base (L2N.CX X.prog X.w) k f fd ps (spP X.K cl 2 g)) (hb : Binds X.K fd ps []) : BinGR X cl (compareOp .In) (pInO c g) := by
  refine ⟨_, op_inO hs hf hr F hb, ?_⟩
  intro G H u v y x z Q e ru rv hz kk
  unfold pInO at hz
  cases x <;> try (cases hz; done)
  dsimp only at hz
  split at hz <;> try (cases hz; done)
  rename_i q
  subst q
  obtain ⟨b, eb, rfl⟩ := roB_some hz
  obtain ⟨a, dx, gs, ea, eg⟩ : ∃ a dx gs, v = .ref a ∧ G a = some (.ins (cl _) dx gs) := by
    cases rv with
    | obj h1 h2 => exact ⟨_, _, _, rfl, h1⟩
  subst ea
  exact ⟨a, dx, gs, rfl, e _ _ eg, spP_quiet' e (.cons rv (.cons ru .nil)) rfl eb fun w G' H' gr r' => by cases r'; exact ⟨b, rfl, by rw [if_neg Bool.false_ne_true]; exact kk _ G' H' gr (.bl b)⟩⟩
/-- len(o) by the class's own __len__ -/
def roN : Option RO → Option PV
  | some (.ret (.int n)) => if 0 ≤ n ∧ n < 2 ^ 63 then some (.int n) else none
  | _ => none
theorem roN_some {r : Option RO} {z : PV} (h : roN r = some z) : ∃ n : Int, r = some (.ret (.int n)) ∧ z = .int n ∧ 0 ≤ n ∧ n < 2 ^ 63 := by
  unfold roN at h
  split at h
  · rename_i n
    split at h
    · rename_i hn
      cases h
      exact ⟨n, rfl, rfl, hn⟩
    · cases h
  · cases h
def pLenO (c : Nat) (f : List PV → Option RO) (x : PV) : Option PV := match x with
  | .obj d fs => if d = c then roN (f [.obj d fs]) else none
  | _ => none
def mLenO (c : Nat) (f : List PV → Option RO) (m : M PV) : M PV := mUn (pLenO c f) m
theorem em_lenO {k c : Nat} {f : Addr} {fd : FuncData} {ps : List Str} {g : List PV → Option RO} {e : Expr} {m : M PV} {p : Pos} (hs : PySem.W.findIn X.K (.ref (cl c)) "__len__" = some (some (.ref f))) (hf : PySem.W.isFn X.K (.ref f) = true) (hr : Room (k + 1) X.A) (F : FnOk X.prog X.w X.K X.mg X.base (L2N.CX X.prog X.w) k f fd ps (spP X.K cl 1 g)) (hb : Binds X.K fd ps [])
    (hm : X.mg "len" = none) (ha : EM X cl W e m) (hg : Gl X "len" := by rfl) (hv : bootBuiltins "len" = some (.builtin "len") := by rfl) (he : starEach [e] X.env = (false, eval e X.env) :: starEach [] X.env := by rfl) (hpl : (backTo pos (starEach [] X.env)).any (·.1) = false := by rfl) :
    EM X cl W (.Call (.Name "len" p) [e] [] pos) (mLenO c g m) := by
  obtain ⟨t, pe, d⟩ := ha
  refine ⟨_, pe_callB (call_lenO hs hf hr F hb) hg hm hv (pa_cons pe pa_nil he) (by decide) (by decide) he hpl, fun F G H σ S rr Q st hm hp => ?_⟩
  refine d.step (R2 := RV X.K cl) st hm hp fun y S1 v G1 H1 hm1 s1 st1 rv hp1 => ?_
  obtain ⟨z, ez, rfl⟩ := lift_eq hm1
  unfold pLenO at ez
  cases y <;> try (cases ez; done)
  dsimp only at ez
  split at ez <;> try (cases ez; done)
  rename_i q
  subst q
  obtain ⟨n, en, rfl, hn⟩ := roN_some ez
  obtain ⟨a, dx, gs, ea, eg⟩ : ∃ a dx gs, v = .ref a ∧ G1 a = some (.ins (cl _) dx gs) := by
    cases rv with
    | obj h1 h2 => exact ⟨_, _, _, rfl, h1⟩
  subst ea
  exact ⟨a, dx, gs, rfl, st1.ex _ _ eg, spP_quiet' st1.ex (.cons rv .nil) rfl en fun w G' H' gr r' => by cases r'; exact ⟨n, rfl, hn, hp1 _ G' H' gr.g (st1.grown gr) (.int n)⟩⟩
/-- o(e, ..) by the class's own __call__ -/
def roQ : Option RO → M PV
  | some (.ret y) => ret y
  | _ => fun _ => none
theorem roQ_some {r : Option RO} {S : Sto} {q : Rs PV} (h : roQ r S = some q) : ∃ y, r = some (.ret y) ∧ q = .ok y S := by
  rcases r with _ | (y | ⟨c, fs⟩)
  · cases h
  · cases h
    exact ⟨y, rfl, rfl⟩
  · cases h
def mCallO (c : Nat) (f : List PV → Option RO) (mo : M PV) (ms : List (M PV)) : M PV := bnd mo fun x => match x with
  | .obj d fs => if d = c then bnd (mArgs ms) fun xs => roQ (f (.obj d fs :: xs)) else fun _ => none
  | _ => fun _ => none
theorem em_callO {k c n : Nat} {f : Addr} {fd : FuncData} {ps : List Str} {g : List PV → Option RO} {fe e : Expr} {es : List Expr} {mo : M PV} {ms : List (M PV)} (co : _root_.StX.CallO X.K (cl c) f) (hr : Room k X.A) (F : FnOk X.prog X.w X.K X.mg X.base (L2N.CX X.prog X.w) k f fd ps (spP X.K cl n g)) (hb : Binds X.K fd ps [])
    (hf : EM X cl W fe mo) (ha : AM X cl W (e :: es) (mArgs ms)) (hl : ms.length + 1 = n := by rfl)
    (ht : eval (.Call fe (e :: es) [] pos) X.env = (do callWith pos (← eval fe X.env) [] (backTo pos (starEach (e :: es) X.env)) (backToKw pos (keywordEach [] X.env))) := by rfl)
    (he : starEach (e :: es) X.env = (false, eval e X.env) :: starEach es X.env := by rfl) (hpl : (backTo pos (starEach es X.env)).any (·.1) = false := by rfl) :
    EM X cl W (.Call fe (e :: es) [] pos) (mCallO c g mo ms) := by
  obtain ⟨to, po, do_⟩ := hf
  obtain ⟨t, pa, da⟩ := ha
  have hx : Passes (L2N.CX X.prog X.w) X EN := fun pins σ H s e s' I hq => by
    obtain ⟨_, _, _, _, _, _, _, _, _, _, _, _, no⟩ := hq
    exact no.elim
  refine ⟨_, _root_.StX.pe_callO po co (F.raw hb (ds := []) (dvs := []) .nil) hr hx pa ht he hpl, fun F G H σ S rr Q st hm hp => ?_⟩
  refine do_.step (R2 := RV X.K cl) st hm hp fun y S1 v G1 H1 hm1 s1 st1 rv hp1 => ?_
  cases y <;> try (cases hm1; done)
  dsimp only at hm1
  split at hm1 <;> try (cases hm1; done)
  rename_i q
  subst q
  obtain ⟨a, dx, gs, ea, eg⟩ : ∃ a dx gs, v = .ref a ∧ G1 a = some (.ins (cl _) dx gs) := by
    cases rv with
    | obj h1 h2 => exact ⟨_, _, _, rfl, h1⟩
  subst ea
  refine ⟨a, rfl, ?_⟩
  refine da.step' (R2 := RV X.K cl) st1 hm1 hp1 fun ys S2 vs G2 H2 e2 hm2 s2 st2 rvs hp2 => ?_
  refine ⟨.inr ⟨dx, gs, st2.ex _ _ (s2 _ _ eg)⟩, ?_⟩
  show spP X.K cl n g ((V.ref a :: vs) ++ []) H2 Q EN
  rw [List.append_nil]
  obtain ⟨y, ey, rfl⟩ := roQ_some hm2
  exact spP_quiet' st2.ex (.cons (rv.mono s2) rvs) (by rw [List.length_cons, rvs.length, mArgs_len e2]; exact hl) ey fun w G' H' gr r' => hp2 w G' H' gr.g (st2.grown gr) r'
end
end Kp
set_option Elab.async false
set_option linter.all false
set_option maxRecDepth 100000
set_option maxHeartbeats 2000000
namespace Kp
open PySem PyProof.Rows L2

/-! ### sorted(..) of data -/
section
variable {prog : Program} {w : World} {A : Around} {E : Value → Shared → Prop} {s : Shared} {β : Type} {R : Value → β → Prop} {enc : β → PyData}
/-- whatever is collected (the items ys, which may come in any order), sorted into a new list -/
theorem sorted_by {u : Value} {C : List β → Prop} {Q : Value → Shared → Prop}
    (hcol : ∀ P : List Value → Shared → Prop, (∀ (ys : List Value) (h' : Heap) (tk : Nat) (cs : List β), (∀ b o, s.heap.get? b = some o → h'.get? b = some o) → PySem.W.EachIs R ys cs → PySem.W.EachIs (fun v b => ∃ as, PySem.Reads h' v (enc b) as) ys cs → C cs → P ys { s with heap := h', toks := tk }) → wpAny (model prog w) A.in1 (collect u) P E s)
    (hal : ∀ cs, C cs → PySem.W.AllAlike (cs.map enc) ∧ PySem.W.Sortable (cs.map enc) ∧ cs.length ≤ sizeLine ∧ ∀ b, b ∈ cs → A.units + 2 + (enc b).depth < cLine)
    (h : ∀ (out : List Value) (h1 h2 : Heap) (tk : Nat) (p : Addr) (n : Nat) (cs : List β), (∀ b o, s.heap.get? b = some o → h1.get? b = some o) → h1.objs.size ≤ p → (∀ b o, h1.get? b = some o → h2.get? b = some o) → h2.get? p = some (seqObj "list" out.toArray n) → C cs → PySem.W.EachIs R out (cs.mergeSort (PySem.W.dataLe false enc)) → Q (.ref p) { s with heap := h2, toks := tk }) :
    wpAny (model prog w) A (call (.builtin "sorted") [u]) Q E s := by
  refine PySem.Calls.call_function_entry kind_sorted plain_sorted entry_sorted (args_sorted1 _) ?_
  unfold Builtin.«sorted»
  refine wpAny_bind (m := checkCount "sorted" 1 1 _) (wpAny_pure ?_)
  refine wpAny_bind (hcol _ fun ys h' tk cs keep e er pm => ?_)
  obtain ⟨hal', hk', hL, hu⟩ := hal cs pm
  have hlen : ys.length ≤ sizeLine := by rw [e.length]; exact hL
  refine wpAny_bind (wpAny_newList ?_ hlen)
  have ho : (h'.push (seqObj "list" ys.toArray 0)).get? h'.objs.size = some (seqObj "list" ys.toArray 0) := Heap.get?_push_size _ rfl
  have old : ∀ b o, h'.get? b = some o → (PySem.W.sortingHeap (h'.push (seqObj "list" ys.toArray 0)) h'.objs.size ys).get? b = some o := fun b o q =>
    PySem.W.sortingHeap_old (Nat.ne_of_lt (Heap.lt_size q)) (Heap.get?_push_of_some _ q)
  have er' : PySem.W.EachIs (fun v b => ∃ as, PySem.Reads (PySem.W.sortingHeap (h'.push (seqObj "list" ys.toArray 0)) h'.objs.size ys) v (enc b) as) ys cs := er.mono fun _ _ ⟨as, r⟩ => ⟨as, PyProof.Rows.Reads.keeps old r⟩
  have S := PySem.W.SortsAt.data (prog := prog) (w := w) (A := A.in1.in1) (s := { s with heap := PySem.W.sortingHeap (h'.push (seqObj "list" ys.toArray 0)) h'.objs.size ys, toks := tk })
    (PySem.W.each_map (R := fun v d => ∃ as, PySem.Reads (PySem.W.sortingHeap (h'.push (seqObj "list" ys.toArray 0)) h'.objs.size ys) v d as) enc er') hal' hk' (PySem.W.bound_map fun b hb => by
      have q := hu b hb
      show A.units + 1 + 1 + _ < _
      omega)
  show wpAny _ _ _ _ _ { s with heap := h'.push (seqObj "list" ys.toArray 0), toks := tk }
  refine wpAny_bind (wpAny_holding (wpAny_call_entry slot_list_sort ⟨_, ho, rfl⟩ entry_list_sort
    (PySem.W.list_sort_vals (s := { s with heap := h'.push (seqObj "list" ys.toArray 0), toks := tk }) ho S hlen ⟨_, rfl, ?_⟩) (args_list_sort _)))
  obtain ⟨n, hat⟩ := sortedHeap_at (out := (PySem.W.sortVals (PySem.W.dataKind (PySem.W.sortingHeap (h'.push (seqObj "list" ys.toArray 0)) h'.objs.size ys) (cs.map enc)) false ys ys).toArray) ho
  refine wpAny_pure ⟨_, rfl, h _ h' _ tk h'.objs.size n cs keep (Nat.le_refl _) (fun b o q' => ?_) hat pm (PySem.W.sortVals_data false e er' hal')⟩
  have hb := Heap.lt_size q'
  rw [sortedHeap_old (Nat.ne_of_lt hb) (by rw [size_push']; exact Nat.lt_succ_of_lt hb)]
  exact Heap.get?_push_of_some _ q'
end

/-! #### the pure order -/
def leP (x y : PV) : Bool := PySem.W.dataLe false PV.dat x y
def alikeLP : List PV → Bool
  | xs => xs.all fun x => xs.all fun y => PySem.W.alike (PV.dat x) (PV.dat y)
def isTup1 : PV → Bool
  | .tup (_ :: _) => true
  | _ => false
def isTupNon : PV → Bool
  | .tup _ => true
  | .non => true
  | _ => false
def sortableP (xs : List PV) : Bool := xs.all isTup1 || xs.all fun x => !isTupNon x
def sortOk (xs : List PV) : Bool := PV.isDL xs && alikeLP xs && sortableP xs && decide (xs.length ≤ sizeLine) && xs.all fun x => decide ((PV.dat x).depth ≤ 60)
def sortP (xs : List PV) : List PV := xs.mergeSort leP
theorem isDL_mem {x : PV} : ∀ {xs : List PV}, PV.isDL xs = true → x ∈ xs → PV.isD x = true
  | [], _, h => by cases h
  | y :: ys, hd, h => by
    unfold PV.isDL at hd
    rw [Bool.and_eq_true] at hd
    rcases List.mem_cons.mp h with z | z
    · rw [z]; exact hd.1
    · exact isDL_mem hd.2 z
theorem allAlike_of {xs : List PV} (h : alikeLP xs = true) : PySem.W.AllAlike (xs.map PV.dat) := by
  intro d hd d' hd'
  obtain ⟨x, hx, rfl⟩ := List.mem_map.mp hd
  obtain ⟨y, hy, rfl⟩ := List.mem_map.mp hd'
  exact List.all_eq_true.mp (List.all_eq_true.mp h x hx) y hy
theorem sortable_of {xs : List PV} (hd : PV.isDL xs = true) (h : sortableP xs = true) : PySem.W.Sortable (xs.map PV.dat) := by
  unfold sortableP at h
  rcases Bool.or_eq_true_iff.mp h with h | h
  · refine .inl fun d hd => ?_
    obtain ⟨x, hx, rfl⟩ := List.mem_map.mp hd
    have q := List.all_eq_true.mp h x hx
    unfold isTup1 at q
    split at q
    · rename_i a r
      exact ⟨PV.dat a, PV.datL r, rfl⟩
    · cases q
  · refine .inr fun d hd' => ?_
    obtain ⟨x, hx, rfl⟩ := List.mem_map.mp hd'
    have q := List.all_eq_true.mp h x hx
    have hdx : PV.isD x = true := isDL_mem hd hx
    cases x <;> first | (cases q; done) | (cases hdx; done) | exact ⟨(by intro z; cases z), (by intro ys z; cases z)⟩
/-- values with what they stand for -/
theorem repL_each {X : Cx} {cl : Nat → Addr} {pins : List (Addr × Obj)} {σ : L2.St} {G H : Hp} {s : Shared} (I : Inv X pins σ H s) (e : Same G H) : ∀ {vs : List V} {xs : List PV} {us : List Value}, RepL X.K cl G vs xs → PV.isDL xs = true → Vals vs us →
    PySem.W.EachIs (fun u (p : V × PV) => RelV p.1 u ∧ Rep X.K cl G p.1 p.2) us (vs.zip xs) ∧ PySem.W.EachIs (fun u (p : V × PV) => ∃ as, PySem.Reads s.heap u (PV.dat p.2) as) us (vs.zip xs)
  | _, _, _, .nil, _, .nil => ⟨.nil, .nil⟩
  | _, _, _, .cons r rs, hd, .cons v vs => by
    unfold PV.isDL at hd
    rw [Bool.and_eq_true] at hd
    obtain ⟨h1, h2⟩ := repL_each I e rs hd.2 vs
    exact ⟨.cons ⟨v, r⟩ h1, .cons (Dp.reads I _ _ _ ((r.mono e).dp hd.1) v) h2⟩
theorem each_vals {X : Cx} {cl : Nat → Addr} {G : Hp} : ∀ {out : List Value} {ps : List (V × PV)}, PySem.W.EachIs (fun u (p : V × PV) => RelV p.1 u ∧ Rep X.K cl G p.1 p.2) out ps → Vals (ps.map (·.1)) out ∧ RepL X.K cl G (ps.map (·.1)) (ps.map (·.2))
  | _, _, .nil => ⟨.nil, .nil⟩
  | _, _, .cons h t => by
    obtain ⟨h1, h2⟩ := each_vals t
    exact ⟨.cons h.1 h1, .cons h.2 h2⟩
theorem zip_snd {K : PySem.W.Frag} {cl : Nat → Addr} {H : Hp} : ∀ {vs : List V} {xs : List PV}, RepL K cl H vs xs → (vs.zip xs).map (·.2) = xs
  | _, _, .nil => rfl
  | _, _, .cons _ rs => by rw [List.zip_cons_cons, List.map_cons, zip_snd rs]
theorem sort_snd (ps : List (V × PV)) : (ps.mergeSort (PySem.W.dataLe false fun p : V × PV => PV.dat p.2)).map (·.2) = sortP (ps.map (·.2)) := by
  unfold sortP
  exact List.map_mergeSort (fun a _ b _ => rfl)
def pSorted : List PV → Option PV
  | [.lst xs] => if sortOk xs = true then some (.lst (sortP xs)) else none
  | [.tup xs] => if sortOk xs = true then some (.lst (sortP xs)) else none
  | _ => none
section
variable {X : Cx} {cl : Nat → Addr}
def rSortedA (K : PySem.W.Frag) (cl : Nat → Addr) : List V → Hp → VK → Prop := fun vs H Q => ∃ (a : Addr) (ws : List V) (G : Hp) (xs : List PV), vs = [.ref a] ∧ (SqL K H a ws ∨ SqT K H a ws) ∧ Same G H ∧ RepL K cl G ws xs ∧ sortOk xs = true ∧
  ∀ (p : Addr) (ys : List V), H p = none → ys.length ≤ sizeLine → RepL K cl G ys (sortP xs) → Q (.ref p) (upd H p (.lst ys))
theorem cr_sortedA (hu : X.A.units + 64 < cLine) : CallR X (.builtin "sorted") (rSortedA X.K cl) := by
  intro pins s σ H vs us Q I r h
  obtain ⟨a, ws, G, xs, rfl, hs, e, rl, ok, q⟩ := h
  obtain ⟨u, rfl, ru⟩ := vals1 r
  obtain rfl : u = Value.ref a := ru
  simp only [sortOk, Bool.and_eq_true, decide_eq_true_eq] at ok
  obtain ⟨⟨⟨⟨o1, o2⟩, o3⟩, o4⟩, o5⟩ := ok
  obtain ⟨T, o, items, n, hT, ho, hc, hd, rv, hz⟩ : ∃ (T : String) (o : Obj) (items : Array Value) (n : Nat), (T = "list" ∨ T = "tuple") ∧ s.heap.get? a = some o ∧ o.cls = .type T ∧ o.data = .seq items n ∧ Vals ws items.toList ∧ items.size ≤ sizeLine := by
    rcases hs with hs | hs
    · obtain ⟨its, rv, ⟨o, n, ho, hc, _, hd⟩, hz⟩ := I.list hs
      exact ⟨"list", o, its.toArray, n, .inl rfl, ho, hc, hd, by simpa using rv, by rw [List.size_toArray, ← rv.length]; exact hz⟩
    · obtain ⟨its, rv, ⟨o, ho, hc, n, hd⟩, hz⟩ := I.tuple hs
      exact ⟨"tuple", o, its.toArray, n, .inr rfl, ho, hc, hd, by simpa using rv, by rw [List.size_toArray, ← rv.length]; exact hz⟩
  have hen : (ws.zip xs).map (fun p : V × PV => PV.dat p.2) = xs.map PV.dat := by
    have z : (ws.zip xs).map (fun p : V × PV => PV.dat p.2) = ((ws.zip xs).map (·.2)).map PV.dat := by rw [List.map_map]; rfl
    rw [z, zip_snd rl]
  refine sorted_by (C := fun cs => cs = ws.zip xs) (enc := fun p : V × PV => PV.dat p.2) (R := fun u (p : V × PV) => RelV p.1 u ∧ Rep X.K cl G p.1 p.2) (fun P hP => ?_) (fun cs hcs => ?_) fun out h1 h2 tk p n2 cs k1 hp k2 hat hcs eo => ?_
  · refine PySem.wpAny_collect_seq a hT ho hc hd (fun h' keep => ?_) hz
    have I1 : Inv X pins σ H { s with heap := h' } := I.kept (t' := s.toks) keep
    obtain ⟨g1, g2⟩ := repL_each I1 e rl o1 rv
    exact hP _ h' s.toks _ keep g1 g2 rfl
  · subst hcs
    refine ⟨by rw [hen]; exact allAlike_of o2, by rw [hen]; exact sortable_of o1 o3, by rw [List.length_zip, rl.length, Nat.min_self]; exact o4, fun b hb => ?_⟩
    have hx : b.2 ∈ xs := by
      have : b.2 ∈ (ws.zip xs).map (·.2) := List.mem_map.mpr ⟨b, hb, rfl⟩
      rwa [zip_snd rl] at this
    have := of_decide_eq_true (List.all_eq_true.mp o5 b.2 hx)
    omega
  · subst hcs
    obtain ⟨v1, v2⟩ := each_vals eo
    rw [sort_snd, zip_snd rl] at v2
    have I1 : Inv X pins σ H { s with heap := h1, toks := tk } := I.kept k1
    have hlen : (((ws.zip xs).mergeSort (PySem.W.dataLe false fun p : V × PV => PV.dat p.2)).map (·.1)).length ≤ sizeLine := by
      rw [List.length_map, List.length_mergeSort, List.length_zip, rl.length, Nat.min_self]
      exact o4
    exact ⟨.ref p, upd H p (.lst _), I1.laid (t' := tk) k2 hp ⟨hlen, out, n2, v1, hat⟩, rfl, q p _ (I1.hok.fresh hp) hlen v2⟩
theorem cs_sortedA : CallSF X.K cl (rSortedA X.K cl) pSorted := by
  intro G H vs xs z Q e rl hz k
  unfold pSorted at hz
  split at hz <;> try (cases hz; done)
  all_goals
    split at hz <;> try (cases hz; done)
    rename_i ok
    cases hz
    obtain ⟨v, rfl, rv⟩ := repL1 rl
  · cases rv with
    | lst hs hl hr => exact ⟨_, _, G, _, rfl, .inl (SqL.of (e _ _ hs)), e, hr, ok, fun p ys hn hy ry => k p _ hn ⟨ys, upd_same, hy, ry⟩⟩
  · cases rv with
    | tup hs hl hr => exact ⟨_, _, G, _, rfl, .inr (sqt_mono e hs), e, hr, ok, fun p ys hn hy ry => k p _ hn ⟨ys, upd_same, hy, ry⟩⟩
end
end Kp
set_option Elab.async false
set_option linter.all false
set_option maxRecDepth 100000
set_option maxHeartbeats 2000000
namespace Kp
open PySem PyProof.Rows L2

/-! ### dict(pairs) -/
def pairsP : List PV → Option (List (PV × PV))
  | [] => some []
  | .tup [k, v] :: xs => if (isKey k).isSome = true then (pairsP xs).map ((k, v) :: ·) else none
  | _ => none
def mergeP (kvs more : List (PV × PV)) : List (PV × PV) := more.foldl (fun acc kv => dPut acc kv.1 kv.2) kvs
theorem pairsP_cons {x : PV} {xs : List PV} {kvs : List (PV × PV)} (h : pairsP (x :: xs) = some kvs) : ∃ k v r, x = .tup [k, v] ∧ (isKey k).isSome = true ∧ pairsP xs = some r ∧ kvs = (k, v) :: r := by
  unfold pairsP at h
  split at h
  · rename_i e; cases e
  · rename_i e
    cases e
    split at h
    · rename_i hk
      cases e2 : pairsP xs with
      | none => rw [e2] at h; cases h
      | some r =>
        rw [e2] at h
        cases h
        exact ⟨_, _, r, rfl, hk, rfl, rfl⟩
    · cases h
  · cases h
section
variable {X : Cx} {cl : Nat → Addr}
theorem plainT {pins : List (Addr × Obj)} {σ : L2.St} {H : Hp} {s : Shared} {a : Addr} {ws : List V} (I : Inv X pins σ H s) (h : TupAt X.K H a ws) : ∃ its : List Value, Vals ws its ∧ PySem.PlainSeq "tuple" s.heap a its.toArray ∧ ws.length ≤ sizeLine := by
  rcases h with ⟨o, hd, h⟩ | ⟨o, its, n, h1, h2, h3, h4, h5, h6⟩
  · obtain ⟨hg, hz, its, rv, o', ho', hc, n, hdat⟩ := I.hok a _ h
    rw [hg] at ho'
    cases ho'
    exact ⟨its, rv, ⟨o, n, hg, hc, hd, hdat⟩, hz⟩
  · exact ⟨its.toList, h6, ⟨o, n, I.kIn _ _ h1, h2, h3, by rw [Array.toArray_toList]; exact h4⟩, by rw [h6.length, Array.length_toList]; exact h5⟩
theorem plainL {pins : List (Addr × Obj)} {σ : L2.St} {H : Hp} {s : Shared} {a : Addr} {ws : List V} (I : Inv X pins σ H s) (h : SqL X.K H a ws) : ∃ its : List Value, Vals ws its ∧ PySem.PlainSeq "list" s.heap a its.toArray ∧ ws.length ≤ sizeLine := by
  obtain ⟨its, rv, ⟨o, n, ho, hc, hd, hdat⟩, hz⟩ := I.list h
  exact ⟨its, rv, ⟨o, n, ho, hc, hd, hdat⟩, hz⟩
/-- the pairs as the heap has them -/
theorem pairs_get {pins : List (Addr × Obj)} {σ : L2.St} {G H : Hp} {s : Shared} (I : Inv X pins σ H s) (e : Same G H) : ∀ {vs : List V} {xs : List PV} {us : List Value} {kvs : List (PV × PV)}, RepL X.K cl G vs xs → pairsP xs = some kvs → Vals vs us →
    ∃ (as : List Addr) (ps : List (Value × Value)) (gs : List (Key × V)) (rs : List (Key × Value)), us = as.map Value.ref ∧ ps.length = as.length ∧ rs.length = as.length ∧ KV gs rs ∧ RepK X.K cl G gs kvs ∧
      (∀ (j : Nat) (k v : Value), ps[j]? = some (k, v) → ∃ a, as[j]? = some a ∧ s.heap.IsTuple a #[k, v]) ∧ (∀ (j : Nat) (k v : Value), ps[j]? = some (k, v) → ∃ key, rs[j]? = some (key, v) ∧ (mixKind X.prog X.w).is key k = true)
  | _, _, _, _, .nil, h, .nil => by
    cases h
    exact ⟨[], [], [], [], rfl, rfl, rfl, .nil, .nil, fun j k v z => by simp at z, fun j k v z => by simp at z⟩
  | _, _, _, _, .cons (v := v0) r rs', h, .cons (b := u0) rv rvs => by
    obtain ⟨k, v, kr, rfl, hk, hp, rfl⟩ := pairsP_cons h
    obtain ⟨as, ps, gs, rs, e1, e2, e3, e4, e5, e6, e7⟩ := pairs_get I e rs' hp rvs
    cases r with
    | @tup a ws0 _ hs hz hr =>
      cases hr with
      | cons rk hr =>
        cases hr with
        | @cons w _ _ _ rw' hr =>
          cases hr
          obtain ⟨kk, ek⟩ := Option.isSome_iff_exists.mp hk
          obtain rfl := isKey_some ek
          obtain rfl := rep_key rk
          obtain ⟨its, rvt, ht, _⟩ := I.tuple (sqt_mono e hs)
          obtain ⟨u1, u2, rfl, ru1, ru2⟩ := vals2 rvt
          refine ⟨a :: as, (u1, u2) :: ps, (kk, w) :: gs, (kk, u2) :: rs, ?_, by rw [List.length_cons, List.length_cons, e2], by rw [List.length_cons, List.length_cons, e3], .cons ⟨rfl, ru2⟩ e4, .cons rw' e5, fun j k v z => ?_, fun j k v z => ?_⟩
          · rw [e1, List.map_cons]
            obtain rfl : u0 = Value.ref a := rv
            rfl
          · cases j with
            | zero =>
              have z' : (u1, u2) = (k, v) := by simpa using z
              cases z'
              exact ⟨a, rfl, ht⟩
            | succ j =>
              obtain ⟨b, h1, h2⟩ := e6 j k v (by simpa using z)
              exact ⟨b, by simpa using h1, h2⟩
          · cases j with
            | zero =>
              have z' : (u1, u2) = (k, v) := by simpa using z
              cases z'
              exact ⟨kk, rfl, kV_is ru1⟩
            | succ j =>
              obtain ⟨key, h1, h2⟩ := e7 j k v (by simpa using z)
              exact ⟨key, by simpa using h1, h2⟩
theorem repK_merge {K : PySem.W.Frag} {H : Hp} : ∀ {more : List (Key × V)} {mp : List (PV × PV)} {gs : List (Key × V)} {kvs : List (PV × PV)}, RepK K cl H more mp → RepK K cl H gs kvs → RepK K cl H (mergeK gs more) (mergeP kvs mp)
  | _, _, _, _, .nil, h => h
  | _, _, _, _, .cons (vs := vs) (xs := xs) r rs, h => repK_merge (more := vs) (mp := xs) rs (h.put r)
def rDictOf (K : PySem.W.Frag) (cl : Nat → Addr) : List V → Hp → VK → Prop := fun vs H Q => ∃ (a : Addr) (ws : List V) (G : Hp) (xs : List PV) (kvs : List (PV × PV)), vs = [.ref a] ∧ (SqL K H a ws ∨ TupAt K H a ws) ∧ Same G H ∧ RepL K cl G ws xs ∧ pairsP xs = some kvs ∧
  ∀ (p : Addr) (gs : List (Key × V)), H p = none → RepK K cl G gs (mergeP [] kvs) → Q (.ref p) (upd H p (.dK gs))
theorem cr_dict (hc : X.calm = true) : CallR X (.type "dict") (rDictOf X.K cl) := by
  intro pins s σ H vs us Q I r h
  obtain ⟨a, ws, G, xs, kvs, rfl, hs, e, rl, hp, q⟩ := h
  obtain ⟨u, rfl, ru⟩ := vals1 r
  obtain rfl : u = Value.ref a := ru
  obtain ⟨T, its, hT, rv, ps, hz⟩ : ∃ (T : String) (its : List Value), (T = "list" ∨ T = "tuple") ∧ Vals ws its ∧ PySem.PlainSeq T s.heap a its.toArray ∧ ws.length ≤ sizeLine := by
    rcases hs with hs | hs
    · obtain ⟨its, h1, h2, h3⟩ := plainL I hs
      exact ⟨_, its, .inl rfl, h1, h2, h3⟩
    · obtain ⟨its, h1, h2, h3⟩ := plainT I hs
      exact ⟨_, its, .inr rfl, h1, h2, h3⟩
  obtain ⟨as, pr, gs, rs, e1, e2, e3, e4, e5, e6, e7⟩ := pairs_get I e rl hp rv
  have hlen : as.length = ws.length := by rw [rv.length, e1, List.length_map]
  have hm : (s.heap.objs.size == sysModules) = false := beq_eq_false_iff_ne.mpr (Nat.ne_of_gt I.big)
  have items : PySem.PairItems s.heap its.toArray (fun j => as.getD j 0) pr := by
    refine ⟨by rw [List.size_toArray, e1, List.length_map, e2], fun j k v z => ?_⟩
    obtain ⟨b, h1, h2⟩ := e6 j k v z
    have hb : as.getD j 0 = b := by rw [List.getD_eq_getElem?_getD, h1]; rfl
    show its.toArray[j]? = some (Value.ref (as.getD j 0)) ∧ PySem.PairAt s.heap (as.getD j 0) k v
    rw [hb]
    refine ⟨?_, .inl h2⟩
    rw [e1]
    simp [h1]
  have have' : PySem.PairsHave (mixKind X.prog X.w) pr.length (PySem.PairRel pr) rs := ⟨by rw [e3, e2], fun j k v z => e7 j k v z⟩
  have fin : ∀ h' tk, h'.DictOf (mixKind X.prog X.w) s.heap.objs.size (merged [] rs) → (∀ b o, b ∉ ([] : List Addr) → s.heap.get? b = some o → h'.get? b = some o) → EP X pins σ Q (.ref s.heap.objs.size) { s with heap := h', toks := tk } := fun h' tk hd k => by
    have hl : (mergeK [] gs).length ≤ sizeLine := by
      refine Nat.le_trans (length_mergeK gs []) ?_
      rw [List.length_nil, Nat.zero_add, e4.length, e3, hlen]
      exact hz
    exact ⟨.ref s.heap.objs.size, upd H s.heap.objs.size (.dK (mergeK [] gs)), I.laid (t' := tk) (fun b o z => k b o (by simp) z) (Nat.le_refl _) (show ObjOk X.prog X.w _ _ _ (.dK (mergeK [] gs)) from ⟨hl, hm, merged [] rs, KV.merge e4 .nil, hd⟩), rfl, q _ _ (I.hok.fresh (Nat.le_refl _)) (repK_merge e5 .nil)⟩
  rcases hT with rfl | rfl
  · exact PySem.call_dict_pairs (PySem.PairArg.list a its.toArray (fun j => as.getD j 0) pr) (I.ok.hd hc) ⟨ps, items⟩ have' (by rw [e2, hlen]; exact hz) fin
  · exact PySem.call_dict_pairs (PySem.PairArg.tuple a its.toArray (fun j => as.getD j 0) pr) (I.ok.hd hc) ⟨ps, items⟩ have' (by rw [e2, hlen]; exact hz) fin
def pDict : List PV → Option PV
  | [.lst xs] => (pairsP xs).map fun kvs => .dct (mergeP [] kvs)
  | [.tup xs] => (pairsP xs).map fun kvs => .dct (mergeP [] kvs)
  | _ => none
theorem cs_dict : CallSF X.K cl (rDictOf X.K cl) pDict := by
  intro G H vs xs z Q e rl hz k
  unfold pDict at hz
  split at hz <;> try (cases hz; done)
  all_goals
    rename_i ys
    cases hp : pairsP ys with
    | none => rw [hp] at hz; cases hz
    | some kvs => ?_
  all_goals
    rw [hp] at hz
    cases hz
    obtain ⟨v, rfl, rv⟩ := repL1 rl
  · cases rv with
    | lst hs hl hr => exact ⟨_, _, G, _, kvs, rfl, .inl (SqL.of (e _ _ hs)), e, hr, hp, fun p gs hn rg => k p _ hn ⟨gs, upd_same, rg⟩⟩
  · cases rv with
    | tup hs hl hr => exact ⟨_, _, G, _, kvs, rfl, .inr (hs.mono e), e, hr, hp, fun p gs hn rg => k p _ hn ⟨gs, upd_same, rg⟩⟩
end
end Kp
set_option Elab.async false
set_option linter.all false
set_option maxRecDepth 100000
set_option maxHeartbeats 2000000
namespace Kp
open PySem PyProof.Rows L2

theorem key_rel {P : Program} {w : World} {k : Key} {v : Value} (h : (mixKind P w).is k v = true) : RelV (kV k) v := by
  cases k with
  | inl i =>
    obtain ⟨t, e⟩ := Value.isInt_shape (k := i) (v := v) h
    exact ⟨t, e⟩
  | inr x =>
    obtain ⟨t, e⟩ := Value.isStrOf_shape (x := x) (v := v) h
    exact ⟨t, e⟩
/-! ### sorted(d) -/
def keyFit : PV → Bool
  | .str x => decide (x.length ≤ sizeLine)
  | _ => true
def pSortedD : List PV → Option PV
  | [.dct kvs] => if sortOk (kvs.map (·.1)) = true ∧ (kvs.map (·.1)).all keyFit = true then some (.lst (sortP (kvs.map (·.1)))) else none
  | _ => none
section
variable {X : Cx} {cl : Nat → Addr}
def keyPair (K : PySem.W.Frag) (kv : Key × V) : V × PV := (kV kv.1, keyPV kv.1)
theorem repK_keys {K : PySem.W.Frag} {H : Hp} : ∀ {gs : List (Key × V)} {kvs : List (PV × PV)}, RepK K cl H gs kvs → kvs.map (·.1) = gs.map fun g => keyPV g.1
  | _, _, .nil => rfl
  | _, _, .cons _ rs => by rw [List.map_cons, List.map_cons, repK_keys rs]
theorem keys_each {hp : Heap} : ∀ {gs : List (Key × V)} {us : List Value}, us.length = gs.length → (∀ (j : Nat) (v : Value), us[j]? = some v → ∃ g, gs[j]? = some g ∧ RelV (kV g.1) v) → (gs.map fun g => keyPV g.1).all keyFit = true →
    PySem.W.EachIs (fun u (p : V × PV) => RelV p.1 u ∧ ∀ (cl : Nat → Addr) (G : Hp), Rep X.K cl G p.1 p.2) us (gs.map fun g => (kV g.1, keyPV g.1)) ∧ PySem.W.EachIs (fun u (p : V × PV) => ∃ as, PySem.Reads hp u (PV.dat p.2) as) us (gs.map fun g => (kV g.1, keyPV g.1))
  | [], [], _, _, _ => ⟨.nil, .nil⟩
  | [], _ :: _, hl, _, _ => by cases hl
  | _ :: _, [], hl, _, _ => by cases hl
  | g :: gs, u :: us, hl, h, hf => by
    rw [List.map_cons, List.all_cons, Bool.and_eq_true] at hf
    obtain ⟨i1, i2⟩ := keys_each (hp := hp) (gs := gs) (us := us) (by simpa using hl) (fun j v e => by simpa using h (j + 1) v (by simpa using e)) hf.2
    obtain ⟨g', eg, rg⟩ := h 0 u rfl
    have eg' : g = g' := by simpa using eg
    subst eg'
    have hr : (∀ (cl : Nat → Addr) (G : Hp), Rep X.K cl G (kV g.1) (keyPV g.1)) ∧ ∃ as, PySem.Reads hp u (PV.dat (keyPV g.1)) as := by
      obtain ⟨kk, w⟩ := g
      cases kk with
      | inl i =>
        obtain ⟨t, e⟩ := (show ∃ t, u = Value.int i t from rg)
        subst e
        exact ⟨fun _ _ => .int i, [], .int _ _⟩
      | inr x =>
        obtain ⟨t, e⟩ := (show ∃ t, u = Value.str x t from rg)
        subst e
        exact ⟨fun _ _ => .str x (of_decide_eq_true hf.1), [], .str _ _⟩
    exact ⟨.cons ⟨rg, hr.1⟩ i1, .cons hr.2 i2⟩
def rSortedK (K : PySem.W.Frag) : List V → Hp → VK → Prop := fun vs H Q => ∃ (a : Addr) (gs : List (Key × V)) (xs : List PV), vs = [.ref a] ∧ H a = some (.dK gs) ∧ xs = gs.map (fun g => keyPV g.1) ∧ sortOk xs = true ∧ xs.all keyFit = true ∧
  ∀ (p : Addr) (ys : List V), H p = none → ys.length ≤ sizeLine → (∀ (cl : Nat → Addr) (G : Hp), RepL K cl G ys (sortP xs)) → Q (.ref p) (upd H p (.lst ys))
theorem cr_sortedK (hc : X.calm = true) (hu : X.A.units + 64 < cLine) : CallR X (.builtin "sorted") (rSortedK X.K) := by
  intro pins s σ H vs us Q I r h
  obtain ⟨a, gs, xs, rfl, ha, ex, ok, hf, q⟩ := h
  obtain ⟨u, rfl, ru⟩ := vals1 r
  obtain rfl : u = Value.ref a := ru
  simp only [sortOk, Bool.and_eq_true, decide_eq_true_eq] at ok
  obtain ⟨⟨⟨⟨o1, o2⟩, o3⟩, o4⟩, o5⟩ := ok
  obtain ⟨z, lo, vs0, rel, dd⟩ := dk_of I.hok ha
  obtain ⟨ep, hat⟩ := dd.dictAt
  have hen : (gs.map fun g => ((kV g.1, keyPV g.1) : V × PV)).map (fun p : V × PV => PV.dat p.2) = xs.map PV.dat := by
    rw [ex, List.map_map, List.map_map]
    rfl
  have hsnd : (gs.map fun g => ((kV g.1, keyPV g.1) : V × PV)).map (·.2) = xs := by
    rw [ex, List.map_map]
    rfl
  have hl0 : vs0.length = gs.length := rel.length.symm
  refine sorted_by (C := fun cs => cs = gs.map fun g => ((kV g.1, keyPV g.1) : V × PV)) (enc := fun p : V × PV => PV.dat p.2) (R := fun u (p : V × PV) => RelV p.1 u ∧ ∀ (cl : Nat → Addr) (G : Hp), Rep X.K cl G p.1 p.2) (fun P hP => ?_) (fun cs hcs => ?_) fun out h1 h2 tk p n2 cs k1 hp k2 hat2 hcs eo => ?_
  · refine PySem.W.kdu_collect (A := X.A.in1) (PySem.W.kdl_dict (knd := mixKind X.prog X.w) (kvs := vs0) (ep := ep) lo) (I.ok.hd hc) hat (by rw [hl0]; exact z) fun h' tk acc hk hacc => ?_
    have hlen : acc.toList.length = gs.length := by rw [Array.length_toList, hacc.1, hl0]
    have hi : ∀ (j : Nat) (v : Value), acc.toList[j]? = some v → ∃ g, gs[j]? = some g ∧ RelV (kV g.1) v := fun j v e => by
      obtain ⟨k, x, e1, e2⟩ := hacc.2 j v (by rw [← Array.getElem?_toList]; exact e)
      have e3 : (vs0.map (·.1))[j]? = some k := by rw [List.getElem?_map, e1]; rfl
      rw [← rel.keys, List.getElem?_map] at e3
      cases eg : gs[j]? with
      | none => rw [eg] at e3; cases e3
      | some g =>
        rw [eg] at e3
        have e4 : g.1 = k := Option.some.inj e3
        subst e4
        exact ⟨g, rfl, key_rel e2⟩
    have hf' : (gs.map fun g => keyPV g.1).all keyFit = true := by rw [← ex]; exact hf
    obtain ⟨g1, g2⟩ := keys_each (X := X) (hp := h') hlen hi hf'
    exact hP _ h' tk _ hk g1 g2 rfl
  · subst hcs
    refine ⟨by rw [hen]; exact allAlike_of o2, by rw [hen]; exact sortable_of o1 o3, by rw [List.length_map]; exact z, fun b hb => ?_⟩
    have hx : b.2 ∈ xs := by
      rw [← hsnd]
      exact List.mem_map.mpr ⟨b, hb, rfl⟩
    have := of_decide_eq_true (List.all_eq_true.mp o5 b.2 hx)
    omega
  · subst hcs
    have I1 : Inv X pins σ H { s with heap := h1, toks := tk } := I.kept k1
    have v1 := (each_vals (X := X) (cl := fun _ => 0) (G := H) (eo.mono fun _ _ q => ⟨q.1, q.2 _ _⟩)).1
    have v2 : ∀ (cl : Nat → Addr) (G : Hp), RepL X.K cl G (((gs.map fun g => ((kV g.1, keyPV g.1) : V × PV)).mergeSort (PySem.W.dataLe false fun p : V × PV => PV.dat p.2)).map (·.1)) (sortP xs) := fun cl G => by
      have := (each_vals (X := X) (cl := cl) (G := G) (eo.mono fun _ _ q => ⟨q.1, q.2 _ _⟩)).2
      rw [sort_snd, hsnd] at this
      exact this
    have hlen : (((gs.map fun g => ((kV g.1, keyPV g.1) : V × PV)).mergeSort (PySem.W.dataLe false fun p : V × PV => PV.dat p.2)).map (·.1)).length ≤ sizeLine := by
      rw [List.length_map, List.length_mergeSort, List.length_map]
      exact z
    exact ⟨.ref p, upd H p (.lst _), I1.laid (t' := tk) k2 hp ⟨hlen, out, n2, v1, hat2⟩, rfl, q p _ (I1.hok.fresh hp) hlen v2⟩
theorem cs_sortedK : CallSF X.K cl (rSortedK X.K) pSortedD := by
  intro G H vs xs z Q e rl hz k
  unfold pSortedD at hz
  split at hz <;> try (cases hz; done)
  split at hz <;> try (cases hz; done)
  rename_i kvs c
  cases hz
  obtain ⟨v, rfl, rv⟩ := repL1 rl
  cases rv with
  | dct hs hr =>
    have ek := repK_keys hr
    refine ⟨_, _, _, rfl, e _ _ hs, rfl, by rw [← ek]; exact c.1, by rw [← ek]; exact c.2, fun p ys hn hy ry => k p _ hn ⟨ys, upd_same, hy, ?_⟩⟩
    rw [ek]
    exact ry cl G
end
end Kp
set_option Elab.async false
set_option linter.all false
set_option maxRecDepth 100000
set_option maxHeartbeats 2000000
namespace Kp
open PySem PyProof.Rows L2

section
variable {X : Cx} {cl : Nat → Addr} {W : WX} {pos : Pos}
def orL (g g' : List PV → Option PV) : List PV → Option PV := fun xs => match g xs with
  | some z => some z
  | none => g' xs
theorem CallSF.or {r r' : List V → Hp → VK → Prop} {g g' : List PV → Option PV} (h : CallSF X.K cl r g) (h' : CallSF X.K cl r' g') : CallSF X.K cl (fun xs H Q => r xs H Q ∨ r' xs H Q) (orL g g') := by
  intro G H vs xs z Q e rl hz k
  unfold orL at hz
  split at hz
  · rename_i z' ez
    cases hz
    exact .inl (h G H vs xs _ Q e rl ez k)
  · exact .inr (h' G H vs xs z Q e rl hz k)
def pSortedX : List PV → Option PV := orL pSorted pSortedD
theorem cr_sortedX (hc : X.calm = true) (hu : X.A.units + 64 < cLine) : CallR X (.builtin "sorted") (fun xs H Q => rSortedA X.K cl xs H Q ∨ rSortedK X.K xs H Q) := (cr_sortedA hu).or (cr_sortedK hc hu)
theorem cs_sortedX : CallSF X.K cl (fun xs H Q => rSortedA X.K cl xs H Q ∨ rSortedK X.K xs H Q) pSortedX := cs_sortedA.or cs_sortedK

/-! ### d.get(k, x) -/
def pGet (x k d : PV) : Option PV := match x with
  | .dct kvs => if (isKey k).isSome = true then some ((dGet kvs k).getD d) else none
  | _ => none
def isDct : PV → Bool
  | .dct _ => true
  | _ => false
def mGet2 (mo mk md : M PV) : M PV := bnd mo fun x => if isDct x = true then bnd mk fun k => bnd md fun d => lift (pGet x k d) else fun _ => none
theorem em_get2 {o e f : Expr} {apos : Pos} {mo mk md : M PV} (hu : X.A.units + 64 < cLine) (ho : EM X cl W o mo) (hk : EM X cl W e mk) (hd : EM X cl W f md) (m : M2 X o "get" apos e f pos := by exact ⟨rfl, rfl, rfl, rfl⟩) :
    EM X cl W (.Call (.Attribute o "get" apos) [e, f] [] pos) (mGet2 mo mk md) := by
  obtain ⟨to, po, do_⟩ := ho
  obtain ⟨tk, pk', dk⟩ := hk
  obtain ⟨td, pd, dd⟩ := hd
  refine ⟨_, pe_dget2 (by omega) po pk' pd m, fun F G H σ S rr Q st hm hp => ?_⟩
  refine do_.step (R2 := RV X.K cl) st hm hp fun x S1 v G1 H1 hm1 s1 st1 rv hp1 => ?_
  cases x <;> try (cases hm1; done)
  rename_i kvs
  rw [show isDct (.dct kvs) = true from rfl, if_pos rfl] at hm1
  obtain ⟨a, gs, ea, eg, rk⟩ : ∃ a gs, v = .ref a ∧ G1 a = some (.dK gs) ∧ RepK X.K cl G1 gs kvs := by
    cases rv with
    | dct h1 h2 => exact ⟨_, _, rfl, h1, h2⟩
  subst ea
  refine ⟨a, rfl, .inl ⟨gs, .inl (st1.ex _ _ eg)⟩, ?_⟩
  refine dk.step (R2 := RV X.K cl) st1 hm1 hp1 fun k S2 u G2 H2 hm2 s2 st2 ru hp2 => ?_
  refine dd.step (R2 := RV X.K cl) st2 hm2 hp2 fun d S3 w G3 H3 hm3 s3 st3 rd hp3 => ?_
  obtain ⟨z, ez, rfl⟩ := lift_eq hm3
  unfold pGet at ez
  dsimp only at ez
  split at ez <;> try (cases ez; done)
  rename_i hk
  cases ez
  obtain ⟨kk, ek⟩ := Option.isSome_iff_exists.mp hk
  obtain rfl := isKey_some ek
  obtain rfl := rep_key ru
  have s13 : Same G1 G3 := s2.trans s3
  have rk' := rk.mono s13
  refine ⟨valV gs kk, DGet.k (st3.ex _ _ (s13 _ _ eg)), hp3 _ _ _ (Same.refl _) st3 ?_⟩
  cases q : dGet kvs (keyPV kk) with
  | none =>
    rw [rk'.get.2 q]
    exact rd
  | some z =>
    obtain ⟨v', ev, rv'⟩ := rk'.get.1 _ q
    rw [ev]
    exact rv'
/-! ### d.setdefault(k, x), d an own dict -/
def mSetd (i : Nat) (mk md : M PV) : M PV := fun S => if isOT "dict" i S = true then bnd mk (fun k => bnd md fun d => updR i fun x => match x with
  | .dct kvs => if (isKey k).isSome = true ∧ kvs.length < sizeLine then (match dGet kvs k with
      | some z => some (.dct kvs, z)
      | none => some (.dct (dPut kvs k d), d)) else none
  | _ => none) S else none
theorem em_setd {o e f : Expr} {apos : Pos} {i : Nat} {mk md : M PV} (ho : PE X o (tVar i)) (hk : EM X cl W e mk) (hd : EM X cl W f md) (m : M2 X o "setdefault" apos e f pos := by exact ⟨rfl, rfl, rfl, rfl⟩) :
    EM X cl W (.Call (.Attribute o "setdefault" apos) [e, f] [] pos) (mSetd i mk md) := by
  obtain ⟨tk, pk', dk⟩ := hk
  obtain ⟨td, pd, dd⟩ := hd
  refine ⟨_, pe_dsetd ho pk' pd m, fun F G H σ S rr Q st hm hp => ?_⟩
  unfold mSetd at hm
  split at hm <;> try (cases hm; done)
  rename_i hT
  obtain ⟨a, ea, ty⟩ := isOT_ty st hT
  have hD : IsD H a := by
    rcases ty with ⟨h, _⟩ | ⟨h, _⟩ | ⟨h, ⟨kvs, q⟩ | ⟨kvs, q⟩⟩ | ⟨h, _⟩
    · exact absurd h (by decide)
    · exact absurd h (by decide)
    · exact .inl ⟨kvs, .inl q⟩
    · exact .inr ⟨kvs, .inl q⟩
    · exact absurd h (by decide)
  refine ⟨_, ea, a, rfl, hD, ?_⟩
  refine dk.step (R2 := RV X.K cl) st hm hp fun k S2 u G2 H2 hm2 s2 st2 ru hp2 => ?_
  refine dd.step (R2 := RV X.K cl) st2 hm2 hp2 fun d S3 w G3 H3 hm3 s3 st3 rd hp3 => ?_
  obtain ⟨a', x, x', z, S', e5, ea', ga, q, ef, fin⟩ := updR_use st3 hm3
  rw [ea] at ea'
  cases ea'
  cases x <;> try (cases ef; done)
  rename_i kvs
  dsimp only at ef
  split at ef <;> try (cases ef; done)
  rename_i c
  obtain ⟨hkk, hlen⟩ := c
  obtain ⟨kk, ek⟩ := Option.isSome_iff_exists.mp hkk
  obtain rfl := isKey_some ek
  obtain rfl := rep_key (ru.mono s3)
  obtain ⟨gs, eh, rk⟩ := q
  refine ⟨gs, kk, eh, rfl, by rw [rk.length]; exact hlen, fun v hv => ?_, fun hv => ?_⟩
  · split at ef
    · rename_i z' ez
      cases ef
      subst e5
      obtain ⟨v', ev, rv'⟩ := rk.get.1 _ ez
      rw [hv] at ev
      cases ev
      have st4 := fin (.dK gs) ⟨gs, upd_same, rk⟩
      have eH : upd H3 a (.dK gs) = H3 := by
        funext b
        by_cases e1 : b = a
        · rw [e1, upd_same, eh]
        · rw [upd_ne e1]
      rw [eH] at st4
      exact hp3 _ G3 H3 (Same.refl _) st4 rv'
    · rename_i ez
      rw [rk.get.2 ez] at hv
      cases hv
  · split at ef
    · rename_i z' ez
      obtain ⟨v', ev, rv'⟩ := rk.get.1 _ ez
      rw [hv] at ev
      cases ev
    · rename_i ez
      cases ef
      subst e5
      exact hp3 _ G3 _ (Same.refl _) (fin _ ⟨_, upd_same, rk.put rd⟩) rd
/-! ### s.join(xs) -/
def strsP : List PV → Option (List Str)
  | [] => some []
  | .str x :: xs => (strsP xs).map (x :: ·)
  | _ => none
theorem strs_rep {K : PySem.W.Frag} {H : Hp} : ∀ {xs : List PV} {ns : List Str} {vs : List V}, strsP xs = some ns → RepL K cl H vs xs → vs = ns.map V.str
  | [], ns, vs, h, r => by cases h; cases r; rfl
  | x :: xs, ns, vs, h, r => by
    cases x <;> try (cases h; done)
    unfold strsP at h
    cases e : strsP xs with
    | none => rw [e] at h; cases h
    | some ms =>
      rw [e] at h
      cases h
      cases r with
      | cons rv rs =>
        cases rv
        rw [strs_rep e rs]
        rfl
def itemsP : PV → Option (List PV)
  | .lst xs => some xs
  | .tup xs => some xs
  | _ => none
def pJoin (x y : PV) : Option PV := match x with
  | .str a => match (itemsP y).bind strsP with
    | some ys => if (ys.map (·.length)).sum + ys.length * a.length ≤ 16777216 ∧ (Txt.join a ys).length ≤ sizeLine then some (.str (Txt.join a ys)) else none
    | none => none
  | _ => none
/-- a method of a text with one argument -/
def isStr : PV → Bool
  | .str _ => true
  | _ => false
def mBinS (g : PV → PV → Option PV) (mo me : M PV) : M PV := bnd mo fun x => if isStr x = true then bnd me fun y => lift (g x y) else fun _ => none
theorem em_m1 {id : String} {name : Str} {o e : Expr} {apos : Pos} {r : V → List V → Hp → VK → Prop} {g : PV → PV → Option PV} {mo me : M PV} (slot : Slot "str" name id) (ty : typeOf (.builtin id) = pure (.type "method_descriptor")) (rule : MtR X id r) (hr : BinS X.K cl (fun x y H Q => r x [y] H Q) g) (ho : EM X cl W o mo) (he : EM X cl W e me)
    (hs : starEach [e] X.env = [(false, eval e X.env)] := by rfl) (hbase : attributeBase o name X.env (eval o X.env) = eval o X.env := by rfl) (hline : (apos.endLine == pos.line) = true := by rfl) :
    EM X cl W (.Call (.Attribute o name apos) [e] [] pos) (mBinS g mo me) := by
  obtain ⟨to, po, do_⟩ := ho
  obtain ⟨te, pe, de⟩ := he
  refine ⟨_, pe_m1 slot ty rule po pe hs hbase hline, fun F G H σ S rr Q st hm hp => ?_⟩
  refine do_.step (R2 := RV X.K cl) st hm hp fun x S1 v G1 H1 hm1 s1 st1 rv hp1 => ?_
  cases x <;> try (cases hm1; done)
  rename_i z
  rw [show isStr (.str z) = true from rfl, if_pos rfl] at hm1
  have ev : v = .str z := by cases rv; rfl
  refine ⟨⟨z, ev⟩, ?_⟩
  refine de.step (R2 := RV X.K cl) st1 hm1 hp1 fun y S2 u G2 H2 hm2 s2 st2 ru hp2 => ?_
  obtain ⟨w, ew, rfl⟩ := lift_eq hm2
  exact hr G2 H2 v u _ y w Q st2.ex (rv.mono s2) ru ew fun w' H' q => hp2.res1 st2 q
/-- .. without one -/
def mUnS (g : PV → Option PV) (mo : M PV) : M PV := bnd mo fun x => if isStr x = true then lift (g x) else fun _ => none
theorem bs_join : BinS X.K cl (fun x y H Q => ∃ a p, ∃ ys : List Str, x = .str a ∧ [y] = [V.ref p] ∧ (SqL X.K H p (ys.map V.str) ∨ SqT X.K H p (ys.map V.str)) ∧
    (ys.map (·.length)).sum + ys.length * a.length ≤ 16777216 ∧ Q (.str (Txt.join a ys)) H) pJoin := by
  intro G H v u x y z Q e rv ru hz k
  unfold pJoin at hz
  cases x <;> try (cases hz; done)
  dsimp only at hz
  split at hz <;> try (cases hz; done)
  rename_i ys eys
  split at hz <;> try (cases hz; done)
  rename_i c
  cases hz
  cases rv with
  | str a hla =>
    cases y <;> try (cases eys; done)
    · rename_i xs
      have e1 : strsP xs = some ys := eys
      cases ru with
      | tup hs hl hr => exact ⟨_, _, ys, rfl, rfl, .inr (by rw [← strs_rep e1 hr]; exact sqt_mono e hs), c.1, k _ _ (.inl ⟨rfl, .str _ c.2⟩)⟩
    · rename_i xs
      have e1 : strsP xs = some ys := eys
      cases ru with
      | lst hs hl hr => exact ⟨_, _, ys, rfl, rfl, .inl (by rw [← strs_rep e1 hr]; exact SqL.of (e _ _ hs)), c.1, k _ _ (.inl ⟨rfl, .str _ c.2⟩)⟩
theorem em_join {o e : Expr} {apos : Pos} {mo me : M PV} (ho : EM X cl W o mo) (he : EM X cl W e me) (hs : starEach [e] X.env = [(false, eval e X.env)] := by rfl) (hbase : attributeBase o "join" X.env (eval o X.env) = eval o X.env := by rfl) (hline : (apos.endLine == pos.line) = true := by rfl) :
    EM X cl W (.Call (.Attribute o "join" apos) [e] [] pos) (mBinS pJoin mo me) := em_m1 PySem.F.slot_str_join PySem.F.type_str_join mt_join bs_join ho he hs hbase hline
end
end Kp
set_option Elab.async false
set_option linter.all false
set_option maxRecDepth 100000
set_option maxHeartbeats 2000000
namespace Kp
open PySem PyProof.Rows L2 ClX

/-! ### defs with defaults -/
section
variable {P : Program} {w : World} {K : PySem.W.Frag} {mg : Str → Option Value} {base : Heap} {cl : Nat → Addr}
theorem fnPD {x qual : Str} {st : Stmt} {dvs : List V} {f : Addr} {fd : FuncData} {N ps : List Str} {k : Nat} {m : M Fl} (F : FunD K x qual (defArgs st) (defBody st) (defScope st) dvs [] f fd) (S : FnScope N ps (defScope st))
    (hb : ∀ (cdv : Value) (A : Around) (outer : List Env) (s : Shared) (H : Hp) (E : XK), Room k (A.deeper (envOfC qual (defScope st) s.heap.objs.size f cdv)) →
      SMs (cxOf (L2N.CX P w) P w K mg base N qual (defScope st) f cdv A outer s H E) cl (fun c d _ H' => E c d H') (defBody st) m) :
    FnOk P w K mg base (L2N.CX P w) (k + 1) f fd ps (spP K cl ps.length (runP N.length m)) := by
  have hps : ps.length ≤ N.length := by
    have := congrArg List.length S.pre
    rw [List.length_take] at this
    omega
  refine F.ok S (fun vs H Q E h => h.1) fun cdv A outer s H vs Q E hr hsp => ?_
  obtain ⟨t, pt, dt⟩ := hb cdv A outer s H E hr
  obtain ⟨hl, G, xs, r, e, rl, hf, hq⟩ := hsp
  refine ⟨t, pt, ?_⟩
  have st0 := stOk_startP (N := N) e rl (by rw [hl]; exact hps)
  unfold runP endP at hf
  have gr : ∀ {G' H' : Hp} {σ' : L2.St} {S' : Sto}, Same G G' → StOk K cl ⟨G, H, fun _ => none, fun _ => none⟩ G' H' σ' S' → Grown G H G' H' := fun {G' H' σ' S'} s k => ⟨s, k.ex, fun a o h => k.frame a o h (fun i z => by cases z), k.gnew⟩
  split at hf
  · rename_i S' em
    cases hf
    exact dt _ G H _ _ _ _ st0 em fun σ' G' H' s' k' => hq .non G' H' (gr s' k') .non
  · rename_i y S' em
    cases hf
    exact dt _ G H _ _ _ _ st0 em fun v σ' G' H' s' k' r' => hq v G' H' (gr s' k') r'
  · rename_i c fs S' em
    cases hf
    exact dt _ G H _ _ _ _ st0 em fun d gs σ' G' H' s' k' a b => hq d gs G' H' (gr s' k') ⟨a.1, a.2.1⟩ b
  · cases hf
theorem fnID {x qual : Str} {st : Stmt} {dvs : List V} {f : Addr} {fd : FuncData} {N ps : List Str} {k : Nat} {m : M Fl} (F : FunD K x qual (defArgs st) (defBody st) (defScope st) dvs [] f fd) (S : FnScope N ps (defScope st))
    (hb : ∀ (cdv : Value) (A : Around) (outer : List Env) (s : Shared) (H : Hp) (E : XK), Room k (A.deeper (envOfC qual (defScope st) s.heap.objs.size f cdv)) →
      SMs (cxOf (L2N.CX P w) P w K mg base N qual (defScope st) f cdv A outer s H E) cl (fun c d _ H' => E c d H') (defBody st) m) :
    FnOk P w K mg base (L2N.CX P w) (k + 1) f fd ps (spI K cl ps.length (runI N.length m)) := by
  have hps : ps.length ≤ N.length := by
    have := congrArg List.length S.pre
    rw [List.length_take] at this
    omega
  refine F.ok S (fun vs H Q E h => h.1) fun cdv A outer s H vs Q E hr hsp => ?_
  obtain ⟨t, pt, dt⟩ := hb cdv A outer s H E hr
  obtain ⟨hl, a, ws, G, x, x', xs, r, rfl, e, ga, ho, rl, hf, hq⟩ := hsp
  refine ⟨t, pt, ?_⟩
  have st0 := stOk_startI (N := N) e ga ho rl (by rw [List.length_cons] at hl; omega)
  unfold runI endI at hf
  have gr : ∀ {G' H' : Hp} {σ' : L2.St} {S' : Sto} {y : PV}, Same G G' → StOk K cl ⟨G, H, fun i => if i = 0 then some a else none, fun _ => none⟩ G' H' σ' (some (.i y) :: S') → GrownI a G H G' H' ∧ OwnAt K cl G' H' a y := fun {G' H' σ' S' y} s k => by
    refine ⟨⟨s, k.ex, fun b o n h => k.frame b o h (fun i z => ?_), k.gnew⟩, ?_⟩
    · dsimp only at z
      split at z
      · cases z; exact n rfl
      · cases z
    · obtain ⟨b, _, _, e1, q⟩ := k.inn 0 y rfl
      have e1' : some a = some b := e1
      cases e1'
      exact q
  split at hf
  · rename_i x1 S' em
    cases hf
    exact dt _ G H _ _ _ _ st0 em fun σ' G' H' s' k' => hq .non G' H' (gr s' k').1 (gr s' k').2 .non
  · rename_i y x1 S' em
    cases hf
    exact dt _ G H _ _ _ _ st0 em fun v σ' G' H' s' k' r' => hq v G' H' (gr s' k').1 (gr s' k').2 r'
  · rename_i c fs x1 S' em
    cases hf
    exact dt _ G H _ _ _ _ st0 em fun d gs σ' G' H' s' k' a b => hq d gs G' H' (gr s' k').1 (gr s' k').2 ⟨a.1, a.2.1⟩ b
  · cases hf
end

section
variable {X : Cx} {cl : Nat → Addr} {W : WX} {pos : Pos}
/-! ### C(), all by default -/
def tMake0 (C : Addr) (sp : Sp) (E : L2.St → XK) (dvs : List V) : TE := fun σ H Q => ∀ x dx, H x = none → H dx = none → dx ≠ x →
  sp (.ref x :: dvs) (upd (upd H dx (.own x)) x (.ins C dx [])) (fun v H2 => v = .non ∧ Q (.ref x) H2) (E σ)
theorem run_makeD {k : Nat} {f C : Addr} {fd : FuncData} {ps : List Str} {sp : Sp} {E : L2.St → XK} {CX : CXT} {pins : List (Addr × Obj)} {σ : L2.St} {H : Hp} {s : Shared} {Q : VK} {us ds : List Value} {vs dvs : List V} (M : Mk X.K C f) (F : FnOk X.prog X.w X.K X.mg X.base CX k f fd ps sp) (hr : Room (k + 1) X.A) (hb : Binds X.K fd ps ds) (hd : Vals dvs ds)
    (hx : PassesAt CX X σ (E σ)) (I : Inv X pins σ H s) (r : Vals vs us)
    (h : ∀ x dx, H x = none → H dx = none → dx ≠ x → sp (.ref x :: (vs ++ dvs)) (upd (upd H dx (.own x)) x (.ins C dx [])) (fun v H2 => v = .non ∧ Q (.ref x) H2) (E σ)) :
    wpAny (model X.prog X.w) X.A (call (.ref C) us) (EP X pins σ Q) X.xe s := by
  let a : Addr := s.heap.objs.size + 1
  have hq := h a s.heap.objs.size (I.hok.fresh (Nat.le_succ _)) (I.hok.fresh (Nat.le_refl _)) (Nat.ne_of_lt (Nat.lt_succ_self _))
  have I2 := Inv.made (C := C) I
  have r2 : Vals (V.ref a :: (vs ++ dvs)) ((Value.ref a :: us) ++ ds) := .cons rfl (r.append hd)
  have hl : ((Value.ref a :: us) ++ ds).length = ps.length := by
    have e := r2.length
    rw [F.len _ _ _ _ hq] at e
    exact e.symm
  have hb2 := hb _ (Value.ref a :: us) I2.kIn hl
  refine wpAny_call (make_map (f := f) I.kIn M.makes M.init (beq_iff_eq.mp M.fn) (codeAny_mono (F.run _ X.stack _ _ ⟨Value.ref a :: us, []⟩ ((Value.ref a :: us) ++ ds) _ _ (E σ) (hr.make C us [])
    (I2.env0.make C us []) hb2 r2 hq) fun r s' hq' => ?_))
  cases r with
  | error e => exact hx pins _ _ e s' I2 hq'
  | ok fl =>
    cases fl with
    | ret u =>
      obtain ⟨v, H', I3, rv, ev, q3⟩ := I2.after hq'
      subst ev
      exact ⟨rv, ⟨V.ref a, H', I3, rfl, q3⟩⟩
    | next => exact False.elim hq'
    | brk => exact False.elim hq'
    | cont => exact False.elim hq'
theorem pe_make0 {x : Str} {k : Nat} {f C : Addr} {fd : FuncData} {ps : List Str} {sp : Sp} {E : L2.St → XK} {CX : CXT} {ds : List Value} {dvs : List V} {p : Pos} (M : Mk X.K C f) (F : FnOk X.prog X.w X.K X.mg X.base CX k f fd ps sp) (hr : Room (k + 1) X.A) (hg : Gl X x) (hm : X.mg x = some (.ref C)) (hb : Binds X.K fd ps ds) (hd : Vals dvs ds) (hx : ∀ σ, PassesAt CX X σ (E σ))
    (hdb : (x == ("__debug__" : Str)) = false := by decide) : PE X (.Call (.Name x p) [] [] pos) (tMake0 C sp E dvs) := by
  refine ⟨fun pins s σ H Q I h => ?_⟩
  refine wpAny_Call_Name_kw (ld_glob I hg hm ?_ hdb)
  exact PySem.W.callWith_K0 (first := []) I.kIn M.kp (run_makeD (vs := []) (us := []) M F hr hb hd (hx σ) I .nil h)
theorem mArgs_const {S : Sto} : ∀ {dps : List PV}, mArgs (dps.map mK) S = some (.ok dps S)
  | [] => rfl
  | y :: ys => by
    show bnd (mK y) (fun x => bnd (mArgs (ys.map mK)) fun xs => ret (x :: xs)) S = _
    unfold bnd mK ret
    simp only []
    have ih := mArgs_const (S := S) (dps := ys)
    unfold mK ret at ih
    rw [ih]
def mMake0 (c : Nat) (f : PV → List PV → Option (PV × RO)) (ds : List PV) : M PV := mkM (fun x => f x ds) c
theorem em_make0 {x : Str} {k c : Nat} {f : Addr} {fd : FuncData} {ps : List Str} {n : Nat} {g : PV → List PV → Option (PV × RO)} {p : Pos} {dvs : List V} {dps : List PV} (tk : L2N.Takes X W) (M : Mk X.K (cl c) f) (F : FnOk X.prog X.w X.K X.mg X.base (L2N.CX X.prog X.w) k f fd ps (spI X.K cl n g)) (hr : Room (k + 1) X.A) (hm : X.mg x = some (.ref (cl c)))
    (hb : ∃ ds, Vals dvs ds ∧ Binds X.K fd ps ds) (hd : ∀ G, RepL X.K cl G dvs dps) (hl : dps.length + 1 = n := by rfl) (hg : Gl X x := by rfl) (hdb : (x == ("__debug__" : Str)) = false := by decide) :
    EM X cl W (.Call (.Name x p) [] [] pos) (mMake0 c g dps) := by
  obtain ⟨ds, hv, hb⟩ := hb
  refine ⟨_, pe_make0 (E := WE W) M F hr hg hm hb hv (fun σ => L2N.passAt tk σ) hdb, ?_⟩
  have dz := does_make (X := X) (cl := cl) (W := W) (c := c) (n := n) (g := g) (t := fun σ H Q => Q dvs H) (ms := dps.map mK) (fun F G H σ S rr Q st hm hp => by
    rw [mArgs_const] at hm
    cases hm
    exact hp _ _ _ (Same.refl _) st (hd G)) (by rw [List.length_map]; exact hl)
  intro F G H σ S rr Q st hm hp
  refine dz F G H σ S rr Q st ?_ hp
  unfold mMake bnd
  rw [mArgs_const]
  exact hm
/-! ### cls(e, ..), cls a name that holds a class -/
theorem pe_makeV {i : Nat} {x : Str} {k : Nat} {f C : Addr} {fd : FuncData} {ps : List Str} {sp : Sp} {E : L2.St → XK} {CX : CXT} {p : Pos} {e : Expr} {es : List Expr} {t : TA} (M : Mk X.K C f) (F : FnOk X.prog X.w X.K X.mg X.base CX k f fd ps sp) (hr : Room (k + 1) X.A) (hv : PE X (.Name x p) (tVar i)) (hb : Binds X.K fd ps []) (hx : ∀ σ, PassesAt CX X σ (E σ))
    (ha : PA X (e :: es) t) (he : starEach (e :: es) X.env = (false, eval e X.env) :: starEach es X.env := by rfl) (hpl : (backTo pos (starEach es X.env)).any (·.1) = false := by rfl) :
    PE X (.Call (.Name x p) (e :: es) [] pos) (fun σ H Q => σ[i]? = some (some (.ref C)) ∧ tMakeS C sp E t σ H Q) := by
  refine ⟨fun pins s σ H Q I h => ?_⟩
  obtain ⟨hs, h⟩ := h
  refine wpAny_Call_Name_kw (thn (hv.run pins s σ H (fun v H1 => v = .ref C ∧ H1 = H) I ⟨.ref C, hs, rfl, rfl⟩) fun u s1 ⟨v, H1, I1, r1, ev, eH⟩ => ?_)
  subst ev
  subst eH
  obtain rfl : u = Value.ref C := r1
  refine PySem.W.callWith_K (h₀ := X.base) I1.ok.mod.kin M.kp (thn (ha.run pos pins s1 σ H1 _ I1 h) fun us s2 ⟨vs, H2, I2, r, q⟩ => ⟨I2.kIn, ?_⟩) he hpl
  exact run_makeS M F hr hb (hx σ) I2 r q
def mMakeV (i c : Nat) (f : PV → List PV → Option (PV × RO)) (ms : List (M PV)) : M PV := fun S => match S[i]? with
  | some (some (.p (.glb d))) => if d = c then mMake c f ms S else none
  | _ => none
theorem em_makeV {i : Nat} {x : Str} {k c : Nat} {f : Addr} {fd : FuncData} {ps : List Str} {n : Nat} {g : PV → List PV → Option (PV × RO)} {p : Pos} {e : Expr} {es : List Expr} {ms : List (M PV)} (tk : L2N.Takes X W) (M : Mk X.K (cl c) f) (F : FnOk X.prog X.w X.K X.mg X.base (L2N.CX X.prog X.w) k f fd ps (spI X.K cl n g)) (hr : Room (k + 1) X.A)
    (hb : Binds X.K fd ps []) (hv : PE X (.Name x p) (tVar i)) (ha : AM X cl W (e :: es) (mArgs ms)) (hl : ms.length + 1 = n := by rfl) (he : starEach (e :: es) X.env = (false, eval e X.env) :: starEach es X.env := by rfl) (hpl : (backTo pos (starEach es X.env)).any (·.1) = false := by rfl) :
    EM X cl W (.Call (.Name x p) (e :: es) [] pos) (mMakeV i c g ms) := by
  obtain ⟨t, pa, da⟩ := ha
  refine ⟨_, pe_makeV (E := WE W) M F hr hv hb (fun σ => L2N.passAt tk σ) pa he hpl, fun F G H σ S rr Q st hm hp => ?_⟩
  unfold mMakeV at hm
  split at hm <;> try (cases hm; done)
  rename_i d e1
  split at hm <;> try (cases hm; done)
  rename_i q
  subst q
  obtain ⟨v, ev, rv⟩ := st.val i _ e1
  cases rv
  exact ⟨ev, does_make da hl F G H σ S rr Q st hm hp⟩
/-! ### C.m(e, ..), m a classmethod that raises nothing -/
theorem passes_EN : Passes (L2N.CX X.prog X.w) X EN := fun pins σ H s e s' I hq => by
  obtain ⟨_, _, _, _, _, _, _, _, _, _, _, _, no⟩ := hq
  exact no.elim
def mCMeth (c : Nat) (f : List PV → Option RO) (ms : List (M PV)) : M PV := bnd (mArgs ms) fun xs => roQ (f (.glb c :: xs))
theorem em_cmeth {k c n : Nat} {g p0 : Addr} {fd : FuncData} {ps : List Str} {h : List PV → Option RO} {x m : Str} {p apos : Pos} {e : Expr} {es : List Expr} {ms : List (M PV)} {mc : Value} {pl : Sem Bool} (hm : X.mg x = some (.ref (cl c))) (r : CRead X.K (cl c) mc) (cm : CMet X.K (cl c) mc m p0 g) (F : FnOk X.prog X.w X.K X.mg X.base (L2N.CX X.prog X.w) k g fd ps (spP X.K cl n h)) (hr : Room k X.A) (hb : Binds X.K fd ps [])
    (ha : AM X cl W (e :: es) (mArgs ms)) (hl : ms.length + 1 = n := by rfl) (hg : Gl X x := by rfl) (hdb : (x == ("__debug__" : Str)) = false := by decide)
    (hst : starEach (e :: es) X.env = (false, eval e X.env) :: starEach es X.env := by rfl) (hpl : (backTo pos (starEach es X.env)).any (·.1) = false := by rfl)
    (ht : eval (.Call (.Attribute (.Name x p) m apos) (e :: es) [] pos) X.env = (do
      let ov ← eval (.Name x p) X.env
      standAt apos.atName
      let (f, first) ← holding [ov] (getMethod ov m pl)
      callWith pos f first (backTo pos (starEach (e :: es) X.env)) (backToKw pos (keywordEach [] X.env))) := by rfl) :
    EM X cl W (.Call (.Attribute (.Name x p) m apos) (e :: es) [] pos) (mCMeth c h ms) := by
  obtain ⟨t, pa, da⟩ := ha
  refine ⟨_, pe_cmeth (pe_glob hg hm (v := .ref (cl c)) rfl hdb) r cm (F.raw hb (ds := []) (dvs := []) .nil) hr passes_EN pa hst hpl ht, fun F G H σ S rr Q st hm1 hp => ?_⟩
  refine ⟨rfl, ?_⟩
  refine da.step' (R2 := RV X.K cl) st hm1 hp fun ys S2 vs G2 H2 e2 hm2 s2 st2 rvs hp2 => ?_
  show spP X.K cl n h ((V.ref (cl c) :: vs) ++ []) H2 Q EN
  rw [List.append_nil]
  obtain ⟨y, ey, rfl⟩ := roQ_some hm2
  exact spP_quiet' st2.ex (.cons (.glb c) rvs) (by rw [List.length_cons, rvs.length, mArgs_len e2]; exact hl) ey fun w G' H' gr r' => hp2 w G' H' gr.g (st2.grown gr) r'
end
end Kp
set_option Elab.async false
set_option linter.all false
set_option maxRecDepth 100000
set_option maxHeartbeats 2000000
namespace Kp
open PySem PyProof.Rows L2

/-! ### an own class, as the head tells it -/
def tyNames : List String := ["NoneType", "bool", "int", "str", "tuple", "list", "dict"]
theorem tyN_mem {x : PV} {t : String} (h : tyN x = some t) : t ∈ tyNames := by
  cases x <;> first | (cases h; decide) | cases h
structure OwnC (K : PySem.W.Frag) (C : Addr) : Prop where
  ins : InsF K C
  ic : (PySem.W.clsIn K C).isSome = true
  ty : PySem.W.typeIn K (.ref C) = some (.type "type")
  sub : ∀ t, t ∈ tyNames → PySem.W.subIn K (.type t) (.ref C) = some false
def ocOf (k : Nat) : Nat → Option Bool := fun c => if c = k then some true else none
theorem kit_self {K : PySem.W.Frag} {v : Value} : PySem.W.kitOne K v v = some true := by
  unfold PySem.W.kitOne
  rw [if_pos (by simp)]
theorem isa_own {K : PySem.W.Frag} {cl : Nat → Addr} {k : Nat} (h : OwnC K (cl k)) : IsaOk K cl (.ref (cl k)) (ansO (ocOf k)) := by
  refine isa_O (fun c b e => ?_) fun x t e => ?_
  · unfold ocOf at e
    split at e
    · rename_i q
      cases e
      rw [q]
      exact ⟨h.ins, kit_self⟩
    · cases e
  · unfold PySem.W.kitOne
    rw [if_neg (by intro z; have := beq_iff_eq.mp z; cases this)]
    have e2 : ((PySem.W.clsIn K (cl k)).isSome && PySem.W.typeIn K (.ref (cl k)) == some (.type "type")) = true := by rw [h.ic, h.ty]; rfl
    show (if ((PySem.W.clsIn K (cl k)).isSome && PySem.W.typeIn K (.ref (cl k)) == some (.type "type")) = true then PySem.W.subIn K (.type t) (.ref (cl k)) else none) = some false
    rw [if_pos e2]
    exact h.sub t (tyN_mem e)
def okEq (k : Nat) : PV → Bool
  | .obj c _ => decide (c = k)
  | x => (tyN x).isSome
theorem eq_own {K : PySem.W.Frag} {cl : Nat → Addr} {k : Nat} (h : OwnC K (cl k)) : ∀ y, okEq k y = true → ∃ t, tyVl cl y = some t ∧ (∀ (G H : Hp) (v : V), Same G H → Rep K cl G v y → TyX K H v t) ∧ PySem.W.notFirst K (cl k) t = true := by
  intro y hy
  by_cases q : ∃ c fs, y = .obj c fs
  · obtain ⟨c, fs, rfl⟩ := q
    have e : c = k := of_decide_eq_true hy
    subst e
    exact ⟨_, rfl, fun G H v e r => tyx_obj e r h.ins, by unfold PySem.W.notFirst; simp⟩
  · have hy' : (tyN y).isSome = true := by
      unfold okEq at hy
      split at hy
      · rename_i c fs
        exact absurd ⟨c, fs, rfl⟩ q
      · exact hy
    obtain ⟨t, et⟩ := Option.isSome_iff_exists.mp hy'
    exact ⟨_, tyVl_data et, fun G H v e r => tyx_rep e r et, by unfold PySem.W.notFirst; rw [h.sub t (tyN_mem et)]; simp⟩
end Kp
set_option Elab.async false
set_option linter.all false
set_option maxRecDepth 100000
set_option maxHeartbeats 2000000
namespace Kp
open PySem PySem.Spec PyProof.Rows L2

/-! ### defs that are called where no repr is under way -/
structure FnG (P : Program) (w : World) (K : PySem.W.Frag) (mg : Str → Option Value) (base : Heap) (CX : CXT) (k : Nat) (f : Addr) (fd : FuncData) (ps : List Str) (sp : Sp) : Prop where
  len : ∀ vs H Q E, sp vs H Q E → vs.length = ps.length
  go : ∀ (A : Around) (outer : List Env) (s : Shared) (H : Hp) (args : Args) (us : List Value) (vs : List V) (Q : VK) (E : XK),
    A.guards = some [] → Room k A → Env0 P w K mg base A outer s H → BindsTo s fd args (ps.zip us) → Vals vs us → sp vs H Q E → codeAny (model P w) A (.call (.ref f) args) (CR CX outer P w H s Q E) s
theorem FnOk.g {P : Program} {w : World} {K : PySem.W.Frag} {mg : Str → Option Value} {base : Heap} {CX : CXT} {k : Nat} {f : Addr} {fd : FuncData} {ps : List Str} {sp : Sp} (F : FnOk P w K mg base CX k f fd ps sp) : FnG P w K mg base CX k f fd ps sp :=
  ⟨F.len, fun A outer s H args us vs Q E _ => F.run A outer s H args us vs Q E⟩
theorem FnG.mono {P : Program} {w : World} {K : PySem.W.Frag} {mg : Str → Option Value} {base : Heap} {CX : CXT} {j k : Nat} {f : Addr} {fd : FuncData} {ps : List Str} {sp : Sp} (F : FnG P w K mg base CX j f fd ps sp) (h : j ≤ k) : FnG P w K mg base CX k f fd ps sp :=
  ⟨F.len, fun A outer s H args us vs Q E hg hr => F.go A outer s H args us vs Q E hg (hr.mono h)⟩
/-- such a def's promise from its body -/
theorem fnG_of {CX : CXT} {P : Program} {w : World} {K : PySem.W.Frag} {mg : Str → Option Value} {base : Heap} {k : Nat} {f : Addr} {name qual : Str} {params : Arguments} {body : List Stmt} {scope : Scope} {dV kV doc pm cdv ct oc : Value} {an od : Option Addr} {osl : Array (Option Value)} {N ps : List Str} {sp : Sp}
    (lk : K.lookup f = some ⟨oc, od, .func (PySem.W.fnOf name qual params body scope dV kV doc pm an cdv ct), osl⟩) (hcd : PySem.W.codeIn K cdv qual = true) (S : FnScope N ps scope) (len : ∀ vs H Q E, sp vs H Q E → vs.length = ps.length)
    (hbody : ∀ (A : Around) (outer : List Env) (s : Shared) (H : Hp) (vs : List V) (Q : VK) (E : XK), A.guards = some [] → Room k (A.deeper (envOfC qual scope s.heap.objs.size f cdv)) → sp vs H Q E →
      ∃ t, PSs (cxOf CX P w K mg base N qual scope f cdv A outer s H E) body t ∧ t { nx := fun _ H' => Q .non H', rt := Q } (L2.start N vs) H) :
    FnG P w K mg base CX (k + 1) f (PySem.W.fnOf name qual params body scope dV kV doc pm an cdv ct) ps sp := by
  refine ⟨len, fun A outer s H args us vs Q E hgd hr e0 hb r hsp => ?_⟩
  have hl := len _ _ _ _ hsp
  have KX : K.In s.heap := e0.mod.kin.keeps fun b o e => (e0.bs b o e).1
  have lim : s.heap.NoLimit := e0.mod.nolimit.keeps fun b o e => (e0.bs b o e).1
  have kinds : ∀ z ∈ ps.zip us, scope.names.lookup z.1 = some .local ∨ (scope.names.lookup z.1 = some .cell ∧ ((cellsFrom (s.heap.objs.size + 1) scope.names []).lookup z.1).isSome = true) := fun ⟨n, v⟩ hz =>
    (S.par n (List.of_mem_zip hz).1).elim .inl fun q => .inr ⟨q, PySem.W.cellsFrom_some _ _ _ (.inl q)⟩
  refine codeAny_call_function hr.depth (KX _ _ lk) rfl S.co S.gen rfl (PySem.W.codeRec_of KX hcd) (hb _ _ _ _ (wpAny_newFunctionEnv_cells S.kind kinds fun env he s1 x => ?_))
  subst he
  obtain ⟨t, ht, hq⟩ := hbody A outer s H vs Q E hgd (hr.deeper _) hsp
  have I : Inv (cxOf CX P w K mg base N qual scope f cdv A outer s H E) [] (L2.start N vs) H s1 := inv_start S hr.hd e0 hl r x
  refine ⟨lim.keeps x.toInCall.keep, codeAny_func (wpAny_mono (ht.run [] s1 (L2.start N vs) H _ I hq) (fun fl s' hs => ?_) fun e s' hs => hs)⟩
  cases fl with
  | ret u => exact let ⟨v, σ', H', J, rv, q⟩ := hs; ⟨v, H', J.os, J.bare, J.base, J.hok, rv, q⟩
  | next => exact let ⟨σ', H', J, q⟩ := hs; ⟨V.non, H', J.os, J.bare, J.base, J.hok, rfl, q⟩
  | brk => exact let ⟨_, _, _, q⟩ := hs; False.elim q
  | cont => exact let ⟨_, _, _, q⟩ := hs; False.elim q
section
variable {P : Program} {w : World} {K : PySem.W.Frag} {mg : Str → Option Value} {base : Heap} {cl : Nat → Addr}
theorem fnPG {x qual : Str} {st : Stmt} {f : Addr} {fd : FuncData} {N ps : List Str} {k : Nat} {m : M Fl} (F : Fun K x qual st f fd) (S : FnScope N ps (defScope st))
    (hb : ∀ (cdv : Value) (A : Around) (outer : List Env) (s : Shared) (H : Hp) (E : XK), A.guards = some [] → Room k (A.deeper (envOfC qual (defScope st) s.heap.objs.size f cdv)) →
      SMs (cxOf (L2N.CX P w) P w K mg base N qual (defScope st) f cdv A outer s H E) cl (fun c d _ H' => E c d H') (defBody st) m) :
    FnG P w K mg base (L2N.CX P w) (k + 1) f fd ps (spP K cl ps.length (runP N.length m)) := by
  obtain ⟨oc, od, kV, doc, pm, an, cdv, ct, osl, rfl, lk, hcd⟩ := F.ex
  have hps : ps.length ≤ N.length := by
    have := congrArg List.length S.pre
    rw [List.length_take] at this
    omega
  refine fnG_of lk hcd S (fun vs H Q E h => h.1) fun A outer s H vs Q E hgd hr hsp => ?_
  obtain ⟨t, pt, dt⟩ := hb cdv A outer s H E hgd hr
  obtain ⟨hl, G, xs, r, e, rl, hf, hq⟩ := hsp
  refine ⟨t, pt, ?_⟩
  have st0 := stOk_startP (N := N) e rl (by rw [hl]; exact hps)
  unfold runP endP at hf
  have gr : ∀ {G' H' : Hp} {σ' : L2.St} {S' : Sto}, Same G G' → StOk K cl ⟨G, H, fun _ => none, fun _ => none⟩ G' H' σ' S' → Grown G H G' H' := fun {G' H' σ' S'} s k => ⟨s, k.ex, fun a o h => k.frame a o h (fun i z => by cases z), k.gnew⟩
  split at hf
  · rename_i S' em
    cases hf
    exact dt _ G H _ _ _ _ st0 em fun σ' G' H' s' k' => hq .non G' H' (gr s' k') .non
  · rename_i y S' em
    cases hf
    exact dt _ G H _ _ _ _ st0 em fun v σ' G' H' s' k' r' => hq v G' H' (gr s' k') r'
  · rename_i c fs S' em
    cases hf
    exact dt _ G H _ _ _ _ st0 em fun d gs σ' G' H' s' k' a b => hq d gs G' H' (gr s' k') ⟨a.1, a.2.1⟩ b
  · cases hf
end
section
variable {X : Cx} {cl : Nat → Addr} {W : WX} {pos : Pos}
theorem pe_callG {CX : CXT} {k : Nat} {f : Addr} {fd : FuncData} {ps : List Str} {sp : Sp} {E : L2.St → XK} {x : Str} {p : Pos} {e : Expr} {es : List Expr} {t : TA} (F : FnG X.prog X.w X.K X.mg X.base CX k f fd ps sp) (hgd : X.A.guards = some []) (hr : Room k X.A) (hg : Gl X x) (hm : X.mg x = some (.ref f)) (hk : PySem.W.keepIn X.K (.ref f) = true) (hb : Binds X.K fd ps []) (hx : ∀ σ, PassesAt CX X σ (E σ))
    (ha : PA X (e :: es) t) (hdb : (x == ("__debug__" : Str)) = false := by decide) (he : starEach (e :: es) X.env = (false, eval e X.env) :: starEach es X.env := by rfl) (hpl : (backTo pos (starEach es X.env)).any (·.1) = false := by rfl) :
    PE X (.Call (.Name x p) (e :: es) [] pos) (tCallS sp E t) := by
  refine ⟨fun pins s σ H Q I h => ?_⟩
  refine wpAny_Call_Name_kw (ld_glob I hg hm (PySem.W.callWith_K (h₀ := X.base) I.ok.mod.kin hk (thn (ha.run pos pins s σ H _ I h) fun us s1 ⟨vs, H1, I1, r, q⟩ => ⟨I1.kIn, ?_⟩) he hpl) hdb)
  have hl : us.length = ps.length := r.length.symm.trans (F.len _ _ _ _ q)
  have b := hb s1 us I1.kIn (by rw [List.append_nil]; exact hl)
  rw [List.append_nil] at b
  refine wpAny_call (codeAny_mono (F.go X.A X.stack s1 H1 ⟨us, []⟩ us vs Q (E σ) hgd hr I1.env0 b r q) fun r s' hq => ?_)
  cases r with
  | error e => exact hx σ pins H1 s1 e s' I1 hq
  | ok fl =>
    cases fl <;> first | exact I1.after hq | exact False.elim hq
theorem em_callG {x : Str} {k : Nat} {f : Addr} {fd : FuncData} {ps : List Str} {n : Nat} {g : List PV → Option RO} {p : Pos} {e : Expr} {es : List Expr} {ms : List (M PV)} (tk : L2N.Takes X W) (F : FnG X.prog X.w X.K X.mg X.base (L2N.CX X.prog X.w) k f fd ps (spP X.K cl n g)) (hgd : X.A.guards = some []) (hr : Room k X.A) (hm : X.mg x = some (.ref f)) (hk : PySem.W.keepIn X.K (.ref f) = true)
    (hb : Binds X.K fd ps []) (ha : AM X cl W (e :: es) (mArgs ms)) (hl : ms.length = n := by rfl) (hg : Gl X x := by rfl) (hdb : (x == ("__debug__" : Str)) = false := by decide) (he : starEach (e :: es) X.env = (false, eval e X.env) :: starEach es X.env := by rfl) (hpl : (backTo pos (starEach es X.env)).any (·.1) = false := by rfl) :
    EM X cl W (.Call (.Name x p) (e :: es) [] pos) (mCall g ms) := by
  obtain ⟨t, pa, d⟩ := ha
  refine ⟨_, pe_callG (E := WE W) F hgd hr hg hm hk hb (fun σ => L2N.passAt tk σ) pa hdb he hpl, fun F G H σ S rr Q st hm hp => ?_⟩
  refine d.step' (R2 := RV X.K cl) st hm hp fun y S1 v G1 H1 e1 hm1 s1 st1 rv hp1 => ?_
  exact spP_use st1 rv (by rw [rv.length, mArgs_len e1]; exact hl) hm1 hp1

/-! ### repr -/
def pRepr : List PV → Option PV
  | [x] => if PV.isD x = true ∧ (PV.dat x).showable = true ∧ (PV.dat x).shown.length ≤ sizeLine ∧ (PV.dat x).depth ≤ 60 then some (.str (PV.dat x).shown) else none
  | _ => none
def rReprP (K : PySem.W.Frag) : List V → Hp → VK → Prop := fun xs H Q => ∃ v d, xs = [v] ∧ Dp K H v d ∧ d.plain = true ∧ d.showable = true ∧ d.shown.length ≤ sizeLine ∧ d.depth ≤ 60 ∧ Q (.str d.shown) H
mutual
theorem plain_noDict : ∀ d : PyData, d.plain = true → d.hasDict = false
  | .none, _ => by unfold PyData.hasDict; rfl
  | .bool _, _ => by unfold PyData.hasDict; rfl
  | .int _, _ => by unfold PyData.hasDict; rfl
  | .str _, _ => by unfold PyData.hasDict; rfl
  | .list xs, h => by unfold PyData.hasDict; exact plainAll_noDict xs (by unfold PyData.plain at h; exact h)
  | .tuple xs, h => by unfold PyData.hasDict; exact plainAll_noDict xs (by unfold PyData.plain at h; exact h)
  | .dict kvs, h => by unfold PyData.plain at h; cases h
theorem plainAll_noDict : ∀ xs : List PyData, PyData.plainAll xs = true → PyData.hasDictAll xs = false
  | [], _ => by unfold PyData.hasDictAll; rfl
  | x :: xs, h => by
    unfold PyData.plainAll at h
    obtain ⟨h1, h2⟩ := Bool.and_eq_true_iff.mp h
    unfold PyData.hasDictAll
    rw [plain_noDict x h1, plainAll_noDict xs h2]
    rfl
end
theorem call_reprP (hgd : X.A.guards = some []) (hu : X.A.units + 64 < cLine) : CallR X (.builtin "repr") (rReprP X.K) := by
  intro pins s σ H xs us Q I r h
  obtain ⟨v, d, rfl, hd, hpl, hs, hz, hdp, q⟩ := h
  cases r with
  | cons rx rr =>
    cases rr
    obtain ⟨as, rd⟩ := Dp.reads I d v _ hd rx
    cases rd with
    | none => exact PySem.P.repr_of_none ⟨.str _, H, I.tok _, ⟨_, rfl⟩, by simpa only [PyData.shown] using q⟩
    | bool b => exact PySem.P.repr_of_bool ⟨.str _, H, I.tok _, ⟨_, rfl⟩, by simpa only [PyData.shown] using q⟩
    | int i t => exact PySem.P.repr_of_int (by simpa [PyData.showable] using hs) ⟨.str _, H, I.tok _, ⟨_, rfl⟩, by simpa only [PyData.shown] using q⟩
    | str x t => exact PySem.P.repr_of_str ⟨.str _, H, I.tok _, ⟨_, rfl⟩, by simpa only [PyData.shown] using q⟩ (by simpa only [PyData.shown] using hz)
    | list h1 h2 h3 h4 => exact repr_of_reads' (.list h1 h2 h3 h4) hs (PyData.noDict_hsm (plain_noDict _ hpl)) hgd (by omega) (fun _ _ e => e) (fun h' u tk hk => ⟨.str _, H, I.kept hk, ⟨_, rfl⟩, q⟩) hz
    | tuple h1 h2 h3 h4 => exact repr_of_reads' (.tuple h1 h2 h3 h4) hs (PyData.noDict_hsm (plain_noDict _ hpl)) hgd (by omega) (fun _ _ e => e) (fun h' u tk hk => ⟨.str _, H, I.kept hk, ⟨_, rfl⟩, q⟩) hz
    | dict h1 h2 h3 h4 h5 => exact repr_of_reads' (.dict h1 h2 h3 h4 h5) hs (PyData.noDict_hsm (plain_noDict _ hpl)) hgd (by omega) (fun _ _ e => e) (fun h' u tk hk => ⟨.str _, H, I.kept hk, ⟨_, rfl⟩, q⟩) hz
theorem cs_repr : CallS X.K cl (rReprP X.K) pRepr := by
  intro G H vs xs z Q e rl hz k
  unfold pRepr at hz
  split at hz <;> try (cases hz; done)
  rename_i x
  split at hz <;> try (cases hz; done)
  rename_i c
  obtain ⟨c1, c2, c3, c4⟩ := c
  cases hz
  cases rl with
  | cons r1 r2 =>
    cases r2
    exact ⟨_, _, rfl, (r1.mono e).dp c1, dat_plain x, c2, c3, c4, k _ _ (.inl ⟨rfl, .str _ c3⟩)⟩
end
end Kp
set_option Elab.async false
set_option linter.all false
set_option maxRecDepth 100000
set_option maxHeartbeats 2000000
namespace Kp
open PySem PySem.Spec PyProof.Rows L2

/-! ### a caught exception -/
section
variable {X : Cx} {cl : Nat → Addr} {W : WX} {pos : Pos} {a d : Addr} {c : Nat} {oe : Obj} {pn : List (Addr × Obj)}
/-- slot i holds the caught exception -/
def xoAt (i : Nat) (a d : Addr) (c : Nat) : M (List (Str × PV)) := fun S => match S[i]? with
  | some (some (.p (.xo a' d' c' fs))) => if a' = a ∧ d' = d ∧ c' = c then some (.ok fs S) else none
  | _ => none
theorem xoAt_some {i : Nat} {S S' : Sto} {fs : List (Str × PV)} (h : xoAt i a d c S = some (.ok fs S')) : S' = S ∧ S[i]? = some (some (.p (.xo a d c fs))) := by
  unfold xoAt at h
  split at h <;> try (cases h; done)
  rename_i a' d' c' fs' e
  split at h <;> try (cases h; done)
  rename_i q
  obtain ⟨rfl, rfl, rfl⟩ := q
  cases h
  exact ⟨rfl, e⟩
theorem xoAt_ex {i : Nat} {S S' : Sto} {c' : Nat} {gs : List (Str × PV)} : xoAt i a d c S ≠ some (.ex c' gs S') := by
  intro h
  unfold xoAt at h
  split at h <;> try (cases h; done)
  split at h <;> cases h
theorem xo_view {F : Fr} {G H : Hp} {σ : L2.St} {S : Sto} {i : Nat} {fs : List (Str × PV)} (st : StOk X.K cl F G H σ S) (h : S[i]? = some (some (.p (.xo a d c fs)))) : σ[i]? = some (some (V.ref a)) ∧ ∃ gs, H d = some (.xd gs) ∧ RepF X.K cl G gs fs := by
  obtain ⟨v, ev, rv⟩ := st.val i _ h
  cases rv with
  | xo h1 h2 => exact ⟨ev, _, st.ex _ _ h1, h2⟩
def mXf (i : Nat) (a d : Addr) (c : Nat) (f : Str) : M PV := bnd (xoAt i a d c) fun fs => lift (fs.lookup f)
theorem em_xf {e : Expr} {i : Nat} {f : Str} (T : L2.ExcC X.K (cl c)) (hno : PySem.W.findIn X.K (.ref (cl c)) f = some none) (hz : L2N.Zn (.ref (cl c)) (some d) oe) (hf : ∃ vs, oe.data = .fields vs) (he : PE (X.suite a ((a, oe) :: pn)) e (tVar i)) (hb : attributeBase e f X.env (eval e X.env) = eval e X.env := by rfl) :
    EM (X.suite a ((a, oe) :: pn)) cl W (.Attribute e f pos) (mXf i a d c f) := by
  refine ⟨_, pe_xf ⟨T.hg, T.hk, T.hs, T.hd⟩ hno hz.zc hf he hb, fun F G H σ S r Q st hm hp => ?_⟩
  unfold mXf at hm
  rcases bnd_some hm with ⟨fs, S1, e1, e2⟩ | ⟨c', gs, S1, e1, _⟩
  · obtain ⟨rfl, e3⟩ := xoAt_some e1
    obtain ⟨z, ez, rfl⟩ := lift_eq e2
    obtain ⟨ev, gs, h1, h2⟩ := xo_view st e3
    obtain ⟨w, ew, rw'⟩ := h2.lookup ez
    exact ⟨_, ev, rfl, rfl, d, gs, w, rfl, h1, ew, hp _ _ _ (Same.refl _) st rw'⟩
  · exact absurd e1 xoAt_ex
/-- isinstance of it -/
def rIsEd (K : PySem.W.Frag) (D a d : Addr) : List V → Hp → VK → Prop := fun xs H Q => ∃ (t : V) (u : Value) (b : Bool) (gs : List (Str × V)), xs = [.ref a, t] ∧ ClsV t u ∧ H d = some (.xd gs) ∧ PySem.W.kitOne K (.ref D) u = some b ∧ Q (.bl b) H
theorem call_isEd {D : Addr} (C : L2.ExcC X.K D) (hz : L2N.Zn (.ref D) (some d) oe) (hf : ∃ vs, oe.data = .fields vs) : CallR (X.suite a ((a, oe) :: pn)) (.builtin "isinstance") (rIsEd X.K D a d) := by
  intro pins s σ H xs us Q I r h
  obtain ⟨t, u, b, gs, rfl, hcv, hd, e, q⟩ := h
  cases r with
  | cons rx rr =>
    cases rr with
    | cons rt rr =>
      cases rr
      cases rx
      have ec := hcv.eq rt
      subst ec
      obtain ⟨hget, _⟩ := I.pin (a, oe) (List.mem_append.mpr (.inl List.mem_cons_self))
      obtain ⟨vs, hv⟩ := hf
      have hx : ObjOk X.prog X.w H s.heap d (.xd gs) := I.hok d _ hd
      obtain ⟨mA, hns, _⟩ := hx
      obtain ⟨od, ho, _⟩ := lookIn_ns hns
      have J : PySem.W.InstAt s.heap a oe D (some od) := ⟨hget, hz.1, by unfold PySem.W.notCls; rw [hv], by rw [hz.2.1]; exact ho⟩
      have hcl : (PySem.W.clsIn X.K D).isSome = true := by
        obtain ⟨cd, hc, _⟩ := PySem.W.any_some C.hd
        rw [hc]; rfl
      exact PySem.W.kia_one (PySem.W.kitx_exc hcl C.hg C.hk C.hs C.ha C.hn C.ht C.hm) I.kIn J e (fun z => nomatch z) fun tk => ⟨.bl b, H, I.kept (t' := tk) fun _ _ z => z, rfl, q⟩
def mIsE (i : Nat) (a d : Addr) (c : Nat) (b : Bool) : M PV := bnd (xoAt i a d c) fun _ => ret (.bl b)
theorem em_isE {x t : Expr} {i : Nat} {cv : V} {u : Value} {b : Bool} {p : Pos} (C : L2.ExcC X.K (cl c)) (hz : L2N.Zn (.ref (cl c)) (some d) oe) (hf : ∃ vs, oe.data = .fields vs) (hans : PySem.W.kitOne X.K (.ref (cl c)) u = some b) (hv : ClsV cv u) (hm : X.mg "isinstance" = none)
    (hx : PE (X.suite a ((a, oe) :: pn)) x (tVar i)) (hc : PE (X.suite a ((a, oe) :: pn)) t (tC cv)) (hg : Gl X "isinstance" := by rfl)
    (he : starEach [x, t] X.env = (false, eval x X.env) :: starEach [t] X.env := by rfl) (he2 : starEach [t] X.env = (false, eval t X.env) :: starEach [] X.env := by rfl) (hpl : (backTo pos (starEach [t] X.env)).any (·.1) = false := by rfl) :
    EM (X.suite a ((a, oe) :: pn)) cl W (.Call (.Name "isinstance" p) [x, t] [] pos) (mIsE i a d c b) := by
  refine ⟨_, pe_callB (call_isEd C hz hf) hg hm PyProof.Rows.boot_isinstance (pa_cons hx (pa_cons hc pa_nil he2) he) (by decide) (by decide) he hpl, fun F G H σ S r Q st hm hp => ?_⟩
  unfold mIsE at hm
  rcases bnd_some hm with ⟨fs, S1, e1, e2⟩ | ⟨c', gs, S1, e1, _⟩
  · obtain ⟨rfl, e3⟩ := xoAt_some e1
    cases e2
    obtain ⟨ev, gs, h1, h2⟩ := xo_view st e3
    exact ⟨_, ev, cv, u, b, gs, rfl, hv, h1, hans, hp _ _ _ (Same.refl _) st (.bl _)⟩
  · exact absurd e1 xoAt_ex
end

/-! ### try .. except C as x -/
theorem StOk.addX {K : PySem.W.Frag} {cl : Nat → Addr} {F : Fr} {G H : Hp} {σ : L2.St} {S : Sto} {d : Addr} {gs : List (Str × V)} (k : StOk K cl F G H σ S) (hd : H d = some (.xd gs)) (h0 : F.H0 d = none) (hR : F.R d = none) : ∃ G', Same G G' ∧ StOk K cl F G' H σ S ∧ G' d = some (.xd gs) := by
  cases hg : G d with
  | some o =>
    have := k.ex d o hg
    rw [hd] at this
    cases this
    exact ⟨G, Same.refl _, k, hg⟩
  | none =>
    have sg : Same G (upd G d (.xd gs)) := same_new hg
    have na : ∀ {b : Addr} {x : PV}, OwnAt K cl G H b x → b ≠ d := fun {b x} q z => by
      subst z
      cases x <;> try exact q.elim
      · obtain ⟨vs, e1, _⟩ := q
        rw [hd] at e1; cases e1
      · obtain ⟨vs, e1, _⟩ := q
        rw [hd] at e1; cases e1
      · obtain ⟨dx, vs, e1, _⟩ := q
        rw [hd] at e1; cases e1
    refine ⟨_, sg, ⟨fun b u e => ?_, k.ex0.trans sg, k.len, fun i x e => ?_, fun i x e => ?_, fun i x e => ?_, k.dist, k.io, k.ioh, k.iod, k.frame, fun b u e => ?_, fun b u e => ?_⟩, upd_same⟩
    · by_cases z : b = d
      · subst z
        rw [upd_same] at e
        rw [← e]
        exact hd
      · rw [upd_ne z] at e
        exact k.ex b u e
    · obtain ⟨v, e1, r⟩ := k.val i x e
      exact ⟨v, e1, r.mono sg⟩
    · obtain ⟨b, e1, ga, ha, q⟩ := k.own i x e
      exact ⟨b, e1, by rw [upd_ne (na q)]; exact ga, ha, q.mono sg rfl⟩
    · obtain ⟨b, e1, ga, ha, q⟩ := k.inn i x e
      exact ⟨b, e1, by rw [upd_ne (na q)]; exact ga, ha, q.mono sg rfl⟩
    · by_cases z : b = d
      · rw [z]; exact .inr h0
      · rw [upd_ne z] at e
        exact k.gnew b u e
    · have ne : b ≠ d := fun z => by rw [z, hR] at e; cases e
      obtain ⟨s1, s2, s3, s4⟩ := k.rsv b u e
      exact ⟨s1, by rw [upd_ne ne]; exact s2, s3, s4⟩
open Classical in
/-- what comes whatever the object is -/
noncomputable def uniq (f : Addr → Addr → Option (Rs Fl)) : Option (Rs Fl) := if h : ∃ r, ∀ a d, f a d = some r then some h.choose else none
theorem uniq_some {f : Addr → Addr → Option (Rs Fl)} {r : Rs Fl} (h : uniq f = some r) (a d : Addr) : f a d = some r := by
  unfold uniq at h
  split at h
  · rename_i q
    have e := q.choose_spec a d
    rw [Option.some.inj h] at e
    exact e
  · cases h
theorem uniq_of {f : Addr → Addr → Option (Rs Fl)} {r : Rs Fl} (h : ∀ a d, f a d = some r) : uniq f = some r := by
  have q : ∃ r, ∀ a d, f a d = some r := ⟨r, h⟩
  unfold uniq
  rw [dif_pos q]
  have e := q.choose_spec 0 0
  rw [h 0 0] at e
  exact e.symm ▸ rfl
/-- behind the suite the name is gone -/
def finX (i : Nat) : Option (Rs Fl) → Option (Rs Fl)
  | some (.ok f S) => match S[i]? with
    | some (some (.i _)) => none
    | _ => some (.ok f (S.set i none))
  | _ => none
noncomputable def mTry (cs : List Nat) (sub : Nat → Option Bool) (i : Nat) (mb : M Fl) (msu : Addr → Addr → Nat → M Fl) : M Fl := fun S => match mb S with
  | some (.ok f S') => some (.ok f S')
  | some (.ex c fs S') => if c ∈ cs then (match sub c with
    | some true => uniq fun a d => finX i (bnd (put i (.xo a d c fs)) (fun _ => msu a d c) S')
    | some false => some (.ex c fs S')
    | none => none) else none
  | none => none
section
variable {X : Cx} {cl : Nat → Addr} {W : WX} {pos : Pos}
theorem sm_try {x n : Str} {c0 : Value} {i : Nat} {body suite : List Stmt} {b₀ : Stmt} {np pos' : Pos} {cs : List Nat} {sub : Nat → Option Bool} {mb : M Fl} {msu : Addr → Addr → Nat → M Fl} (hs : X.stack = X.env :: X.outer) (hf : X.env.frame = some X.env.locals) (hN : X.N.Nodup) (hi : X.N[i]? = some n) (hln : X.env.kindOf n = some .local) (hc : Names X x c0) (tk : L2N.Takes X W)
    (hsub : ∀ c ∈ cs, ∀ b, sub c = some b → PySem.W.exmOne X.K (.ref (cl c)) c0 = some b)
    (hb : ∀ (W : WX) (pn : List (Addr × Obj)) (xe : Value → Shared → Prop), L2N.Takes (X.tr pn xe) W → PassesOwn (model X.prog X.w) X.A X.env xe → SMs (X.tr pn xe) cl W body mb)
    (hsu : ∀ (a d : Addr) (oe : Obj) (c : Nat) (pn : List (Addr × Obj)), c ∈ cs → L2N.Zn (.ref (cl c)) (some d) oe → (∃ vs, oe.data = .fields vs) → SMs (X.suite a ((a, oe) :: pn)) cl W0 (b₀ :: suite) (msu a d c)) :
    SM X cl W (.Try body [.ExceptHandler (some (.Name x np)) (some n) (b₀ :: suite) pos'] [] [] pos) (mTry cs sub i mb msu) := by
  refine ⟨_, L2N.ps_try_as hs hf hN hi hln hc tk
    (tb := fun W' D σ H => ∀ (pn : List (Addr × Obj)) (xe : Value → Shared → Prop) (h1 : L2N.Takes (X.tr pn xe) W') (h2 : PassesOwn (model X.prog X.w) X.A X.env xe), Classical.choose (hb W' pn xe h1 h2) D σ H)
    (ts := fun a cls d D σ H => ∃ (c : Nat) (dd : Addr) (hcs : c ∈ cs), cls = .ref (cl c) ∧ d = some dd ∧ ∀ (oe : Obj) (pn : List (Addr × Obj)) (hz : L2N.Zn (.ref (cl c)) (some dd) oe) (hfl : ∃ vs, oe.data = .fields vs), Classical.choose (hsu a dd oe c pn hcs hz hfl) D σ H)
    (fun W' pn xe h1 h2 => ⟨fun pins s σ H D I q => (Classical.choose_spec (hb W' pn xe h1 h2)).1.run pins s σ H D I (q pn xe h1 h2)⟩)
    (fun a oe cls d pn hz hfl => ⟨fun pins s σ H D I q => ?_⟩), fun F G H σ S r D st hm hp => ?_⟩
  · obtain ⟨c, dd, hcs, rfl, rfl, q⟩ := q
    exact (Classical.choose_spec (hsu a dd oe c pn hcs hz hfl)).1.run pins s σ H D I (q oe pn hz hfl)
  · intro pn xe h1 h2
    have db := (Classical.choose_spec (hb _ pn xe h1 h2)).2
    unfold mTry at hm
    split at hm <;> try (cases hm; done)
    · rename_i f S' em
      cases hm
      refine db F G H σ S _ D st em ?_
      cases f <;> exact hp
    · rename_i c fs S' em
      split at hm <;> try (cases hm; done)
      rename_i hcs
      refine db F G H σ S _ D st em fun d gs σ' G' H' s' st' hd rf => ?_
      obtain ⟨hd1, hd0, hdR⟩ := hd
      split at hm <;> try (cases hm; done)
      · rename_i hsb
        refine ⟨true, hsub c hcs _ hsb, fun _ a ha => ⟨c, d, hcs, rfl, rfl, fun oe pn' hz hfl => ?_⟩, fun z => by cases z⟩
        have dsu := (Classical.choose_spec (hsu a d oe c pn' hcs hz hfl)).2
        have hm' := uniq_some hm a d
        obtain ⟨G2, s2, st2, hg2⟩ := st'.addX hd1 hd0 hdR
        unfold finX at hm'
        split at hm' <;> try (cases hm'; done)
        rename_i f S2 e2
        obtain ⟨S3, e3, e4⟩ := bnd_put e2
        have st3 := put_ok (v := .ref a) st2 e3 (.xo hg2 (rf.mono s2))
        have hni : ∀ y, S2[i]? ≠ some (some (.i y)) := fun y q => by
          rw [q] at hm'
          cases hm'
        have hr : r = .ok f (S2.set i none) := by
          split at hm'
          · cases hm'
          · exact (Option.some.inj hm').symm
        subst hr
        have un : ∀ {σ5 : L2.St} {G5 H5 : Hp}, StOk X.K cl F G5 H5 σ5 S2 → StOk X.K cl F G5 H5 (σ5.set i none) (S2.set i none) := fun {σ5 G5 H5} k => k.drop (io_none k hni)
        refine dsu F G2 H' _ S3 _ _ st3 e4 ?_
        cases f with
        | nx => exact fun σ5 G5 H5 s5 k5 => hp _ G5 H5 ((s'.trans s2).trans s5) (un k5)
        | rt y => exact fun v σ5 G5 H5 s5 k5 r5 => hp v (σ5.set i none) G5 H5 ((s'.trans s2).trans s5) (un k5) r5
        | bk => exact fun σ5 G5 H5 s5 k5 => hp _ G5 H5 ((s'.trans s2).trans s5) (un k5)
        | ct => exact fun σ5 G5 H5 s5 k5 => hp _ G5 H5 ((s'.trans s2).trans s5) (un k5)
      · rename_i hsb
        cases hm
        exact ⟨false, hsub c hcs _ hsb, (fun z => Bool.noConfusion z), fun _ => hp d gs σ' G' H' s' st' ⟨hd1, hd0, hdR⟩ rf⟩
end
end Kp
set_option Elab.async false
set_option linter.all false
set_option maxRecDepth 100000
set_option maxHeartbeats 3200000
namespace Kp
open PySem PySem.Spec PyProof.Rows L2 PySem.W

/-! ### sets of keys of one kind -/
theorem eachIs_permL {α β : Type} {R : α → β → Prop} {xs xs' : List α} (p : xs'.Perm xs) : ∀ {ys : List β}, EachIs R xs ys → ∃ ys', EachIs R xs' ys' ∧ ys'.Perm ys := by
  induction p with
  | nil => exact fun {ys} h => ⟨ys, h, .refl _⟩
  | cons x _ ih =>
    intro ys h
    cases h with
    | cons h1 h2 =>
      obtain ⟨zs, e1, e2⟩ := ih h2
      exact ⟨_, .cons h1 e1, e2.cons _⟩
  | swap x y l =>
    intro ys h
    cases h with
    | cons h1 h2 =>
      cases h2 with
      | cons h3 h4 => exact ⟨_, .cons h3 (.cons h1 h4), .swap _ _ _⟩
  | trans _ _ ih1 ih2 =>
    intro ys h
    obtain ⟨zs, e1, e2⟩ := ih2 h
    obtain ⟨us, e3, e4⟩ := ih1 e1
    exact ⟨us, e3, e4.trans e2⟩
section
variable {P : Program} {w : World} {κ : Type} [DecidableEq κ] (knd : KeyKind P w κ)
/-- a set's entry bears the key -/
def GE (e : Int × Value) (k : κ) : Prop := knd.is k e.2 = true ∧ e.1 = knd.hash k ∧ e.2.scannable = true
/-- the set at a: its keys in the table's order -/
def SetG (h : Heap) (a : Addr) (l : List κ) : Prop :=
  ∃ (o : Obj) (es : Array (Int × Value)) (ep : Nat) (t : SetTable), h.get? a = some o ∧ o.ExactSet ∧ o.data = .set es ep t ∧ EachIs (GE knd) es.toList l ∧ l.Nodup ∧ es.size < scanBound ∧ t.fits es.size = true ∧ Ris t.place.toList ∧
    (w.params.followText "set-order" = true ∨ t.led = true)
variable {knd}
theorem SetG.at {h h' : Heap} {a : Addr} {l : List κ} (R : SetG knd h a l) (k : ∀ o, h.get? a = some o → h'.get? a = some o) : SetG knd h' a l :=
  let ⟨o, es, ep, t, ho, r⟩ := R
  ⟨o, es, ep, t, k o ho, r⟩
theorem ge_elems {es : List (Int × Value)} {l : List κ} (g : EachIs (GE knd) es l) : ElemsOf knd es := by
  induction g with
  | nil => exact fun e he => by cases he
  | cons h _ ih =>
    intro e he
    rcases List.mem_cons.mp he with z | z
    · rw [z]; exact ⟨⟨_, h.1, h.2.1⟩, h.2.2⟩
    · exact ih e z
theorem ge_mem {es : List (Int × Value)} {l : List κ} (g : EachIs (GE knd) es l) (k : κ) : k ∈ l ↔ ∃ e ∈ es, knd.is k e.2 = true := by
  induction g with
  | nil => simp
  | @cons e b es l h _ ih =>
    rw [List.mem_cons, ih]
    constructor
    · rintro (z | ⟨e', he, q⟩)
      · exact ⟨e, List.mem_cons_self, by rw [z]; exact h.1⟩
      · exact ⟨e', List.mem_cons_of_mem _ he, q⟩
    · rintro ⟨e', he, q⟩
      rcases List.mem_cons.mp he with z | z
      · rw [z] at q
        exact .inl (knd.inj _ _ _ q h.1)
      · exact .inr ⟨e', z, q⟩
theorem ge_size {es : Array (Int × Value)} {l : List κ} (g : EachIs (GE knd) es.toList l) : es.size = l.length := by
  rw [← Array.length_toList]; exact g.length
variable {A : Around} {E : Value → Shared → Prop} {s : Shared}
/-- behind the laying of a new key -/
theorem setG_tail {a : Addr} {g : Bool → Sem Unit} (hg : ∀ (b : Bool) (s₁ : Shared) (Q' : Unit → Shared → Prop), Q' () s₁ → wpAny (model P w) A (g b) Q' E s₁) {o : Obj} {es e1 : Array (Int × Value)} {ep : Nat} {t u : SetTable} {l : List κ}
    (ho : s.heap.get? a = some o) (hx : o.ExactSet) (hd : o.data = .set es ep t) (ge : EachIs (GE knd) e1.toList l) (nd : l.Nodup) (hb : e1.size < scanBound) (hf : u.fits e1.size = true) (hr : Ris u.place.toList) (hl : w.params.followText "set-order" = true ∨ u.led = true) {dum : Bool} {R : Option Bool → Shared → Prop}
    (fin : ∀ h' l', Heap.SameBut a s.heap h' → l'.Perm l → SetG knd h' a l' → R (some true) { s with heap := h' }) :
    wpAny (model P w) A (do
        storeSet a e1 u
        if (!dum && u.tooFull) = true then do
            g (relayAll u e1 (SetTable.grown e1.size)).2.2
            storeSet a (relayAll u e1 (SetTable.grown e1.size)).1 (relayAll u e1 (SetTable.grown e1.size)).2.1
            pure (some true)
          else pure (some true)) R E s := by
  have put1 := store_at (es' := e1) (t' := u) ho hd
  have same1 := Heap.SameBut.update s.heap a (Obj.putSet e1 u)
  refine wpAny_bind (wpAny_storeSet_of ho hd ?_ (fits_of_scanBound hb))
  split
  · have q1 := relayAll_perm u e1 (SetTable.grown e1.size)
    have q2 := relayAll_fits u e1 (SetTable.grown e1.size)
    have q3 := relayAll_ris u e1 (SetTable.grown e1.size)
    have q4 := relayAll_led u e1 (SetTable.grown e1.size)
    generalize relayAll u e1 (SetTable.grown e1.size) = Z at q1 q2 q3 q4 ⊢
    obtain ⟨e2, u2, gave⟩ := Z
    dsimp only at q1 q2 q3 q4 ⊢
    have z2 : e2.size = e1.size := by rw [← Array.length_toList, q1.length_eq, Array.length_toList]
    have b2 : e2.size < scanBound := z2 ▸ hb
    obtain ⟨l2, ge2, pl⟩ := eachIs_permL q1 ge
    refine wpAny_bind (hg _ _ _ (wpAny_bind (wpAny_storeSet_of put1 rfl (wpAny_pure (fin _ l2 (same1.trans (Heap.SameBut.update _ a _)) pl ?_)) (fits_of_scanBound b2))))
    exact ⟨_, e2, _, u2, store_at (es' := e2) (t' := u2) put1 rfl, hx, rfl, ge2, pl.nodup_iff.mpr nd, b2, q2, q3, hl.imp id fun z => by rw [q4]; exact z⟩
  · exact wpAny_pure (fin _ l same1 (.refl _) ⟨_, e1, _, u, put1, hx, rfl, ge, nd, hb, hf, hr, hl⟩)
theorem setG_add {a : Addr} {l : List κ} {k : κ} {v : Value} {Q : Bool → Shared → Prop} (R : SetG knd s.heap a l) (hk : knd.is k v = true) (hv : v.scannable = true) (room : l.length + 1 < scanBound)
    (fin : ∀ h' l', Heap.SameBut a s.heap h' → SetG knd h' a l' → l'.Perm (if k ∈ l then l else k :: l) → Q (!decide (k ∈ l)) { s with heap := h' }) : wpAny (model P w) A (setAddHashed a v (knd.hash k)) Q E s := by
  obtain ⟨o, es, ep, t, ho, hx, hd, ge, nd, hb, hf, hr, hl⟩ := R
  have el : ElemsOf knd es.toList := ge_elems ge
  unfold setAddHashed setAddHashedIn
  refine wpAny_holding (wpAny_bind (wpAny_setState_of ho hd hf ?_))
  dsimp only
  rw [byScan_of hv hb el]
  simp only [↓reduceIte]
  unfold setAddByScan
  refine wpAny_bind (wpAny_bind (wpAny_rule (wpAny_bind (wpAny_setScan_of hk ho hd hf el ?_))))
  cases hfi : List.findIdx? (fun e => knd.is k e.2) es.toList with
  | some j =>
    dsimp only
    obtain ⟨hj, pj, _⟩ := List.findIdx?_eq_some_iff_getElem.mp hfi
    have hin : k ∈ l := (ge_mem ge k).2 ⟨es.toList[j], List.getElem_mem hj, pj⟩
    have q := fin s.heap l (Heap.SameBut.refl a s.heap) ⟨o, es, ep, t, ho, hx, hd, ge, nd, hb, hf, hr, hl⟩ (by rw [if_pos hin])
    rw [decide_eq_true hin] at q
    exact wpAny_pure (wpAny_pure q)
  | none =>
    dsimp only
    have hout : k ∉ l := fun z => by
      obtain ⟨e, he, q⟩ := (ge_mem ge k).1 z
      have c := List.findIdx?_eq_none_iff.mp hfi e he
      rw [q] at c
      cases c
    have way : ∀ (b : Bool) {s₁ : Shared} {Q' : Unit → Shared → Prop}, Q' () s₁ → wpAny (model P w) A (match b with | true => rule "set.scan.the-table-gave-way" | false => pure ()) Q' E s₁ := fun b s₁ Q' q => by
      cases b
      · exact wpAny_pure q
      · exact wpAny_rule q
    have q1 := layNew_perm t es (knd.hash k) v
    have q2 := layNew_fits t es (knd.hash k) v
    have q3 := layNew_ris t es (knd.hash k) v hr
    have q4 := layNew_led t es (knd.hash k) v
    generalize layNew t es (knd.hash k) v = Z at q1 q2 q3 q4 ⊢
    obtain ⟨e1, u, dum, gave⟩ := Z
    dsimp only at q1 q2 q3 q4 ⊢
    rw [Array.toList_push] at q1
    have q5 : e1.toList.Perm ((knd.hash k, v) :: es.toList) := q1.trans (List.perm_append_singleton _ _)
    obtain ⟨l1, ge1, pl⟩ := eachIs_permL (R := GE knd) (ys := k :: l) q5 (.cons ⟨hk, rfl, hv⟩ ge)
    have nd1 : l1.Nodup := pl.nodup_iff.mpr (List.nodup_cons.mpr ⟨hout, nd⟩)
    have hb1 : e1.size < scanBound := by rw [ge_size ge1, pl.length_eq, List.length_cons]; exact room
    have led1 : w.params.followText "set-order" = true ∨ u.led = true := hl.imp id fun z => by rw [q4]; exact z
    have fin1 : ∀ h' l', Heap.SameBut a s.heap h' → l'.Perm l1 → SetG knd h' a l' → Q true { s with heap := h' } := fun h' l' sb p r => by
      have q := fin h' l' sb r (by rw [if_neg hout]; exact p.trans pl)
      rw [decide_eq_false hout] at q
      exact q
    refine wpAny_bind (way _ ?_)
    split
    · refine wpAny_bind ?_
      rw [hashByValue_scannable 8 hv]
      refine wpAny_pure ?_
      refine setG_tail (fun b s₁ Q' q => ?_) ho hx hd ge1 nd1 hb1 ?_ ?_ ?_ fun h' l' sb p r => ?_
      · cases b
        · exact wpAny_pure q
        · exact wpAny_rule q
      · first | (split <;> first | exact q2 | exact SetTable.fits_plain_off q2) | exact q2
      · first | (split <;> exact q3) | exact q3
      · first | (split <;> exact led1) | exact led1
      · dsimp only; exact wpAny_pure (fin1 h' l' sb p r)
    · refine wpAny_bind (wpAny_pure ?_)
      simp only [↓reduceIte]
      refine setG_tail (fun b s₁ Q' q => ?_) ho hx hd ge1 nd1 hb1 q2 q3 led1 fun h' l' sb p r => ?_
      · cases b
        · exact wpAny_pure q
        · exact wpAny_rule q
      · dsimp only; exact wpAny_pure (fin1 h' l' sb p r)
theorem setG_new {h : Heap} {a : Addr} (ho : h.get? a = some { cls := .type "set", dict := none, data := .set #[] 0 (.fresh 0 0 (!w.params.followText "set-order")) }) : SetG knd h a [] :=
  ⟨_, #[], 0, _, ho, ⟨rfl, rfl, rfl⟩, rfl, .nil, .nil, (by decide), (by rfl), List.Pairwise.nil, by
    show _ ∨ (!w.params.followText "set-order") = true
    cases w.params.followText "set-order"
    · exact .inr rfl
    · exact .inl rfl⟩
/-- the keys seen so far, each once -/
def GotK (ks : List κ) (i : Nat) (l : List κ) : Prop := l.Nodup ∧ (∀ k, k ∈ l ↔ k ∈ ks.take i) ∧ l.length ≤ i
theorem GotK.step {ks l l' : List κ} {i : Nat} {k : κ} (g : GotK ks i l) (hk : ks[i]? = some k) (p : l'.Perm (if k ∈ l then l else k :: l)) : GotK ks (i + 1) l' := by
  obtain ⟨g1, g2, g3⟩ := g
  have tk : ks.take (i + 1) = ks.take i ++ [k] := by rw [List.take_add_one, hk]; rfl
  by_cases c : k ∈ l
  · rw [if_pos c] at p
    refine ⟨p.nodup_iff.mpr g1, fun j => ?_, by rw [p.length_eq]; omega⟩
    rw [p.mem_iff, g2, tk, List.mem_append, List.mem_singleton]
    exact ⟨.inl, fun z => z.elim id fun e => by rw [e]; exact (g2 k).1 c⟩
  · rw [if_neg c] at p
    refine ⟨p.nodup_iff.mpr (List.nodup_cons.mpr ⟨c, g1⟩), fun j => ?_, by rw [p.length_eq, List.length_cons]; omega⟩
    rw [p.mem_iff, List.mem_cons, g2, tk, List.mem_append, List.mem_singleton]
    exact Or.comm
theorem setG_update {I : Addr} {fp wr : List Addr} {G : Array GenState → Array GenState → Prop} {n : Nat} {Pv : Nat → Value → Prop} {St : Nat → Shared → Prop} {R : Result → Shared → Prop} (W : WalksS P w A.in1 I fp wr G n Pv St) (D : Addr) (hD : D ∉ fp) (ks : List κ) (hn : n = ks.length) (room : ks.length + 1 < scanBound)
    (hval : ∀ i v, Pv i v → ∃ k, ks[i]? = some k ∧ knd.is k v = true ∧ v.scannable = true) :
    ∀ (m i : Nat) (s : Shared), n - i = m → i ≤ n → St i s → (∃ l, GotK ks i l ∧ SetG knd s.heap D l) →
      (∀ s' l, Moved (D :: wr) G s s' → GotK ks n l → SetG knd s'.heap D l → R (.ok (.ret .none)) s') → codeAny (model P w) A (.builtin "set.update.loop" ⟨[.ref D, .ref I], []⟩) R s := by
  have nw : D ∉ wr := fun z => hD (W.sub _ z)
  have sub : ∀ b ∈ wr, b ∈ D :: wr := fun b hb => List.mem_cons_of_mem _ hb
  intro m
  induction m with
  | zero =>
    intro i s hm hi hst ⟨l, gl, hS⟩ fin
    have ein : i = n := by omega
    subst ein
    refine codeAny_builtin PyProof.Rows.F.entry_set_update_loop ?_
    rw [Around.under_plainId PyProof.Rows.F.plain_set_update_loop _]
    show wpAny _ A.in1 (pyNext (.ref I) >>= _) _ _ s
    refine wpAny_bind (W.done s _ _ hst fun s2 mv => ?_)
    exact wpAny_pure (fin s2 l (mv.mono sub) gl (hS.at fun o e => mv.heap D o nw e))
  | succ m ih =>
    intro i s hm hi hst ⟨l, gl, hS⟩ fin
    have lt : i < n := by omega
    refine codeAny_builtin PyProof.Rows.F.entry_set_update_loop ?_
    rw [Around.under_plainId PyProof.Rows.F.plain_set_update_loop _]
    show wpAny _ A.in1 (pyNext (.ref I) >>= _) _ _ s
    refine wpAny_bind (W.item i s _ _ lt hst fun v s2 pv st2 mv => ?_)
    obtain ⟨k, ek, isk, sck⟩ := hval i v pv
    have S2 : SetG knd s2.heap D l := hS.at fun o e => mv.heap D o nw e
    show wpAny _ A.in1 (holding [v] (setAdd D v) >>= _) _ _ s2
    refine wpAny_bind (wpAny_holding ?_)
    unfold setAdd
    refine wpAny_holding (wpAny_bind (knd.pyHash isk ?_))
    refine setG_add (s := { s2 with toks := s2.toks + 1 }) S2 isk sck (by have := gl.2.2; omega) fun h3 l3 sb S3 pl => ?_
    refine wpAny_pure ⟨plainId_quiet PyProof.Rows.F.plain_set_update_loop _, ih (i + 1) _ (by omega) lt (W.frame _ s2 _ _ st2 (Nat.le_succ _) fun b hb o e => ?_) ⟨l3, gl.step ek pl, S3⟩ fun s4 l4 mv4 g4 S4 => ?_⟩
    · rw [sb.2 b (fun z : b = D => hD (z ▸ hb))]; exact e
    · refine fin s4 l4 (Moved.trans W.gtrans ((mv.mono sub).then_heap (Nat.le_succ _) fun b o hb e => ?_) mv4) g4 S4
      rw [sb.2 b (fun z : b = D => hb (by rw [z]; exact List.mem_cons_self))]; exact e
end
end Kp
set_option Elab.async false
set_option linter.all false
set_option maxRecDepth 100000
set_option maxHeartbeats 3200000
namespace Kp
open PySem PySem.Spec PyProof.Rows L2 PySem.W

/-! ### set(xs) -/
abbrev freshSet (w : World) : Obj := { cls := .type "set", dict := none, data := .set #[] 0 (.fresh 0 0 (!w.params.followText "set-order")) }
section
variable {P : Program} {w : World} {κ : Type} [DecidableEq κ] {knd : KeyKind P w κ} {A : Around} {E : Value → Shared → Prop} {s : Shared}
theorem set_of_list {l : Addr} {its : Array Value} (ks : List κ) {Q : Value → Shared → Prop} (calm : A.handled = none) (at_ : s.heap.IsList l its) (len : its.size = ks.length) (each : ∀ (i : Nat) (v : Value), its[i]? = some v → ∃ k, ks[i]? = some k ∧ knd.is k v = true ∧ v.scannable = true) (room : ks.length + 1 < scanBound)
    (fin : ∀ (h' : Heap) (tk : Nat) (ls : List κ), GotK ks ks.length ls → SetG knd h' s.heap.objs.size ls → (∀ b o, s.heap.get? b = some o → h'.get? b = some o) → Q (.ref s.heap.objs.size) { s with heap := h', toks := tk }) : wpAny (model P w) A (call (.type "set") [.ref l]) Q E s := by
  obtain ⟨c0, c1, c2⟩ := PySem.F.called_set.mro
  have c3 := PySem.F.called_set.made
  have c4 := PySem.F.called_set.sub
  refine wpAny_call (codeAny_of_tree ?_)
  show wpAny _ _ (callAny (.type "set") _) _ _ _
  refine wpAny_pure ⟨Code.quiet_builtin _ (by decide +kernel), codeAny_builtin PySem.F.entry_type_call ?_⟩
  rw [Around.under_plain (weight_type_call_type "set" [.ref l] []) rfl]
  have c5 := PySem.F.called_set.notType
  have c6 := PySem.F.called_set.canCreate
  have c7 := PySem.F.typeCall_set_1 (.ref l)
  repeat (any_goals (first | assumption | wp_step))
  refine codeAny_mono (code_set_led1 (.ref l) (E := E) (Q₁ := fun ob s1 => ob = .ref s.heap.objs.size ∧ s1 = { s with heap := s.heap.push (freshSet w) }) ⟨rfl, rfl⟩) fun r1 s1 e1 => ?_
  cases r1 with
  | error _ => exact e1
  | ok f1 =>
    cases f1 with
    | ret ob =>
      obtain ⟨rfl, rfl⟩ := e1
      have atS : (s.heap.push (freshSet w)).get? s.heap.objs.size = some (freshSet w) := Heap.get?_push_size _ rfl
      have tyS : Shared.TypeIs { s with heap := s.heap.push (freshSet w) } (.ref s.heap.objs.size) "set" := ⟨_, atS, rfl⟩
      have c8 := PySem.F.called_set.init.lookup
      have c9 := PySem.F.called_set.init.bind (.ref s.heap.objs.size)
      repeat (any_goals (first | assumption | wp_step))
      refine codeAny_mono (codeAny_call_builtin (R := wants (fun r2 s2 => r2 = .none ∧ ∃ h' tk ls, s2 = { s with heap := h', toks := tk } ∧ GotK ks ks.length ls ∧ SetG knd h' s.heap.objs.size ls ∧ (∀ b o, s.heap.get? b = some o → h'.get? b = some o)) E)
        PySem.F.called_set.init.plain PySem.F.entry_set_init (check_set_init_1 tyS ?_)) fun r2 s2 e2 => ?_
      · obtain ⟨ol, g1, g2, nl, g3⟩ := at_
        obtain ⟨oc, od, oda, osl⟩ := ol
        simp only at g2 g3
        subst g2; subst g3
        have g4 : (s.heap.push (freshSet w)).get? l = some { cls := .type "list", dict := od, data := .seq its nl, slots := osl } := Heap.get?_push_of_some _ g1
        have g5 := PySem.F.sub_list_set
        have g6 := PySem.F.sub_list_frozenset
        have g7 : (Value.type "list" == Value.type "dict") = false := by decide
        have g8 : (s.heap.push (freshSet w)).IsList l its := ⟨_, g4, rfl, nl, rfl⟩
        unfold Builtin.«set.__init__» noKeywords Builtin.Frozenset.updateFrom
        generalize hPI : pyIter = PI
        wp_walk
        subst hPI
        refine wpAny_pyIter_list g8 (wpAny_bind (wpAny_runValue ?_))
        have lt := Heap.lt_size g1
        have calm3 : A.in1.in1.in1.handled = none := by simp [calm]
        have szS : (s.heap.push (freshSet w)).objs.size = s.heap.objs.size + 1 := Heap.size_push ..
        have ne1 : l ≠ (s.heap.push (freshSet w)).objs.size := by
          rw [szS]
          exact Nat.ne_of_lt (Nat.lt_succ_of_lt lt)
        have out : s.heap.objs.size ∉ [(s.heap.push (freshSet w)).objs.size, l] := by
          rw [szS]
          simp only [List.mem_cons, List.mem_singleton, List.not_mem_nil, or_false, not_or]
          exact ⟨Nat.ne_of_lt (Nat.lt_succ_self _), Nat.ne_of_gt lt⟩
        refine setG_update (knd := knd) ((Walks.list calm3 _ l ne1 its).toS) s.heap.objs.size out ks len room each (its.size - 0) 0 _ (by omega) (Nat.zero_le _) ⟨⟨_, Heap.get?_push_size _ rfl, rfl, rfl⟩, (g8.push _)⟩ ?st ?en
        case st => exact ⟨[], ⟨.nil, fun k => by simp, Nat.le_refl 0⟩, setG_new (Heap.get?_push_of_some _ atS)⟩
        case en =>
          intro s3 ls mv gk sg
          obtain ⟨h3, g3', d3, t3, o3⟩ := s3
          have q1 : g3' = s.gens := mv.gens
          have q2 : d3 = s.drawn := mv.drawn
          have q3 : o3 = s.os := mv.os
          subst q1; subst q2; subst q3
          show wpAny _ _ _ _ _ _
          refine wpAny_pure ?_
          show wpAny _ _ (PySem.ret Value.none) _ _ _
          rw [len] at gk
          refine wpAny_pure ⟨rfl, h3, t3, ls, rfl, gk, sg, fun b o e => ?_⟩
          have lb := Heap.lt_size e
          refine mv.heap b o ?_ (Heap.get?_push_of_some _ (Heap.get?_push_of_some _ e))
          simp only [List.mem_cons, List.mem_singleton, List.not_mem_nil, or_false, not_or]
          refine ⟨Nat.ne_of_lt lb, ?_⟩
          rw [szS]
          exact Nat.ne_of_lt (Nat.lt_succ_of_lt lb)
      · cases r2 with
        | error _ => exact e2
        | ok f2 =>
          cases f2 with
          | ret r =>
            obtain ⟨rfl, h3, t3, ls, rfl, gk, sg, kp⟩ := e2
            repeat (any_goals (first | assumption | wp_step))
            exact fin _ _ _ gk sg kp
          | _ => exact e2.elim
    | _ => exact e1.elim
theorem set_of_tuple {l : Addr} {its : Array Value} (ks : List κ) {Q : Value → Shared → Prop} (calm : A.handled = none) (at_ : s.heap.IsTuple l its) (len : its.size = ks.length) (each : ∀ (i : Nat) (v : Value), its[i]? = some v → ∃ k, ks[i]? = some k ∧ knd.is k v = true ∧ v.scannable = true) (room : ks.length + 1 < scanBound)
    (fin : ∀ (h' : Heap) (tk : Nat) (ls : List κ), GotK ks ks.length ls → SetG knd h' s.heap.objs.size ls → (∀ b o, s.heap.get? b = some o → h'.get? b = some o) → Q (.ref s.heap.objs.size) { s with heap := h', toks := tk }) : wpAny (model P w) A (call (.type "set") [.ref l]) Q E s := by
  obtain ⟨c0, c1, c2⟩ := PySem.F.called_set.mro
  have c3 := PySem.F.called_set.made
  have c4 := PySem.F.called_set.sub
  refine wpAny_call (codeAny_of_tree ?_)
  show wpAny _ _ (callAny (.type "set") _) _ _ _
  refine wpAny_pure ⟨Code.quiet_builtin _ (by decide +kernel), codeAny_builtin PySem.F.entry_type_call ?_⟩
  rw [Around.under_plain (weight_type_call_type "set" [.ref l] []) rfl]
  have c5 := PySem.F.called_set.notType
  have c6 := PySem.F.called_set.canCreate
  have c7 := PySem.F.typeCall_set_1 (.ref l)
  repeat (any_goals (first | assumption | wp_step))
  refine codeAny_mono (code_set_led1 (.ref l) (E := E) (Q₁ := fun ob s1 => ob = .ref s.heap.objs.size ∧ s1 = { s with heap := s.heap.push (freshSet w) }) ⟨rfl, rfl⟩) fun r1 s1 e1 => ?_
  cases r1 with
  | error _ => exact e1
  | ok f1 =>
    cases f1 with
    | ret ob =>
      obtain ⟨rfl, rfl⟩ := e1
      have atS : (s.heap.push (freshSet w)).get? s.heap.objs.size = some (freshSet w) := Heap.get?_push_size _ rfl
      have tyS : Shared.TypeIs { s with heap := s.heap.push (freshSet w) } (.ref s.heap.objs.size) "set" := ⟨_, atS, rfl⟩
      have c8 := PySem.F.called_set.init.lookup
      have c9 := PySem.F.called_set.init.bind (.ref s.heap.objs.size)
      repeat (any_goals (first | assumption | wp_step))
      refine codeAny_mono (codeAny_call_builtin (R := wants (fun r2 s2 => r2 = .none ∧ ∃ h' tk ls, s2 = { s with heap := h', toks := tk } ∧ GotK ks ks.length ls ∧ SetG knd h' s.heap.objs.size ls ∧ (∀ b o, s.heap.get? b = some o → h'.get? b = some o)) E)
        PySem.F.called_set.init.plain PySem.F.entry_set_init (check_set_init_1 tyS ?_)) fun r2 s2 e2 => ?_
      · obtain ⟨ol, g1, g2, nl, g3⟩ := at_
        obtain ⟨oc, od, oda, osl⟩ := ol
        simp only at g2 g3
        subst g2; subst g3
        have g4 : (s.heap.push (freshSet w)).get? l = some { cls := .type "tuple", dict := od, data := .seq its nl, slots := osl } := Heap.get?_push_of_some _ g1
        have g5 := PySem.F.sub_tuple_set
        have g6 := PySem.F.sub_tuple_frozenset
        have g7 : (Value.type "tuple" == Value.type "dict") = false := by decide
        have g8 : (s.heap.push (freshSet w)).IsTuple l its := ⟨_, g4, rfl, nl, rfl⟩
        unfold Builtin.«set.__init__» noKeywords Builtin.Frozenset.updateFrom
        generalize hPI : pyIter = PI
        wp_walk
        subst hPI
        refine wpAny_pyIter_tuple g8 (wpAny_bind (wpAny_runValue ?_))
        have lt := Heap.lt_size g1
        have calm3 : A.in1.in1.in1.handled = none := by simp [calm]
        have szS : (s.heap.push (freshSet w)).objs.size = s.heap.objs.size + 1 := Heap.size_push ..
        have ne1 : l ≠ (s.heap.push (freshSet w)).objs.size := by
          rw [szS]
          exact Nat.ne_of_lt (Nat.lt_succ_of_lt lt)
        have out : s.heap.objs.size ∉ [(s.heap.push (freshSet w)).objs.size, l] := by
          rw [szS]
          simp only [List.mem_cons, List.mem_singleton, List.not_mem_nil, or_false, not_or]
          exact ⟨Nat.ne_of_lt (Nat.lt_succ_self _), Nat.ne_of_gt lt⟩
        refine setG_update (knd := knd) ((Walks.tuple calm3 _ l ne1 its).toS) s.heap.objs.size out ks len room each (its.size - 0) 0 _ (by omega) (Nat.zero_le _) ⟨⟨_, Heap.get?_push_size _ rfl, rfl, rfl⟩, (g8.push _)⟩ ?st ?en
        case st => exact ⟨[], ⟨.nil, fun k => by simp, Nat.le_refl 0⟩, setG_new (Heap.get?_push_of_some _ atS)⟩
        case en =>
          intro s3 ls mv gk sg
          obtain ⟨h3, g3', d3, t3, o3⟩ := s3
          have q1 : g3' = s.gens := mv.gens
          have q2 : d3 = s.drawn := mv.drawn
          have q3 : o3 = s.os := mv.os
          subst q1; subst q2; subst q3
          show wpAny _ _ _ _ _ _
          refine wpAny_pure ?_
          show wpAny _ _ (PySem.ret Value.none) _ _ _
          rw [len] at gk
          refine wpAny_pure ⟨rfl, h3, t3, ls, rfl, gk, sg, fun b o e => ?_⟩
          have lb := Heap.lt_size e
          refine mv.heap b o ?_ (Heap.get?_push_of_some _ (Heap.get?_push_of_some _ e))
          simp only [List.mem_cons, List.mem_singleton, List.not_mem_nil, or_false, not_or]
          refine ⟨Nat.ne_of_lt lb, ?_⟩
          rw [szS]
          exact Nat.ne_of_lt (Nat.lt_succ_of_lt lb)
      · cases r2 with
        | error _ => exact e2
        | ok f2 =>
          cases f2 with
          | ret r =>
            obtain ⟨rfl, h3, t3, ls, rfl, gk, sg, kp⟩ := e2
            repeat (any_goals (first | assumption | wp_step))
            exact fin _ _ _ gk sg kp
          | _ => exact e2.elim
    | _ => exact e1.elim
end
end Kp
set_option Elab.async false
set_option linter.all false
set_option maxRecDepth 100000
set_option maxHeartbeats 3200000
namespace Kp
open PySem PySem.Spec PyProof.Rows L2 PySem.W

/-! ### sorted(..) of what may be drawn -/
section
variable {prog : Program} {w : World} {A : Around} {E : Value → Shared → Prop} {s : Shared} {β : Type} {R : Value → β → Prop} {enc : β → PyData}
theorem sorted_dr {u : Value} {C : List β → Prop} {D : Shared → Prop} {Q : Value → Shared → Prop}
    (hcol : ∀ P : List Value → Shared → Prop, (∀ (ys : List Value) (s' : Shared) (cs : List β), D s' → EachIs R ys cs → EachIs (fun v b => ∃ as, PySem.Reads s'.heap v (enc b) as) ys cs → C cs → P ys s') → wpAny (model prog w) A.in1 (collect u) P E s)
    (hal : ∀ cs, C cs → AllAlike (cs.map enc) ∧ Sortable (cs.map enc) ∧ cs.length ≤ sizeLine ∧ ∀ b, b ∈ cs → A.units + 2 + (enc b).depth < cLine)
    (h : ∀ (out : List Value) (s1 : Shared) (h2 : Heap) (p : Addr) (n : Nat) (cs : List β), D s1 → s1.heap.objs.size ≤ p → (∀ b o, s1.heap.get? b = some o → h2.get? b = some o) → h2.get? p = some (seqObj "list" out.toArray n) → C cs → EachIs R out (cs.mergeSort (dataLe false enc)) → Q (.ref p) { s1 with heap := h2 }) :
    wpAny (model prog w) A (call (.builtin "sorted") [u]) Q E s := by
  refine PySem.Calls.call_function_entry kind_sorted plain_sorted entry_sorted (args_sorted1 _) ?_
  unfold Builtin.«sorted»
  refine wpAny_bind (m := checkCount "sorted" 1 1 _) (wpAny_pure (wpAny_bind (hcol _ fun ys s1 cs hD e er pm => ?_)))
  obtain ⟨k1, k2, k3, k4⟩ := hal cs pm
  have hlen : ys.length ≤ sizeLine := by rw [e.length]; exact k3
  refine wpAny_bind (wpAny_newList ?_ hlen)
  have ho : (s1.heap.push (seqObj "list" ys.toArray 0)).get? s1.heap.objs.size = some (seqObj "list" ys.toArray 0) := Heap.get?_push_size _ rfl
  have old : ∀ b o, s1.heap.get? b = some o → (sortingHeap (s1.heap.push (seqObj "list" ys.toArray 0)) s1.heap.objs.size ys).get? b = some o := fun b o q => sortingHeap_old (Nat.ne_of_lt (Heap.lt_size q)) (Heap.get?_push_of_some _ q)
  have er2 : EachIs (fun v b => ∃ as, PySem.Reads (sortingHeap (s1.heap.push (seqObj "list" ys.toArray 0)) s1.heap.objs.size ys) v (enc b) as) ys cs := er.mono fun _ _ ⟨as, r⟩ => ⟨as, PyProof.Rows.Reads.keeps old r⟩
  have S := SortsAt.data (prog := prog) (w := w) (A := A.in1.in1) (s := { s1 with heap := sortingHeap (s1.heap.push (seqObj "list" ys.toArray 0)) s1.heap.objs.size ys }) (each_map (R := fun v d => ∃ as, PySem.Reads (sortingHeap (s1.heap.push (seqObj "list" ys.toArray 0)) s1.heap.objs.size ys) v d as) enc er2) k1 k2 (bound_map fun b hb => by
      have q := k4 b hb
      show A.units + 1 + 1 + _ < _
      omega)
  show wpAny _ _ _ _ _ { s1 with heap := s1.heap.push (seqObj "list" ys.toArray 0) }
  refine wpAny_bind (wpAny_holding (wpAny_call_entry slot_list_sort ⟨_, ho, rfl⟩ entry_list_sort (list_sort_vals (s := { s1 with heap := s1.heap.push (seqObj "list" ys.toArray 0) }) ho S hlen ⟨_, rfl, ?_⟩) (args_list_sort _)))
  obtain ⟨n, hat⟩ := sortedHeap_at (out := (sortVals (dataKind (sortingHeap (s1.heap.push (seqObj "list" ys.toArray 0)) s1.heap.objs.size ys) (cs.map enc)) false ys ys).toArray) ho
  refine wpAny_pure ⟨_, rfl, h _ s1 _ s1.heap.objs.size n cs hD (Nat.le_refl _) (fun b o q => ?_) hat pm (sortVals_data false e er2 k1)⟩
  have hb := Heap.lt_size q
  rw [sortedHeap_old (Nat.ne_of_lt hb) (by rw [size_push']; exact Nat.lt_succ_of_lt hb)]
  exact Heap.get?_push_of_some _ q
end

/-! ### texts in order, each once -/
def strLe (a b : Str) : Bool := decide (a.cps.toList ≤ b.cps.toList)
def sortS (l : List Str) : List Str := l.mergeSort strLe
def dedK {κ : Type} [DecidableEq κ] : List κ → List κ
  | [] => []
  | k :: l => if k ∈ dedK l then dedK l else k :: dedK l
theorem mem_dedK {κ : Type} [DecidableEq κ] {k : κ} : ∀ {l : List κ}, k ∈ dedK l ↔ k ∈ l
  | [] => by simp [dedK]
  | x :: l => by
    have ih := mem_dedK (k := k) (l := l)
    have ix := mem_dedK (k := x) (l := l)
    unfold dedK
    split
    · rename_i c
      rw [ih, List.mem_cons]
      exact ⟨.inr, fun z => z.elim (fun e => by rw [e]; exact ix.1 c) id⟩
    · rw [List.mem_cons, List.mem_cons, ih]
theorem nodup_dedK {κ : Type} [DecidableEq κ] : ∀ {l : List κ}, (dedK l).Nodup
  | [] => .nil
  | x :: l => by
    unfold dedK
    split
    · exact nodup_dedK
    · rename_i c
      exact List.nodup_cons.mpr ⟨c, nodup_dedK⟩
theorem strLe_eq : (dataLe false fun k : Str => PyData.str k) = strLe := dataLe_str fun k => k
theorem strLe_total : TotalLe strLe := by
  rw [← strLe_eq]
  exact sortLe_total _ _ _
theorem strLe_anti {a b : Str} (h1 : strLe a b = true) (h2 : strLe b a = true) : a = b := by
  have e : a.cps.toList = b.cps.toList := List.le_antisymm (of_decide_eq_true h1) (of_decide_eq_true h2)
  cases a
  cases b
  congr 1
  exact Array.toList_inj.mp e
theorem sortS_perm {l l' : List Str} (p : l.Perm l') : sortS l = sortS l' :=
  List.Perm.eq_of_pairwise (le := fun a b => strLe a b = true) (fun a b _ _ h1 h2 => strLe_anti h1 h2) (sort_pairwise strLe_total l) (sort_pairwise strLe_total l') (((List.mergeSort_perm l strLe).trans p).trans (List.mergeSort_perm l' strLe).symm)
theorem gotK_perm {κ : Type} [DecidableEq κ] {ks l : List κ} (g : GotK ks ks.length l) : l.Perm (dedK ks) :=
  (List.perm_ext_iff_of_nodup g.1 nodup_dedK).mpr fun k => by rw [g.2.1, List.take_length, mem_dedK]

/-! ### the set as a tracked thing -/
def SetGO (P : Program) (w : World) (a : Addr) (l : List Str) : HO := .ext fun h => SetG (PySem.strKind P w) h a l
theorem setGO_new {w : World} {P : Program} {H : Hp} {h : Heap} {a : Addr} {l : List Str} (R : SetG (PySem.strKind P w) h a l) : ObjOk P w H h a (SetGO P w a l) := by
  have ⟨o, _, _, _, ho, _⟩ := R
  exact ⟨R, ⟨o, ho⟩, fun h1 h2 p k => SetG.at p k⟩
section
variable {X : Cx} {cl : Nat → Addr} {W : WX} {pos : Pos}
theorem setGO_get {pins : List (Addr × Obj)} {σ : L2.St} {H : Hp} {s : Shared} {a : Addr} {l : List Str} (I : Inv X pins σ H s) (ha : H a = some (SetGO X.prog X.w a l)) : SetG (PySem.strKind X.prog X.w) s.heap a l := (I.hok a _ ha).1
def rSetS (K : PySem.W.Frag) (P : Program) (w : World) : List V → Hp → VK → Prop := fun vs H Q => ∃ (l : Addr) (ks : List Str), vs = [.ref l] ∧ (SqL K H l (ks.map V.str) ∨ SqT K H l (ks.map V.str)) ∧ ks.length < 4000 ∧
  ∀ p ls, H p = none → GotK ks ks.length ls → Q (.ref p) (upd H p (SetGO P w p ls))
theorem strs_each : ∀ {ks : List Str} {us : List Value}, Vals (ks.map V.str) us → ∀ (i : Nat) (v : Value), us[i]? = some v → ∃ (k : Str) (t : Tok), ks[i]? = some k ∧ v = .str k t
  | [], _, .nil, i, v, h => by simp at h
  | k :: ks, _, .cons ⟨t, r⟩ rs, 0, v, h => by
    simp at h
    exact ⟨k, t, rfl, by rw [← h]; exact r⟩
  | k :: ks, _, .cons r rs, i + 1, v, h => by
    simp only [List.getElem?_cons_succ] at h ⊢
    exact strs_each rs i v h
theorem cr_setS (hc : X.calm = true) : CallR X (.type "set") (rSetS X.K X.prog X.w) := by
  intro pins s σ H vs us Q I r h
  obtain ⟨l, ks, rfl, hs, hz, q⟩ := h
  obtain ⟨u, rfl, ru⟩ := vals1 r
  obtain rfl : u = Value.ref l := ru
  have fin : ∀ (h' : Heap) (tk : Nat) (ls : List Str), GotK ks ks.length ls → SetG (PySem.strKind X.prog X.w) h' s.heap.objs.size ls → (∀ b o, s.heap.get? b = some o → h'.get? b = some o) → EP X pins σ Q (.ref s.heap.objs.size) { s with heap := h', toks := tk } := fun h' tk ls g S k =>
    ⟨.ref _, upd H s.heap.objs.size (SetGO X.prog X.w s.heap.objs.size ls), I.laid (t' := tk) k (Nat.le_refl _) (setGO_new S), rfl, q _ ls (I.hok.fresh (Nat.le_refl _)) g⟩
  have each : ∀ {its : List Value}, Vals (ks.map V.str) its → ∀ (i : Nat) (v : Value), its.toArray[i]? = some v → ∃ k, ks[i]? = some k ∧ (PySem.strKind X.prog X.w).is k v = true ∧ v.scannable = true := fun {its} rv i v e => by
    obtain ⟨k, t, e1, rfl⟩ := strs_each rv i v (by simpa using e)
    exact ⟨k, e1, (PySem.strKind_is _ _ k t), rfl⟩
  rcases hs with hs | hs
  · obtain ⟨its, rv, pl, _⟩ := I.list hs
    exact set_of_list (knd := PySem.strKind X.prog X.w) ks (I.ok.hd hc) pl.isList (by rw [List.size_toArray, ← rv.length, List.length_map]) (each rv) (by unfold scanBound; omega) fin
  · obtain ⟨its, rv, pl, _⟩ := I.tuple hs
    exact set_of_tuple (knd := PySem.strKind X.prog X.w) ks (I.ok.hd hc) pl (by rw [List.size_toArray, ← rv.length, List.length_map]) (each rv) (by unfold scanBound; omega) fin
def rSortedS (P : Program) (w : World) : List V → Hp → VK → Prop := fun vs H Q => ∃ (a : Addr) (ls : List Str), vs = [.ref a] ∧ H a = some (SetGO P w a ls) ∧ ls.length ≤ sizeLine ∧ ∀ p, H p = none → Q (.ref p) (upd H p (.lst ((sortS ls).map V.str)))
theorem ge_strs {P : Program} {w : World} {es : List (Int × Value)} {ls : List Str} (g : EachIs (GE (PySem.strKind P w)) es ls) : EachIs (fun u (k : Str) => ∃ t, u = Value.str k t) (es.map (·.2)) ls := by
  induction g with
  | nil => exact .nil
  | @cons e k _ _ h _ ih =>
    refine .cons ?_ ih
    have h1 := h.1
    obtain ⟨e1, e2⟩ := e
    cases e2 <;> simp [PySem.strKind, Value.isStrOf] at h1
    exact ⟨_, by rw [h1]⟩
theorem strs_vals {out : List Value} {ms : List Str} (h : EachIs (fun u (k : Str) => ∃ t, u = Value.str k t) out ms) : Vals (ms.map V.str) out := by
  induction h with
  | nil => exact .nil
  | cons h _ ih => exact .cons h ih
theorem cr_sortedS (hc : X.calm = true) (hu : X.A.units + 64 < cLine) : CallR X (.builtin "sorted") (rSortedS X.prog X.w) := by
  intro pins s σ H vs us Q I r h
  obtain ⟨a, ls, rfl, ha, hz, q⟩ := h
  obtain ⟨u, rfl, ru⟩ := vals1 r
  obtain rfl : u = Value.ref a := ru
  obtain ⟨o, es, ep, t, ho, hx, hd, ge, nd, hb, hf, hr, hl⟩ := setGO_get I ha
  refine sorted_dr (C := fun cs => cs.Perm ls) (enc := fun k : Str => PyData.str k) (R := fun u (k : Str) => ∃ t, u = Value.str k t) (D := fun s' => (∀ b o, s.heap.get? b = some o → s'.heap.get? b = some o) ∧ s.heap.objs.size ≤ s'.heap.objs.size ∧ s'.gens = s.gens ∧ s'.os = s.os)
    (fun Pc hP => ?_) (fun cs hcs => ?_) fun out s1 h2 p n cs hD hp k2 hat hcs eo => ?_
  · refine collect_set (A := X.A.in1) (I.ok.hd hc) ⟨o, ho, hx.1, hd⟩ hf hb hr hl fun s' out k1 hs g1 o1 pm => ?_
    have e1 := ge_strs ge
    obtain ⟨cs, e2, pc⟩ := eachIs_permL pm e1
    exact hP _ s' cs ⟨k1, hs, g1, o1⟩ e2 (e2.mono fun u k ⟨t, e⟩ => ⟨[], by rw [e]; exact .str k t⟩) pc
  · refine ⟨fun d h1 d' h2 => ?_, .inr fun d h1 => ?_, by rw [hcs.length_eq]; exact hz, fun b hb => ?_⟩
    · obtain ⟨x, _, rfl⟩ := List.mem_map.mp h1
      obtain ⟨y, _, rfl⟩ := List.mem_map.mp h2
      rfl
    · obtain ⟨x, _, rfl⟩ := List.mem_map.mp h1
      exact ⟨(by intro z; cases z), (by intro ys z; cases z)⟩
    · show X.A.units + 2 + 0 < cLine
      omega
  · obtain ⟨k1, hs, g1, o1⟩ := hD
    rw [strLe_eq] at eo
    have eo' : EachIs (fun u (k : Str) => ∃ t, u = Value.str k t) out (sortS ls) := by rw [sortS_perm hcs.symm]; exact eo
    have rv := strs_vals eo'
    have hlen : ((sortS ls).map V.str).length ≤ sizeLine := by
      rw [List.length_map]
      unfold sortS
      rw [List.length_mergeSort]
      exact hz
    have hp' : s.heap.objs.size ≤ p := Nat.le_trans hs hp
    have kk : ∀ b o, s.heap.get? b = some o → h2.get? b = some o := fun b o e => k2 b o (k1 b o e)
    have hn : H p = none := I.hok.fresh hp'
    have J : Inv X pins σ (upd H p (.lst ((sortS ls).map V.str))) { s with heap := h2, gens := s1.gens, drawn := s1.drawn, toks := s1.toks } :=
      I.call (ch := []) (Un.laid kk hp' hn) (I.hok.laid kk hp' ⟨hlen, out, n, rv, hat⟩) (by rw [g1]; exact I.bare) (fun _ z => nomatch z)
    have e : ({ s1 with heap := h2 } : Shared) = { s with heap := h2, gens := s1.gens, drawn := s1.drawn, toks := s1.toks } := by
      cases s1
      cases s
      cases o1
      rfl
    rw [e]
    exact ⟨.ref p, _, J, rfl, q p hn⟩
def rLenSetS (P : Program) (w : World) : List V → Hp → VK → Prop := fun vs H Q => ∃ (a : Addr) (ls : List Str), vs = [.ref a] ∧ H a = some (SetGO P w a ls) ∧ Q (.int ls.length) H
theorem cr_lenSetS : CallR X (.builtin "len") (rLenSetS X.prog X.w) := by
  intro pins s σ H vs us Q I r h
  obtain ⟨a, ls, rfl, ha, q⟩ := h
  obtain ⟨u, rfl, ru⟩ := vals1 r
  obtain rfl : u = Value.ref a := ru
  obtain ⟨o, es, ep, t, ho, hx, hd, ge, nd, hb, hf, hr, hl⟩ := setGO_get I ha
  have ez : es.size = ls.length := ge_size ge
  exact call_len_set ho hx hd hf (by unfold scanBound at hb; omega) ⟨.int ls.length, H, I.tok _, ⟨_, by rw [ez]⟩, q⟩

/-! ### sorted(set(xs)), len(set(xs)) -/
def setP (x : PV) : Option (List Str) := match (itemsP x).bind strsP with
  | some ks => if ks.length < 4000 ∧ (∀ k ∈ ks, k.length ≤ sizeLine) then some (dedK ks) else none
  | none => none
def pSortedSet (x : PV) : Option PV := (setP x).map fun ks => .lst ((sortS ks).map .str)
def pLenSet (x : PV) : Option PV := (setP x).map fun ks => .int ks.length
theorem setP_some {x : PV} {ds : List Str} (h : setP x = some ds) : ∃ ks, (itemsP x).bind strsP = some ks ∧ ks.length < 4000 ∧ (∀ k ∈ ks, k.length ≤ sizeLine) ∧ ds = dedK ks := by
  unfold setP at h
  split at h
  · rename_i ks e
    split at h
    · rename_i c
      cases h
      exact ⟨ks, e, c.1, c.2, rfl⟩
    · cases h
  · cases h
theorem items_rep {K : PySem.W.Frag} {G H : Hp} {v : V} {x : PV} {ks : List Str} (e : Same G H) (r : Rep K cl G v x) (h : ∃ xs, itemsP x = some xs ∧ strsP xs = some ks) : ∃ a ws, v = .ref a ∧ (SqL K H a ws ∨ SqT K H a ws) ∧ ws = ks.map V.str := by
  obtain ⟨xs, h1, h2⟩ := h
  cases x <;> try (cases h1; done)
  all_goals cases h1
  · cases r with
    | tup hs _ rl => exact ⟨_, _, rfl, .inr (sqt_mono e hs), strs_rep h2 rl⟩
  · cases r with
    | lst hs _ rl => exact ⟨_, _, rfl, .inl (SqL.of (e _ _ hs)), strs_rep h2 rl⟩
theorem repL_strs {K : PySem.W.Frag} {G : Hp} : ∀ {ks : List Str}, (∀ k ∈ ks, k.length ≤ sizeLine) → RepL K cl G (ks.map V.str) (ks.map PV.str)
  | [], _ => .nil
  | k :: ks, h => .cons (.str _ (h k List.mem_cons_self)) (repL_strs fun j hj => h j (List.mem_cons_of_mem _ hj))
theorem fm_sortedSet {e : Expr} {m : M PV} {p p2 q : Pos} (hc : X.calm = true) (hu : X.A.units + 64 < cLine) (hm : X.mg "sorted" = none) (hm2 : X.mg "set" = none) (h : EM X cl W e m) (hg : Gl X "sorted" := by rfl) (hg2 : Gl X "set" := by rfl)
    (he : starEach [e] X.env = (false, eval e X.env) :: starEach [] X.env := by rfl) (he2 : starEach [.Call (.Name "set" p2) [e] [] q] X.env = (false, eval (.Call (.Name "set" p2) [e] [] q) X.env) :: starEach [] X.env := by rfl) (hpl : (backTo pos (starEach [] X.env)).any (·.1) = false := by rfl) :
    FM X cl W (.Call (.Name "sorted" p) [.Call (.Name "set" p2) [e] [] q] [] pos) (mUn pSortedSet m) := by
  obtain ⟨t, pe, d⟩ := h
  refine ⟨_, pe_callB (cr_sortedS hc hu) hg hm (by rfl) (pa_cons (pe_callTy (cr_setS hc) hg2 hm2 (by rfl) (pa_cons pe pa_nil he) (by decide) (by decide) he (by rfl)) pa_nil he2) (by decide) (by decide) he2 hpl, fun F G H σ S rr Q st hm hp => ?_⟩
  refine d.stepF st hm hp fun x S1 v G1 H1 e1 hm1 s1 st1 rv hp1 => ?_
  obtain ⟨z, ez, rfl⟩ := lift_eq hm1
  unfold pSortedSet at ez
  cases es : setP x with
  | none => rw [es] at ez; cases ez
  | some ds =>
    rw [es] at ez
    cases ez
    obtain ⟨ks, ek, hz, hs, rfl⟩ := setP_some es
    obtain ⟨a, ws, ev, hsq, rl⟩ := items_rep st1.ex rv (Option.bind_eq_some_iff.mp ek)
    subst ev
    refine ⟨a, ks, rfl, by rw [← rl]; exact hsq, hz, fun p0 ls hn g => ?_⟩
    have pl := gotK_perm g
    have hlen : ls.length ≤ sizeLine := by have := g.2.2; rw [sizeLine_eq]; omega
    refine ⟨p0, ls, rfl, upd_same, hlen, fun p1 hn1 => ?_⟩
    rw [sortS_perm pl]
    refine postF_new hp1 (st1.allocO hn) hn1 ⟨_, upd_same, ?_, repL_strs fun k hk => ?_⟩
    · rw [List.length_map, ← sortS_perm pl]
      unfold sortS
      rw [List.length_mergeSort]
      exact hlen
    · unfold sortS at hk
      exact hs k (mem_dedK.mp (List.mem_mergeSort.mp hk))
theorem em_lenSet {e : Expr} {m : M PV} {p p2 q : Pos} (hc : X.calm = true) (hm : X.mg "len" = none) (hm2 : X.mg "set" = none) (h : EM X cl W e m) (hg : Gl X "len" := by rfl) (hg2 : Gl X "set" := by rfl)
    (he : starEach [e] X.env = (false, eval e X.env) :: starEach [] X.env := by rfl) (he2 : starEach [.Call (.Name "set" p2) [e] [] q] X.env = (false, eval (.Call (.Name "set" p2) [e] [] q) X.env) :: starEach [] X.env := by rfl) (hpl : (backTo pos (starEach [] X.env)).any (·.1) = false := by rfl) :
    EM X cl W (.Call (.Name "len" p) [.Call (.Name "set" p2) [e] [] q] [] pos) (mUn pLenSet m) := by
  obtain ⟨t, pe, d⟩ := h
  refine ⟨_, pe_callB cr_lenSetS hg hm (by rfl) (pa_cons (pe_callTy (cr_setS hc) hg2 hm2 (by rfl) (pa_cons pe pa_nil he) (by decide) (by decide) he (by rfl)) pa_nil he2) (by decide) (by decide) he2 hpl, fun F G H σ S rr Q st hm hp => ?_⟩
  refine d.step (R2 := RV X.K cl) st hm hp fun x S1 v G1 H1 hm1 s1 st1 rv hp1 => ?_
  obtain ⟨z, ez, rfl⟩ := lift_eq hm1
  unfold pLenSet at ez
  cases es : setP x with
  | none => rw [es] at ez; cases ez
  | some ds =>
    rw [es] at ez
    cases ez
    obtain ⟨ks, ek, hz, hs, rfl⟩ := setP_some es
    obtain ⟨a, ws, ev, hsq, rl⟩ := items_rep st1.ex rv (Option.bind_eq_some_iff.mp ek)
    subst ev
    refine ⟨a, ks, rfl, by rw [← rl]; exact hsq, hz, fun p0 ls hn g => ?_⟩
    refine ⟨p0, ls, rfl, upd_same, ?_⟩
    rw [(gotK_perm g).length_eq]
    exact hp1 _ _ _ (Same.refl _) (st1.allocO hn) (.int _)
end
end Kp
set_option Elab.async false
set_option linter.all false
set_option maxRecDepth 100000
set_option maxHeartbeats 3200000
namespace Kp
open PySem PySem.Spec PyProof.Rows L2

/-! ### iter(t), t a tuple -/
def ItT (t it : Addr) : HO := .ext fun h => h.IsTupleIter it t 0
theorem itT_ok {P : Program} {w : World} {H : Hp} {h : Heap} {t it : Addr} (e : h.IsTupleIter it t 0) : ObjOk P w H h it (ItT t it) := by
  have ⟨o, ho, _⟩ := e
  exact ⟨e, ⟨o, ho⟩, fun h1 h2 p k => p.at k⟩
section
variable {X : Cx} {cl : Nat → Addr}
def rIterT (K : PySem.W.Frag) : List V → Hp → VK → Prop := fun xs H Q => ∃ (t : Addr) (zs : List V), xs = [.ref t] ∧ SqT K H t zs ∧ ∀ it, H it = none → Q (.ref it) (upd H it (ItT t it))
theorem call_iterT : CallR X (.builtin "iter") (rIterT X.K) := by
  intro pins s σ H xs us Q I r h
  obtain ⟨t, zs, rfl, hq, q⟩ := h
  obtain ⟨u, rfl, ru⟩ := vals1 r
  obtain rfl : u = Value.ref t := ru
  obtain ⟨its, rv, pl, _⟩ := I.tuple hq
  refine Calls.call_function_entry (by decide +kernel) (by decide +kernel) PySem.W.kdk_entry_iter (PySem.W.kdk_args_iter _) ?_
  unfold Builtin.«iter»
  refine wpAny_bind (m := someArgs "iter" 1 2 _) (wpAny_of_eq (a := [Value.ref t]) (by first | rfl | kernel_rfl!) ?_)
  show wpAny _ _ (pyIter (.ref t) >>= _) _ _ _
  refine wpAny_bind (wpAny_pyIter_tuple pl (wpAny_pure ⟨_, rfl, ?_⟩))
  exact ⟨.ref _, _, I.laid (t' := s.toks) (fun b u e => Heap.get?_push_of_some _ e) (Nat.le_refl _) (itT_ok ⟨_, Heap.get?_push_size _ rfl, rfl, rfl⟩), rfl, q _ (I.hok.fresh (Nat.le_refl _))⟩
/-- what __iter__ promises: the iterator of a tuple of the object's -/
def fldT (f : Str) (fs : List (Str × PV)) : Option (List PV) := match fs.lookup f with
  | some (.tup ys) => some ys
  | _ => none
def spIter (K : PySem.W.Frag) (cl : Nat → Addr) (c : Nat) (g : List (Str × PV) → Option (List PV)) : Sp := fun vs H Q _ => ∃ (a : Addr) (G : Hp) (fs : List (Str × PV)) (ys : List PV), vs = [.ref a] ∧ Same G H ∧ Rep K cl G (.ref a) (.obj c fs) ∧ g fs = some ys ∧
  ∀ (t it : Addr) (ws : List V), H it = none → TupAt K G t ws → ws.length ≤ sizeLine → RepL K cl G ws ys → Q (.ref it) (upd H it (ItT t it))
end
section
variable {P : Program} {w : World} {K : PySem.W.Frag} {mg : Str → Option Value} {base : Heap} {cl : Nat → Addr}
theorem fnIter {x qual f : Str} {st : Stmt} {fa : Addr} {fd : FuncData} {N : List Str} {k c : Nat} {self : Str} {p1 p2 p3 p4 p5 : Pos} (F : Fun K x qual st fa fd) (S : FnScope N [self] (defScope st)) (hC : Cls K (cl c)) (hn : NoAttr K (cl c) f)
    (hbody : defBody st = [.Return (some (.Call (.Name "iter" p1) [.Attribute (.Name self p2) f p3] [] p4)) p5])
    (hb : ∀ (cdv : Value) (A : Around) (outer : List Env) (s : Shared) (H : Hp) (E : XK), PE (cxOf (L2N.CX P w) P w K mg base N qual (defScope st) fa cdv A outer s H E) (.Call (.Name "iter" p1) [.Attribute (.Name self p2) f p3] [] p4) (tCB (rIterT K) (tCons (tFld K (tVar 0) f) tNil))) :
    FnOk P w K mg base (L2N.CX P w) (k + 1) fa fd [self] (spIter K cl c (fldT f)) := by
  obtain ⟨oc, od, kV, doc, pm, an, cdv, ct, osl, rfl, lk, hcd⟩ := F.ex
  refine fn_of lk hcd S (fun vs H Q E h => by obtain ⟨a, _, _, _, rfl, _⟩ := h; rfl) fun A outer s H vs Q E hr hsp => ?_
  rw [hbody]
  refine ⟨_, pss_one (ps_ret (hb cdv A outer s H E)), ?_⟩
  obtain ⟨a, G, fs, ys, rfl, e, r, eg, q⟩ := hsp
  unfold fldT at eg
  split at eg <;> try (cases eg; done)
  rename_i zs ez
  cases eg
  cases r with
  | obj h1 h2 =>
    obtain ⟨v, ev, rv⟩ := h2.lookup ez
    cases rv with
    | tup ht hz rl =>
      exact ⟨.ref a, start_get rfl, a, _, _, _, _, rfl, e _ _ h1, hC, hn, ev, _, _, rfl, sqt_mono e ht, fun it hi => q _ it _ hi ht hz rl⟩
end

/-! ### list(o) of an own object, by its own __iter__ and __len__ -/
section
variable {X : Cx} {cl : Nat → Addr}
theorem run_u {k : Nat} {f : Addr} {fd : FuncData} {ps : List Str} {sp : Sp} {A' : Around} {pins : List (Addr × Obj)} {σ : L2.St} {H : Hp} {s : Shared} {Q : VK} {us : List Value} {vs : List V} {E' : Value → Shared → Prop} (hA : A'.frames = X.A.frames) (hr : Room k A')
    (F : FnOk X.prog X.w X.K X.mg X.base (L2N.CX X.prog X.w) k f fd ps sp) (hb : Binds X.K fd ps []) (I : Inv X pins σ H s) (r : Vals vs us) (h : sp vs H Q EN) : wpAny (model X.prog X.w) A' (call (.ref f) us) (CE X.stack X.prog X.w H s Q) E' s := by
  have hl : us.length = ps.length := by rw [← r.length]; exact F.len _ _ _ _ h
  have b := hb s us I.kIn (by rw [List.append_nil]; exact hl)
  rw [List.append_nil] at b
  have e0 : Env0 X.prog X.w X.K X.mg X.base A' X.stack s H := by
    have e := I.env0
    exact ⟨hA.trans e.frames, e.mod, e.bs, e.bsz, e.funs, e.frf, e.hok, e.bare⟩
  refine wpAny_call (codeAny_mono (F.run A' X.stack s H ⟨us, []⟩ us vs Q EN hr e0 b r h) fun q s' hq => ?_)
  cases q with
  | error e =>
    obtain ⟨_, _, _, _, _, _, _, _, _, _, _, _, no⟩ := hq
    exact no.elim
  | ok fl =>
    cases fl <;> first | exact hq | exact False.elim hq
/-- the length is asked for -/
theorem hintO {k : Nat} {f C dx a : Addr} {fs : List (Str × V)} {fd : FuncData} {ps : List Str} {sp : Sp} {A' : Around} {pins : List (Addr × Obj)} {σ : L2.St} {H : Hp} {s : Shared} {E' : Value → Shared → Prop} {Q : Bool → Shared → Prop} (hs : PySem.W.findIn X.K (.ref C) "__len__" = some (some (.ref f))) (hf : PySem.W.isFn X.K (.ref f) = true) (hA : A'.frames = X.A.frames) (hr : Room (k + 1) A')
    (F : FnOk X.prog X.w X.K X.mg X.base (L2N.CX X.prog X.w) k f fd ps sp) (hb : Binds X.K fd ps []) (I : Inv X pins σ H s) (ha : H a = some (.ins C dx fs)) {R : Int → Hp → Prop} (h : sp [.ref a] H (fun v H' => ∃ n : Int, v = .int n ∧ (0 ≤ n ∧ n ≤ sizeLine) ∧ R n H') EN)
    (hQ : ∀ (n : Int) (H' : Hp) (s' : Shared), s'.os = s.os → AllBare s'.gens → Un (frs X.stack) [] H H' s.heap s'.heap → HOk X.prog X.w H' s'.heap → R n H' → Q (n != 0) s') :
    wpAny (model X.prog X.w) A' (Builtin.List.listLengthHint (.ref a)) Q E' s := by
  obtain ⟨ox, od, J, _⟩ := ins_inst I ha
  obtain ⟨m0, fr⟩ := I.fr
  unfold Builtin.List.listLengthHint
  refine wpAny_bind (wpAny_bind (J.type.here ((PySem.W.looks_findIn I.kIn hs).here ?_)))
  refine PySem.W.KFB.if_not rfl ?_
  refine PySem.W.KFB.if_so rfl ?_
  refine wpAny_bind (wpAny_rule ?_)
  refine wpAny_bind (wpAny_attempt (PySem.W.len_K fr I.ok.mod.kin J hs hf (wpAny_mono (run_u (vs := [V.ref a]) (us := [Value.ref a]) hA hr.in1 F hb I (.cons rfl .nil) h) (fun u s' hu => ?_) fun _ _ z => z)))
  obtain ⟨v, H', os, bare, un, hok, rv, n, ev, hn, hR⟩ := hu
  subst ev
  obtain ⟨tk, rfl⟩ := rv
  have big : (sizeLine : Int) < 2 ^ 63 := by rw [sizeLine_eq]; decide
  refine ⟨⟨hn.1, by omega⟩, ?_⟩
  show wpAny _ _ _ _ _ _
  refine wpAny_bind (wpAny_pure ?_)
  have lt : Builtin.List.listTooLong n.toNat = false := by
    unfold Builtin.List.listTooLong
    rw [decide_eq_false_iff_not]
    omega
  show wpAny _ _ (if Builtin.List.listTooLong n.toNat = true then _ else _) _ _ _
  rw [lt, if_neg Bool.false_ne_true]
  exact wpAny_pure (hQ n H' _ os bare un hok hR)
end
end Kp
set_option Elab.async false
set_option linter.all false
set_option maxRecDepth 100000
set_option maxHeartbeats 3200000
namespace Kp
open PySem PySem.Spec PyProof.Rows L2

section
variable {X : Cx} {cl : Nat → Addr} {W : WX} {pos : Pos}
/-- forgotten -/
def offH (H : Hp) (a : Addr) : Hp := fun b => if b = a then none else H b
theorem offH_same {H : Hp} {a : Addr} : offH H a a = none := if_pos rfl
theorem offH_ne {H : Hp} {a b : Addr} (h : b ≠ a) : offH H a b = H b := if_neg h
theorem inv_next {pins : List (Addr × Obj)} {σ : L2.St} {H H' : Hp} {s s' : Shared} (I : Inv X pins σ H s) (os : s'.os = s.os) (bare : AllBare s'.gens) (un : Un (frs X.stack) [] H H' s.heap s'.heap) (hok : HOk X.prog X.w H' s'.heap) : Inv X pins σ H' s' := by
  obtain ⟨hh, g, d, t, o⟩ := s'
  obtain rfl : o = s.os := os
  exact I.call (h' := hh) (g' := g) (d' := d) (t' := t) (ch := []) un hok bare (fun b z => absurd z (by simp))
/-- list(o): the items in a new list; all that was tracked stays -/
def rListO (K : PySem.W.Frag) (cl : Nat → Addr) (c : Nat) (g : List (Str × PV) → Option (List PV)) (gl : List PV → Option RO) : List V → Hp → VK → Prop := fun vs H Q => ∃ (a : Addr) (G : Hp) (fs : List (Str × PV)) (ys : List PV) (n : Int), vs = [.ref a] ∧ Same G H ∧ Rep K cl G (.ref a) (.obj c fs) ∧ g fs = some ys ∧ gl [.obj c fs] = some (.ret (.int n)) ∧ (0 ≤ n ∧ n ≤ sizeLine) ∧
  ∀ (q : Addr) (ws : List V) (H' : Hp), H q = none → Same H H' → H' q = some (.lst ws) → ws.length ≤ sizeLine → RepL K cl G ws ys → Q (.ref q) H'
theorem call_listO {k c : Nat} {fi fl : Addr} {fdI fdL : FuncData} {psI psL : List Str} {g : List (Str × PV) → Option (List PV)} {gl : List PV → Option RO} (hc : X.calm = true) (hit : PySem.W.findIn X.K (.ref (cl c)) "__iter__" = some (some (.ref fi))) (hiF : PySem.W.isFn X.K (.ref fi) = true)
    (FI : FnOk X.prog X.w X.K X.mg X.base (L2N.CX X.prog X.w) k fi fdI psI (spIter X.K cl c g)) (bI : Binds X.K fdI psI []) (hln : PySem.W.findIn X.K (.ref (cl c)) "__len__" = some (some (.ref fl))) (hlF : PySem.W.isFn X.K (.ref fl) = true)
    (FL : FnOk X.prog X.w X.K X.mg X.base (L2N.CX X.prog X.w) k fl fdL psL (spP X.K cl 1 gl)) (bL : Binds X.K fdL psL []) (hr : Room (k + 3) X.A) : CallR X (.type "list") (rListO X.K cl c g gl) := by
  intro pins s σ H vs us Q I r h
  obtain ⟨a, G, fs, ys, n, rfl, eG, ro, eg, en, hn, fin⟩ := h
  obtain ⟨u, rfl, ru⟩ := vals1 r
  obtain rfl : u = Value.ref a := ru
  obtain ⟨dx, gs, eA⟩ : ∃ dx gs, G a = some (.ins (cl c) dx gs) := by
    cases ro with
    | obj h1 _ => exact ⟨_, _, h1⟩
  have hh : X.A.handled = none := I.ok.hd hc
  refine callType_codes (Q₁ := fun ob s1 => ob = .ref s.heap.objs.size ∧ s1 = { s with heap := s.heap.push { cls := .type "list", data := .seq #[] } }) PySem.F.called_list (PySem.F.typeCall_list_1 _) PySem.F.entry_list_init (code_list_new _ ⟨rfl, rfl⟩) fun ob s1 e1 => ?_
  obtain ⟨rfl, rfl⟩ := e1
  have atQ : (s.heap.push { cls := .type "list", data := .seq #[] }).get? s.heap.objs.size = some { cls := .type "list", data := .seq #[] } := Heap.get?_push_size _ rfl
  refine ⟨⟨_, atQ, rfl⟩, PySem.F.args_list_init_2 _ _, ?_⟩
  generalize eq : s.heap.objs.size = q at *
  have nq : H q = none := by rw [← eq]; exact I.hok.fresh (Nat.le_refl _)
  have I1 : Inv X pins σ (upd H q (.lst [])) { s with heap := s.heap.push { cls := .type "list", data := .seq #[] } } := by
    rw [← eq]
    exact I.lnew (its := []) (t' := s.toks) .nil (Nat.zero_le _)
  show wpAny _ _ (do let old ← Builtin.List.listItems (.ref q); Builtin.List.listUpdate (.ref q) (fun _ => #[]); letGo old.toList.reverse; Builtin.List.listExtendWith (.ref q) (.ref a) .none) _ _ _
  refine wpAny_bind ?_
  unfold Builtin.List.listItems
  refine wpAny_bind (wpAny_seqItems atQ rfl (wpAny_pure ?_))
  show wpAny _ _ (updateSeq q (fun _ => #[]) >>= fun _ => letGo (#[] : Array Value).toList.reverse >>= fun _ => Builtin.List.listExtendWith (.ref q) (.ref a) .none) _ _ _
  refine wpAny_bind (wpAny_updateSeq atQ rfl (wpAny_bind (wpAny_letGo ?_)))
  have I2 := I1.lset (f := fun _ => #[]) (its := []) (its' := []) (ys := []) (t' := s.toks) upd_same atQ rfl .nil (Nat.zero_le _)
  rw [upd_upd] at I2
  have U1 : Un (frs X.stack) [] H (upd H q (.lst [])) s.heap ((s.heap.push { cls := .type "list", data := .seq #[] }).update q (Obj.mapSeq fun _ => #[])) := by
    have u := Un.laid (fs := frs X.stack) (ex := []) (h := s.heap) (h' := (s.heap.push { cls := .type "list", data := .seq #[] }).update q (Obj.mapSeq fun _ => #[])) (o := HO.lst []) (fun b o e => ?_) (Nat.le_of_eq eq) nq
    · exact u
    · have : b ≠ q := by rw [← eq]; exact Nat.ne_of_lt (Heap.lt_size e)
      rw [Heap.get?_update_other _ _ (Ne.symm this)]
      exact Heap.get?_push_of_some _ e
  generalize eh2 : (s.heap.push { cls := .type "list", data := .seq #[] }).update q (Obj.mapSeq fun _ => #[]) = h2 at *
  have a2 : upd H q (.lst []) a = some (.ins (cl c) dx gs) := by rw [upd_ne (ne_of_none (eG _ _ eA) nq)]; exact eG _ _ eA
  have G2 : Same G (upd H q (.lst [])) := eG.trans (same_new nq)
  have neq : q ≠ a := ne_of upd_same a2 (fun z => nomatch z)
  obtain ⟨ox, od, J, _⟩ := ins_inst I2 a2
  obtain ⟨m0, fr⟩ := I2.fr
  unfold Builtin.List.listExtendWith
  refine wpAny_bind (J.type.here ?_)
  have c1 : Builtin.List.listSameRef (.ref q) (.ref a) = false := by simp [Builtin.List.listSameRef, neq]
  have c2 : (Value.ref (cl c) == Value.type "list") = false := rfl
  have c3 : (Value.ref (cl c) == Value.type "tuple") = false := rfl
  simp only [c1, c2, c3, Bool.or_false, Bool.false_eq_true, if_false]
  refine wpAny_bind (PySem.W.owit_iter fr I2.ok.mod.kin J hit hiF ?_)
  have room : Room (k + 1) X.A.in1.in1 := hr.in1.in1
  refine wpAny_mono (run_u (vs := [V.ref a]) (us := [Value.ref a]) (Q := fun v H' => ∃ t it ws, v = .ref it ∧ upd H q (.lst []) it = none ∧ TupAt X.K G t ws ∧ ws.length ≤ sizeLine ∧ RepL X.K cl G ws ys ∧ H' = upd (upd H q (.lst [])) it (ItT t it)) rfl (room.mono (Nat.le_succ _)) FI bI I2 (.cons rfl .nil) ⟨a, G, fs, ys, rfl, G2, ro, eg, fun t it ws h1 h3 h4 h5 => ⟨t, it, ws, rfl, h1, h3, h4, h5, rfl⟩⟩) (fun u s3 hu => ?_) fun _ _ z => z
  obtain ⟨v, H3, os3, bare3, un3, hok3, rv, t, it, ws, ev, nit, ht, hz, rl, eH3⟩ := hu
  subst ev
  obtain rfl : u = Value.ref it := rv
  have I3 : Inv X pins σ H3 s3 := inv_next I2 os3 bare3 un3 hok3
  have U3 := U1.trans un3
  have it3 : H3 it = some (ItT t it) := by rw [eH3, upd_same]
  have gIt : s3.heap.IsTupleIter it t 0 := (I3.hok it _ it3).1
  have q3 : H3 q = some (.lst []) := by rw [eH3, upd_ne (fun z => by rw [← z, upd_same] at nit; cases nit), upd_same]
  have S3 : Same (upd H q (.lst [])) H3 := by rw [eH3]; exact same_new nit
  have a3 : H3 a = some (.ins (cl c) dx gs) := S3 _ _ a2
  show PySem.W.OwitIt _ _ _ _ _ _
  unfold PySem.W.OwitIt
  refine wpAny_specialOf (name := Str.ofString "__next__") gIt.typeIs PySem.F.slot_tuple_iterator_next.lookup ?_
  refine wpAny_bind (wpAny_holding ?_)
  refine hintO (R := fun _ H' => ∃ G', Grown G H3 G' H') hln hlF rfl room (FL.mono (Nat.le_refl _)) bL I3 a3 (spP_quiet' (xs := [.obj c fs]) (G2.trans S3) (.cons ro .nil) rfl en fun w G' H' gr r' => by cases r'; exact ⟨n, rfl, hn, G', gr⟩) fun n' H4 s4 os4 bare4 un4 hok4 ⟨G', gr⟩ => ?_
  have U4 := U3.trans un4
  have ne_it : it ≠ q := fun z => by rw [z, upd_same] at nit; cases nit
  have Hit : H it = none := by rw [upd_ne ne_it] at nit; exact nit
  have q4 : H4 q = some (.lst []) := gr.h _ _ q3
  have it4 : H4 it = some (ItT t it) := gr.h _ _ it3
  have i4 : s4.heap.IsTupleIter it t 0 := (hok4 it _ it4).1
  obtain ⟨_, vs0, k4, r0, e4⟩ := hok4 q _ q4
  cases r0
  have I4 : Inv X pins σ H4 s4 := inv_next I3 os4 bare4 un4 hok4
  have sG4 : Same G H4 := (G2.trans S3).trans gr.h
  obtain ⟨its, rvt, plt, _⟩ := I4.tuple (sqt_mono sG4 ht)
  have plt' : s4.heap.IsTuple t its.toArray := plt
  have lenI : its.length = ws.length := rvt.length.symm
  have net : t ≠ it := fun z => by
    obtain ⟨o, ho, hcl, _⟩ := plt
    obtain ⟨o', ho', hcl', _⟩ := i4
    rw [z, ho'] at ho
    cases ho
    rw [hcl] at hcl'
    injection hcl' with y
    exact absurd y (by decide)
  have neqt : q ≠ t := fun z => by
    obtain ⟨o, ho, hcl, _⟩ := plt
    rw [← z, e4] at ho
    cases ho
    injection hcl with y
    exact absurd y (by decide)
  have loop : ∀ (s5 : Shared) (c5 : Nat), s5.heap.get? q = some { cls := .type "list", data := .seq #[] c5 } → (∀ b o, b ≠ q → s4.heap.get? b = some o → s5.heap.get? b = some o) → s5.gens = s4.gens → s5.os = s4.os →
      codeAny (model X.prog X.w) X.A.in1 (.builtin "list.extend.loop" ⟨[.ref q, .ref it, .none], []⟩) (wants (fun r s2 => r = .none ∧ EP X pins σ Q (.ref q) s2) X.xe) s5 := fun s5 c5 e5 k5 g5 o5 => by
    have it5 : s5.heap.IsTupleIter it t 0 := i4.at fun o e => k5 it o ne_it e
    have t5 : s5.heap.IsTuple t its.toArray := plt'.at fun o e => k5 t o (Ne.symm neqt) e
    refine PySem.codeAny_extend_loopS (A := X.A.in1) (Walks.tuple (A := X.A.in1.in1) hh it t net its.toArray).toS (by rw [List.size_toArray, lenI]; exact hz) q (by simp only [List.mem_cons, List.not_mem_nil, or_false, not_or]; exact ⟨Ne.symm ne_it, neqt⟩) .none _ 0 s5 #[] c5 rfl (Nat.zero_le _) ⟨it5, t5⟩ e5 (ItemsOf.nil _) fun s6 acc c6 mv e6 hacc => ?_
    have eacc : acc.toList = its := items_out (out := its) (by rw [List.size_toArray] at hacc; exact hacc) fun j v hv => by simpa using hv
    -- all but q and the iterator stands
    have k6 : ∀ b o, b ≠ q → b ≠ it → s4.heap.get? b = some o → s6.heap.get? b = some o := fun b o n1 n2 e => mv.heap b o (by simp only [List.mem_cons, List.not_mem_nil, or_false, not_or]; exact ⟨n1, n2⟩) (k5 b o n1 e)
    have nq' : ∀ {b : Addr} {o : Obj}, s.heap.get? b = some o → b ≠ q := fun {b o} e => by rw [← eq]; exact Nat.ne_of_lt (Heap.lt_size e)
    have nit' : ∀ {b : Addr} {o : Obj}, s.heap.get? b = some o → b ≠ it := fun {b o} e z => by
      have f := U3.free b o e (by rw [z]; exact Hit) (by simp)
      rw [z, it3] at f
      cases f
    have H6ne : ∀ {b : Addr}, b ≠ q → b ≠ it → upd (offH H4 it) q (.lst ws) b = H4 b := fun {b} n1 n2 => by rw [upd_ne n1, offH_ne n2]
    have sHH : ∀ b o, H b = some o → b ≠ q ∧ b ≠ it ∧ H4 b = some o := fun b o e => by
      have n1 : b ≠ q := ne_of_none e nq
      have n2 : b ≠ it := ne_of_none e Hit
      exact ⟨n1, n2, gr.h _ _ (S3 _ _ (by rw [upd_ne n1]; exact e))⟩
    have U6 : Un (frs X.stack) [] H (upd (offH H4 it) q (.lst ws)) s.heap s6.heap := by
      refine ⟨fun b o e n hb hx => k6 b o (nq' e) (nit' e) (U4.keep b o e n hb hx), fun b o e n hb hx => ?_, fun b o e n hx => ?_, fun b o e hx => ?_, fun b xs e => ?_, fun b o u e => ?_, fun b ps e => ?_⟩
      · obtain ⟨sl, z⟩ := U4.slot b o e n hb hx
        exact ⟨sl, k6 b _ (nq' e) (nit' e) z⟩
      · rw [H6ne (nq' e) (nit' e)]; exact U4.free b o e n hx
      · obtain ⟨o', z⟩ := U4.there b o e hx
        exact ⟨o', k6 b _ (nq' e) (nit' e) z⟩
      · obtain ⟨n1, n2, z⟩ := sHH b _ e
        rw [H6ne n1 n2]; exact z
      · obtain ⟨n1, n2, z⟩ := sHH b _ e
        rw [H6ne n1 n2]; exact z
      · obtain ⟨n1, n2, z⟩ := sHH b _ e
        refine ⟨#[], ?_⟩
        rw [H6ne n1 n2, z]
        simp
    have hok6 : HOk X.prog X.w (upd (offH H4 it) q (.lst ws)) s6.heap := fun b u e => by
      by_cases hb : b = q
      · subst hb
        rw [upd_same] at e
        cases e
        exact ⟨hz, its, c6, rvt, by rw [← eacc]; simpa using e6⟩
      · rw [upd_ne hb] at e
        have hi : b ≠ it := fun z => by rw [z, offH_same] at e; cases e
        rw [offH_ne hi] at e
        have nown : ∀ {c : Addr} {o : HO}, H4 c = some o → (∀ x, o ≠ .lst x) → (∀ p, o ≠ .ext p) → c ≠ q ∧ c ≠ it := fun {c o} z n1 n2 => ⟨fun y => by rw [y, q4] at z; exact n1 _ (Option.some.inj z).symm, fun y => by rw [y, it4] at z; exact n2 _ (Option.some.inj z).symm⟩
        refine (hok4 b u e).stay (fun c v hc' z => ?_) (fun c z => ?_) fun c xs z => ?_
        · rcases hc' with y | y
          · rw [y] at z ⊢; exact k6 b v hb hi z
          · obtain ⟨n1, n2⟩ := nown y (fun _ z => nomatch z) (fun _ z => nomatch z)
            exact k6 c v n1 n2 z
        · obtain ⟨n1, n2⟩ := nown z (fun _ z => nomatch z) (fun _ z => nomatch z)
          rw [H6ne n1 n2]; exact z
        · obtain ⟨n1, n2⟩ := nown z (fun _ z => nomatch z) (fun _ z => nomatch z)
          rw [H6ne n1 n2]; exact z
    refine ⟨rfl, .ref q, upd (offH H4 it) q (.lst ws), ?_, rfl, fin q ws _ nq (fun b o e => ?_) upd_same hz rl⟩
    · have g6 : s6.gens = s4.gens := Eq.trans mv.gens g5
      have o6 : s6.os = s.os := (mv.os.trans o5).trans (os4.trans os3)
      exact inv_next I o6 (by rw [g6]; exact bare4) U6 hok6
    · obtain ⟨n1, n2, z⟩ := sHH b o e
      rw [H6ne n1 n2]; exact z
  refine wpAny_ite_split (fun _ => ?_) (fun _ => wpAny_pure ⟨plainId_quiet PySem.F.plain_extend_loop _, loop s4 k4 e4 (fun _ _ _ e => e) rfl rfl⟩)
  refine wpAny_bind (wpAny_rule (wpAny_bind ?_))
  show wpAny _ _ (updateSeq q (·.push .none) >>= fun _ => updateSeq q (·.pop)) _ _ _
  refine wpAny_bind (wpAny_updateSeq e4 rfl ?_)
  have e5 := Heap.get?_update_self (Obj.mapSeq (·.push Value.none)) e4 rfl
  refine wpAny_updateSeq e5 rfl ?_
  have e6 := Heap.get?_update_self (Obj.mapSeq (·.pop)) e5 rfl
  exact wpAny_pure ⟨plainId_quiet PySem.F.plain_extend_loop _, loop _ _ e6 (fun b o n e => (Heap.get?_update_other _ _ (Ne.symm n)).trans ((Heap.get?_update_other _ _ (Ne.symm n)).trans e)) rfl rfl⟩
end
end Kp
set_option Elab.async false
set_option linter.all false
set_option maxRecDepth 100000
set_option maxHeartbeats 2000000
namespace Kp
open PySem PySem.Spec PyProof.Rows L2

theorem StOk.more {K : PySem.W.Frag} {cl : Nat → Addr} {F : Fr} {G H H' : Hp} {σ : L2.St} {S : Sto} (k : StOk K cl F G H σ S) (e : Same H H') : StOk K cl F G H' σ S := by
  have eq : ∀ {a : Addr} {x : PV}, OwnAt K cl G H a x → H' a = H a := fun {a x} q => by
    obtain ⟨o, h⟩ := q.there
    rw [h]; exact e _ _ h
  refine ⟨k.ex.trans e, k.ex0, k.len, k.val, fun i x h => ?_, fun i x h => ?_, k.dist, k.io, k.ioh, k.iod, fun a o h n => e _ _ (k.frame a o h n), k.gnew, fun a o h => ?_⟩
  · obtain ⟨a, e1, ga, h0, q⟩ := k.own i x h
    exact ⟨a, e1, ga, h0, q.mono (Same.refl _) (eq q)⟩
  · obtain ⟨a, e1, ga, h0, q⟩ := k.inn i x h
    exact ⟨a, e1, ga, h0, q.mono (Same.refl _) (eq q)⟩
  · obtain ⟨r1, r2, r3, r4⟩ := k.rsv a o h
    exact ⟨e _ _ r1, r2, r3, r4⟩
section
variable {X : Cx} {cl : Nat → Addr} {W : WX} {pos : Pos}
def roLen : Option RO → Bool
  | some (.ret (.int n)) => decide (0 ≤ n ∧ n ≤ sizeLine)
  | _ => false
def pListO (c : Nat) (g : List (Str × PV) → Option (List PV)) (gl : List PV → Option RO) (x : PV) : Option PV := match x with
  | .obj d fs => if d = c ∧ roLen (gl [.obj d fs]) = true then (g fs).map PV.lst else none
  | _ => none
theorem roLen_some {r : Option RO} (h : roLen r = true) : ∃ n : Int, r = some (.ret (.int n)) ∧ 0 ≤ n ∧ n ≤ sizeLine := by
  unfold roLen at h
  split at h
  · rename_i n
    exact ⟨n, rfl, of_decide_eq_true h⟩
  · cases h
theorem fm_listO {k c : Nat} {fi fl : Addr} {fdI fdL : FuncData} {psI psL : List Str} {g : List (Str × PV) → Option (List PV)} {gl : List PV → Option RO} {e : Expr} {m : M PV} {p : Pos} (hc : X.calm = true) (hit : PySem.W.findIn X.K (.ref (cl c)) "__iter__" = some (some (.ref fi))) (hiF : PySem.W.isFn X.K (.ref fi) = true)
    (FI : FnOk X.prog X.w X.K X.mg X.base (L2N.CX X.prog X.w) k fi fdI psI (spIter X.K cl c g)) (bI : Binds X.K fdI psI []) (hln : PySem.W.findIn X.K (.ref (cl c)) "__len__" = some (some (.ref fl))) (hlF : PySem.W.isFn X.K (.ref fl) = true)
    (FL : FnOk X.prog X.w X.K X.mg X.base (L2N.CX X.prog X.w) k fl fdL psL (spP X.K cl 1 gl)) (bL : Binds X.K fdL psL []) (hr : Room (k + 3) X.A) (hm : X.mg "list" = none) (h : EM X cl W e m) (hg : Gl X "list" := by rfl) (hv : bootBuiltins "list" = some (.type "list") := by rfl)
    (he : starEach [e] X.env = (false, eval e X.env) :: starEach [] X.env := by rfl) (hpl : (backTo pos (starEach [] X.env)).any (·.1) = false := by rfl) : FM X cl W (.Call (.Name "list" p) [e] [] pos) (mUn (pListO c g gl) m) := by
  obtain ⟨t, pe, d⟩ := h
  refine ⟨_, pe_callTy (call_listO hc hit hiF FI bI hln hlF FL bL hr) hg hm hv (pa_cons pe pa_nil he) (by decide) (by decide) he hpl, fun F G H σ S rr Q st hm hp => ?_⟩
  refine d.stepF st hm hp fun x S1 v G1 H1 e1 hm1 s1 st1 rv hp1 => ?_
  obtain ⟨z, ez, rfl⟩ := lift_eq hm1
  unfold pListO at ez
  cases x <;> try (cases ez; done)
  dsimp only at ez
  split at ez <;> try (cases ez; done)
  rename_i q
  obtain ⟨q1, q2⟩ := q
  subst q1
  obtain ⟨n, en, hn⟩ := roLen_some q2
  obtain ⟨ys, ey, rfl⟩ := Option.map_eq_some_iff.mp ez
  obtain ⟨a, ea⟩ : ∃ a, v = .ref a := by
    cases rv
    exact ⟨_, rfl⟩
  subst ea
  refine ⟨a, G1, _, ys, n, rfl, st1.ex, rv, ey, en, hn, fun q ws H' hq hs hq' hz rl => ?_⟩
  exact hp1 q G1 H' (Same.refl _) (st1.more hs) (st1.free hq) (st1.free0 hq) (st1.rfree hq) (st1.newSlot hq) ⟨ws, hq', hz, rl⟩
end
end Kp
set_option Elab.async false
set_option linter.all false
set_option maxRecDepth 100000
set_option maxHeartbeats 2000000
namespace Kp
open PySem PySem.Spec PyProof.Rows L2

/-! ### stores from scratch -/
section
variable {K : PySem.W.Frag} {cl : Nat → Addr} {G0 H0 G H : Hp} {σ : L2.St} {S : Sto}
abbrev fr0 (G0 H0 : Hp) : Fr := ⟨G0, H0, fun _ => none, fun _ => none⟩
theorem stOk_new (ex : Same G H) (ex0 : Same G0 G) (len : σ.length = S.length) (val : ∀ (i : Nat) (y : SV), S[i]? = some (some y) → ∃ (x : PV) (v : V), y = .p x ∧ σ[i]? = some (some v) ∧ Rep K cl G v x)
    (frame : Same H0 H) (gnew : ∀ (a : Addr) (o : HO), G a = some o → G0 a = some o ∨ H0 a = none) : StOk K cl (fr0 G0 H0) G H σ S := by
  refine ⟨ex, ex0, len, fun i x h => ?_, fun i x h => ?_, fun i x h => ?_, fun i j a x y h _ _ _ => ?_, (fun i a h => by cases h), (fun i a h => by cases h), (fun i j a h => by cases h), (fun a o h _ => frame a o h), gnew, (fun a o h => by cases h)⟩
  · obtain ⟨x', v, q, e, r⟩ := val i _ h
    cases q
    exact ⟨v, e, r⟩
  · obtain ⟨x', v, q, e, r⟩ := val i _ h
    cases q
  · obtain ⟨x', v, q, e, r⟩ := val i _ h
    cases q
  · obtain ⟨x', v, q, e, r⟩ := val i _ h
    cases q
/-- one slot holds an own object -/
theorem stOk_new1 {k : Nat} {a : Addr} {z : PV} (ex : Same G H) (ex0 : Same G0 G) (len : σ.length = S.length) (hk : σ[k]? = some (some (V.ref a))) (ga : G a = none) (ha : H0 a = none) (q : OwnAt K cl G H a z)
    (val : ∀ (i : Nat) (y : SV), S[i]? = some (some y) → (i = k ∧ y = .o z) ∨ ∃ (x : PV) (v : V), y = .p x ∧ σ[i]? = some (some v) ∧ Rep K cl G v x)
    (frame : Same H0 H) (gnew : ∀ (b : Addr) (o : HO), G b = some o → G0 b = some o ∨ H0 b = none) : StOk K cl (fr0 G0 H0) G H σ S := by
  have own : ∀ {i : Nat} {x : PV}, S[i]? = some (some (.o x)) → i = k ∧ x = z := fun {i x} h => by
    rcases val i _ h with ⟨e, q⟩ | ⟨x', v, q, _⟩
    · cases q; exact ⟨e, rfl⟩
    · cases q
  refine ⟨ex, ex0, len, fun i x h => ?_, fun i x h => ?_, fun i x h => ?_, fun i j b x y h1 h2 _ _ => ?_, (fun i a h => by cases h), (fun i a h => by cases h), (fun i j a h => by cases h), (fun a o h _ => frame a o h), gnew, (fun a o h => by cases h)⟩
  · rcases val i _ h with ⟨_, q⟩ | ⟨x', v, q, e, r⟩
    · cases q
    · cases q
      exact ⟨v, e, r⟩
  · obtain ⟨rfl, rfl⟩ := own h
    exact ⟨a, hk, ga, ha, q⟩
  · rcases val i _ h with ⟨_, q⟩ | ⟨x', v, q, e, r⟩
    · cases q
    · cases q
  · rw [(own h1).1, (own h2).1]
end

/-! ### values without lists -/
mutual
def PV.noL : PV → Bool
  | .lst _ => false
  | .frl _ => false
  | .dct _ => false
  | .xo _ _ _ _ => false
  | .tup xs => PV.noLs xs
  | .obj _ fs => PV.noLf fs
  | _ => true
def PV.noLs : List PV → Bool
  | [] => true
  | x :: xs => PV.noL x && PV.noLs xs
def PV.noLf : List (Str × PV) → Bool
  | [] => true
  | (_, x) :: xs => PV.noL x && PV.noLf xs
end
section
variable {K : PySem.W.Frag} {cl : Nat → Addr} {G G' : Hp}
theorem TupAt.keep (e : ∀ b o, G b = some o → (∀ vs, o ≠ .lst vs) → G' b = some o) {a : Addr} {vs : List V} (h : TupAt K G a vs) : TupAt K G' a vs := by
  rcases h with ⟨o, h1, h⟩ | h
  · exact .inl ⟨o, h1, e _ _ h fun _ z => nomatch z⟩
  · exact .inr h
mutual
theorem Rep.keep (e : ∀ b o, G b = some o → (∀ vs, o ≠ .lst vs) → G' b = some o) : ∀ {v : V} {x : PV}, Rep K cl G v x → PV.noL x = true → Rep K cl G' v x
  | _, _, .non, _ => .non
  | _, _, .bl b, _ => .bl b
  | _, _, .int i, _ => .int i
  | _, _, .str x h, _ => .str x h
  | _, _, .frl h, n => by unfold PV.noL at n; cases n
  | _, _, .glb c, _ => .glb c
  | _, _, .xo h hs, n => by unfold PV.noL at n; cases n
  | _, _, .raw a, _ => .raw a
  | _, _, .tup h z hs, n => .tup (h.keep e) z (RepL.keep e hs (by unfold PV.noL at n; exact n))
  | _, _, .lst h z hs, n => by unfold PV.noL at n; cases n
  | _, _, .dct h hs, n => by unfold PV.noL at n; cases n
  | _, _, .obj h hs, n => .obj (e _ _ h fun _ z => nomatch z) (RepF.keep e hs (by unfold PV.noL at n; exact n))
theorem RepL.keep (e : ∀ b o, G b = some o → (∀ vs, o ≠ .lst vs) → G' b = some o) : ∀ {vs : List V} {xs : List PV}, RepL K cl G vs xs → PV.noLs xs = true → RepL K cl G' vs xs
  | _, _, .nil, _ => .nil
  | _, _, .cons h hs, n => by
    unfold PV.noLs at n
    obtain ⟨n1, n2⟩ := Bool.and_eq_true_iff.mp n
    exact .cons (Rep.keep e h n1) (RepL.keep e hs n2)
theorem RepF.keep (e : ∀ b o, G b = some o → (∀ vs, o ≠ .lst vs) → G' b = some o) : ∀ {vs : List (Str × V)} {xs : List (Str × PV)}, RepF K cl G vs xs → PV.noLf xs = true → RepF K cl G' vs xs
  | _, _, .nil, _ => .nil
  | _, _, .cons h hs, n => by
    unfold PV.noLf at n
    obtain ⟨n1, n2⟩ := Bool.and_eq_true_iff.mp n
    exact .cons (Rep.keep e h n1) (RepF.keep e hs n2)
end
end
end Kp
set_option Elab.async false
set_option linter.all false
set_option maxRecDepth 100000
set_option maxHeartbeats 2000000
namespace Kp
open PySem PySem.Spec PyProof.Rows L2

/-! ### a def that changes nested lists behind a call: rows = [list(pair) ..]; m = C(rows); if rows != ..; for row in rows: ..; rows.append(..); return .. -/
abbrev rawO (k : Nat) (y : SV) (a0 a1 a2 a3 a4 : Addr) : Sto := ([some (.p (.raw a0)), some (.p (.raw a1)), some (.p (.raw a2)), some (.p (.raw a3)), some (.p (.raw a4)), none, none] : Sto).set k (some y)
def pairL : PV → Option (Str × Str)
  | .lst [.str a, .str b] => some (a, b)
  | _ => none
def pairLs : List PV → Option (List (Str × Str))
  | [] => some []
  | x :: xs => (pairL x).bind fun p => (pairLs xs).map (p :: ·)
theorem pairLs_rep {K : PySem.W.Frag} {cl : Nat → Addr} {G : Hp} : ∀ {vs : List V} {xs : List PV} {ps : List (Str × Str)}, pairLs xs = some ps → RepL K cl G vs xs →
    ∃ rs : List Addr, vs = rs.map V.ref ∧ rs.length = ps.length ∧ ∀ (i : Nat) (r : Addr) (p : Str × Str), rs[i]? = some r → ps[i]? = some p → G r = some (.lst [.str p.1, .str p.2]) ∧ p.1.length ≤ sizeLine ∧ p.2.length ≤ sizeLine
  | _, [], ps, h, .nil => by cases h; exact ⟨[], rfl, rfl, fun i r p e => by simp at e⟩
  | _, x :: xs, ps, h, .cons rv rs' => by
    unfold pairLs at h
    obtain ⟨p, h1, h2⟩ := Option.bind_eq_some_iff.mp h
    obtain ⟨qs, h3, rfl⟩ := Option.map_eq_some_iff.mp h2
    obtain ⟨rs, e1, e2, e3⟩ := pairLs_rep h3 rs'
    unfold pairL at h1
    split at h1 <;> try (cases h1; done)
    cases h1
    cases rv with
    | lst hs hz rl =>
      rename_i a vs' sa sb
      cases rl with
      | cons ra rl =>
        cases rl with
        | cons rb rl =>
          cases rl
          cases ra with
          | str _ za =>
            cases rb with
            | str _ zb =>
              refine ⟨_ :: rs, by rw [e1]; rfl, by rw [List.length_cons, List.length_cons, e2], fun i r p h4 h5 => ?_⟩
              cases i with
              | zero =>
                simp only [List.getElem?_cons_zero, Option.some.injEq] at h4 h5
                subst h4; subst h5
                exact ⟨hs, za, zb⟩
              | succ i => exact e3 i r p (by simpa using h4) (by simpa using h5)
/-- the first five slots hold these objects -/
def Pin5 (σ : L2.St) (a0 a1 a2 a3 a4 : Addr) : Prop := σ.length = 7 ∧ σ[0]? = some (some (.ref a0)) ∧ σ[1]? = some (some (.ref a1)) ∧ σ[2]? = some (some (.ref a2)) ∧ σ[3]? = some (some (.ref a3)) ∧ σ[4]? = some (some (.ref a4))
section
variable {X : Cx} {cl : Nat → Addr} {W : WX}
theorem pin5_of {K : PySem.W.Frag} {F : Fr} {G H : Hp} {σ : L2.St} {a0 a1 a2 a3 a4 : Addr} {k : Nat} {y : SV} (hk : 5 ≤ k) (st : StOk K cl F G H σ (rawO k y a0 a1 a2 a3 a4)) : Pin5 σ a0 a1 a2 a3 a4 := by
  have v : ∀ {i : Nat} {a : Addr}, i < 5 → ([some (.p (.raw a0)), some (.p (.raw a1)), some (.p (.raw a2)), some (.p (.raw a3)), some (.p (.raw a4)), none, none] : Sto)[i]? = some (some (.p (.raw a))) → σ[i]? = some (some (.ref a)) := fun {i a} hi e => by
    obtain ⟨w, ew, rw'⟩ := st.val i (.raw a) (by show (List.set _ k _)[i]? = _; rw [List.getElem?_set_ne (by omega)]; exact e)
    cases rw'
    exact ew
  refine ⟨by rw [st.len]; show (List.set _ k _).length = 7; rw [List.length_set]; rfl, v (by decide) rfl, v (by decide) rfl, v (by decide) rfl, v (by decide) rfl, v (by decide) rfl⟩
theorem loop4 {wi : TI} {tb : TS} {mb : M Fl} {D : Ends} {σ3 : L2.St} {H3 : Hp} {a0 a1 a2 a3 a4 : Addr} {rs : List Addr} {ps : List (Str × Str)} (di : DoesI X.K cl W wi (mIterA (mVar 3))) (db : DoesS X.K cl W tb mb)
    (hm : ∀ (b0 b1 b2 b3 b4 : Addr) (p : Str × Str), p ∈ ps → ∃ z, mb (rawO 5 (.o (.lst [.str p.1, .str p.2])) b0 b1 b2 b3 b4) = some (.ok .nx (rawO 5 (.o z) b0 b1 b2 b3 b4)))
    (pin : Pin5 σ3 a0 a1 a2 a3 a4) (hr : H3 a3 = some (.lst (rs.map V.ref))) (hz : rs.length ≤ sizeLine) (hlen : rs.length = ps.length) (nd : rs.Nodup) (hrs : ∀ (i : Nat) (r : Addr) (p : Str × Str), rs[i]? = some r → ps[i]? = some p → H3 r = some (.lst [.str p.1, .str p.2]) ∧ p.1.length ≤ sizeLine ∧ p.2.length ≤ sizeLine)
    (fin : ∀ (σ4 : L2.St) (H4 : Hp), Pin5 σ4 a0 a1 a2 a3 a4 → (∀ b o, b ∉ rs → H3 b = some o → H4 b = some o) → D.nx σ4 H4) : tFor wi (gName 5) tb D σ3 H3 := by
  obtain ⟨pl, p0, p1, p2, p3, p4⟩ := id pin
  let G : Hp := fun b => if b = a3 then some (.lst (rs.map V.ref)) else none
  let S : Sto := [some (.p (.raw a0)), some (.p (.raw a1)), some (.p (.raw a2)), some (.p (.lst (rs.map PV.raw))), some (.p (.raw a4)), none, none]
  have rawL : ∀ (G : Hp) (l : List Addr), RepL X.K cl G (l.map V.ref) (l.map PV.raw) := fun G l => by
    induction l with
    | nil => exact .nil
    | cons a l ih => exact .cons (.raw a) ih
  have st0 : StOk X.K cl (fr0 G H3) G H3 σ3 S := by
    refine stOk_new (fun b o e => ?_) (Same.refl _) (by rw [pl]; rfl) (fun i y e => ?_) (Same.refl _) fun a o e => .inl e
    · by_cases z : b = a3
      · subst z
        have e' : some (HO.lst (rs.map V.ref)) = some o := (if_pos rfl).symm.trans e
        rw [← e']
        exact hr
      · have e' : (none : Option HO) = some o := (if_neg z).symm.trans e
        cases e'
    · rcases i with _ | _ | _ | _ | _ | _ | _ | i
      · cases e; exact ⟨_, _, rfl, p0, .raw _⟩
      · cases e; exact ⟨_, _, rfl, p1, .raw _⟩
      · cases e; exact ⟨_, _, rfl, p2, .raw _⟩
      · cases e; exact ⟨_, _, rfl, p3, .lst (if_pos rfl) (by rw [List.length_map]; exact hz) (rawL _ _)⟩
      · cases e; exact ⟨_, _, rfl, p4, .raw _⟩
      · cases e
      · cases e
      · cases e
  refine di (fr0 G H3) G H3 σ3 S (rs.map PV.raw) S _ st0 rfl fun J G1 H1 s1 st1 hw => ?_
  have k1 : Same H3 H1 := fun b o e => st1.frame b o e fun i z => by cases z
  have g1r : ∀ (i : Nat) (r : Addr), rs[i]? = some r → G1 r = none := fun i r e => by
    obtain ⟨hi, _⟩ := List.getElem?_eq_some_iff.mp e
    obtain ⟨q1, _⟩ := hrs i r ps[i] e (List.getElem?_eq_getElem (by omega))
    cases z : G1 r with
    | none => rfl
    | some o =>
      rcases st1.gnew r o z with y | y
      · have y' : G r = some o := y
        by_cases c : r = a3
        · rw [c, hr] at q1
          injection q1 with q1
          injection q1 with q1
          cases rs with
          | nil => cases q1
          | cons a l => cases q1
        · have e' : (none : Option HO) = some o := (if_neg c).symm.trans y'
          cases e'
      · have y' : H3 r = none := y
        rw [q1] at y'
        cases y'
  refine ⟨fun i n σ' H' => n + i = rs.length ∧ Pin5 σ' a0 a1 a2 a3 a4 ∧ (∀ b o, b ∉ rs.take i → H3 b = some o → H' b = some o) ∧ Same G1 H', ⟨rs.length, Nat.add_zero _, pin, fun b o _ e => k1 b o e, st1.ex⟩, ?_⟩
  rintro i n σ' H' ⟨hn, hp, hk, hs⟩
  obtain ⟨hgo, hstop⟩ := hw i G1 H' (Same.refl _) hs
  cases e : rs[i]? with
  | none =>
    have hle : rs.length ≤ i := List.getElem?_eq_none_iff.mp e
    refine .inl ⟨hstop (by rw [List.length_map]; exact hle), fin σ' H' hp fun b o hb => hk b o ?_⟩
    rw [List.take_of_length_le hle]
    exact hb
  | some r =>
    obtain ⟨hi, hri⟩ := List.getElem?_eq_some_iff.mp e
    obtain ⟨q1, q2, q3⟩ := hrs i r ps[i] e (List.getElem?_eq_getElem (by omega))
    have fresh : r ∉ rs.take i := fun z => by
      obtain ⟨j, hj, ej⟩ := List.getElem_of_mem z
      rw [List.length_take] at hj
      rw [List.getElem_take] at ej
      have := (List.getElem_inj (h₀ := by omega) (h₁ := hi) nd).mp (ej.trans hri.symm)
      omega
    obtain ⟨go, hy⟩ := hgo (.raw r) (by rw [List.getElem?_map, e]; rfl)
    refine .inr ⟨go, fun σ5 H5 => (n - 1) + (i + 1) = rs.length ∧ Pin5 σ5 a0 a1 a2 a3 a4 ∧ (∀ b o, b ∉ rs.take (i + 1) → H3 b = some o → H5 b = some o) ∧ Same G1 H5, fun σ5 H5 q => ⟨n - 1, by omega, q⟩, fun x H6 hx => ?_⟩
    obtain ⟨rfl, k6⟩ : x = .ref r ∧ Same H' H6 := by
      rcases hy x H6 hx with ⟨rfl, rr⟩ | ⟨p, o, hp', rfl, rr⟩
      · cases rr; exact ⟨rfl, Same.refl _⟩
      · cases rr; exact ⟨rfl, same_new hp'⟩
    obtain ⟨z, hz'⟩ := hm a0 a1 a2 a3 a4 ps[i] (List.getElem_mem _)
    obtain ⟨pl', p0', p1', p2', p3', p4'⟩ := hp
    have at6 : H6 r = some (.lst [.str ps[i].1, .str ps[i].2]) := k6 _ _ (hk r _ fresh q1)
    let F0 : Hp := fun b => if b = r then none else H6 b
    have st6 : StOk X.K cl (fr0 (fun _ => none) F0) (fun _ => none) H6 (σ'.set 5 (some (.ref r))) (rawO 5 (.o (.lst [.str ps[i].1, .str ps[i].2])) a0 a1 a2 a3 a4) := by
      refine stOk_new1 (k := 5) (a := r) (z := .lst [.str ps[i].1, .str ps[i].2]) (fun b o e => by cases e) (Same.refl _) (by rw [List.length_set, pl']; rfl) (List.getElem?_set_self (by rw [pl']; decide)) rfl (if_pos rfl) ⟨_, at6, by show 2 ≤ sizeLine; rw [sizeLine_eq]; decide, .cons (.str _ q2) (.cons (.str _ q3) .nil)⟩ (fun j y ej => ?_) (fun b o eb => ?_) fun a o e => by cases e
      · rcases j with _ | _ | _ | _ | _ | _ | _ | j
        · cases ej; exact .inr ⟨_, _, rfl, by rw [List.getElem?_set_ne (by decide)]; exact p0', .raw _⟩
        · cases ej; exact .inr ⟨_, _, rfl, by rw [List.getElem?_set_ne (by decide)]; exact p1', .raw _⟩
        · cases ej; exact .inr ⟨_, _, rfl, by rw [List.getElem?_set_ne (by decide)]; exact p2', .raw _⟩
        · cases ej; exact .inr ⟨_, _, rfl, by rw [List.getElem?_set_ne (by decide)]; exact p3', .raw _⟩
        · cases ej; exact .inr ⟨_, _, rfl, by rw [List.getElem?_set_ne (by decide)]; exact p4', .raw _⟩
        · cases ej; exact .inl ⟨rfl, rfl⟩
        · cases ej
        · cases ej
      · by_cases c : b = r
        · have e' : (none : Option HO) = some o := (if_pos c).symm.trans eb
          cases e'
        · exact (if_neg c).symm.trans eb
    refine db _ _ H6 _ _ _ _ st6 hz' fun σ7 G7 H7 s7 st7 => ⟨by omega, pin5_of (Nat.le_refl 5) st7, fun b o hb eb => ?_, fun b o eb => ?_⟩
    · have c : b ≠ r := fun y => hb (by rw [y, List.take_add_one, e]; exact List.mem_append.mpr (.inr List.mem_cons_self))
      have hb' : b ∉ rs.take i := fun y => hb (by rw [List.take_add_one]; exact List.mem_append.mpr (.inl y))
      exact st7.frame b o ((if_neg c).trans (k6 b o (hk b o hb' eb))) fun j y => by cases y
    · have c : b ≠ r := fun y => by rw [y, g1r i r e] at eb; cases eb
      exact st7.frame b o ((if_neg c).trans (k6 b o (hs b o eb))) fun j y => by cases y
end
end Kp
set_option Elab.async false
set_option linter.all false
set_option maxRecDepth 100000
set_option maxHeartbeats 2000000
namespace Kp
open PySem PySem.Spec PyProof.Rows L2

def isRefP : PV → Bool
  | .tup _ => true
  | .lst _ => true
  | .obj _ _ => true
  | _ => false
theorem isRef_rep {K : PySem.W.Frag} {cl : Nat → Addr} {G : Hp} {v : V} {x : PV} (r : Rep K cl G v x) (h : isRefP x = true) : ∃ a, v = .ref a := by
  cases r <;> first | exact ⟨_, rfl⟩ | cases h
/-- what the first three statements, the loop's body and the append must do -/
structure StayOk (m123 mb m5 : M Fl) (x0 x1 x2 : PV) (rows : List PV) (ps : List (Str × Str)) (wm : PV) : Prop where
  rw_ : pairLs rows = some ps
  nd : ps.Nodup
  r0 : isRefP x0 = true
  r1 : isRefP x1 = true
  r2 : isRefP x2 = true
  r4 : isRefP wm = true
  n0 : PV.noL x0 = true
  n4 : PV.noL wm = true
  h123 : ∀ a1 a2, m123 [some (.p x0), some (.p (.raw a1)), some (.p (.raw a2)), none, none, none, none] = some (.ok .nx [some (.p x0), some (.p (.raw a1)), some (.p (.raw a2)), some (.p (.lst rows)), some (.p wm), none, none])
  hb : ∀ (b0 b1 b2 b3 b4 : Addr) (p : Str × Str), p ∈ ps → ∃ z, mb (rawO 5 (.o (.lst [.str p.1, .str p.2])) b0 b1 b2 b3 b4) = some (.ok .nx (rawO 5 (.o z) b0 b1 b2 b3 b4))
  h5 : ∀ (b0 b2 b4 : Addr) (l : List Addr), l.length = ps.length → ∃ z, m5 [some (.p (.raw b0)), some (.p x1), some (.p (.raw b2)), some (.o (.lst (l.map PV.raw))), some (.p (.raw b4)), none, none] = some (.ok .nx [some (.p (.raw b0)), some (.p x1), some (.p (.raw b2)), some (.o z), some (.p (.raw b4)), none, none])
open Classical in
noncomputable def fStay (m123 mb m5 m6 : M Fl) : List PV → Option RO
  | [x0, x1, x2] => if h : ∃ wm, ∃ rows ps, StayOk m123 mb m5 x0 x1 x2 rows ps wm then endP (m6 [some (.p x0), none, some (.p x2), none, some (.p h.choose), none, none]) else none
  | _ => none
theorem fStay_some {m123 mb m5 m6 : M Fl} {xs : List PV} {r : RO} (h : fStay m123 mb m5 m6 xs = some r) : ∃ x0 x1 x2 wm rows ps, xs = [x0, x1, x2] ∧ StayOk m123 mb m5 x0 x1 x2 rows ps wm ∧ endP (m6 [some (.p x0), none, some (.p x2), none, some (.p wm), none, none]) = some r := by
  unfold fStay at h
  split at h
  · split at h
    · rename_i x0 x1 x2 q
      obtain ⟨rows, ps, k⟩ := q.choose_spec
      exact ⟨x0, x1, x2, q.choose, rows, ps, rfl, k, h⟩
    · cases h
  · cases h
open Classical in
/-- the value is what the three statements give -/
theorem fStay_of {m123 mb m5 m6 : M Fl} {x0 x1 x2 wm : PV} {rows : List PV} {ps : List (Str × Str)} {r : RO} (k : StayOk m123 mb m5 x0 x1 x2 rows ps wm) (h : endP (m6 [some (.p x0), none, some (.p x2), none, some (.p wm), none, none]) = some r) : fStay m123 mb m5 m6 [x0, x1, x2] = some r := by
  have q : ∃ wm, ∃ rows ps, StayOk m123 mb m5 x0 x1 x2 rows ps wm := ⟨wm, rows, ps, k⟩
  obtain ⟨rows', ps', k'⟩ := q.choose_spec
  show (if h : _ then _ else none) = some r
  rw [dif_pos q]
  have e := (k.h123 0 0).symm.trans (k'.h123 0 0)
  injection e with e
  injection e with _ e
  injection e with _ e
  injection e with _ e
  injection e with _ e
  injection e with _ e
  injection e with e _
  injection e with e
  injection e with e
  rw [← e]
  exact h
section
variable {P : Program} {w : World} {K : PySem.W.Frag} {mg : Str → Option Value} {base : Heap} {cl : Nat → Addr}
/-- G without its lists -/
def offL (G : Hp) : Hp := fun b => match G b with
  | some (.lst _) => none
  | o => o
theorem offL_some {G : Hp} {b : Addr} {o : HO} (h : offL G b = some o) : G b = some o ∧ ∀ vs, o ≠ .lst vs := by
  unfold offL at h
  split at h
  · cases h
  · rename_i n
    exact ⟨h, fun vs e => n vs (by rw [h, e])⟩
theorem offL_of {G : Hp} {b : Addr} {o : HO} (h : G b = some o) (n : ∀ vs, o ≠ .lst vs) : offL G b = some o := by
  unfold offL
  split
  · rename_i e
    rw [h] at e
    injection e with e
    exact absurd e (n _)
  · exact h
theorem offL_lst {G : Hp} {b : Addr} {vs : List V} (h : G b = some (.lst vs)) : offL G b = none := by
  unfold offL
  rw [h]
/-- G, and what is no list of G3 -/
def withNL (G G3 : Hp) : Hp := fun b => match G b with
  | some o => some o
  | none => offL G3 b
theorem withNL_some {G G3 : Hp} {b : Addr} {o : HO} (h : withNL G G3 b = some o) : G b = some o ∨ (G b = none ∧ offL G3 b = some o) := by
  unfold withNL at h
  split at h
  · rename_i e
    exact .inl (e.trans h)
  · rename_i e
    exact .inr ⟨e, h⟩
theorem withNL_l {G G3 : Hp} {b : Addr} {o : HO} (h : G b = some o) : withNL G G3 b = some o := by
  unfold withNL
  rw [h]
theorem fnStay {x qual : Str} {st s1 s2 s3 s4 s5 s6 : Stmt} {f : Addr} {fd : FuncData} {N ps : List Str} {k : Nat} {m1 m2 m3 mb m5 m6 : M Fl} (F : Fun K x qual st f fd) (S : FnScope N ps (defScope st)) (hN : N.length = 7) (h3 : ps.length = 3) (hbody : defBody st = [s1, s2, s3, s4, s5, s6])
    (hb : ∀ (cdv : Value) (A : Around) (outer : List Env) (s : Shared) (H : Hp) (E : XK), Room k (A.deeper (envOfC qual (defScope st) s.heap.objs.size f cdv)) →
      let X := cxOf (L2N.CX P w) P w K mg base N qual (defScope st) f cdv A outer s H E
      let W : WX := fun c d _ H' => E c d H'
      SM X cl W s1 m1 ∧ SM X cl W s2 m2 ∧ SM X cl W s3 m3 ∧ (∃ wi tb, PS X s4 (tFor wi (gName 5) tb) ∧ DoesI X.K cl W wi (mIterA (mVar 3)) ∧ DoesS X.K cl W tb mb) ∧ SM X cl W s5 m5 ∧ SM X cl W s6 m6) :
    FnOk P w K mg base (L2N.CX P w) (k + 1) f fd ps (spP K cl ps.length (fStay (mSeq m1 (mSeq m2 m3)) mb m5 m6)) := by
  obtain ⟨oc, od, kV, doc, pm, an, cdv, ct, osl, rfl, lk, hcd⟩ := F.ex
  refine fn_of lk hcd S (fun vs H Q E h => h.1) fun A outer s H vs Q E hr hsp => ?_
  obtain ⟨⟨t1, p1, d1⟩, ⟨t2, p2, d2⟩, ⟨t3, p3, d3⟩, ⟨wi, tb, p4, di, db⟩, ⟨t5, p5, d5⟩, ⟨t6, p6, d6⟩⟩ := hb cdv A outer s H E hr
  obtain ⟨hl, G, xs, r, e, rl, hf, hq⟩ := hsp
  rw [hbody]
  refine ⟨_, pss_cons p1 (pss_cons p2 (pss_cons p3 (pss_cons p4 (pss_cons p5 (pss_one p6))))), ?_⟩
  obtain ⟨x0, x1, x2, wm, rows, qs, rfl, k0, hend⟩ := fStay_some hf
  cases rl with | cons r0 rl => ?_
  cases rl with | cons r1 rl => ?_
  cases rl with | cons r2 rl => ?_
  cases rl
  obtain ⟨b0, rfl⟩ := isRef_rep r0 k0.r0
  obtain ⟨b1, rfl⟩ := isRef_rep r1 k0.r1
  obtain ⟨b2, rfl⟩ := isRef_rep r2 k0.r2
  have d123 := does_seq d1 (does_seq d2 d3)
  have len0 : (L2.start N [V.ref b0, V.ref b1, V.ref b2]).length = 7 := by rw [start_len (by rw [hN]; show 3 ≤ 7; decide), hN]
  have st1 : StOk K cl (fr0 (offL G) H) (offL G) H (L2.start N [V.ref b0, V.ref b1, V.ref b2]) [some (.p x0), some (.p (.raw b1)), some (.p (.raw b2)), none, none, none, none] := by
    refine stOk_new (fun b o q => e _ _ (offL_some q).1) (Same.refl _) (by rw [len0]; rfl) (fun i y q => ?_) (Same.refl _) fun a o q => .inl q
    rcases i with _ | _ | _ | _ | _ | _ | _ | i
    · cases q; exact ⟨_, _, rfl, start_get rfl, r0.keep (fun b o q n => offL_of q n) k0.n0⟩
    · cases q; exact ⟨_, _, rfl, start_get rfl, .raw _⟩
    · cases q; exact ⟨_, _, rfl, start_get rfl, .raw _⟩
    · cases q
    · cases q
    · cases q
    · cases q
    · cases q
  refine d123 (fr0 (offL G) H) (offL G) H _ _ _ _ st1 (k0.h123 b1 b2) fun σ3 G3 H3 s3 st3 => ?_
  obtain ⟨w0, e0, q0⟩ := st3.val 0 x0 rfl
  obtain ⟨c0, rfl⟩ := isRef_rep q0 k0.r0
  obtain ⟨w1, e1, q1⟩ := st3.val 1 (.raw b1) rfl
  cases q1
  obtain ⟨w2, e2, q2⟩ := st3.val 2 (.raw b2) rfl
  cases q2
  obtain ⟨w3, e3, q3⟩ := st3.val 3 (.lst rows) rfl
  obtain ⟨w4, e4, q4⟩ := st3.val 4 wm rfl
  obtain ⟨c4, rfl⟩ := isRef_rep q4 k0.r4
  obtain ⟨a3, vs3, rfl, g3, z3, rl3⟩ : ∃ a vs, w3 = .ref a ∧ G3 a = some (.lst vs) ∧ vs.length ≤ sizeLine ∧ RepL K cl G3 vs rows := by
    cases q3 with
    | lst h1 h2 h3 => exact ⟨_, _, rfl, h1, h2, h3⟩
  obtain ⟨rs, rfl, lrs, hrs⟩ := pairLs_rep k0.rw_ rl3
  have pin3 : Pin5 σ3 c0 b1 b2 a3 c4 := ⟨by rw [st3.len]; rfl, e0, e1, e2, e3, e4⟩
  have kH : Same H H3 := fun b o q => st3.frame b o q fun i z => by cases z
  have newL : ∀ {b : Addr} {vs : List V}, G3 b = some (.lst vs) → H b = none := fun {b vs} q => by
    rcases st3.gnew b _ q with y | y
    · exact absurd rfl ((offL_some y).2 vs)
    · exact y
  have rsG : ∀ b, b ∈ rs → ∃ p : Str × Str, G3 b = some (.lst [.str p.1, .str p.2]) := fun b hb' => by
    obtain ⟨i, hi, rfl⟩ := List.getElem_of_mem hb'
    exact ⟨qs[i]'(by omega), (hrs i rs[i] (qs[i]'(by omega)) (List.getElem?_eq_getElem hi) (List.getElem?_eq_getElem (by omega))).1⟩
  have a3rs : a3 ∉ rs := fun hm => by
    obtain ⟨p, hp⟩ := rsG a3 hm
    rw [g3] at hp
    injection hp with hp
    injection hp with hp
    cases rs with
    | nil => cases hm
    | cons a l => cases hp
  have ndrs : rs.Nodup := List.pairwise_iff_getElem.mpr fun i j hi hj hij he => by
    obtain ⟨g1, _⟩ := hrs i rs[i] (qs[i]'(by omega)) (List.getElem?_eq_getElem hi) (List.getElem?_eq_getElem (by omega))
    obtain ⟨g2, _⟩ := hrs j rs[j] (qs[j]'(by omega)) (List.getElem?_eq_getElem hj) (List.getElem?_eq_getElem (by omega))
    rw [he, g2] at g1
    injection g1 with g1
    injection g1 with g1
    injection g1 with y1 y2
    injection y2 with y2 _
    injection y1 with y1
    injection y2 with y2
    have := (List.getElem_inj (h₀ := by omega) (h₁ := by omega) k0.nd).mp (Prod.ext y1.symm y2.symm)
    omega
  have hrs3 : ∀ (i : Nat) (r : Addr) (p : Str × Str), rs[i]? = some r → qs[i]? = some p → H3 r = some (.lst [.str p.1, .str p.2]) ∧ p.1.length ≤ sizeLine ∧ p.2.length ≤ sizeLine := fun i r p h1 h2 => by
    obtain ⟨g1, g2⟩ := hrs i r p h1 h2
    exact ⟨st3.ex _ _ g1, g2⟩
  refine loop4 (X := cxOf (L2N.CX P w) P w K mg base N qual (defScope st) f cdv A outer s H E) di db k0.hb pin3 (st3.ex _ _ g3) (by rw [List.length_map] at z3; exact z3) lrs ndrs hrs3 fun σ4 H4 pin4 k4 => ?_
  obtain ⟨pl, p0, p1', p2', p3', p4'⟩ := pin4
  have nrs : ∀ {b : Addr} {o : HO}, H b = some o → b ∉ rs ∧ b ≠ a3 := fun {b o} q => by
    refine ⟨fun hm => ?_, fun z => ?_⟩
    · obtain ⟨p, hp⟩ := rsG b hm
      rw [newL hp] at q
      cases q
    · rw [z, newL g3] at q
      cases q
  have H4a : H4 a3 = some (.lst (rs.map V.ref)) := k4 a3 _ a3rs (st3.ex _ _ g3)
  have sG4 : Same G H4 := fun b o q => k4 b o (nrs (e _ _ q)).1 (kH _ _ (e _ _ q))
  have Ga3 : G a3 = none := e.free (newL g3)
  have rawL : ∀ (G : Hp) (l : List Addr), RepL K cl G (l.map V.ref) (l.map PV.raw) := fun G l => by
    induction l with
    | nil => exact .nil
    | cons a l ih => exact .cons (.raw a) ih
  have st5 : StOk K cl (fr0 G fun b => if b = a3 then none else H4 b) G H4 σ4 [some (.p (.raw c0)), some (.p x1), some (.p (.raw b2)), some (.o (.lst (rs.map PV.raw))), some (.p (.raw c4)), none, none] := by
    refine stOk_new1 (k := 3) (a := a3) (z := .lst (rs.map PV.raw)) sG4 (Same.refl _) (by rw [pl]; rfl) p3' Ga3 (if_pos rfl) ⟨_, H4a, z3, rawL _ _⟩ (fun j y ej => ?_) (fun b o eb => ?_) fun a o q => .inl q
    · rcases j with _ | _ | _ | _ | _ | _ | _ | j
      · cases ej; exact .inr ⟨_, _, rfl, p0, .raw _⟩
      · cases ej; exact .inr ⟨_, _, rfl, p1', r1⟩
      · cases ej; exact .inr ⟨_, _, rfl, p2', .raw _⟩
      · cases ej; exact .inl ⟨rfl, rfl⟩
      · cases ej; exact .inr ⟨_, _, rfl, p4', .raw _⟩
      · cases ej
      · cases ej
      · cases ej
    · by_cases c : b = a3
      · have e' : (none : Option HO) = some o := (if_pos c).symm.trans eb
        cases e'
      · exact (if_neg c).symm.trans eb
  obtain ⟨zz, hzz⟩ := k0.h5 c0 b2 c4 rs lrs
  refine d5 _ G H4 σ4 _ _ _ st5 hzz fun σ5 G5 H5 s5 st6 => ?_
  have k5 : ∀ b o, b ≠ a3 → H4 b = some o → H5 b = some o := fun b o n q => st6.frame b o ((if_neg n).trans q) fun i z => by cases z
  obtain ⟨u0, f0, g0⟩ := st6.val 0 (.raw c0) rfl
  cases g0
  obtain ⟨u2, f2, g2⟩ := st6.val 2 (.raw b2) rfl
  cases g2
  obtain ⟨u4, f4, g4⟩ := st6.val 4 (.raw c4) rfl
  cases g4
  have keep : ∀ b o, G3 b = some o → (∀ vs, o ≠ .lst vs) → withNL G G3 b = some o := fun b o q n => by
    cases z : G b with
    | none =>
      unfold withNL
      rw [z]
      exact offL_of q n
    | some o' =>
      have y1 := kH _ _ (e _ _ z)
      rw [st3.ex _ _ q] at y1
      cases y1
      exact withNL_l z
  have Hlast : Same H H5 := fun b o q => k5 b o (nrs q).2 (k4 b o (nrs q).1 (kH _ _ q))
  have st7 : StOk K cl (fr0 G H) (withNL G G3) H5 σ5 [some (.p x0), none, some (.p x2), none, some (.p wm), none, none] := by
    refine stOk_new (fun b o q => ?_) (fun b o q => withNL_l q) (by rw [st6.len]; rfl) (fun i y q => ?_) Hlast fun b o q => ?_
    · rcases withNL_some q with y | ⟨_, y⟩
      · exact Hlast _ _ (e _ _ y)
      · obtain ⟨y1, y2⟩ := offL_some y
        refine k5 b o (fun z => y2 _ (by rw [z, g3] at y1; exact (Option.some.inj y1).symm)) (k4 b o (fun hm => ?_) (st3.ex _ _ y1))
        obtain ⟨p, hp⟩ := rsG b hm
        rw [hp] at y1
        exact y2 _ (Option.some.inj y1).symm
    · rcases i with _ | _ | _ | _ | _ | _ | _ | i
      · cases q; exact ⟨_, _, rfl, f0, q0.keep keep k0.n0⟩
      · cases q
      · cases q; exact ⟨_, _, rfl, f2, r2.mono fun b o q => withNL_l q⟩
      · cases q
      · cases q; exact ⟨_, _, rfl, f4, q4.keep keep k0.n4⟩
      · cases q
      · cases q
      · cases q
    · rcases withNL_some q with y | ⟨n, y⟩
      · exact .inl y
      · rcases st3.gnew b o (offL_some y).1 with u | u
        · have := (offL_some u).1
          rw [n] at this
          cases this
        · exact .inr u
  have gr : ∀ {G' H' : Hp} {σ' : L2.St} {S' : Sto}, Same (withNL G G3) G' → StOk K cl (fr0 G H) G' H' σ' S' → Grown G H G' H' := fun {G' H' σ' S'} s k => ⟨k.ex0, k.ex, fun a o h => k.frame a o h (fun i z => by cases z), k.gnew⟩
  unfold endP at hend
  split at hend
  · rename_i S' em
    cases hend
    exact d6 _ _ H5 _ _ _ _ st7 em fun σ' G' H' s' k' => hq .non G' H' (gr s' k') .non
  · rename_i y S' em
    cases hend
    exact d6 _ _ H5 _ _ _ _ st7 em fun v σ' G' H' s' k' r' => hq v G' H' (gr s' k') r'
  · rename_i c fs S' em
    cases hend
    exact d6 _ _ H5 _ _ _ _ st7 em fun d gs σ' G' H' s' k' a b => hq d gs G' H' (gr s' k') ⟨a.1, a.2.1⟩ b
  · cases hend
end
theorem for4 {X : Cx} {cl : Nat → Addr} {W : WX} {pos : Pos} {tg iter : Expr} {body : List Stmt} {mi : M (List PV)} {i : Nat} {m : M Fl} (hp : PassesOwn (model X.prog X.w) X.A X.env X.xe) (hc : X.calm = true) (hi : IM X cl W tg iter mi) (hg : PG X tg (gName i)) (hb : SMs X cl W body m)
    (hs : ∀ x, foldedSetIterable iter X.env x = pure x := by intro _; rfl) : ∃ wi tb, PS X (.For tg iter body [] pos) (tFor wi (gName i) tb) ∧ DoesI X.K cl W wi mi ∧ DoesS X.K cl W tb m := by
  obtain ⟨wi, pi, di⟩ := hi
  obtain ⟨tb, pb, db⟩ := hb
  exact ⟨wi, tb, ps_for hp hc pi hg pb hs, di, db⟩
end Kp
set_option Elab.async false
set_option linter.all false
set_option maxRecDepth 100000
set_option maxHeartbeats 4000000
namespace Kp
open PySem PySem.Spec PyProof.Rows L2

/-! ### the end of a law: its promise is kept where no repr is under way -/
theorem law_callG {P : Program} {w : World} {K : PySem.W.Frag} {mg mb : Str → Option Value} {CX : CXT} {k : Nat} {fa a : Addr} {fd : FuncData} {x : Str} {sp : Sp} {s1 : Shared} {us : List Value} {ns : List Int} (KX : K.In s1.heap) (hns : s1.heap.Ns mainGlobals mg) (hb : s1.heap.Ns builtinsNs mb) (hbb : ∀ x : Str, x ≠ "__name__" → mb x = bootBuiltins x)
    (hlim : s1.heap.NoLimit) (hg : s1.gens = #[]) (ha : s1.heap.get? a = some { cls := .type "list", data := .seq us.toArray }) (hi : IntsAre us ns) (hl : ns.length ≤ sizeLine) (hr : Room k callerA) (F : ∀ base : Heap, K.In base → base.Ns mainGlobals mg → FnG P w K mg base CX k fa fd [x] sp)
    (hbind : ∀ (s : Shared) (u : Value), BindsTo s fd ⟨[u], []⟩ [(x, u)]) (hsp : ∀ H : Hp, Only H → SqL K H a (ns.map V.int) → sp [.ref a] H (fun v _ => v = .bl true) fun _ _ _ => False) (hCX : ∀ H e s', CX [] H s1 (fun _ _ _ => False) e s' → False) :
    codeAny (model P w) callerA (.call (.ref fa) ⟨[.ref a], []⟩) (fun r s' => r = .ok (.ret (.bool true)) ∧ OldK s1.heap s'.heap ∧ s'.os = s1.os ∧ AllBare s'.gens) s1 := by
  have rv := vals_ints hi
  have lz := hi.length
  have core : ∀ H : Hp, Only H → SqL K H a (ns.map V.int) → HOk P w H s1.heap → (∀ b, H b ≠ none → b = a) → (H a ≠ none → K.lookup a = none) →
      codeAny (model P w) callerA (.call (.ref fa) ⟨[.ref a], []⟩) (fun r s' => r = .ok (.ret (.bool true)) ∧ OldK s1.heap s'.heap ∧ s'.os = s1.os ∧ AllBare s'.gens) s1 := fun H hO hS hok hA hK => by
    -- what is no list is not tracked
    have noA : ∀ {b : Addr} {o : Obj}, s1.heap.get? b = some o → (∀ its c, o.data ≠ .seq its c) → H b = none := fun {b o} e d => by
      cases q : H b with
      | none => rfl
      | some u =>
        have hb' : b = a := hA b (by rw [q]; exact fun z => nomatch z)
        subst hb'
        rw [ha] at e
        cases e
        exact absurd rfl (d _ _)
    have nsK : ∀ {b : Addr} {m : Str → Option Value}, s1.heap.Ns b m → (hidT s1.heap H).Ns b m := fun {b m} ⟨o, es, ep, e, d, r⟩ => ⟨o, es, ep, hidT_get e (noA e fun its c z => by rw [d] at z; cases z), d, r⟩
    have hKb : K.In (hidT s1.heap H) := fun b o e => hidT_get (KX b o e) (by
      cases q : H b with
      | none => rfl
      | some u =>
        have hb' : b = a := hA b (by rw [q]; exact fun z => nomatch z)
        subst hb'
        have n := hK (by rw [q]; exact fun z => nomatch z)
        rw [n] at e
        cases e)
    have hM : Mod K mg (hidT s1.heap H) := by
      obtain ⟨mc, l1, l2⟩ := hlim
      exact ⟨hKb, nsK hns, ⟨mb, nsK hb, hbb⟩, mc, nsK l1, l2⟩
    have e0 : Env0 P w K mg (hidT s1.heap H) callerA [] s1 H := ⟨rfl, hM, fun b o e => of_hidT e, Nat.le_of_eq (hidT_size _ _), trivial, (fun b z => nomatch z), hok, .of_eq hg⟩
    refine codeAny_mono ((F _ hKb (nsK hns)).go callerA [] s1 H ⟨[.ref a], []⟩ [.ref a] [.ref a] _ _ rfl hr e0 (hbind s1 (.ref a)) (.cons rfl .nil) (hsp H hO hS)) fun r s2 h => ?_
    cases r with
    | error e => exact (hCX H e s2 h).elim
    | ok fl =>
      cases fl <;> try exact False.elim h
      obtain ⟨v, H2, os, bare, un, hok2, rv2, q⟩ := h
      have q' : v = .bl true := q
      subst q'
      cases rv2
      refine ⟨rfl, OldK.of_keep fun b o e => ?_, os, bare⟩
      cases q : H b with
      | none => exact un.keep b o e q (fun z => nomatch z) (fun z => nomatch z)
      | some u =>
        rcases hO b with z | ⟨ob, xs, z⟩
        · rw [q] at z; cases z
        · obtain ⟨y1, _⟩ := hok b _ z
          obtain ⟨y2, _⟩ := hok2 b _ (un.frzs b ob _ z)
          rw [e] at y1
          cases y1
          exact y2
  by_cases hk : ∃ o, K.lookup a = some o
  · obtain ⟨o, hk⟩ := hk
    have e := (KX a o hk).symm.trans ha
    cases e
    exact core (fun _ => none) (fun _ => .inl rfl) (.inr ⟨_, us.toArray, _, hk, rfl, rfl, rfl, by rw [List.size_toArray, lz]; exact hl, by simpa using rv⟩) (fun b u z => nomatch z) (fun b z => absurd rfl z) fun z => absurd rfl z
  · have hk' : K.lookup a = none := by
      cases q : K.lookup a with
      | none => rfl
      | some o => exact absurd ⟨o, q⟩ hk
    have one : ∀ {b : Addr} {u : HO}, upd (fun _ => none) a (HO.frz { cls := .type "list", data := .seq us.toArray } (.lst (ns.map V.int))) b = some u → b = a ∧ u = HO.frz { cls := .type "list", data := .seq us.toArray } (.lst (ns.map V.int)) := fun {b u} z => by
      by_cases c : b = a
      · subst c
        rw [upd_same] at z
        exact ⟨rfl, (Option.some.inj z).symm⟩
      · rw [upd_ne c] at z
        cases z
    refine core (upd (fun _ => none) a (.frz { cls := .type "list", data := .seq us.toArray } (.lst (ns.map V.int)))) (fun b => ?_) (.inl (.inr ⟨{ cls := .type "list", data := .seq us.toArray }, upd_same⟩)) (fun b u z => ?_) (fun b z => ?_) fun _ => hk'
    · by_cases c : b = a
      · subst c; exact .inr ⟨_, _, upd_same⟩
      · exact .inl (upd_ne c)
    · obtain ⟨rfl, rfl⟩ := one z
      exact ⟨ha, by rw [List.length_map]; exact hl, us, _, rv, ha⟩
    · cases q : upd (fun _ => none) a (HO.frz { cls := .type "list", data := .seq us.toArray } (.lst (ns.map V.int))) b with
      | none => exact absurd q z
      | some u => exact (one q).1
theorem walk_ofG {l : PySem.W.OpenLaw} {n k : Nat} {q : Program} {loose : List Str} {XP : (Str → Option Value) → Heap → Prop} {YP : World → Heap → Prop} {d : DefRec} {K : Params → PySem.W.Frag} {CX : World → CXT} {sp : World → Sp} {x : Str} (hn : l.most = some n) (hn2 : n ≤ sizeLine) (hdf : d.params.defaults = []) (hr : Room k callerA) (hY : ∀ (w : World) (h : Heap), YP w h → (K w.params).In h)
    (F : ∀ (w : World) (mg : Str → Option Value) (fa : Addr) (h : Heap), (K w.params).In h → h.Ns mainGlobals mg → mg d.name = some (.ref fa) → ∃ fd : FuncData, (∀ (s : Shared) (u : Value), BindsTo s fd ⟨[u], []⟩ [(x, u)]) ∧ ∀ base : Heap, (K w.params).In base → base.Ns mainGlobals mg → FnG l.prog w (K w.params) mg base (CX w) k fa fd [x] (sp w))
    (hsp : ∀ (w : World) (H : Hp) (a : Addr) (ns : List Int), ns.length ≤ n → Only H → SqL (K w.params) H a (ns.map V.int) → sp w [.ref a] H (fun v _ => v = .bl true) fun _ _ _ => False) (hCX : ∀ (w : World) (H : Hp) (s : Shared) (e : Value) (s' : Shared), CX w [] H s (fun _ _ _ => False) e s' → False) :
    PySem.W.WalkO q loose XP YP l.row.toRowW d [] (fun f vs => PySem.call f vs) := by
  refine Att.attach_call hn hdf fun w s0 s1 mg mb fa o pm cd doc a vs ns G Y ho hd hcd hmg hobj hints hlen hg => ?_
  obtain ⟨fd, hb, hF⟩ := F w mg fa _ (hY w _ Y) G.T.g hmg
  exact law_callG (hY w _ Y) G.T.g G.T.b G.T.builtins G.T.nolimit hg hobj hints (Nat.le_trans hlen hn2) hr hF hb (fun H hO hS => hsp w H a ns hlen hO hS) fun H e s' => hCX w H s1 e s'
end Kp
set_option Elab.async false
set_option linter.all false
set_option maxRecDepth 100000
set_option maxHeartbeats 4000000
namespace Kp
open PySem PySem.Spec PyProof.Rows L2

/-! ### the join -/
def nth {α : Type} (d : α) : List α → Nat → α
  | [], _ => d
  | a :: _, 0 => a
  | _ :: r, n + 1 => nth d r n
theorem kitTyX {K : PySem.W.Frag} {a : Addr} {T : String} {b : Bool} (h0 : (Value.ref a == Value.type T) = false) (h1 : PySem.W.kitMeta T = true) (h2 : PySem.W.subIn K (.ref a) (.type T) = some b) : PySem.W.kitOne K (.ref a) (.type T) = some b := by
  unfold PySem.W.kitOne
  rw [if_neg (by rw [h0]; exact Bool.false_ne_true)]
  unfold PySem.W.kitCls
  dsimp only
  rw [if_pos h1]
  exact h2
theorem kit_own {K : PySem.W.Frag} {a c : Addr} {b : Bool} (h0 : (Value.ref a == Value.ref c) = false) (h1 : PySem.W.isClsIn K c = true) (h2 : PySem.W.typeIn K (.ref c) = some (.type "type")) (h3 : PySem.W.subIn K (.ref a) (.ref c) = some b) : PySem.W.kitOne K (.ref a) (.ref c) = some b := by
  unfold PySem.W.kitOne
  rw [if_neg (by rw [h0]; exact Bool.false_ne_true)]
  unfold PySem.W.kitCls
  dsimp only
  have e : ((PySem.W.clsIn K c).isSome && PySem.W.typeIn K (.ref c) == some (.type "type")) = true := by
    have h1' : (PySem.W.clsIn K c).isSome = true := h1
    rw [h1', h2] <;> rfl
  rw [if_pos e]
  exact h3
theorem own_subs {K : PySem.W.Frag} {C : Addr} (h1 : PySem.W.subIn K (.type "NoneType") (.ref C) = some false) (h2 : PySem.W.subIn K (.type "bool") (.ref C) = some false) (h3 : PySem.W.subIn K (.type "int") (.ref C) = some false) (h4 : PySem.W.subIn K (.type "str") (.ref C) = some false)
    (h5 : PySem.W.subIn K (.type "tuple") (.ref C) = some false) (h6 : PySem.W.subIn K (.type "list") (.ref C) = some false) (h7 : PySem.W.subIn K (.type "dict") (.ref C) = some false) : ∀ t, t ∈ tyNames → PySem.W.subIn K (.type t) (.ref C) = some false := by
  intro t h
  simp only [tyNames, List.mem_cons, List.not_mem_nil, or_false] at h
  rcases h with rfl | rfl | rfl | rfl | rfl | rfl | rfl <;> assumption
/-- what a law promises: True -/
def spLaw (K : PySem.W.Frag) (f : List PV → Option RO) : Sp := fun vs H Q _ => ∃ (a : Addr) (ns : List Int), vs = [.ref a] ∧ SqL K H a (ns.map V.int) ∧ f [.frl ns] = some (.ret (.bl true)) ∧ ∀ H', Q (.bl true) H'
theorem spLaw_of {K : PySem.W.Frag} {cl : Nat → Addr} {f : List PV → Option RO} {vs : List V} {H : Hp} {Q : VK} {E : XK} (h : spLaw K f vs H Q E) : spP K cl 1 f vs H Q E := by
  obtain ⟨a, ns, rfl, hs, hf, k⟩ := h
  refine ⟨rfl, H, [.frl ns], .ret (.bl true), Same.refl _, .one (.frl hs), hf, ?_⟩
  intro v G' H' _ r
  cases r
  exact k H'
theorem FnG.imp {P : Program} {w : World} {K : PySem.W.Frag} {mg : Str → Option Value} {base : Heap} {CX : CXT} {k : Nat} {f : Addr} {fd : FuncData} {ps : List Str} {sp sp' : Sp} (F : FnG P w K mg base CX k f fd ps sp)
    (h : ∀ vs H Q E, sp' vs H Q E → sp vs H Q E) : FnG P w K mg base CX k f fd ps sp' :=
  ⟨fun vs H Q E q => F.len vs H Q E (h _ _ _ _ q), fun A outer s H args us vs Q E hg hr e0 hb r q => F.go A outer s H args us vs Q E hg hr e0 hb r (h _ _ _ _ q)⟩
theorem walk_endG {l : PySem.W.OpenLaw} {n k : Nat} {q : Program} {loose : List Str} {XP : (Str → Option Value) → Heap → Prop} {YP : World → Heap → Prop} {d : DefRec} {K : Params → PySem.W.Frag} {x : Str} {f : List PV → Option RO} (hn : l.most = some n) (hn2 : n ≤ sizeLine) (hdf : d.params.defaults = []) (hr : Room k callerA) (hY : ∀ (w : World) (h : Heap), YP w h → (K w.params).In h)
    (F : ∀ (w : World) (mg : Str → Option Value) (fa : Addr) (h : Heap), (K w.params).In h → h.Ns mainGlobals mg → mg d.name = some (.ref fa) → ∃ fd : FuncData, (∀ (s : Shared) (u : Value), BindsTo s fd ⟨[u], []⟩ [(x, u)]) ∧ ∀ base : Heap, (K w.params).In base → base.Ns mainGlobals mg → ∃ cl : Nat → Addr, FnG l.prog w (K w.params) mg base (L2N.CX l.prog w) k fa fd [x] (spP (K w.params) cl 1 f))
    (hf : ∀ ns : List Int, ns.length ≤ n → f [.frl ns] = some (.ret (.bl true))) :
    PySem.W.WalkO q loose XP YP l.row.toRowW d [] (fun f vs => PySem.call f vs) := by
  refine walk_ofG (n := n) (k := k) (x := x) (CX := fun w => L2N.CX l.prog w) (sp := fun w => spLaw (K w.params) f) hn hn2 hdf hr hY (fun w mg fa h KX G hm => ?_) (fun w H a ns hl _ hS => ⟨a, ns, rfl, hS, hf ns hl, fun _ => rfl⟩) ?_
  · obtain ⟨fd, hb, hF⟩ := F w mg fa h KX G hm
    refine ⟨fd, hb, fun base KB NB => ?_⟩
    obtain ⟨cl, hG⟩ := hF base KB NB
    exact hG.imp fun vs H Q E => spLaw_of
  · intro w H s e s' h
    obtain ⟨_, _, _, _, _, _, _, _, _, _, _, _, z⟩ := h
    exact z
theorem walk_end {l : PySem.W.OpenLaw} {n k : Nat} {q : Program} {loose : List Str} {XP : (Str → Option Value) → Heap → Prop} {YP : World → Heap → Prop} {d : DefRec} {K : Params → PySem.W.Frag} {x : Str} {f : List PV → Option RO} (hn : l.most = some n) (hn2 : n ≤ sizeLine) (hdf : d.params.defaults = []) (hr : Room k callerA) (hY : ∀ (w : World) (h : Heap), YP w h → (K w.params).In h)
    (F : ∀ (w : World) (mg : Str → Option Value) (fa : Addr) (h : Heap), (K w.params).In h → h.Ns mainGlobals mg → mg d.name = some (.ref fa) → ∃ fd : FuncData, (∀ (s : Shared) (u : Value), BindsTo s fd ⟨[u], []⟩ [(x, u)]) ∧ ∀ base : Heap, (K w.params).In base → base.Ns mainGlobals mg → ∃ cl : Nat → Addr, FnOk l.prog w (K w.params) mg base (L2N.CX l.prog w) k fa fd [x] (spP (K w.params) cl 1 f))
    (hf : ∀ ns : List Int, ns.length ≤ n → f [.frl ns] = some (.ret (.bl true))) :
    PySem.W.WalkO q loose XP YP l.row.toRowW d [] (fun f vs => PySem.call f vs) :=
  walk_endG hn hn2 hdf hr hY (fun w mg fa h KX G hm => by
    obtain ⟨fd, hb, hF⟩ := F w mg fa h KX G hm
    exact ⟨fd, hb, fun base KB NB => let ⟨cl, hG⟩ := hF base KB NB; ⟨cl, FnOk.g hG⟩⟩) hf
end Kp
set_option Elab.async false
set_option linter.all false
set_option maxRecDepth 100000
set_option maxHeartbeats 4000000
namespace A11
open PySem PyProof.Rows L2 Kp
def top (i : Nat) : Stmt := PySem.Challenge.pw_keptacross_k11_word_maps.main.body.getD i (.Pass ⟨0, 0, 0, 0⟩)
abbrev s_BadMap___init__ : Stmt := inClass (top 2) 0
abbrev N_BadMap___init__ : List Str := ["self", "pairs"]
theorem sc_BadMap___init__ : FnScope N_BadMap___init__ ["self", "pairs"] (defScope s_BadMap___init__) := ⟨rfl, rfl, rfl, by decide +kernel, rfl, by decide +kernel, by decide +kernel⟩
abbrev s_BadTongue___init__ : Stmt := inClass (top 3) 0
abbrev N_BadTongue___init__ : List Str := ["self", "word"]
theorem sc_BadTongue___init__ : FnScope N_BadTongue___init__ ["self", "word"] (defScope s_BadTongue___init__) := ⟨rfl, rfl, rfl, by decide +kernel, rfl, by decide +kernel, by decide +kernel⟩
abbrev s_BadTerm___init__ : Stmt := inClass (top 4) 0
abbrev N_BadTerm___init__ : List Str := ["self", "word"]
theorem sc_BadTerm___init__ : FnScope N_BadTerm___init__ ["self", "word"] (defScope s_BadTerm___init__) := ⟨rfl, rfl, rfl, by decide +kernel, rfl, by decide +kernel, by decide +kernel⟩
abbrev s_deep : Stmt := top 6
abbrev N_deep : List Str := ["thing", "part"]
theorem sc_deep : FnScope N_deep ["thing"] (defScope s_deep) := ⟨rfl, rfl, rfl, by decide +kernel, rfl, by decide +kernel, by decide +kernel⟩
abbrev s_is_word : Stmt := top 7
abbrev N_is_word : List Str := ["thing", "letter"]
theorem sc_is_word : FnScope N_is_word ["thing"] (defScope s_is_word) := ⟨rfl, rfl, rfl, by decide +kernel, rfl, by decide +kernel, by decide +kernel⟩
abbrev s_is_rising : Stmt := top 8
abbrev N_is_rising : List Str := ["row", "at"]
theorem sc_is_rising : FnScope N_is_rising ["row"] (defScope s_is_rising) := ⟨rfl, rfl, rfl, by decide +kernel, rfl, by decide +kernel, by decide +kernel⟩
abbrev s_is_pair_of_words : Stmt := top 10
abbrev N_is_pair_of_words : List Str := ["thing"]
theorem sc_is_pair_of_words : FnScope N_is_pair_of_words ["thing"] (defScope s_is_pair_of_words) := ⟨rfl, rfl, rfl, by decide +kernel, rfl, by decide +kernel, by decide +kernel⟩
abbrev s_is_map : Stmt := top 11
abbrev N_is_map : List Str := ["thing", "pair"]
theorem sc_is_map : FnScope N_is_map ["thing"] (defScope s_is_map) := ⟨rfl, rfl, rfl, by decide +kernel, rfl, by decide +kernel, by decide +kernel⟩
abbrev s_mapped : Stmt := top 12
abbrev N_mapped : List Str := ["pairs", "word", "one", "other"]
theorem sc_mapped : FnScope N_mapped ["pairs", "word"] (defScope s_mapped) := ⟨rfl, rfl, rfl, by decide +kernel, rfl, by decide +kernel, by decide +kernel⟩
abbrev s_followed : Stmt := top 13
abbrev N_followed : List Str := ["first", "second", "found", "one", "other"]
theorem sc_followed : FnScope N_followed ["first", "second"] (defScope s_followed) := ⟨rfl, rfl, rfl, by decide +kernel, rfl, by decide +kernel, by decide +kernel⟩
abbrev s_WordMap___init__ : Stmt := inClass (top 14) 0
abbrev N_WordMap___init__ : List Str := ["self", "pairs", "told"]
theorem sc_WordMap___init__ : FnScope N_WordMap___init__ ["self", "pairs"] (defScope s_WordMap___init__) := ⟨rfl, rfl, rfl, by decide +kernel, rfl, by decide +kernel, by decide +kernel⟩
abbrev s_WordMap___call__ : Stmt := inClass (top 14) 1
abbrev N_WordMap___call__ : List Str := ["self", "word"]
theorem sc_WordMap___call__ : FnScope N_WordMap___call__ ["self", "word"] (defScope s_WordMap___call__) := ⟨rfl, rfl, rfl, by decide +kernel, rfl, by decide +kernel, by decide +kernel⟩
abbrev s_WordMap___contains__ : Stmt := inClass (top 14) 2
abbrev N_WordMap___contains__ : List Str := ["self", "word", "pair"]
theorem sc_WordMap___contains__ : FnScope N_WordMap___contains__ ["self", "word"] (defScope s_WordMap___contains__) := ⟨rfl, rfl, rfl, by decide +kernel, rfl, by decide +kernel, by decide +kernel⟩
abbrev s_WordMap___eq__ : Stmt := inClass (top 14) 3
abbrev N_WordMap___eq__ : List Str := ["self", "other"]
theorem sc_WordMap___eq__ : FnScope N_WordMap___eq__ ["self", "other"] (defScope s_WordMap___eq__) := ⟨rfl, rfl, rfl, by decide +kernel, rfl, by decide +kernel, by decide +kernel⟩
abbrev s_WordMap___len__ : Stmt := inClass (top 14) 4
abbrev N_WordMap___len__ : List Str := ["self"]
theorem sc_WordMap___len__ : FnScope N_WordMap___len__ ["self"] (defScope s_WordMap___len__) := ⟨rfl, rfl, rfl, by decide +kernel, rfl, by decide +kernel, by decide +kernel⟩
abbrev s_WordMap___iter__ : Stmt := inClass (top 14) 5
abbrev N_WordMap___iter__ : List Str := ["self"]
theorem sc_WordMap___iter__ : FnScope N_WordMap___iter__ ["self"] (defScope s_WordMap___iter__) := ⟨rfl, rfl, rfl, by decide +kernel, rfl, by decide +kernel, by decide +kernel⟩
abbrev s_WordMap_then : Stmt := inClass (top 14) 6
abbrev N_WordMap_then : List Str := ["self", "second"]
theorem sc_WordMap_then : FnScope N_WordMap_then ["self", "second"] (defScope s_WordMap_then) := ⟨rfl, rfl, rfl, by decide +kernel, rfl, by decide +kernel, by decide +kernel⟩
abbrev s_WordMap_of : Stmt := inClass (top 14) 7
abbrev N_WordMap_of : List Str := ["cls", "pairs", "found", "one", "other"]
theorem sc_WordMap_of : FnScope N_WordMap_of ["cls", "pairs"] (defScope s_WordMap_of) := ⟨rfl, rfl, rfl, by decide +kernel, rfl, by decide +kernel, by decide +kernel⟩
abbrev s__law_source : Stmt := top 16
abbrev N__law_source : List Str := ["script", "salt"]
theorem sc__law_source : FnScope N__law_source ["script", "salt"] (defScope s__law_source) := ⟨rfl, rfl, rfl, by decide +kernel, rfl, by decide +kernel, by decide +kernel⟩
abbrev s__law_next : Stmt := top 17
abbrev N__law_next : List Str := ["source", "script", "k", "cell"]
theorem sc__law_next : FnScope N__law_next ["source"] (defScope s__law_next) := ⟨rfl, rfl, rfl, by decide +kernel, rfl, by decide +kernel, by decide +kernel⟩
abbrev s__law_pick : Stmt := top 18
abbrev N__law_pick : List Str := ["source", "many", "told", "low", "high", "last"]
theorem sc__law_pick : FnScope N__law_pick ["source", "many"] (defScope s__law_pick) := ⟨rfl, rfl, rfl, by decide +kernel, rfl, by decide +kernel, by decide +kernel⟩
abbrev s__law_one_in : Stmt := top 19
abbrev N__law_one_in : List Str := ["source", "many"]
theorem sc__law_one_in : FnScope N__law_one_in ["source", "many"] (defScope s__law_one_in) := ⟨rfl, rfl, rfl, by decide +kernel, rfl, by decide +kernel, by decide +kernel⟩
abbrev s__law_one_of : Stmt := top 20
abbrev N__law_one_of : List Str := ["source", "row"]
theorem sc__law_one_of : FnScope N__law_one_of ["source", "row"] (defScope s__law_one_of) := ⟨rfl, rfl, rfl, by decide +kernel, rfl, by decide +kernel, by decide +kernel⟩
abbrev s__law_letter : Stmt := top 21
abbrev N__law_letter : List Str := ["k"]
theorem sc__law_letter : FnScope N__law_letter ["k"] (defScope s__law_letter) := ⟨rfl, rfl, rfl, by decide +kernel, rfl, by decide +kernel, by decide +kernel⟩
abbrev s__law_word : Stmt := top 22
abbrev N__law_word : List Str := ["source", "longest", "size", "k"]
theorem sc__law_word : FnScope N__law_word ["source", "longest"] (defScope s__law_word) := ⟨rfl, rfl, rfl, by decide +kernel, rfl, by decide +kernel, by decide +kernel⟩
abbrev s__law_words : Stmt := top 23
abbrev N__law_words : List Str := ["source", "many", "longest", "spent", "words", "k", "word", "many_more", "row", "j", "one"]
theorem sc__law_words : FnScope N__law_words ["source", "many", "longest", "spent"] (defScope s__law_words) := ⟨rfl, rfl, rfl, by decide +kernel, rfl, by decide +kernel, by decide +kernel⟩
abbrev s__law_lists : Stmt := top 24
abbrev N__law_lists : List Str := ["thing", "part"]
theorem sc__law_lists : FnScope N__law_lists ["thing"] (defScope s__law_lists) := ⟨rfl, rfl, rfl, by decide +kernel, rfl, by decide +kernel, by decide +kernel⟩
abbrev s__law_same : Stmt := top 25
abbrev N__law_same : List Str := ["actual", "due", "k"]
theorem sc__law_same : FnScope N__law_same ["actual", "due"] (defScope s__law_same) := ⟨rfl, rfl, rfl, by decide +kernel, rfl, by decide +kernel, by decide +kernel⟩
abbrev s__law_swap : Stmt := top 26
abbrev N__law_swap : List Str := ["row", "k", "thing"]
theorem sc__law_swap : FnScope N__law_swap ["row", "k", "thing"] (defScope s__law_swap) := ⟨rfl, rfl, rfl, by decide +kernel, rfl, by decide +kernel, by decide +kernel⟩
abbrev s__law_map : Stmt := top 27
abbrev N__law_map : List Str := ["pairs", "word"]
theorem sc__law_map : FnScope N__law_map ["pairs", "word"] (defScope s__law_map) := ⟨rfl, rfl, rfl, by decide +kernel, rfl, by decide +kernel, by decide +kernel⟩
abbrev s__law_then : Stmt := top 28
abbrev N__law_then : List Str := ["one_map", "other_map", "words", "rows", "pair", "word", "row"]
theorem sc__law_then : FnScope N__law_then ["one_map", "other_map"] (defScope s__law_then) := ⟨rfl, rfl, rfl, by decide +kernel, rfl, by decide +kernel, by decide +kernel⟩
abbrev s__law_drawn_map : Stmt := top 29
abbrev N__law_drawn_map : List Str := ["source", "pool", "rows", "word", "row"]
theorem sc__law_drawn_map : FnScope N__law_drawn_map ["source", "pool"] (defScope s__law_drawn_map) := ⟨rfl, rfl, rfl, by decide +kernel, rfl, by decide +kernel, by decide +kernel⟩
abbrev s__law_is_map : Stmt := top 30
abbrev N__law_is_map : List Str := ["word_map", "pairs", "words", "changed_words", "word", "pair"]
theorem sc__law_is_map : FnScope N__law_is_map ["word_map", "pairs", "words"] (defScope s__law_is_map) := ⟨rfl, rfl, rfl, by decide +kernel, rfl, by decide +kernel, by decide +kernel⟩
abbrev s__law_bad_word : Stmt := top 31
abbrev N__law_bad_word : List Str := ["source", "word", "odd"]
theorem sc__law_bad_word : FnScope N__law_bad_word ["source", "word"] (defScope s__law_bad_word) := ⟨rfl, rfl, rfl, by decide +kernel, rfl, by decide +kernel, by decide +kernel⟩
abbrev s__law_spoilt : Stmt := top 32
abbrev N__law_spoilt : List Str := ["source", "pairs", "pool", "fault", "rows", "k", "pair", "bad", "j", "odd"]
theorem sc__law_spoilt : FnScope N__law_spoilt ["source", "pairs", "pool"] (defScope s__law_spoilt) := ⟨rfl, rfl, rfl, by decide +kernel, rfl, by decide +kernel, by decide +kernel⟩
abbrev s__law_refused : Stmt := top 33
abbrev N__law_refused : List Str := ["thing", "raised"]
theorem sc__law_refused : FnScope N__law_refused ["thing"] (defScope s__law_refused) := ⟨rfl, rfl, rfl, by decide +kernel, rfl, by decide +kernel, by decide +kernel⟩
abbrev s__law_first_ones : Stmt := top 34
abbrev N__law_first_ones : List Str := ["rows", "found", "row", "word"]
theorem sc__law_first_ones : FnScope N__law_first_ones ["rows"] (defScope s__law_first_ones) := ⟨rfl, rfl, rfl, by decide +kernel, rfl, by decide +kernel, by decide +kernel⟩
abbrev s__law_of : Stmt := top 35
abbrev N__law_of : List Str := ["source", "pool", "words", "rows", "due", "k"]
theorem sc__law_of : FnScope N__law_of ["source", "pool", "words"] (defScope s__law_of) := ⟨rfl, rfl, rfl, by decide +kernel, rfl, by decide +kernel, by decide +kernel⟩
abbrev s__law_lists_stay : Stmt := top 36
abbrev N__law_lists_stay : List Str := ["pairs", "pool", "words", "rows", "word_map", "row", "pair"]
theorem sc__law_lists_stay : FnScope N__law_lists_stay ["pairs", "pool", "words"] (defScope s__law_lists_stay) := ⟨rfl, rfl, rfl, by decide +kernel, rfl, by decide +kernel, by decide +kernel⟩
abbrev s_law : Stmt := top 37
abbrev N_law : List Str := ["script", "source", "pool", "words", "one_pairs", "other_pairs", "one", "other", "k", "bent"]
theorem sc_law : FnScope N_law ["script"] (defScope s_law) := ⟨rfl, rfl, rfl, by decide +kernel, rfl, by decide +kernel, by decide +kernel⟩
def sub_BadMap (c : Nat) : Bool := [1].contains c
def sub_BadTongue (c : Nat) : Bool := [].contains c
def sub_BadTerm (c : Nat) : Bool := [].contains c
def sub_ValueError (c : Nat) : Bool := [1].contains c
def sub_AcrossError (c : Nat) : Bool := [1].contains c
structure Txt (K : PySem.W.Frag) (mg : Str → Option Value) (cl : Nat → Addr) (fa : Nat → Addr) (fd : Nat → FuncData) (dT10 cmp17 : Addr) : Prop where
  F_BadMap___init__ : Fun K "__init__" "BadMap.__init__" s_BadMap___init__ (fa 0) (fd 0)
  k_BadMap___init__ : PySem.W.keepIn K (.ref (fa 0)) = true
  b_BadMap___init__ : Binds K (fd 0) ["self", "pairs"] []
  F_BadTongue___init__ : Fun K "__init__" "BadTongue.__init__" s_BadTongue___init__ (fa 1) (fd 1)
  k_BadTongue___init__ : PySem.W.keepIn K (.ref (fa 1)) = true
  b_BadTongue___init__ : Binds K (fd 1) ["self", "word"] []
  F_BadTerm___init__ : Fun K "__init__" "BadTerm.__init__" s_BadTerm___init__ (fa 2) (fd 2)
  k_BadTerm___init__ : PySem.W.keepIn K (.ref (fa 2)) = true
  b_BadTerm___init__ : Binds K (fd 2) ["self", "word"] []
  F_deep : Fun K "deep" "deep" s_deep (fa 3) (fd 3)
  g_deep : mg "deep" = some (.ref (fa 3))
  k_deep : PySem.W.keepIn K (.ref (fa 3)) = true
  b_deep : Binds K (fd 3) ["thing"] []
  F_is_word : Fun K "is_word" "is_word" s_is_word (fa 4) (fd 4)
  g_is_word : mg "is_word" = some (.ref (fa 4))
  k_is_word : PySem.W.keepIn K (.ref (fa 4)) = true
  b_is_word : Binds K (fd 4) ["thing"] []
  F_is_rising : Fun K "is_rising" "is_rising" s_is_rising (fa 5) (fd 5)
  g_is_rising : mg "is_rising" = some (.ref (fa 5))
  k_is_rising : PySem.W.keepIn K (.ref (fa 5)) = true
  b_is_rising : Binds K (fd 5) ["row"] []
  F_is_pair_of_words : Fun K "is_pair_of_words" "is_pair_of_words" s_is_pair_of_words (fa 6) (fd 6)
  g_is_pair_of_words : mg "is_pair_of_words" = some (.ref (fa 6))
  k_is_pair_of_words : PySem.W.keepIn K (.ref (fa 6)) = true
  b_is_pair_of_words : Binds K (fd 6) ["thing"] []
  F_is_map : Fun K "is_map" "is_map" s_is_map (fa 7) (fd 7)
  g_is_map : mg "is_map" = some (.ref (fa 7))
  k_is_map : PySem.W.keepIn K (.ref (fa 7)) = true
  b_is_map : Binds K (fd 7) ["thing"] []
  F_mapped : Fun K "mapped" "mapped" s_mapped (fa 8) (fd 8)
  g_mapped : mg "mapped" = some (.ref (fa 8))
  k_mapped : PySem.W.keepIn K (.ref (fa 8)) = true
  b_mapped : Binds K (fd 8) ["pairs", "word"] []
  F_followed : Fun K "followed" "followed" s_followed (fa 9) (fd 9)
  g_followed : mg "followed" = some (.ref (fa 9))
  k_followed : PySem.W.keepIn K (.ref (fa 9)) = true
  b_followed : Binds K (fd 9) ["first", "second"] []
  D_WordMap___init__ : FunD K "__init__" "WordMap.__init__" (defArgs s_WordMap___init__) (defBody s_WordMap___init__) (defScope s_WordMap___init__) [.ref dT10] [] (fa 10) (fd 10)
  bd_WordMap___init__ : ∃ ds, Vals [.ref dT10] ds ∧ Binds K (fd 10) ["self", "pairs"] ds
  dl_WordMap___init__ : ∃ (o : Obj) (its : Array Value) (n : Nat), K.lookup dT10 = some o ∧ o.cls = .type "tuple" ∧ o.dict = none ∧ o.data = .seq its n ∧ its.size ≤ sizeLine ∧ Vals [] its.toList
  k_WordMap___init__ : PySem.W.keepIn K (.ref (fa 10)) = true
  b_WordMap___init__ : Binds K (fd 10) ["self", "pairs"] []
  F_WordMap___call__ : Fun K "__call__" "WordMap.__call__" s_WordMap___call__ (fa 11) (fd 11)
  k_WordMap___call__ : PySem.W.keepIn K (.ref (fa 11)) = true
  b_WordMap___call__ : Binds K (fd 11) ["self", "word"] []
  F_WordMap___contains__ : Fun K "__contains__" "WordMap.__contains__" s_WordMap___contains__ (fa 12) (fd 12)
  k_WordMap___contains__ : PySem.W.keepIn K (.ref (fa 12)) = true
  b_WordMap___contains__ : Binds K (fd 12) ["self", "word"] []
  F_WordMap___eq__ : Fun K "__eq__" "WordMap.__eq__" s_WordMap___eq__ (fa 13) (fd 13)
  k_WordMap___eq__ : PySem.W.keepIn K (.ref (fa 13)) = true
  b_WordMap___eq__ : Binds K (fd 13) ["self", "other"] []
  F_WordMap___len__ : Fun K "__len__" "WordMap.__len__" s_WordMap___len__ (fa 14) (fd 14)
  k_WordMap___len__ : PySem.W.keepIn K (.ref (fa 14)) = true
  b_WordMap___len__ : Binds K (fd 14) ["self"] []
  F_WordMap___iter__ : Fun K "__iter__" "WordMap.__iter__" s_WordMap___iter__ (fa 15) (fd 15)
  k_WordMap___iter__ : PySem.W.keepIn K (.ref (fa 15)) = true
  b_WordMap___iter__ : Binds K (fd 15) ["self"] []
  F_WordMap_then : Fun K "then" "WordMap.then" s_WordMap_then (fa 16) (fd 16)
  k_WordMap_then : PySem.W.keepIn K (.ref (fa 16)) = true
  b_WordMap_then : Binds K (fd 16) ["self", "second"] []
  F_WordMap_of : Fun K "of" "WordMap.of" s_WordMap_of (fa 17) (fd 17)
  k_WordMap_of : PySem.W.keepIn K (.ref (fa 17)) = true
  b_WordMap_of : Binds K (fd 17) ["cls", "pairs"] []
  F__law_source : Fun K "_law_source" "_law_source" s__law_source (fa 18) (fd 18)
  g__law_source : mg "_law_source" = some (.ref (fa 18))
  k__law_source : PySem.W.keepIn K (.ref (fa 18)) = true
  b__law_source : Binds K (fd 18) ["script", "salt"] []
  F__law_next : Fun K "_law_next" "_law_next" s__law_next (fa 19) (fd 19)
  g__law_next : mg "_law_next" = some (.ref (fa 19))
  k__law_next : PySem.W.keepIn K (.ref (fa 19)) = true
  b__law_next : Binds K (fd 19) ["source"] []
  F__law_pick : Fun K "_law_pick" "_law_pick" s__law_pick (fa 20) (fd 20)
  g__law_pick : mg "_law_pick" = some (.ref (fa 20))
  k__law_pick : PySem.W.keepIn K (.ref (fa 20)) = true
  b__law_pick : Binds K (fd 20) ["source", "many"] []
  F__law_one_in : Fun K "_law_one_in" "_law_one_in" s__law_one_in (fa 21) (fd 21)
  g__law_one_in : mg "_law_one_in" = some (.ref (fa 21))
  k__law_one_in : PySem.W.keepIn K (.ref (fa 21)) = true
  b__law_one_in : Binds K (fd 21) ["source", "many"] []
  F__law_one_of : Fun K "_law_one_of" "_law_one_of" s__law_one_of (fa 22) (fd 22)
  g__law_one_of : mg "_law_one_of" = some (.ref (fa 22))
  k__law_one_of : PySem.W.keepIn K (.ref (fa 22)) = true
  b__law_one_of : Binds K (fd 22) ["source", "row"] []
  F__law_letter : Fun K "_law_letter" "_law_letter" s__law_letter (fa 23) (fd 23)
  g__law_letter : mg "_law_letter" = some (.ref (fa 23))
  k__law_letter : PySem.W.keepIn K (.ref (fa 23)) = true
  b__law_letter : Binds K (fd 23) ["k"] []
  F__law_word : Fun K "_law_word" "_law_word" s__law_word (fa 24) (fd 24)
  g__law_word : mg "_law_word" = some (.ref (fa 24))
  k__law_word : PySem.W.keepIn K (.ref (fa 24)) = true
  b__law_word : Binds K (fd 24) ["source", "longest"] []
  F__law_words : Fun K "_law_words" "_law_words" s__law_words (fa 25) (fd 25)
  g__law_words : mg "_law_words" = some (.ref (fa 25))
  k__law_words : PySem.W.keepIn K (.ref (fa 25)) = true
  b__law_words : Binds K (fd 25) ["source", "many", "longest", "spent"] []
  F__law_lists : Fun K "_law_lists" "_law_lists" s__law_lists (fa 26) (fd 26)
  g__law_lists : mg "_law_lists" = some (.ref (fa 26))
  k__law_lists : PySem.W.keepIn K (.ref (fa 26)) = true
  b__law_lists : Binds K (fd 26) ["thing"] []
  F__law_same : Fun K "_law_same" "_law_same" s__law_same (fa 27) (fd 27)
  g__law_same : mg "_law_same" = some (.ref (fa 27))
  k__law_same : PySem.W.keepIn K (.ref (fa 27)) = true
  b__law_same : Binds K (fd 27) ["actual", "due"] []
  F__law_swap : Fun K "_law_swap" "_law_swap" s__law_swap (fa 28) (fd 28)
  g__law_swap : mg "_law_swap" = some (.ref (fa 28))
  k__law_swap : PySem.W.keepIn K (.ref (fa 28)) = true
  b__law_swap : Binds K (fd 28) ["row", "k", "thing"] []
  F__law_map : Fun K "_law_map" "_law_map" s__law_map (fa 29) (fd 29)
  g__law_map : mg "_law_map" = some (.ref (fa 29))
  k__law_map : PySem.W.keepIn K (.ref (fa 29)) = true
  b__law_map : Binds K (fd 29) ["pairs", "word"] []
  F__law_then : Fun K "_law_then" "_law_then" s__law_then (fa 30) (fd 30)
  g__law_then : mg "_law_then" = some (.ref (fa 30))
  k__law_then : PySem.W.keepIn K (.ref (fa 30)) = true
  b__law_then : Binds K (fd 30) ["one_map", "other_map"] []
  F__law_drawn_map : Fun K "_law_drawn_map" "_law_drawn_map" s__law_drawn_map (fa 31) (fd 31)
  g__law_drawn_map : mg "_law_drawn_map" = some (.ref (fa 31))
  k__law_drawn_map : PySem.W.keepIn K (.ref (fa 31)) = true
  b__law_drawn_map : Binds K (fd 31) ["source", "pool"] []
  F__law_is_map : Fun K "_law_is_map" "_law_is_map" s__law_is_map (fa 32) (fd 32)
  g__law_is_map : mg "_law_is_map" = some (.ref (fa 32))
  k__law_is_map : PySem.W.keepIn K (.ref (fa 32)) = true
  b__law_is_map : Binds K (fd 32) ["word_map", "pairs", "words"] []
  F__law_bad_word : Fun K "_law_bad_word" "_law_bad_word" s__law_bad_word (fa 33) (fd 33)
  g__law_bad_word : mg "_law_bad_word" = some (.ref (fa 33))
  k__law_bad_word : PySem.W.keepIn K (.ref (fa 33)) = true
  b__law_bad_word : Binds K (fd 33) ["source", "word"] []
  F__law_spoilt : Fun K "_law_spoilt" "_law_spoilt" s__law_spoilt (fa 34) (fd 34)
  g__law_spoilt : mg "_law_spoilt" = some (.ref (fa 34))
  k__law_spoilt : PySem.W.keepIn K (.ref (fa 34)) = true
  b__law_spoilt : Binds K (fd 34) ["source", "pairs", "pool"] []
  F__law_refused : Fun K "_law_refused" "_law_refused" s__law_refused (fa 35) (fd 35)
  g__law_refused : mg "_law_refused" = some (.ref (fa 35))
  k__law_refused : PySem.W.keepIn K (.ref (fa 35)) = true
  b__law_refused : Binds K (fd 35) ["thing"] []
  F__law_first_ones : Fun K "_law_first_ones" "_law_first_ones" s__law_first_ones (fa 36) (fd 36)
  g__law_first_ones : mg "_law_first_ones" = some (.ref (fa 36))
  k__law_first_ones : PySem.W.keepIn K (.ref (fa 36)) = true
  b__law_first_ones : Binds K (fd 36) ["rows"] []
  F__law_of : Fun K "_law_of" "_law_of" s__law_of (fa 37) (fd 37)
  g__law_of : mg "_law_of" = some (.ref (fa 37))
  k__law_of : PySem.W.keepIn K (.ref (fa 37)) = true
  b__law_of : Binds K (fd 37) ["source", "pool", "words"] []
  F__law_lists_stay : Fun K "_law_lists_stay" "_law_lists_stay" s__law_lists_stay (fa 38) (fd 38)
  g__law_lists_stay : mg "_law_lists_stay" = some (.ref (fa 38))
  k__law_lists_stay : PySem.W.keepIn K (.ref (fa 38)) = true
  b__law_lists_stay : Binds K (fd 38) ["pairs", "pool", "words"] []
  F_law : Fun K "law" "law" s_law (fa 39) (fd 39)
  g_law : mg "law" = some (.ref (fa 39))
  k_law : PySem.W.keepIn K (.ref (fa 39)) = true
  b_law : Binds K (fd 39) ["script"] []
  xc1 : L2.ExcC K (cl 1)
  kt1_BadMap : PySem.W.kitOne K (.ref (cl 1)) (.ref (cl 1)) = some true
  kt1_BadTongue : PySem.W.kitOne K (.ref (cl 1)) (.ref (cl 2)) = some false
  kt1_BadTerm : PySem.W.kitOne K (.ref (cl 1)) (.ref (cl 3)) = some false
  kt1_ValueError : PySem.W.kitOne K (.ref (cl 1)) (.type "ValueError") = some true
  kt1_AcrossError : PySem.W.kitOne K (.ref (cl 1)) (.ref (cl 0)) = some true
  xm1_AcrossError : PySem.W.exmOne K (.ref (cl 1)) (.ref (cl 0)) = some true
  z_isinstance : mg "isinstance" = none
  z_tuple : mg "tuple" = none
  z_list : mg "list" = none
  z_str : mg "str" = none
  z_len : mg "len" = none
  z_range : mg "range" = none
  z_sorted : mg "sorted" = none
  z_iter : mg "iter" = none
  z_sum : mg "sum" = none
  z_int : mg "int" = none
  z_abs : mg "abs" = none
  z_bool : mg "bool" = none
  z_all : mg "all" = none
  z_dict : mg "dict" = none
  z_set : mg "set" = none
  z_ValueError : mg "ValueError" = none
  z_repr : mg "repr" = none
  g_AcrossError : mg "AcrossError" = some (.ref (cl 0))
  bx0 : BaseX K (cl 0)
  g_BadMap : mg "BadMap" = some (.ref (cl 1))
  x1 : OexC K (cl 1)
  i1 : PySem.W.findIn K (.ref (cl 1)) "__init__" = some (some (.ref (fa 0)))
  t1 : PySem.W.typeIn K (.ref (fa 0)) = some (.type "function")
  xn1_pairs : PySem.W.findIn K (.ref (cl 1)) "pairs" = some none
  g_BadTongue : mg "BadTongue" = some (.ref (cl 2))
  x2 : OexC K (cl 2)
  i2 : PySem.W.findIn K (.ref (cl 2)) "__init__" = some (some (.ref (fa 1)))
  t2 : PySem.W.typeIn K (.ref (fa 1)) = some (.type "function")
  xn2_word : PySem.W.findIn K (.ref (cl 2)) "word" = some none
  g_BadTerm : mg "BadTerm" = some (.ref (cl 3))
  x3 : OexC K (cl 3)
  i3 : PySem.W.findIn K (.ref (cl 3)) "__init__" = some (some (.ref (fa 2)))
  t3 : PySem.W.typeIn K (.ref (fa 2)) = some (.type "function")
  xn3_word : PySem.W.findIn K (.ref (cl 3)) "word" = some none
  g_WordMap : mg "WordMap" = some (.ref (cl 4))
  c4 : Cls K (cl 4)
  ow4 : OwnC K (cl 4)
  n4_pairs : NoAttr K (cl 4) "pairs"
  m4 : Mk K (cl 4) (fa 10)
  co4 : _root_.StX.CallO K (cl 4) (fa 11)
  mc4 : PySem.W.findIn K (.ref (cl 4)) "__contains__" = some (some (.ref (fa 12)))
  mg4 : PySem.W.isFn K (.ref (fa 12)) = true
  me4 : PySem.W.findIn K (.ref (cl 4)) "__eq__" = some (some (.ref (fa 13)))
  mf4 : PySem.W.isFn K (.ref (fa 13)) = true
  ml4 : PySem.W.findIn K (.ref (cl 4)) "__len__" = some (some (.ref (fa 14)))
  mh4 : PySem.W.isFn K (.ref (fa 14)) = true
  mi4 : PySem.W.findIn K (.ref (cl 4)) "__iter__" = some (some (.ref (fa 15)))
  mj4 : PySem.W.isFn K (.ref (fa 15)) = true
  mm4_then : Meth K (cl 4) "then" (fa 16)
  cr4 : _root_.ClX.CRead K (cl 4) (.type "type")
  cm4_of : _root_.ClX.CMet K (cl 4) (.type "type") "of" cmp17 (fa 17)
section
variable {P : Program} {w : World} {K : PySem.W.Frag} {mg : Str → Option Value} {base : Heap} {cl fa : Nat → Addr} {fd : Nat → FuncData} {dT10 cmp17 : Addr}
def dp_WordMap___init__ : List PV := [.tup []]
theorem Txt.dv_WordMap___init__ (T : Txt K mg cl fa fd dT10 cmp17) (G : Hp) : RepL K cl G [.ref dT10] dp_WordMap___init__ := by
  obtain ⟨o, its, n, h⟩ := T.dl_WordMap___init__
  exact .one (.tup (.inr ⟨o, its, n, h⟩) (Nat.zero_le _) .nil)
theorem ok_BadMap___init__ (T : Txt K mg cl fa fd dT10 cmp17) : FnOk P w K mg base (L2N.CX P w) 1 (fa 0) (fd 0) ["self", "pairs"] (spX (cl 1) 2 [("pairs", 1)]) :=
  fnX (k := 0) (p0 := ("pairs", 1)) (fl := []) (ta := tCons (tC (.str "no word map is told by these pairs")) tNil) T.F_BadMap___init__ sc_BadMap___init__ T.x1 (by
    intro p hp
    simp only [List.mem_cons, List.not_mem_nil, or_false] at hp
    subst hp
    exact ⟨by decide, T.xn1_pairs⟩) (by decide)
    (fun cdv A outer s H E hr => by exact (pss_cons (ps_expr (pe_binit T.bx0 rfl T.g_AcrossError (pa_cons (pv 0) (pa_cons pe_str pa_nil)))) (pss_one (ps_ost (pv 0) (pv 1))))) (fun _ _ _ h => h _ (by decide))
theorem ok_BadTongue___init__ (T : Txt K mg cl fa fd dT10 cmp17) : FnOk P w K mg base (L2N.CX P w) 1 (fa 1) (fd 1) ["self", "word"] (spX (cl 2) 2 [("word", 1)]) :=
  fnX (k := 0) (p0 := ("word", 1)) (fl := []) (ta := tCons (tC (.str "a tongue cannot have this")) tNil) T.F_BadTongue___init__ sc_BadTongue___init__ T.x2 (by
    intro p hp
    simp only [List.mem_cons, List.not_mem_nil, or_false] at hp
    subst hp
    exact ⟨by decide, T.xn2_word⟩) (by decide)
    (fun cdv A outer s H E hr => by exact (pss_cons (ps_expr (pe_binit T.bx0 rfl T.g_AcrossError (pa_cons (pv 0) (pa_cons pe_str pa_nil)))) (pss_one (ps_ost (pv 0) (pv 1))))) (fun _ _ _ h => h _ (by decide))
theorem ok_BadTerm___init__ (T : Txt K mg cl fa fd dT10 cmp17) : FnOk P w K mg base (L2N.CX P w) 1 (fa 2) (fd 2) ["self", "word"] (spX (cl 3) 2 [("word", 1)]) :=
  fnX (k := 0) (p0 := ("word", 1)) (fl := []) (ta := tCons (tC (.str "a term cannot have this")) tNil) T.F_BadTerm___init__ sc_BadTerm___init__ T.x3 (by
    intro p hp
    simp only [List.mem_cons, List.not_mem_nil, or_false] at hp
    subst hp
    exact ⟨by decide, T.xn3_word⟩) (by decide)
    (fun cdv A outer s H E hr => by exact (pss_cons (ps_expr (pe_binit T.bx0 rfl T.g_AcrossError (pa_cons (pv 0) (pa_cons pe_str pa_nil)))) (pss_one (ps_ost (pv 0) (pv 1))))) (fun _ _ _ h => h _ (by decide))
def m_deep (rec : List PV → Option RO) : M Fl := mSeq (mIf (mTru (mIsa (ansAny [ansT noOc "list", ansT noOc "tuple"]) (mVar 0))) (mRet (mCB pTuple [mLc [1] (mIterA (mVar 0)) (gN 1) mYes (mCall rec [mVar 1])])) (mNx)) (mRet (mVar 0))
def fd_deep : Nat → List PV → Option RO
  | 0 => fun _ => none
  | d + 1 => runP N_deep.length (m_deep (fd_deep d))
def f_deep : List PV → Option RO := fd_deep 8
theorem okd_deep (T : Txt K mg cl fa fd dT10 cmp17) : ∀ d, FnOk P w K mg base (L2N.CX P w) (0 + d) (fa 3) (fd 3) ["thing"] (spP K cl 1 (fd_deep d))
  | 0 => fn_none
  | d + 1 => have ih := okd_deep T d
    fnP (k := 0 + d) (m := m_deep (fd_deep d)) T.F_deep sc_deep (fun cdv A outer s H E hr => by
    have hu := hu64 hr
    have tk : L2N.Takes (cxOf (L2N.CX P w) P w K mg base N_deep "deep" (defScope s_deep) (fa 3) cdv A outer s H E) (fun c d _ H' => E c d H') := L2N.takes_of rfl rfl rfl rfl
    exact (sm_cons (sm_if (tm_tru (em_isaT (.cons (.ty _) (isa_T0) (.cons (.ty _) (isa_T0) (.nil))) T.z_isinstance (em_v 0) (pa_cons (pe_bltn rfl T.z_list (v := .ty "list") (by rfl) rfl) (pa_cons (pe_bltn rfl T.z_tuple (v := .ty "tuple") (by rfl) rfl) (pa_nil))))) (sm_one (sm_ret (em_ct cr_tuple cs_tuple T.z_tuple (am_cons (LcM.em (LcM.mk (own := [("part", 1)]) (im_any (em_v 0)) (blkOk_by (own := [("part", 1)]) (N := N_deep) (sc := defScope s_deep) (by decide +kernel)) (blk_tg (fun _ _ _ _ _ => pg_name (i := 1) sc_deep.nd rfl (by first | exact Or.inl rfl | exact Or.inr rfl)) (does_gN) (gin_N (by decide))) (blk_ts fun _ _ _ _ _ => ts_nil) (blk_em fun _ _ _ _ _ => em_call takes_W0 (ih) (hr.mono (by first | decide | omega)) T.g_deep T.k_deep T.b_deep (am_cons (em_v 1) (am_nil)))) rfl sc_deep.nd) (am_nil))))) (sm_nil))
      (sm_one (sm_ret (em_v 0)))))
theorem ok_deep (T : Txt K mg cl fa fd dT10 cmp17) : FnOk P w K mg base (L2N.CX P w) 8 (fa 3) (fd 3) ["thing"] (spP K cl 1 f_deep) := okd_deep T 8
def m_is_word : M Fl := mSeq (mIf (mOr (mNot (mTru (mIsa (ansT noOc "str") (mVar 0)))) (mNot (mTest (mChain pLeI pLeI (mK (.int 1)) (mCBV pLen 0) (mK (.int 8)))))) (mRet (mK (.bl false))) (mNx)) (mSeq (mFor (mIterA (mVar 0)) (gN 1) (mIf (mNot (mTest (mChain pLeI pLeI (mK (.str "a")) (mVar 1) (mK (.str "z"))))) (mRet (mK (.bl false))) (mNx))) (mRet (mK (.bl true))))
def f_is_word : List PV → Option RO := runP N_is_word.length m_is_word
theorem ok_is_word (T : Txt K mg cl fa fd dT10 cmp17) : FnOk P w K mg base (L2N.CX P w) 1 (fa 4) (fd 4) ["thing"] (spP K cl 1 f_is_word) :=
  fnP (k := 0) (m := m_is_word) T.F_is_word sc_is_word (fun cdv A outer s H E hr => by
    have hu := hu64 hr
    have tk : L2N.Takes (cxOf (L2N.CX P w) P w K mg base N_is_word "is_word" (defScope s_is_word) (fa 4) cdv A outer s H E) (fun c d _ H' => E c d H') := L2N.takes_of rfl rfl rfl rfl
    exact (sm_cons (sm_if (tm_w (wm_or (tm_not (tm_tru (em_isa (isa_T0) (.ty _) T.z_isinstance (em_v 0) (pe_bltn rfl T.z_str (v := .ty "str") (by rfl) rfl)))) (wm_or1 (tm_not (tm_chain br_le br_le (em_int) (em_cbV cr_lenA cs_len T.z_len (pv 0)) (em_int)))))) (sm_one (sm_ret (em_bl))) (sm_nil))
      (sm_cons (sm_for (passes_of rfl) rfl (im_any (em_v 0)) (gm_of (pg_name (i := 1) sc_is_word.nd rfl (by first | exact Or.inl rfl | exact Or.inr rfl)) (does_gN)) (sm_one (sm_if (tm_not (tm_chain br_le br_le (em_str) (em_v 1) (em_str))) (sm_one (sm_ret (em_bl))) (sm_nil))))
      (sm_one (sm_ret (em_bl))))))
def m_is_rising : M Fl := mSeq (mFor (mRng2 (mK (.int 1)) (mCBV pLen 0)) (gN 1) (mIf (mNot (mTest (mBin pLt (mIxV 0 (mBin pSub (mVar 1) (mK (.int 1)))) (mIxV 0 (mVar 1))))) (mRet (mK (.bl false))) (mNx))) (mRet (mK (.bl true)))
def f_is_rising : List PV → Option RO := runP N_is_rising.length m_is_rising
theorem ok_is_rising (T : Txt K mg cl fa fd dT10 cmp17) : FnOk P w K mg base (L2N.CX P w) 1 (fa 5) (fd 5) ["row"] (spP K cl 1 f_is_rising) :=
  fnP (k := 0) (m := m_is_rising) T.F_is_rising sc_is_rising (fun cdv A outer s H E hr => by
    have hu := hu64 hr
    have tk : L2N.Takes (cxOf (L2N.CX P w) P w K mg base N_is_rising "is_rising" (defScope s_is_rising) (fa 5) cdv A outer s H E) (fun c d _ H' => E c d H') := L2N.takes_of rfl rfl rfl rfl
    exact (sm_cons (sm_for (passes_of rfl) rfl (im_rng2 (em_int) (em_cbV cr_lenA cs_len T.z_len (pv 0)) T.z_range) (gm_of (pg_name (i := 1) sc_is_rising.nd rfl (by first | exact Or.inl rfl | exact Or.inr rfl)) (does_gN)) (sm_one (sm_if (tm_not (tm_cmp (br_lt hu) (em_ixV hu (pv 0) (em_op br_sub (em_v 1) (em_int))) (em_ixV hu (pv 0) (em_v 1)) (nomark _))) (sm_one (sm_ret (em_bl))) (sm_nil))))
      (sm_one (sm_ret (em_bl)))))
def m_is_pair_of_words : M Fl := mSeq (mIf (mOr (mNot (mTru (mIsa (ansT noOc "tuple") (mVar 0)))) (mTest (mBin pNe (mCBV pLen 0) (mK (.int 2))))) (mRet (mK (.bl false))) (mNx)) (mRet (mB (mAnd (mTest (mCall f_is_word [mIxV 0 (mK (.int 0))])) (mAnd (mTest (mCall f_is_word [mIxV 0 (mK (.int 1))])) (mTest (mBin pNe (mIxV 0 (mK (.int 0))) (mIxV 0 (mK (.int 1)))))))))
def f_is_pair_of_words : List PV → Option RO := runP N_is_pair_of_words.length m_is_pair_of_words
theorem ok_is_pair_of_words (T : Txt K mg cl fa fd dT10 cmp17) : FnOk P w K mg base (L2N.CX P w) 2 (fa 6) (fd 6) ["thing"] (spP K cl 1 f_is_pair_of_words) :=
  fnP (k := 1) (m := m_is_pair_of_words) T.F_is_pair_of_words sc_is_pair_of_words (fun cdv A outer s H E hr => by
    have hu := hu64 hr
    have tk : L2N.Takes (cxOf (L2N.CX P w) P w K mg base N_is_pair_of_words "is_pair_of_words" (defScope s_is_pair_of_words) (fa 6) cdv A outer s H E) (fun c d _ H' => E c d H') := L2N.takes_of rfl rfl rfl rfl
    exact (sm_cons (sm_if (tm_w (wm_or (tm_not (tm_tru (em_isa (isa_T0) (.ty _) T.z_isinstance (em_v 0) (pe_bltn rfl T.z_tuple (v := .ty "tuple") (by rfl) rfl)))) (wm_or1 (tm_cmp (br_ne hu) (em_cbV cr_lenA cs_len T.z_len (pv 0)) (em_int) (nomark _))))) (sm_one (sm_ret (em_bl))) (sm_nil))
      (sm_one (sm_ret (em_and (em_call tk (ok_is_word T) (hr.mono (by first | decide | omega)) T.g_is_word T.k_is_word T.b_is_word (am_cons (em_ixV hu (pv 0) (em_int)) (am_nil))) (em_and (em_call tk (ok_is_word T) (hr.mono (by first | decide | omega)) T.g_is_word T.k_is_word T.b_is_word (am_cons (em_ixV hu (pv 0) (em_int)) (am_nil))) (em_one (em_cmp (br_ne hu) (em_ixV hu (pv 0) (em_int)) (em_ixV hu (pv 0) (em_int)) (nomark _)))))))))
def m_is_map : M Fl := mSeq (mIf (mNot (mTru (mIsa (ansT noOc "tuple") (mVar 0)))) (mRet (mK (.bl false))) (mNx)) (mSeq (mFor (mIterA (mVar 0)) (gN 1) (mIf (mNot (mTru (mCall f_is_pair_of_words [mVar 1]))) (mRet (mK (.bl false))) (mNx))) (mRet (mCall f_is_rising [mLc [1] (mIterA (mVar 0)) (gN 1) mYes (mIxV 1 (mK (.int 0)))])))
def f_is_map : List PV → Option RO := runP N_is_map.length m_is_map
theorem ok_is_map (T : Txt K mg cl fa fd dT10 cmp17) : FnOk P w K mg base (L2N.CX P w) 3 (fa 7) (fd 7) ["thing"] (spP K cl 1 f_is_map) :=
  fnP (k := 2) (m := m_is_map) T.F_is_map sc_is_map (fun cdv A outer s H E hr => by
    have hu := hu64 hr
    have tk : L2N.Takes (cxOf (L2N.CX P w) P w K mg base N_is_map "is_map" (defScope s_is_map) (fa 7) cdv A outer s H E) (fun c d _ H' => E c d H') := L2N.takes_of rfl rfl rfl rfl
    exact (sm_cons (sm_if (tm_not (tm_tru (em_isa (isa_T0) (.ty _) T.z_isinstance (em_v 0) (pe_bltn rfl T.z_tuple (v := .ty "tuple") (by rfl) rfl)))) (sm_one (sm_ret (em_bl))) (sm_nil))
      (sm_cons (sm_for (passes_of rfl) rfl (im_any (em_v 0)) (gm_of (pg_name (i := 1) sc_is_map.nd rfl (by first | exact Or.inl rfl | exact Or.inr rfl)) (does_gN)) (sm_one (sm_if (tm_not (tm_tru (em_call tk (ok_is_pair_of_words T) (hr.mono (by first | decide | omega)) T.g_is_pair_of_words T.k_is_pair_of_words T.b_is_pair_of_words (am_cons (em_v 1) (am_nil))))) (sm_one (sm_ret (em_bl))) (sm_nil))))
      (sm_one (sm_ret (em_call tk (ok_is_rising T) (hr.mono (by first | decide | omega)) T.g_is_rising T.k_is_rising T.b_is_rising (am_cons (LcM.em (LcM.mk (own := [("pair", 1)]) (im_any (em_v 0)) (blkOk_by (own := [("pair", 1)]) (N := N_is_map) (sc := defScope s_is_map) (by decide +kernel)) (blk_tg (fun _ _ _ _ _ => pg_name (i := 1) sc_is_map.nd rfl (by first | exact Or.inl rfl | exact Or.inr rfl)) (does_gN) (gin_N (by decide))) (blk_ts fun _ _ _ _ _ => ts_nil) (blk_em fun _ _ _ _ _ => em_ixV hu (pv 1) (em_int))) rfl sc_is_map.nd) (am_nil))))))))
def m_mapped : M Fl := mSeq (mFor (mIterA (mVar 0)) (gT [gN 2, gN 3]) (mIf (mTest (mBin pEq (mVar 2) (mVar 1))) (mRet (mVar 3)) (mNx))) (mRet (mVar 1))
def f_mapped : List PV → Option RO := runP N_mapped.length m_mapped
theorem ok_mapped (T : Txt K mg cl fa fd dT10 cmp17) : FnOk P w K mg base (L2N.CX P w) 1 (fa 8) (fd 8) ["pairs", "word"] (spP K cl 2 f_mapped) :=
  fnP (k := 0) (m := m_mapped) T.F_mapped sc_mapped (fun cdv A outer s H E hr => by
    have hu := hu64 hr
    have tk : L2N.Takes (cxOf (L2N.CX P w) P w K mg base N_mapped "mapped" (defScope s_mapped) (fa 8) cdv A outer s H E) (fun c d _ H' => E c d H') := L2N.takes_of rfl rfl rfl rfl
    exact (sm_cons (sm_for (passes_of rfl) rfl (im_any (em_v 0)) (gm_of (pg_tup rfl (pgs_cons (pg_name (i := 2) sc_mapped.nd rfl (by first | exact Or.inl rfl | exact Or.inr rfl)) (pgs_cons (pg_name (i := 3) sc_mapped.nd rfl (by first | exact Or.inl rfl | exact Or.inr rfl)) (pgs_nil)))) (does_gT (does_gCons does_gN (does_gCons does_gN (does_gNil))) rfl)) (sm_one (sm_if (tm_cmp (br_eq hu) (em_v 2) (em_v 1) (nomark _)) (sm_one (sm_ret (em_v 3))) (sm_nil))))
      (sm_one (sm_ret (em_v 1)))))
def m_followed : M Fl := mSeq (mIf (mNot (mTru (mVar 0))) (mRet (mVar 1)) (mNx)) (mSeq (mIf (mNot (mTru (mVar 1))) (mRet (mVar 0)) (mNx)) (mSeq (mSetO 2 (mDct)) (mSeq (mFor (mIterA (mVar 0)) (gT [gN 3, gN 4]) (mPut 2 (mVar 3) (mCall f_mapped [mVar 1, mVar 4]))) (mSeq (mFor (mIterA (mVar 1)) (gT [gN 3, gN 4]) (mIf (mTest (mBinR pHasNot (mVar 3) 2)) (mPut 2 (mVar 3) (mVar 4)) (mNx))) (mRet (mCB pTuple [mLc [3] (mIterA (mCB pSortedX [mVar 2])) (gN 3) (mTest (mBin pNe (mIxV 2 (mVar 3)) (mVar 3))) (mTup [mVar 3, mIxV 2 (mVar 3)])]))))))
def f_followed : List PV → Option RO := runP N_followed.length m_followed
theorem ok_followed (T : Txt K mg cl fa fd dT10 cmp17) : FnOk P w K mg base (L2N.CX P w) 2 (fa 9) (fd 9) ["first", "second"] (spP K cl 2 f_followed) :=
  fnP (k := 1) (m := m_followed) T.F_followed sc_followed (fun cdv A outer s H E hr => by
    have hu := hu64 hr
    have tk : L2N.Takes (cxOf (L2N.CX P w) P w K mg base N_followed "followed" (defScope s_followed) (fa 9) cdv A outer s H E) (fun c d _ H' => E c d H') := L2N.takes_of rfl rfl rfl rfl
    exact (sm_cons (sm_if (tm_not (tm_tru (em_v 0))) (sm_one (sm_ret (em_v 1))) (sm_nil))
      (sm_cons (sm_if (tm_not (tm_tru (em_v 1))) (sm_one (sm_ret (em_v 0))) (sm_nil))
      (sm_cons (sm_setO (i := 2) sc_followed.nd rfl (by first | exact Or.inl rfl | exact Or.inr rfl) (fm_dct))
      (sm_cons (sm_for (passes_of rfl) rfl (im_any (em_v 0)) (gm_of (pg_tup rfl (pgs_cons (pg_name (i := 3) sc_followed.nd rfl (by first | exact Or.inl rfl | exact Or.inr rfl)) (pgs_cons (pg_name (i := 4) sc_followed.nd rfl (by first | exact Or.inl rfl | exact Or.inr rfl)) (pgs_nil)))) (does_gT (does_gCons does_gN (does_gCons does_gN (does_gNil))) rfl)) (sm_one (sm_put hu (pv 2) (em_v 3) (em_call tk (ok_mapped T) (hr.mono (by first | decide | omega)) T.g_mapped T.k_mapped T.b_mapped (am_cons (em_v 1) (am_cons (em_v 4) (am_nil)))))))
      (sm_cons (sm_for (passes_of rfl) rfl (im_any (em_v 1)) (gm_of (pg_tup rfl (pgs_cons (pg_name (i := 3) sc_followed.nd rfl (by first | exact Or.inl rfl | exact Or.inr rfl)) (pgs_cons (pg_name (i := 4) sc_followed.nd rfl (by first | exact Or.inl rfl | exact Or.inr rfl)) (pgs_nil)))) (does_gT (does_gCons does_gN (does_gCons does_gN (does_gNil))) rfl)) (sm_one (sm_if (tm_cmpRt (br_hasNot hu) (em_v 3) (pv 2) rfl) (sm_one (sm_put hu (pv 2) (em_v 3) (em_v 4))) (sm_nil))))
      (sm_one (sm_ret (em_ct cr_tuple cs_tuple T.z_tuple (am_cons (LcM.em (LcM.mk (own := [("one", 3)]) (im_any (em_fm (fm_cb (cr_sortedX rfl hu) cs_sortedX T.z_sorted (am_cons (em_v 2) (am_nil))))) (blkOk_by (own := [("one", 3)]) (N := N_followed) (sc := defScope s_followed) (by decide +kernel)) (blk_tg (fun _ _ _ _ _ => pg_name (i := 3) sc_followed.nd rfl (by first | exact Or.inl rfl | exact Or.inr rfl)) (does_gN) (gin_N (by decide))) (blk_ts fun _ _ _ _ _ => ts_one (tm_cmp (br_ne hu) (em_ixV hu (pv 2) (em_v 3)) (em_v 3) (nomark _))) (blk_em fun _ _ _ _ _ => em_tup (am_cons (em_v 3) (am_cons (em_ixV hu (pv 2) (em_v 3)) (am_nil))))) rfl sc_followed.nd) (am_nil)))))))))))
def m_WordMap___init__ : M Fl := mSeq (mSet 2 (mCall f_deep [mVar 1])) (mSeq (mIf (mNot (mTru (mCall f_is_map [mVar 2]))) (mRaise 1 [("pairs", 0)] [mVar 1]) (mNx)) (mSetF 0 4 "pairs" (mVar 2)))
def f_WordMap___init__ : PV → List PV → Option (PV × RO) := runI N_WordMap___init__.length m_WordMap___init__
theorem ok_WordMap___init__ (T : Txt K mg cl fa fd dT10 cmp17) : FnOk P w K mg base (L2N.CX P w) 9 (fa 10) (fd 10) ["self", "pairs"] (spI K cl 2 f_WordMap___init__) :=
  fnID (k := 8) (m := m_WordMap___init__) T.D_WordMap___init__ sc_WordMap___init__ (fun cdv A outer s H E hr => by
    have hu := hu64 hr
    have tk : L2N.Takes (cxOf (L2N.CX P w) P w K mg base N_WordMap___init__ "WordMap.__init__" (defScope s_WordMap___init__) (fa 10) cdv A outer s H E) (fun c d _ H' => E c d H') := L2N.takes_of rfl rfl rfl rfl
    exact (sm_cons (sm_set (i := 2) sc_WordMap___init__.nd rfl (by first | exact Or.inl rfl | exact Or.inr rfl) (em_call tk (ok_deep T) (hr.mono (by first | decide | omega)) T.g_deep T.k_deep T.b_deep (am_cons (em_v 1) (am_nil))))
      (sm_cons (sm_if (tm_not (tm_tru (em_call tk (ok_is_map T) (hr.mono (by first | decide | omega)) T.g_is_map T.k_is_map T.b_is_map (am_cons (em_v 2) (am_nil))))) (sm_one (sm_raise (c := 1) (fl := [("pairs", 0)]) rfl tk T.x1 T.i1 T.t1 (ok_BadMap___init__ T) (hr.mono (by first | decide | omega)) T.b_BadMap___init__ T.g_BadMap (am_cons (em_v 1) (am_nil)))) (sm_nil))
      (sm_one (sm_setF (c := 4) T.c4 T.n4_pairs (pv 0) (em_v 2))))))
def m_WordMap___call__ : M Fl := mRet (mCall f_mapped [mFldV 0 4 "pairs", mVar 1])
def f_WordMap___call__ : List PV → Option RO := runP N_WordMap___call__.length m_WordMap___call__
theorem ok_WordMap___call__ (T : Txt K mg cl fa fd dT10 cmp17) : FnOk P w K mg base (L2N.CX P w) 2 (fa 11) (fd 11) ["self", "word"] (spP K cl 2 f_WordMap___call__) :=
  fnP (k := 1) (m := m_WordMap___call__) T.F_WordMap___call__ sc_WordMap___call__ (fun cdv A outer s H E hr => by
    have hu := hu64 hr
    have tk : L2N.Takes (cxOf (L2N.CX P w) P w K mg base N_WordMap___call__ "WordMap.__call__" (defScope s_WordMap___call__) (fa 11) cdv A outer s H E) (fun c d _ H' => E c d H') := L2N.takes_of rfl rfl rfl rfl
    exact (sm_one (sm_ret (em_call tk (ok_mapped T) (hr.mono (by first | decide | omega)) T.g_mapped T.k_mapped T.b_mapped (am_cons (em_fldV (c := 4) (pv 0) T.c4 T.n4_pairs) (am_cons (em_v 1) (am_nil)))))))
def m_WordMap___contains__ : M Fl := mRet (mBin pHas (mVar 1) (mLc [2] (mIterA (mFldV 0 4 "pairs")) (gN 2) mYes (mIxV 2 (mK (.int 0)))))
def f_WordMap___contains__ : List PV → Option RO := runP N_WordMap___contains__.length m_WordMap___contains__
theorem ok_WordMap___contains__ (T : Txt K mg cl fa fd dT10 cmp17) : FnOk P w K mg base (L2N.CX P w) 1 (fa 12) (fd 12) ["self", "word"] (spP K cl 2 f_WordMap___contains__) :=
  fnP (k := 0) (m := m_WordMap___contains__) T.F_WordMap___contains__ sc_WordMap___contains__ (fun cdv A outer s H E hr => by
    have hu := hu64 hr
    have tk : L2N.Takes (cxOf (L2N.CX P w) P w K mg base N_WordMap___contains__ "WordMap.__contains__" (defScope s_WordMap___contains__) (fa 12) cdv A outer s H E) (fun c d _ H' => E c d H') := L2N.takes_of rfl rfl rfl rfl
    exact (sm_one (sm_ret (em_cmp (br_has hu) (em_v 1) (LcM.em (LcM.mk (own := [("pair", 2)]) (im_any (em_fldV (c := 4) (pv 0) T.c4 T.n4_pairs)) (blkOk_by (own := [("pair", 2)]) (N := N_WordMap___contains__) (sc := defScope s_WordMap___contains__) (by decide +kernel)) (blk_tg (fun _ _ _ _ _ => pg_name (i := 2) sc_WordMap___contains__.nd rfl (by first | exact Or.inl rfl | exact Or.inr rfl)) (does_gN) (gin_N (by decide))) (blk_ts fun _ _ _ _ _ => ts_nil) (blk_em fun _ _ _ _ _ => em_ixV hu (pv 2) (em_int))) rfl sc_WordMap___contains__.nd) rfl))))
def m_WordMap___eq__ : M Fl := mRet (mB (mAnd (mTest (mIsa (ansO (ocOf 4)) (mVar 1))) (mTest (mBin pEq (mFldV 0 4 "pairs") (mFldV 1 4 "pairs")))))
def f_WordMap___eq__ : List PV → Option RO := runP N_WordMap___eq__.length m_WordMap___eq__
theorem ok_WordMap___eq__ (T : Txt K mg cl fa fd dT10 cmp17) : FnOk P w K mg base (L2N.CX P w) 1 (fa 13) (fd 13) ["self", "other"] (spP K cl 2 f_WordMap___eq__) :=
  fnP (k := 0) (m := m_WordMap___eq__) T.F_WordMap___eq__ sc_WordMap___eq__ (fun cdv A outer s H E hr => by
    have hu := hu64 hr
    have tk : L2N.Takes (cxOf (L2N.CX P w) P w K mg base N_WordMap___eq__ "WordMap.__eq__" (defScope s_WordMap___eq__) (fa 13) cdv A outer s H E) (fun c d _ H' => E c d H') := L2N.takes_of rfl rfl rfl rfl
    exact (sm_one (sm_ret (em_and (em_isa (isa_own T.ow4) (.own _) T.z_isinstance (em_v 1) (pe_glob (v := .ref (cl 4)) (by rfl) T.g_WordMap rfl)) (em_one (em_cmp (br_eq hu) (em_fldV (c := 4) (pv 0) T.c4 T.n4_pairs) (em_fldV (c := 4) (pv 1) T.c4 T.n4_pairs) (nomark _)))))))
def m_WordMap___len__ : M Fl := mRet (mCB pLen [mFldV 0 4 "pairs"])
def f_WordMap___len__ : List PV → Option RO := runP N_WordMap___len__.length m_WordMap___len__
theorem ok_WordMap___len__ (T : Txt K mg cl fa fd dT10 cmp17) : FnOk P w K mg base (L2N.CX P w) 1 (fa 14) (fd 14) ["self"] (spP K cl 1 f_WordMap___len__) :=
  fnP (k := 0) (m := m_WordMap___len__) T.F_WordMap___len__ sc_WordMap___len__ (fun cdv A outer s H E hr => by
    have hu := hu64 hr
    have tk : L2N.Takes (cxOf (L2N.CX P w) P w K mg base N_WordMap___len__ "WordMap.__len__" (defScope s_WordMap___len__) (fa 14) cdv A outer s H E) (fun c d _ H' => E c d H') := L2N.takes_of rfl rfl rfl rfl
    exact (sm_one (sm_ret (em_cb cr_lenA cs_len T.z_len (am_cons (em_fldV (c := 4) (pv 0) T.c4 T.n4_pairs) (am_nil))))))
theorem ok_WordMap___iter__ (T : Txt K mg cl fa fd dT10 cmp17) : FnOk P w K mg base (L2N.CX P w) 1 (fa 15) (fd 15) ["self"] (spIter K cl 4 (fldT "pairs")) :=
  fnIter (k := 0) T.F_WordMap___iter__ sc_WordMap___iter__ T.c4 T.n4_pairs rfl (fun cdv A outer s H E => pe_callB call_iterT rfl T.z_iter (by rfl) (pa_cons (pe_fld (pv 0) rfl) pa_nil rfl) (by decide) (by decide) rfl rfl)
def m_WordMap_then : M Fl := mRet (mMake 4 f_WordMap___init__ [mCall f_followed [mFldV 0 4 "pairs", mFldV 1 4 "pairs"]])
def f_WordMap_then : List PV → Option RO := runP N_WordMap_then.length m_WordMap_then
theorem ok_WordMap_then (T : Txt K mg cl fa fd dT10 cmp17) : FnOk P w K mg base (L2N.CX P w) 11 (fa 16) (fd 16) ["self", "second"] (spP K cl 2 f_WordMap_then) :=
  fnP (k := 10) (m := m_WordMap_then) T.F_WordMap_then sc_WordMap_then (fun cdv A outer s H E hr => by
    have hu := hu64 hr
    have tk : L2N.Takes (cxOf (L2N.CX P w) P w K mg base N_WordMap_then "WordMap.then" (defScope s_WordMap_then) (fa 16) cdv A outer s H E) (fun c d _ H' => E c d H') := L2N.takes_of rfl rfl rfl rfl
    exact (sm_one (sm_ret (em_make (c := 4) tk T.m4 (ok_WordMap___init__ T) (hr.mono (by first | decide | omega)) T.g_WordMap T.b_WordMap___init__ (am_cons (em_call tk (ok_followed T) (hr.mono (by first | decide | omega)) T.g_followed T.k_followed T.b_followed (am_cons (em_fldV (c := 4) (pv 0) T.c4 T.n4_pairs) (am_cons (em_fldV (c := 4) (pv 1) T.c4 T.n4_pairs) (am_nil)))) (am_nil))))))
def m_WordMap_of : M Fl := mSeq (mSetO 2 (mDct)) (mSeq (mFor (mIterA (mCall f_deep [mVar 1])) (gT [gN 3, gN 4]) (mIf (mTest (mBinR pHasNot (mVar 3) 2)) (mPut 2 (mVar 3) (mVar 4)) (mNx))) (mRet (mMakeV 0 4 f_WordMap___init__ [mCB pTuple [mLc [3] (mIterA (mCB pSortedX [mVar 2])) (gN 3) (mTest (mBin pNe (mIxV 2 (mVar 3)) (mVar 3))) (mTup [mVar 3, mIxV 2 (mVar 3)])]])))
def f_WordMap_of : List PV → Option RO := runP N_WordMap_of.length m_WordMap_of
theorem ok_WordMap_of (T : Txt K mg cl fa fd dT10 cmp17) : FnOk P w K mg base (L2N.CX P w) 11 (fa 17) (fd 17) ["cls", "pairs"] (spP K cl 2 f_WordMap_of) :=
  fnP (k := 10) (m := m_WordMap_of) T.F_WordMap_of sc_WordMap_of (fun cdv A outer s H E hr => by
    have hu := hu64 hr
    have tk : L2N.Takes (cxOf (L2N.CX P w) P w K mg base N_WordMap_of "WordMap.of" (defScope s_WordMap_of) (fa 17) cdv A outer s H E) (fun c d _ H' => E c d H') := L2N.takes_of rfl rfl rfl rfl
    exact (sm_cons (sm_setO (i := 2) sc_WordMap_of.nd rfl (by first | exact Or.inl rfl | exact Or.inr rfl) (fm_dct))
      (sm_cons (sm_for (passes_of rfl) rfl (im_any (em_call tk (ok_deep T) (hr.mono (by first | decide | omega)) T.g_deep T.k_deep T.b_deep (am_cons (em_v 1) (am_nil)))) (gm_of (pg_tup rfl (pgs_cons (pg_name (i := 3) sc_WordMap_of.nd rfl (by first | exact Or.inl rfl | exact Or.inr rfl)) (pgs_cons (pg_name (i := 4) sc_WordMap_of.nd rfl (by first | exact Or.inl rfl | exact Or.inr rfl)) (pgs_nil)))) (does_gT (does_gCons does_gN (does_gCons does_gN (does_gNil))) rfl)) (sm_one (sm_if (tm_cmpRt (br_hasNot hu) (em_v 3) (pv 2) rfl) (sm_one (sm_put hu (pv 2) (em_v 3) (em_v 4))) (sm_nil))))
      (sm_one (sm_ret (em_makeV (c := 4) tk T.m4 (ok_WordMap___init__ T) (hr.mono (by first | decide | omega)) T.b_WordMap___init__ (pv 0) (am_cons (em_ct cr_tuple cs_tuple T.z_tuple (am_cons (LcM.em (LcM.mk (own := [("one", 3)]) (im_any (em_fm (fm_cb (cr_sortedX rfl hu) cs_sortedX T.z_sorted (am_cons (em_v 2) (am_nil))))) (blkOk_by (own := [("one", 3)]) (N := N_WordMap_of) (sc := defScope s_WordMap_of) (by decide +kernel)) (blk_tg (fun _ _ _ _ _ => pg_name (i := 3) sc_WordMap_of.nd rfl (by first | exact Or.inl rfl | exact Or.inr rfl)) (does_gN) (gin_N (by decide))) (blk_ts fun _ _ _ _ _ => ts_one (tm_cmp (br_ne hu) (em_ixV hu (pv 2) (em_v 3)) (em_v 3) (nomark _))) (blk_em fun _ _ _ _ _ => em_tup (am_cons (em_v 3) (am_cons (em_ixV hu (pv 2) (em_v 3)) (am_nil))))) rfl sc_WordMap_of.nd) (am_nil))) (am_nil))))))))
def m__law_source : M PV := mLst [mVar 0, mVar 1, mK (.int 0), mK (.int 0), mK (.int 0)]
def f__law_source : List PV → Option RO := runO N__law_source.length m__law_source
theorem ok__law_source (T : Txt K mg cl fa fd dT10 cmp17) : FnOk P w K mg base (L2N.CX P w) 1 (fa 18) (fd 18) ["script", "salt"] (spO K cl 2 f__law_source) :=
  fnO (k := 0) (m := m__law_source) T.F__law_source sc__law_source rfl (fun cdv A outer s H E hr => by
    have hu := hu64 hr
    have tk : L2N.Takes (cxOf (L2N.CX P w) P w K mg base N__law_source "_law_source" (defScope s__law_source) (fa 18) cdv A outer s H E) (fun c d _ H' => E c d H') := L2N.takes_of rfl rfl rfl rfl
    exact (fm_lst (am_cons (em_v 0) (am_cons (em_v 1) (am_cons (em_int) (am_cons (em_int) (am_cons (em_int) (am_nil))))))))
def m__law_next : M Fl := mSeq (mSet 1 (mIxV 0 (mK (.int 0)))) (mSeq (mSet 2 (mIxV 0 (mK (.int 1)))) (mSeq (mSet 3 (mIfE (mTest (mBin pLt (mVar 2) (mCBV pLen 1))) (mIxV 1 (mVar 2)) (mBin pMod (mCB pInt [mBin pAdd (mCB pSum [mSl (mVar 1) (mNoB) (mBd (mK (.int 1)))]) (mBin pMul (mK (.int 31)) (mVar 2))]) (mK (.int 1000003))))) (mSeq (mPut 0 (mK (.int 1)) (mBin pAdd (mVar 2) (mK (.int 1)))) (mSeq (mPut 0 (mK (.int 2)) (mIfE (mTest (mBin pGeI (mCB pAbs [mVar 3]) (mBin pPow (mK (.int 10)) (mK (.int 18))))) (mBin pAdd (mCB pAbs [mVar 3]) (mCB pInt [mBin pLt (mVar 3) (mK (.int 0))])) (mK (.int 0)))) (mSeq (mPut 0 (mK (.int 3)) (mBin pAdd (mBin pMod (mCB pInt [mVar 3]) (mK (.int 2147483629))) (mBin pMul (mK (.int 17)) (mIxV 0 (mK (.int 1)))))) (mPut 0 (mK (.int 4)) (mK (.int 0))))))))
def f__law_next : PV → List PV → Option (PV × RO) := runI N__law_next.length m__law_next
theorem ok__law_next (T : Txt K mg cl fa fd dT10 cmp17) : FnOk P w K mg base (L2N.CX P w) 1 (fa 19) (fd 19) ["source"] (spI K cl 1 f__law_next) :=
  fnI (k := 0) (m := m__law_next) T.F__law_next sc__law_next (fun cdv A outer s H E hr => by
    have hu := hu64 hr
    have tk : L2N.Takes (cxOf (L2N.CX P w) P w K mg base N__law_next "_law_next" (defScope s__law_next) (fa 19) cdv A outer s H E) (fun c d _ H' => E c d H') := L2N.takes_of rfl rfl rfl rfl
    exact (sm_cons (sm_set (i := 1) sc__law_next.nd rfl (by first | exact Or.inl rfl | exact Or.inr rfl) (em_ixV hu (pv 0) (em_int)))
      (sm_cons (sm_set (i := 2) sc__law_next.nd rfl (by first | exact Or.inl rfl | exact Or.inr rfl) (em_ixV hu (pv 0) (em_int)))
      (sm_cons (sm_set (i := 3) sc__law_next.nd rfl (by first | exact Or.inl rfl | exact Or.inr rfl) (em_ife (tm_cmp (br_lt hu) (em_v 2) (em_cbV cr_lenA cs_len T.z_len (pv 1)) (nomark _)) (em_ixV hu (pv 1) (em_v 2)) (em_op br_mod (em_ct call_int1 cs_int T.z_int (am_cons (em_op br_add (em_cb (cr_sum rfl) cs_sum T.z_sum (am_cons (em_sl (em_v 1) (om_none) (om_some (em_int))) (am_nil))) (em_op br_mul (em_int) (em_v 2))) (am_nil))) (em_int))))
      (sm_cons (sm_put hu (pv 0) (em_int) (em_op br_add (em_v 2) (em_int)))
      (sm_cons (sm_put hu (pv 0) (em_int) (em_ife (tm_cmp br_ge (em_cb call_abs cs_abs T.z_abs (am_cons (em_v 3) (am_nil))) (em_op br_pow (em_int) (em_int)) (nomark _)) (em_op br_add (em_cb call_abs cs_abs T.z_abs (am_cons (em_v 3) (am_nil))) (em_ct call_int1 cs_int T.z_int (am_cons (em_cmp (br_lt hu) (em_v 3) (em_int) (nomark _)) (am_nil)))) (em_int)))
      (sm_cons (sm_put hu (pv 0) (em_int) (em_op br_add (em_op br_mod (em_ct call_int1 cs_int T.z_int (am_cons (em_v 3) (am_nil))) (em_int)) (em_op br_mul (em_int) (em_ixV hu (pv 0) (em_int)))))
      (sm_one (sm_put hu (pv 0) (em_int) (em_int))))))))))
def m__law_pick : M Fl := mSeq (mIf (mTest (mBin pGtI (mIxV 0 (mK (.int 2))) (mK (.int 0)))) (mSeq (mSet 2 (mBin pMod (mCB pInt [mIxV 0 (mK (.int 2))]) (mVar 1))) (mSeq (mPut 0 (mK (.int 2)) (mBin pDiv (mIxV 0 (mK (.int 2))) (mVar 1))) (mRet (mVar 2)))) (mNx)) (mSeq (mPut 0 (mK (.int 4)) (mBin pAdd (mIxV 0 (mK (.int 4))) (mK (.int 1)))) (mSeq (mSet 3 (mBin pMod (mCB pInt [mBin pAdd (mBin pAdd (mBin pMul (mIxV 0 (mK (.int 3))) (mK (.int 48271))) (mBin pMul (mIxV 0 (mK (.int 4))) (mK (.int 1234577)))) (mK (.int 7))]) (mK (.int 2147483647)))) (mSeq (mSet 4 (mBin pMod (mCB pInt [mBin pAdd (mBin pMul (mVar 3) (mVar 3)) (mBin pMul (mK (.int 16807)) (mIxV 0 (mK (.int 4))))]) (mK (.int 2147483399)))) (mSeq (mSet 5 (mBin pMod (mCB pInt [mBin pMul (mVar 4) (mVar 4)]) (mK (.int 2147483029)))) (mRet (mBin pMod (mCB pInt [mBin pAdd (mBin pDiv (mVar 5) (mK (.int 11))) (mBin pDiv (mVar 3) (mK (.int 7)))]) (mVar 1)))))))
def f__law_pick : PV → List PV → Option (PV × RO) := runI N__law_pick.length m__law_pick
theorem ok__law_pick (T : Txt K mg cl fa fd dT10 cmp17) : FnOk P w K mg base (L2N.CX P w) 1 (fa 20) (fd 20) ["source", "many"] (spI K cl 2 f__law_pick) :=
  fnI (k := 0) (m := m__law_pick) T.F__law_pick sc__law_pick (fun cdv A outer s H E hr => by
    have hu := hu64 hr
    have tk : L2N.Takes (cxOf (L2N.CX P w) P w K mg base N__law_pick "_law_pick" (defScope s__law_pick) (fa 20) cdv A outer s H E) (fun c d _ H' => E c d H') := L2N.takes_of rfl rfl rfl rfl
    exact (sm_cons (sm_if (tm_cmp br_gt (em_ixV hu (pv 0) (em_int)) (em_int) (nomark _)) (sm_cons (sm_set (i := 2) sc__law_pick.nd rfl (by first | exact Or.inl rfl | exact Or.inr rfl) (em_op br_mod (em_ct call_int1 cs_int T.z_int (am_cons (em_ixV hu (pv 0) (em_int)) (am_nil))) (em_v 1)))
      (sm_cons (sm_put hu (pv 0) (em_int) (em_op br_div (em_ixV hu (pv 0) (em_int)) (em_v 1)))
      (sm_one (sm_ret (em_v 2))))) (sm_nil))
      (sm_cons (sm_put hu (pv 0) (em_int) (em_op br_add (em_ixV hu (pv 0) (em_int)) (em_int)))
      (sm_cons (sm_set (i := 3) sc__law_pick.nd rfl (by first | exact Or.inl rfl | exact Or.inr rfl) (em_op br_mod (em_ct call_int1 cs_int T.z_int (am_cons (em_op br_add (em_op br_add (em_op br_mul (em_ixV hu (pv 0) (em_int)) (em_int)) (em_op br_mul (em_ixV hu (pv 0) (em_int)) (em_int))) (em_int)) (am_nil))) (em_int)))
      (sm_cons (sm_set (i := 4) sc__law_pick.nd rfl (by first | exact Or.inl rfl | exact Or.inr rfl) (em_op br_mod (em_ct call_int1 cs_int T.z_int (am_cons (em_op br_add (em_op br_mul (em_v 3) (em_v 3)) (em_op br_mul (em_int) (em_ixV hu (pv 0) (em_int)))) (am_nil))) (em_int)))
      (sm_cons (sm_set (i := 5) sc__law_pick.nd rfl (by first | exact Or.inl rfl | exact Or.inr rfl) (em_op br_mod (em_ct call_int1 cs_int T.z_int (am_cons (em_op br_mul (em_v 4) (em_v 4)) (am_nil))) (em_int)))
      (sm_one (sm_ret (em_op br_mod (em_ct call_int1 cs_int T.z_int (am_cons (em_op br_add (em_op br_div (em_v 5) (em_int)) (em_op br_div (em_v 3) (em_int))) (am_nil))) (em_v 1))))))))))
def m__law_one_in : M Fl := mRet (mBin pEq (mCallI 0 f__law_pick [mVar 1]) (mK (.int 0)))
def f__law_one_in : PV → List PV → Option (PV × RO) := runI N__law_one_in.length m__law_one_in
theorem ok__law_one_in (T : Txt K mg cl fa fd dT10 cmp17) : FnOk P w K mg base (L2N.CX P w) 2 (fa 21) (fd 21) ["source", "many"] (spI K cl 2 f__law_one_in) :=
  fnI (k := 1) (m := m__law_one_in) T.F__law_one_in sc__law_one_in (fun cdv A outer s H E hr => by
    have hu := hu64 hr
    have tk : L2N.Takes (cxOf (L2N.CX P w) P w K mg base N__law_one_in "_law_one_in" (defScope s__law_one_in) (fa 21) cdv A outer s H E) (fun c d _ H' => E c d H') := L2N.takes_of rfl rfl rfl rfl
    exact (sm_one (sm_ret (em_cmp (br_eq hu) (em_callI tk (ok__law_pick T) (hr.mono (by decide)) T.g__law_pick T.k__law_pick T.b__law_pick (pv 0) (am_cons (em_v 1) (am_nil))) (em_int) (nomark _)))))
def m__law_one_of : M Fl := mRet (mIxV 1 (mCallI 0 f__law_pick [mCBV pLen 1]))
def f__law_one_of : PV → List PV → Option (PV × RO) := runI N__law_one_of.length m__law_one_of
theorem ok__law_one_of (T : Txt K mg cl fa fd dT10 cmp17) : FnOk P w K mg base (L2N.CX P w) 2 (fa 22) (fd 22) ["source", "row"] (spI K cl 2 f__law_one_of) :=
  fnI (k := 1) (m := m__law_one_of) T.F__law_one_of sc__law_one_of (fun cdv A outer s H E hr => by
    have hu := hu64 hr
    have tk : L2N.Takes (cxOf (L2N.CX P w) P w K mg base N__law_one_of "_law_one_of" (defScope s__law_one_of) (fa 22) cdv A outer s H E) (fun c d _ H' => E c d H') := L2N.takes_of rfl rfl rfl rfl
    exact (sm_one (sm_ret (em_ixV hu (pv 1) (em_callI tk (ok__law_pick T) (hr.mono (by decide)) T.g__law_pick T.k__law_pick T.b__law_pick (pv 0) (am_cons (em_cbV cr_lenA cs_len T.z_len (pv 1)) (am_nil)))))))
def m__law_letter : M Fl := mRet (mBin pIx (mK (.str "abcdefghijklmnopqrstuvwxyz")) (mBin pMod (mCB pInt [mVar 0]) (mK (.int 26))))
def f__law_letter : List PV → Option RO := runP N__law_letter.length m__law_letter
theorem ok__law_letter (T : Txt K mg cl fa fd dT10 cmp17) : FnOk P w K mg base (L2N.CX P w) 1 (fa 23) (fd 23) ["k"] (spP K cl 1 f__law_letter) :=
  fnP (k := 0) (m := m__law_letter) T.F__law_letter sc__law_letter (fun cdv A outer s H E hr => by
    have hu := hu64 hr
    have tk : L2N.Takes (cxOf (L2N.CX P w) P w K mg base N__law_letter "_law_letter" (defScope s__law_letter) (fa 23) cdv A outer s H E) (fun c d _ H' => E c d H') := L2N.takes_of rfl rfl rfl rfl
    exact (sm_one (sm_ret (em_ix hu (em_str) (em_op br_mod (em_ct call_int1 cs_int T.z_int (am_cons (em_v 0) (am_nil))) (em_int))))))
def m__law_word : M Fl := mSeq (mSet 2 (mBin pAdd (mK (.int 1)) (mCallI 0 f__law_pick [mVar 1]))) (mRet (mBinS pJoin (mK (.str "")) (mLc [3] (mRng1 (mVar 2)) (gN 3) mYes (mCall f__law_letter [mCallI 0 f__law_pick [mK (.int 26)]]))))
def f__law_word : PV → List PV → Option (PV × RO) := runI N__law_word.length m__law_word
theorem ok__law_word (T : Txt K mg cl fa fd dT10 cmp17) : FnOk P w K mg base (L2N.CX P w) 2 (fa 24) (fd 24) ["source", "longest"] (spI K cl 2 f__law_word) :=
  fnI (k := 1) (m := m__law_word) T.F__law_word sc__law_word (fun cdv A outer s H E hr => by
    have hu := hu64 hr
    have tk : L2N.Takes (cxOf (L2N.CX P w) P w K mg base N__law_word "_law_word" (defScope s__law_word) (fa 24) cdv A outer s H E) (fun c d _ H' => E c d H') := L2N.takes_of rfl rfl rfl rfl
    exact (sm_cons (sm_set (i := 2) sc__law_word.nd rfl (by first | exact Or.inl rfl | exact Or.inr rfl) (em_op br_add (em_int) (em_callI tk (ok__law_pick T) (hr.mono (by decide)) T.g__law_pick T.k__law_pick T.b__law_pick (pv 0) (am_cons (em_v 1) (am_nil)))))
      (sm_one (sm_ret (em_join (em_str) (LcM.em (LcM.mk (own := [("k", 3)]) (im_rng1 (em_v 2) T.z_range) (blkOk_by (own := [("k", 3)]) (N := N__law_word) (sc := defScope s__law_word) (by decide +kernel)) (blk_tg (fun _ _ _ _ _ => pg_name (i := 3) sc__law_word.nd rfl (by first | exact Or.inl rfl | exact Or.inr rfl)) (does_gN) (gin_N (by decide))) (blk_ts fun _ _ _ _ _ => ts_nil) (blk_em fun _ _ _ _ _ => em_call takes_W0 (ok__law_letter T) (hr.mono (by first | decide | omega)) T.g__law_letter T.k__law_letter T.b__law_letter (am_cons (em_callI takes_W0 (ok__law_pick T) (hr.mono (by decide)) T.g__law_pick T.k__law_pick T.b__law_pick (pv 0) (am_cons (em_int) (am_nil))) (am_nil)))) rfl sc__law_word.nd))))))
def m__law_words : M Fl := mSeq (mSetO 4 (mLst [])) (mSeq (mFor (mRng1 (mVar 1)) (gN 5) (mSeq (mSet 6 (mCallI 0 f__law_word [mVar 2])) (mSeq (mSet 7 (mBin pAdd (mBin pAdd (mCBV pLen 3) (mCBV pLen 4)) (mK (.int 1)))) (mSeq (mSet 8 (mBin pAdd (mLst [mVar 6]) (mLc [9] (mRng1 (mVar 7)) (gN 9) mYes (mBin pAdd (mBin pAdd (mSl (mVar 6) (mNoB) (mBd (mBin pSub (mVar 2) (mK (.int 1))))) (mCall f__law_letter [mBin pDiv (mVar 9) (mK (.int 26))])) (mCall f__law_letter [mVar 9]))))) (mApp 4 (mBin pIx (mLc [10] (mIterA (mVar 8)) (gN 10) (mAnd (mTest (mBin pHasNot (mVar 10) (mVar 3))) (mTest (mBinR pHasNot (mVar 10) 4))) (mVar 10)) (mK (.int 0)))))))) (mRet (mVar 4)))
def f__law_words : PV → List PV → Option (PV × RO) := runI N__law_words.length m__law_words
theorem ok__law_words (T : Txt K mg cl fa fd dT10 cmp17) : FnOk P w K mg base (L2N.CX P w) 3 (fa 25) (fd 25) ["source", "many", "longest", "spent"] (spI K cl 4 f__law_words) :=
  fnI (k := 2) (m := m__law_words) T.F__law_words sc__law_words (fun cdv A outer s H E hr => by
    have hu := hu64 hr
    have tk : L2N.Takes (cxOf (L2N.CX P w) P w K mg base N__law_words "_law_words" (defScope s__law_words) (fa 25) cdv A outer s H E) (fun c d _ H' => E c d H') := L2N.takes_of rfl rfl rfl rfl
    exact (sm_cons (sm_setO (i := 4) sc__law_words.nd rfl (by first | exact Or.inl rfl | exact Or.inr rfl) (fm_lst (am_nil)))
      (sm_cons (sm_for (passes_of rfl) rfl (im_rng1 (em_v 1) T.z_range) (gm_of (pg_name (i := 5) sc__law_words.nd rfl (by first | exact Or.inl rfl | exact Or.inr rfl)) (does_gN)) (sm_cons (sm_set (i := 6) sc__law_words.nd rfl (by first | exact Or.inl rfl | exact Or.inr rfl) (em_callI tk (ok__law_word T) (hr.mono (by decide)) T.g__law_word T.k__law_word T.b__law_word (pv 0) (am_cons (em_v 2) (am_nil))))
      (sm_cons (sm_set (i := 7) sc__law_words.nd rfl (by first | exact Or.inl rfl | exact Or.inr rfl) (em_op br_add (em_op br_add (em_cbV cr_lenA cs_len T.z_len (pv 3)) (em_cbV cr_lenA cs_len T.z_len (pv 4))) (em_int)))
      (sm_cons (sm_set (i := 8) sc__law_words.nd rfl (by first | exact Or.inl rfl | exact Or.inr rfl) (em_op br_add (em_lst (am_cons (em_v 6) (am_nil))) (LcM.em (LcM.mk (own := [("j", 9)]) (im_rng1 (em_v 7) T.z_range) (blkOk_by (own := [("j", 9)]) (N := N__law_words) (sc := defScope s__law_words) (by decide +kernel)) (blk_tg (fun _ _ _ _ _ => pg_name (i := 9) sc__law_words.nd rfl (by first | exact Or.inl rfl | exact Or.inr rfl)) (does_gN) (gin_N (by decide))) (blk_ts fun _ _ _ _ _ => ts_nil) (blk_em fun _ _ _ _ _ => em_op br_add (em_op br_add (em_sl (em_v 6) (om_none) (om_some (em_op br_sub (em_v 2) (em_int)))) (em_call takes_W0 (ok__law_letter T) (hr.mono (by first | decide | omega)) T.g__law_letter T.k__law_letter T.b__law_letter (am_cons (em_op br_div (em_v 9) (em_int)) (am_nil)))) (em_call takes_W0 (ok__law_letter T) (hr.mono (by first | decide | omega)) T.g__law_letter T.k__law_letter T.b__law_letter (am_cons (em_v 9) (am_nil))))) rfl sc__law_words.nd)))
      (sm_one (sm_app (pv 4) (em_ix hu (LcM.em (LcM.mk (own := [("one", 10)]) (im_any (em_v 8)) (blkOk_by (own := [("one", 10)]) (N := N__law_words) (sc := defScope s__law_words) (by decide +kernel)) (blk_tg (fun _ _ _ _ _ => pg_name (i := 10) sc__law_words.nd rfl (by first | exact Or.inl rfl | exact Or.inr rfl)) (does_gN) (gin_N (by decide))) (blk_ts fun _ _ _ _ _ => ts_one (tm_w (wm_and (tm_cmp (br_hasNot hu) (em_v 10) (em_v 3) rfl) (wm_and1 (tm_cmpRt (br_hasNot hu) (em_v 10) (pv 4) rfl))))) (blk_em fun _ _ _ _ _ => em_v 10)) rfl sc__law_words.nd) (em_int))))))))
      (sm_one (sm_ret (em_v 4))))))
def m__law_lists (rec : List PV → Option RO) : M Fl := mRet (mIfE (mTru (mIsa (ansT noOc "tuple") (mVar 0))) (mLc [1] (mIterA (mVar 0)) (gN 1) mYes (mCall rec [mVar 1])) (mVar 0))
def fd__law_lists : Nat → List PV → Option RO
  | 0 => fun _ => none
  | d + 1 => runP N__law_lists.length (m__law_lists (fd__law_lists d))
def f__law_lists : List PV → Option RO := fd__law_lists 8
theorem okd__law_lists (T : Txt K mg cl fa fd dT10 cmp17) : ∀ d, FnOk P w K mg base (L2N.CX P w) (0 + d) (fa 26) (fd 26) ["thing"] (spP K cl 1 (fd__law_lists d))
  | 0 => fn_none
  | d + 1 => have ih := okd__law_lists T d
    fnP (k := 0 + d) (m := m__law_lists (fd__law_lists d)) T.F__law_lists sc__law_lists (fun cdv A outer s H E hr => by
    have hu := hu64 hr
    have tk : L2N.Takes (cxOf (L2N.CX P w) P w K mg base N__law_lists "_law_lists" (defScope s__law_lists) (fa 26) cdv A outer s H E) (fun c d _ H' => E c d H') := L2N.takes_of rfl rfl rfl rfl
    exact (sm_one (sm_ret (em_ife (tm_tru (em_isa (isa_T0) (.ty _) T.z_isinstance (em_v 0) (pe_bltn rfl T.z_tuple (v := .ty "tuple") (by rfl) rfl))) (LcM.em (LcM.mk (own := [("part", 1)]) (im_any (em_v 0)) (blkOk_by (own := [("part", 1)]) (N := N__law_lists) (sc := defScope s__law_lists) (by decide +kernel)) (blk_tg (fun _ _ _ _ _ => pg_name (i := 1) sc__law_lists.nd rfl (by first | exact Or.inl rfl | exact Or.inr rfl)) (does_gN) (gin_N (by decide))) (blk_ts fun _ _ _ _ _ => ts_nil) (blk_em fun _ _ _ _ _ => em_call takes_W0 (ih) (hr.mono (by first | decide | omega)) T.g__law_lists T.k__law_lists T.b__law_lists (am_cons (em_v 1) (am_nil)))) rfl sc__law_lists.nd) (em_v 0)))))
theorem ok__law_lists (T : Txt K mg cl fa fd dT10 cmp17) : FnOk P w K mg base (L2N.CX P w) 8 (fa 26) (fd 26) ["thing"] (spP K cl 1 f__law_lists) := okd__law_lists T 8
def m__law_same (rec : List PV → Option RO) : M Fl := mSeq (mIf (mTest (mIsN false (mVar 1))) (mRet (mIsN false (mVar 0))) (mNx)) (mSeq (mIf (mTru (mIsa (ansT noOc "bool") (mVar 1))) (mRet (mB (mAnd (mTest (mIsa (ansT noOc "bool") (mVar 0))) (mTest (mBin pEq (mVar 0) (mVar 1)))))) (mNx)) (mSeq (mIf (mTru (mIsa (ansT noOc "tuple") (mVar 1))) (mSeq (mIf (mOr (mNot (mTru (mIsa (ansT noOc "tuple") (mVar 0)))) (mTest (mBin pNe (mCBV pLen 0) (mCBV pLen 1)))) (mRet (mK (.bl false))) (mNx)) (mRet (mCB pAll [mLc [2] (mRng1 (mCBV pLen 1)) (gN 2) mYes (mCall rec [mIxV 0 (mVar 2), mIxV 1 (mVar 2)])]))) (mNx)) (mSeq (mIf (mTru (mIsa (ansT noOc "int") (mVar 1))) (mRet (mB (mAnd (mTest (mIsa (ansT noOc "int") (mVar 0))) (mAnd (mTest (mB (mNot (mTest (mIsa (ansT noOc "bool") (mVar 0)))))) (mTest (mBin pEq (mVar 0) (mVar 1))))))) (mNx)) (mRet (mB (mAnd (mTest (mIsa (ansT noOc "str") (mVar 0))) (mTest (mBin pEq (mVar 0) (mVar 1)))))))))
def fd__law_same : Nat → List PV → Option RO
  | 0 => fun _ => none
  | d + 1 => runP N__law_same.length (m__law_same (fd__law_same d))
def f__law_same : List PV → Option RO := fd__law_same 8
theorem okd__law_same (T : Txt K mg cl fa fd dT10 cmp17) : ∀ d, FnOk P w K mg base (L2N.CX P w) (0 + d) (fa 27) (fd 27) ["actual", "due"] (spP K cl 2 (fd__law_same d))
  | 0 => fn_none
  | d + 1 => have ih := okd__law_same T d
    fnP (k := 0 + d) (m := m__law_same (fd__law_same d)) T.F__law_same sc__law_same (fun cdv A outer s H E hr => by
    have hu := hu64 hr
    have tk : L2N.Takes (cxOf (L2N.CX P w) P w K mg base N__law_same "_law_same" (defScope s__law_same) (fa 27) cdv A outer s H E) (fun c d _ H' => E c d H') := L2N.takes_of rfl rfl rfl rfl
    exact (sm_cons (sm_if (tm_isN (em_v 1)) (sm_one (sm_ret (em_isN (em_v 0)))) (sm_nil))
      (sm_cons (sm_if (tm_tru (em_isa (isa_T0) (.ty _) T.z_isinstance (em_v 1) (pe_bltn rfl T.z_bool (v := .ty "bool") (by rfl) rfl))) (sm_one (sm_ret (em_and (em_isa (isa_T0) (.ty _) T.z_isinstance (em_v 0) (pe_bltn rfl T.z_bool (v := .ty "bool") (by rfl) rfl)) (em_one (em_cmp (br_eq hu) (em_v 0) (em_v 1) (nomark _)))))) (sm_nil))
      (sm_cons (sm_if (tm_tru (em_isa (isa_T0) (.ty _) T.z_isinstance (em_v 1) (pe_bltn rfl T.z_tuple (v := .ty "tuple") (by rfl) rfl))) (sm_cons (sm_if (tm_w (wm_or (tm_not (tm_tru (em_isa (isa_T0) (.ty _) T.z_isinstance (em_v 0) (pe_bltn rfl T.z_tuple (v := .ty "tuple") (by rfl) rfl)))) (wm_or1 (tm_cmp (br_ne hu) (em_cbV cr_lenA cs_len T.z_len (pv 0)) (em_cbV cr_lenA cs_len T.z_len (pv 1)) (nomark _))))) (sm_one (sm_ret (em_bl))) (sm_nil))
      (sm_one (sm_ret (em_cb (cr_all rfl) cs_all T.z_all (am_cons (LcM.em (LcM.mk (own := [("k", 2)]) (im_rng1 (em_cbV cr_lenA cs_len T.z_len (pv 1)) T.z_range) (blkOk_by (own := [("k", 2)]) (N := N__law_same) (sc := defScope s__law_same) (by decide +kernel)) (blk_tg (fun _ _ _ _ _ => pg_name (i := 2) sc__law_same.nd rfl (by first | exact Or.inl rfl | exact Or.inr rfl)) (does_gN) (gin_N (by decide))) (blk_ts fun _ _ _ _ _ => ts_nil) (blk_em fun _ _ _ _ _ => em_call takes_W0 (ih) (hr.mono (by first | decide | omega)) T.g__law_same T.k__law_same T.b__law_same (am_cons (em_ixV hu (pv 0) (em_v 2)) (am_cons (em_ixV hu (pv 1) (em_v 2)) (am_nil))))) rfl sc__law_same.nd) (am_nil)))))) (sm_nil))
      (sm_cons (sm_if (tm_tru (em_isa (isa_T0) (.ty _) T.z_isinstance (em_v 1) (pe_bltn rfl T.z_int (v := .ty "int") (by rfl) rfl))) (sm_one (sm_ret (em_and (em_isa (isa_T0) (.ty _) T.z_isinstance (em_v 0) (pe_bltn rfl T.z_int (v := .ty "int") (by rfl) rfl)) (em_and (em_not (em_isa (isa_T0) (.ty _) T.z_isinstance (em_v 0) (pe_bltn rfl T.z_bool (v := .ty "bool") (by rfl) rfl))) (em_one (em_cmp (br_eq hu) (em_v 0) (em_v 1) (nomark _))))))) (sm_nil))
      (sm_one (sm_ret (em_and (em_isa (isa_T0) (.ty _) T.z_isinstance (em_v 0) (pe_bltn rfl T.z_str (v := .ty "str") (by rfl) rfl)) (em_one (em_cmp (br_eq hu) (em_v 0) (em_v 1) (nomark _)))))))))))
theorem ok__law_same (T : Txt K mg cl fa fd dT10 cmp17) : FnOk P w K mg base (L2N.CX P w) 8 (fa 27) (fd 27) ["actual", "due"] (spP K cl 2 f__law_same) := okd__law_same T 8
def m__law_swap : M Fl := mRet (mBin pAdd (mBin pAdd (mSl (mVar 0) (mNoB) (mBd (mVar 1))) (mTup [mVar 2])) (mSl (mVar 0) (mBd (mBin pAdd (mVar 1) (mK (.int 1)))) (mNoB)))
def f__law_swap : List PV → Option RO := runP N__law_swap.length m__law_swap
theorem ok__law_swap (T : Txt K mg cl fa fd dT10 cmp17) : FnOk P w K mg base (L2N.CX P w) 1 (fa 28) (fd 28) ["row", "k", "thing"] (spP K cl 3 f__law_swap) :=
  fnP (k := 0) (m := m__law_swap) T.F__law_swap sc__law_swap (fun cdv A outer s H E hr => by
    have hu := hu64 hr
    have tk : L2N.Takes (cxOf (L2N.CX P w) P w K mg base N__law_swap "_law_swap" (defScope s__law_swap) (fa 28) cdv A outer s H E) (fun c d _ H' => E c d H') := L2N.takes_of rfl rfl rfl rfl
    exact (sm_one (sm_ret (em_op br_add (em_op br_add (em_sl (em_v 0) (om_none) (om_some (em_v 1))) (em_tup (am_cons (em_v 2) (am_nil)))) (em_sl (em_v 0) (om_some (em_op br_add (em_v 1) (em_int))) (om_none))))))
def m__law_map : M Fl := mRet (mGet2 (mCB pDict [mVar 0]) (mVar 1) (mVar 1))
def f__law_map : List PV → Option RO := runP N__law_map.length m__law_map
theorem ok__law_map (T : Txt K mg cl fa fd dT10 cmp17) : FnOk P w K mg base (L2N.CX P w) 1 (fa 29) (fd 29) ["pairs", "word"] (spP K cl 2 f__law_map) :=
  fnP (k := 0) (m := m__law_map) T.F__law_map sc__law_map (fun cdv A outer s H E hr => by
    have hu := hu64 hr
    have tk : L2N.Takes (cxOf (L2N.CX P w) P w K mg base N__law_map "_law_map" (defScope s__law_map) (fa 29) cdv A outer s H E) (fun c d _ H' => E c d H') := L2N.takes_of rfl rfl rfl rfl
    exact (sm_one (sm_ret (em_get2 hu (em_fm (fm_ct (cr_dict rfl) cs_dict T.z_dict (am_cons (em_v 0) (am_nil)))) (em_v 1) (em_v 1)))))
def m__law_then : M Fl := mSeq (mSet 2 (mUn pSortedSet (mLc [4] (mIterA (mBin pAdd (mVar 0) (mVar 1))) (gN 4) mYes (mIxV 4 (mK (.int 0)))))) (mSeq (mSet 3 (mLc [5] (mIterA (mVar 2)) (gN 5) mYes (mTup [mVar 5, mCall f__law_map [mVar 1, mCall f__law_map [mVar 0, mVar 5]]]))) (mRet (mCB pTuple [mLc [6] (mIterA (mVar 3)) (gN 6) (mTest (mBin pNe (mIxV 6 (mK (.int 0))) (mIxV 6 (mK (.int 1))))) (mVar 6)])))
def f__law_then : List PV → Option RO := runP N__law_then.length m__law_then
theorem ok__law_then (T : Txt K mg cl fa fd dT10 cmp17) : FnOk P w K mg base (L2N.CX P w) 2 (fa 30) (fd 30) ["one_map", "other_map"] (spP K cl 2 f__law_then) :=
  fnP (k := 1) (m := m__law_then) T.F__law_then sc__law_then (fun cdv A outer s H E hr => by
    have hu := hu64 hr
    have tk : L2N.Takes (cxOf (L2N.CX P w) P w K mg base N__law_then "_law_then" (defScope s__law_then) (fa 30) cdv A outer s H E) (fun c d _ H' => E c d H') := L2N.takes_of rfl rfl rfl rfl
    exact (sm_cons (sm_set (i := 2) sc__law_then.nd rfl (by first | exact Or.inl rfl | exact Or.inr rfl) (em_fm (fm_sortedSet rfl hu T.z_sorted T.z_set (LcM.em (LcM.mk (own := [("pair", 4)]) (im_any (em_op br_add (em_v 0) (em_v 1))) (blkOk_by (own := [("pair", 4)]) (N := N__law_then) (sc := defScope s__law_then) (by decide +kernel)) (blk_tg (fun _ _ _ _ _ => pg_name (i := 4) sc__law_then.nd rfl (by first | exact Or.inl rfl | exact Or.inr rfl)) (does_gN) (gin_N (by decide))) (blk_ts fun _ _ _ _ _ => ts_nil) (blk_em fun _ _ _ _ _ => em_ixV hu (pv 4) (em_int))) rfl sc__law_then.nd))))
      (sm_cons (LcM.set (i := 3) (LcM.mk (own := [("word", 5)]) (im_any (em_v 2)) (blkOk_by (own := [("word", 5)]) (N := N__law_then) (sc := defScope s__law_then) (by decide +kernel)) (blk_tg (fun _ _ _ _ _ => pg_name (i := 5) sc__law_then.nd rfl (by first | exact Or.inl rfl | exact Or.inr rfl)) (does_gN) (gin_N (by decide))) (blk_ts fun _ _ _ _ _ => ts_nil) (blk_em fun _ _ _ _ _ => em_tup (am_cons (em_v 5) (am_cons (em_call takes_W0 (ok__law_map T) (hr.mono (by first | decide | omega)) T.g__law_map T.k__law_map T.b__law_map (am_cons (em_v 1) (am_cons (em_call takes_W0 (ok__law_map T) (hr.mono (by first | decide | omega)) T.g__law_map T.k__law_map T.b__law_map (am_cons (em_v 0) (am_cons (em_v 5) (am_nil)))) (am_nil)))) (am_nil))))) rfl sc__law_then.nd rfl rfl (sw_true rfl rfl rfl (by decide +kernel)))
      (sm_one (sm_ret (em_ct cr_tuple cs_tuple T.z_tuple (am_cons (LcM.em (LcM.mk (own := [("row", 6)]) (im_any (em_v 3)) (blkOk_by (own := [("row", 6)]) (N := N__law_then) (sc := defScope s__law_then) (by decide +kernel)) (blk_tg (fun _ _ _ _ _ => pg_name (i := 6) sc__law_then.nd rfl (by first | exact Or.inl rfl | exact Or.inr rfl)) (does_gN) (gin_N (by decide))) (blk_ts fun _ _ _ _ _ => ts_one (tm_cmp (br_ne hu) (em_ixV hu (pv 6) (em_int)) (em_ixV hu (pv 6) (em_int)) (nomark _))) (blk_em fun _ _ _ _ _ => em_v 6)) rfl sc__law_then.nd) (am_nil))))))))
def m__law_drawn_map : M Fl := mSeq (mSet 2 (mLc [3] (mIterA (mVar 1)) (gN 3) (mTest (mBin pGtI (mCallI 0 f__law_pick [mK (.int 3)]) (mK (.int 0)))) (mTup [mVar 3, mCallI 0 f__law_one_of [mVar 1]]))) (mRet (mCB pTuple [mLc [4] (mIterA (mVar 2)) (gN 4) (mTest (mBin pNe (mIxV 4 (mK (.int 0))) (mIxV 4 (mK (.int 1))))) (mVar 4)]))
def f__law_drawn_map : PV → List PV → Option (PV × RO) := runI N__law_drawn_map.length m__law_drawn_map
theorem ok__law_drawn_map (T : Txt K mg cl fa fd dT10 cmp17) : FnOk P w K mg base (L2N.CX P w) 3 (fa 31) (fd 31) ["source", "pool"] (spI K cl 2 f__law_drawn_map) :=
  fnI (k := 2) (m := m__law_drawn_map) T.F__law_drawn_map sc__law_drawn_map (fun cdv A outer s H E hr => by
    have hu := hu64 hr
    have tk : L2N.Takes (cxOf (L2N.CX P w) P w K mg base N__law_drawn_map "_law_drawn_map" (defScope s__law_drawn_map) (fa 31) cdv A outer s H E) (fun c d _ H' => E c d H') := L2N.takes_of rfl rfl rfl rfl
    exact (sm_cons (LcM.set (i := 2) (LcM.mk (own := [("word", 3)]) (im_any (em_v 1)) (blkOk_by (own := [("word", 3)]) (N := N__law_drawn_map) (sc := defScope s__law_drawn_map) (by decide +kernel)) (blk_tg (fun _ _ _ _ _ => pg_name (i := 3) sc__law_drawn_map.nd rfl (by first | exact Or.inl rfl | exact Or.inr rfl)) (does_gN) (gin_N (by decide))) (blk_ts fun _ _ _ _ _ => ts_one (tm_cmp br_gt (em_callI takes_W0 (ok__law_pick T) (hr.mono (by decide)) T.g__law_pick T.k__law_pick T.b__law_pick (pv 0) (am_cons (em_int) (am_nil))) (em_int) (nomark _))) (blk_em fun _ _ _ _ _ => em_tup (am_cons (em_v 3) (am_cons (em_callI takes_W0 (ok__law_one_of T) (hr.mono (by decide)) T.g__law_one_of T.k__law_one_of T.b__law_one_of (pv 0) (am_cons (em_v 1) (am_nil))) (am_nil))))) rfl sc__law_drawn_map.nd rfl rfl (sw_true rfl rfl rfl (by decide +kernel)))
      (sm_one (sm_ret (em_ct cr_tuple cs_tuple T.z_tuple (am_cons (LcM.em (LcM.mk (own := [("row", 4)]) (im_any (em_v 2)) (blkOk_by (own := [("row", 4)]) (N := N__law_drawn_map) (sc := defScope s__law_drawn_map) (by decide +kernel)) (blk_tg (fun _ _ _ _ _ => pg_name (i := 4) sc__law_drawn_map.nd rfl (by first | exact Or.inl rfl | exact Or.inr rfl)) (does_gN) (gin_N (by decide))) (blk_ts fun _ _ _ _ _ => ts_one (tm_cmp (br_ne hu) (em_ixV hu (pv 4) (em_int)) (em_ixV hu (pv 4) (em_int)) (nomark _))) (blk_em fun _ _ _ _ _ => em_v 4)) rfl sc__law_drawn_map.nd) (am_nil)))))))
def m__law_is_map : M Fl := mSeq (mIf (mOr (mNot (mTru (mIsa (ansO (ocOf 4)) (mVar 0)))) (mOr (mNot (mTru (mCall f__law_same [mFldV 0 4 "pairs", mVar 1]))) (mTest (mBin pNe (mLenO 4 f_WordMap___len__ (mVar 0)) (mCBV pLen 1))))) (mRet (mK (.bl false))) (mNx)) (mSeq (mIf (mOr (mNot (mTest (mBin (pEqO 4 (okEq 4) f_WordMap___eq__) (mVar 0) (mMake 4 f_WordMap___init__ [mVar 1])))) (mTest (mBin (pEqO 4 (okEq 4) f_WordMap___eq__) (mVar 0) (mMake 4 f_WordMap___init__ [mCB pTuple [mCB pSortedX [mBin pAdd (mVar 1) (mTup [mTup [mK (.str "outsides"), mIxV 2 (mK (.int 0))]])]]])))) (mRet (mK (.bl false))) (mNx)) (mSeq (mIf (mNot (mTru (mCall f__law_same [mCB pTuple [mUn (pListO 4 (fldT "pairs") f_WordMap___len__) (mVar 0)], mVar 1]))) (mRet (mK (.bl false))) (mNx)) (mSeq (mSet 3 (mLc [5] (mIterA (mVar 1)) (gN 5) mYes (mIxV 5 (mK (.int 0))))) (mSeq (mFor (mIterA (mVar 2)) (gN 4) (mIf (mOr (mNot (mTru (mCall f__law_same [mCallO 4 f_WordMap___call__ (mVar 0) [mVar 4], mCall f__law_map [mVar 1, mVar 4]]))) (mTest (mBin pNe (mBin (pInO 4 f_WordMap___contains__) (mVar 4) (mVar 0)) (mBin pHas (mVar 4) (mVar 3))))) (mRet (mK (.bl false))) (mNx))) (mRet (mK (.bl true)))))))
def f__law_is_map : List PV → Option RO := runP N__law_is_map.length m__law_is_map
theorem ok__law_is_map (T : Txt K mg cl fa fd dT10 cmp17) : FnOk P w K mg base (L2N.CX P w) 11 (fa 32) (fd 32) ["word_map", "pairs", "words"] (spP K cl 3 f__law_is_map) :=
  fnP (k := 10) (m := m__law_is_map) T.F__law_is_map sc__law_is_map (fun cdv A outer s H E hr => by
    have hu := hu64 hr
    have tk : L2N.Takes (cxOf (L2N.CX P w) P w K mg base N__law_is_map "_law_is_map" (defScope s__law_is_map) (fa 32) cdv A outer s H E) (fun c d _ H' => E c d H') := L2N.takes_of rfl rfl rfl rfl
    exact (sm_cons (sm_if (tm_w (wm_or (tm_not (tm_tru (em_isa (isa_own T.ow4) (.own _) T.z_isinstance (em_v 0) (pe_glob (v := .ref (cl 4)) (by rfl) T.g_WordMap rfl)))) (wm_or (tm_not (tm_tru (em_call tk (ok__law_same T) (hr.mono (by first | decide | omega)) T.g__law_same T.k__law_same T.b__law_same (am_cons (em_fldV (c := 4) (pv 0) T.c4 T.n4_pairs) (am_cons (em_v 1) (am_nil)))))) (wm_or1 (tm_cmp (br_ne hu) (em_lenO (c := 4) T.ml4 T.mh4 (hr.mono (by first | decide | omega)) (ok_WordMap___len__ T) T.b_WordMap___len__ T.z_len (em_v 0)) (em_cbV cr_lenA cs_len T.z_len (pv 1)) (nomark _)))))) (sm_one (sm_ret (em_bl))) (sm_nil))
      (sm_cons (sm_if (tm_w (wm_or (tm_not (tm_cmpG (br_eqO T.me4 T.mf4 (hr.mono (by first | decide | omega)) (ok_WordMap___eq__ T) T.b_WordMap___eq__ (eq_own T.ow4)) (em_v 0) (em_make (c := 4) tk T.m4 (ok_WordMap___init__ T) (hr.mono (by first | decide | omega)) T.g_WordMap T.b_WordMap___init__ (am_cons (em_v 1) (am_nil))) (nomark _))) (wm_or1 (tm_cmpG (br_eqO T.me4 T.mf4 (hr.mono (by first | decide | omega)) (ok_WordMap___eq__ T) T.b_WordMap___eq__ (eq_own T.ow4)) (em_v 0) (em_make (c := 4) tk T.m4 (ok_WordMap___init__ T) (hr.mono (by first | decide | omega)) T.g_WordMap T.b_WordMap___init__ (am_cons (em_ct cr_tuple cs_tuple T.z_tuple (am_cons (em_fm (fm_cb (cr_sortedX rfl hu) cs_sortedX T.z_sorted (am_cons (em_op br_add (em_v 1) (em_tup (am_cons (em_tup (am_cons (em_str) (am_cons (em_ixV hu (pv 2) (em_int)) (am_nil)))) (am_nil)))) (am_nil)))) (am_nil))) (am_nil))) (nomark _))))) (sm_one (sm_ret (em_bl))) (sm_nil))
      (sm_cons (sm_if (tm_not (tm_tru (em_call tk (ok__law_same T) (hr.mono (by first | decide | omega)) T.g__law_same T.k__law_same T.b__law_same (am_cons (em_ct cr_tuple cs_tuple T.z_tuple (am_cons (em_fm (fm_listO (c := 4) rfl T.mi4 T.mj4 ((ok_WordMap___iter__ T).mono (Nat.le_max_left _ _)) T.b_WordMap___iter__ T.ml4 T.mh4 ((ok_WordMap___len__ T).mono (Nat.le_max_right _ _)) T.b_WordMap___len__ (hr.mono (by first | decide | omega)) T.z_list (em_v 0))) (am_nil))) (am_cons (em_v 1) (am_nil)))))) (sm_one (sm_ret (em_bl))) (sm_nil))
      (sm_cons (LcM.set (i := 3) (LcM.mk (own := [("pair", 5)]) (im_any (em_v 1)) (blkOk_by (own := [("pair", 5)]) (N := N__law_is_map) (sc := defScope s__law_is_map) (by decide +kernel)) (blk_tg (fun _ _ _ _ _ => pg_name (i := 5) sc__law_is_map.nd rfl (by first | exact Or.inl rfl | exact Or.inr rfl)) (does_gN) (gin_N (by decide))) (blk_ts fun _ _ _ _ _ => ts_nil) (blk_em fun _ _ _ _ _ => em_ixV hu (pv 5) (em_int))) rfl sc__law_is_map.nd rfl rfl (sw_true rfl rfl rfl (by decide +kernel)))
      (sm_cons (sm_for (passes_of rfl) rfl (im_any (em_v 2)) (gm_of (pg_name (i := 4) sc__law_is_map.nd rfl (by first | exact Or.inl rfl | exact Or.inr rfl)) (does_gN)) (sm_one (sm_if (tm_w (wm_or (tm_not (tm_tru (em_call tk (ok__law_same T) (hr.mono (by first | decide | omega)) T.g__law_same T.k__law_same T.b__law_same (am_cons (em_callO (c := 4) T.co4 (hr.mono (by first | decide | omega)) (ok_WordMap___call__ T) T.b_WordMap___call__ (em_v 0) (am_cons (em_v 4) (am_nil))) (am_cons (em_call tk (ok__law_map T) (hr.mono (by first | decide | omega)) T.g__law_map T.k__law_map T.b__law_map (am_cons (em_v 1) (am_cons (em_v 4) (am_nil)))) (am_nil)))))) (wm_or1 (tm_cmp (br_ne hu) (em_cmpG (br_inO T.mc4 T.mg4 (hr.mono (by first | decide | omega)) (ok_WordMap___contains__ T) T.b_WordMap___contains__) (em_v 4) (em_v 0) rfl) (em_cmp (br_has hu) (em_v 4) (em_v 3) rfl) (nomark _))))) (sm_one (sm_ret (em_bl))) (sm_nil))))
      (sm_one (sm_ret (em_bl)))))))))
def m__law_bad_word : M Fl := mSeq (mSet 2 (mLst [mK (.str ""), mK (.str "A"), mK (.str "a1"), mK (.str "abcdefghi"), mK (.str "a b"), mBin pAdd (mK (.str "*")) (mVar 1), mK (.str "_"), mBin pAdd (mVar 1) (mK (.str " ")), mK (.int 5), mK .non, mK (.bl true), mTup [mVar 1], mK (.int 0)])) (mRet (mCallI 0 f__law_one_of [mVar 2]))
def f__law_bad_word : PV → List PV → Option (PV × RO) := runI N__law_bad_word.length m__law_bad_word
theorem ok__law_bad_word (T : Txt K mg cl fa fd dT10 cmp17) : FnOk P w K mg base (L2N.CX P w) 3 (fa 33) (fd 33) ["source", "word"] (spI K cl 2 f__law_bad_word) :=
  fnI (k := 2) (m := m__law_bad_word) T.F__law_bad_word sc__law_bad_word (fun cdv A outer s H E hr => by
    have hu := hu64 hr
    have tk : L2N.Takes (cxOf (L2N.CX P w) P w K mg base N__law_bad_word "_law_bad_word" (defScope s__law_bad_word) (fa 33) cdv A outer s H E) (fun c d _ H' => E c d H') := L2N.takes_of rfl rfl rfl rfl
    exact (sm_cons (sm_set (i := 2) sc__law_bad_word.nd rfl (by first | exact Or.inl rfl | exact Or.inr rfl) (em_lst (am_cons (em_str) (am_cons (em_str) (am_cons (em_str) (am_cons (em_str) (am_cons (em_str) (am_cons (em_op br_add (em_str) (em_v 1)) (am_cons (em_str) (am_cons (em_op br_add (em_v 1) (em_str)) (am_cons (em_int) (am_cons (em_non) (am_cons (em_bl) (am_cons (em_tup (am_cons (em_v 1) (am_nil))) (am_cons (em_int) (am_nil))))))))))))))))
      (sm_one (sm_ret (em_callI tk (ok__law_one_of T) (hr.mono (by decide)) T.g__law_one_of T.k__law_one_of T.b__law_one_of (pv 0) (am_cons (em_v 2) (am_nil)))))))
def m__law_spoilt : M Fl := mSeq (mSet 3 (mCallI 0 f__law_pick [mK (.int 9)])) (mSeq (mIf (mTest (mBin pEq (mVar 3) (mK (.int 8)))) (mRet (mCallI 0 f__law_one_of [mLst [mK .non, mK (.int 7), mK (.str "ab"), mK (.bl true), mIxV 2 (mK (.int 0))]])) (mNx)) (mSeq (mSet 4 (mIfE (mTru (mVar 1)) (mVar 1) (mTup [mTup [mIxV 2 (mK (.int 0)), mK (.str "nosuchxx")]]))) (mSeq (mSet 5 (mCallI 0 f__law_pick [mCBV pLen 4])) (mSeq (mSet 6 (mIxV 4 (mVar 5))) (mSeq (mSet 7 (mCallI 0 f__law_bad_word [mIxV 6 (mK (.int 0))])) (mSeq (mIf (mOr (mTest (mBin pEq (mVar 3) (mK (.int 0)))) (mAnd (mTest (mBin pEq (mVar 3) (mK (.int 7)))) (mTest (mBin pEq (mCBV pLen 4) (mK (.int 1)))))) (mRet (mBin pAdd (mBin pAdd (mSl (mVar 4) (mNoB) (mBd (mVar 5))) (mTup [mVar 6, mVar 6])) (mSl (mVar 4) (mBd (mBin pAdd (mVar 5) (mK (.int 1)))) (mNoB)))) (mNx)) (mSeq (mIf (mTest (mBin pEq (mVar 3) (mK (.int 7)))) (mSeq (mSet 8 (mCallI 0 f__law_pick [mBin pSub (mCBV pLen 4) (mK (.int 1))])) (mRet (mBin pAdd (mBin pAdd (mSl (mVar 4) (mNoB) (mBd (mVar 8))) (mTup [mIxV 4 (mBin pAdd (mVar 8) (mK (.int 1))), mIxV 4 (mVar 8)])) (mSl (mVar 4) (mBd (mBin pAdd (mVar 8) (mK (.int 2)))) (mNoB))))) (mNx)) (mSeq (mSet 9 (mLst [mTup [mIxV 6 (mK (.int 0)), mIxV 6 (mK (.int 0))], mBin pAdd (mVar 6) (mTup [mIxV 6 (mK (.int 1))]), mSl (mVar 6) (mNoB) (mBd (mK (.int 1))), mBin pAdd (mIxV 6 (mK (.int 0))) (mIxV 6 (mK (.int 1))), mTup [mVar 7, mIxV 6 (mK (.int 1))], mTup [mIxV 6 (mK (.int 0)), mVar 7]])) (mRet (mCall f__law_swap [mVar 4, mVar 5, mIxV 9 (mBin pSub (mVar 3) (mK (.int 1)))]))))))))))
def f__law_spoilt : PV → List PV → Option (PV × RO) := runI N__law_spoilt.length m__law_spoilt
theorem ok__law_spoilt (T : Txt K mg cl fa fd dT10 cmp17) : FnOk P w K mg base (L2N.CX P w) 4 (fa 34) (fd 34) ["source", "pairs", "pool"] (spI K cl 3 f__law_spoilt) :=
  fnI (k := 3) (m := m__law_spoilt) T.F__law_spoilt sc__law_spoilt (fun cdv A outer s H E hr => by
    have hu := hu64 hr
    have tk : L2N.Takes (cxOf (L2N.CX P w) P w K mg base N__law_spoilt "_law_spoilt" (defScope s__law_spoilt) (fa 34) cdv A outer s H E) (fun c d _ H' => E c d H') := L2N.takes_of rfl rfl rfl rfl
    exact (sm_cons (sm_set (i := 3) sc__law_spoilt.nd rfl (by first | exact Or.inl rfl | exact Or.inr rfl) (em_callI tk (ok__law_pick T) (hr.mono (by decide)) T.g__law_pick T.k__law_pick T.b__law_pick (pv 0) (am_cons (em_int) (am_nil))))
      (sm_cons (sm_if (tm_cmp (br_eq hu) (em_v 3) (em_int) (nomark _)) (sm_one (sm_ret (em_callI tk (ok__law_one_of T) (hr.mono (by decide)) T.g__law_one_of T.k__law_one_of T.b__law_one_of (pv 0) (am_cons (em_lst (am_cons (em_non) (am_cons (em_int) (am_cons (em_str) (am_cons (em_bl) (am_cons (em_ixV hu (pv 2) (em_int)) (am_nil))))))) (am_nil))))) (sm_nil))
      (sm_cons (sm_set (i := 4) sc__law_spoilt.nd rfl (by first | exact Or.inl rfl | exact Or.inr rfl) (em_ife (tm_tru (em_v 1)) (em_v 1) (em_tup (am_cons (em_tup (am_cons (em_ixV hu (pv 2) (em_int)) (am_cons (em_str) (am_nil)))) (am_nil)))))
      (sm_cons (sm_set (i := 5) sc__law_spoilt.nd rfl (by first | exact Or.inl rfl | exact Or.inr rfl) (em_callI tk (ok__law_pick T) (hr.mono (by decide)) T.g__law_pick T.k__law_pick T.b__law_pick (pv 0) (am_cons (em_cbV cr_lenA cs_len T.z_len (pv 4)) (am_nil))))
      (sm_cons (sm_set (i := 6) sc__law_spoilt.nd rfl (by first | exact Or.inl rfl | exact Or.inr rfl) (em_ixV hu (pv 4) (em_v 5)))
      (sm_cons (sm_set (i := 7) sc__law_spoilt.nd rfl (by first | exact Or.inl rfl | exact Or.inr rfl) (em_callI tk (ok__law_bad_word T) (hr.mono (by decide)) T.g__law_bad_word T.k__law_bad_word T.b__law_bad_word (pv 0) (am_cons (em_ixV hu (pv 6) (em_int)) (am_nil))))
      (sm_cons (sm_if (tm_w (wm_or (tm_cmp (br_eq hu) (em_v 3) (em_int) (nomark _)) (wm_or1 (tm_w (wm_and (tm_cmp (br_eq hu) (em_v 3) (em_int) (nomark _)) (wm_and1 (tm_cmp (br_eq hu) (em_cbV cr_lenA cs_len T.z_len (pv 4)) (em_int) (nomark _)))))))) (sm_one (sm_ret (em_op br_add (em_op br_add (em_sl (em_v 4) (om_none) (om_some (em_v 5))) (em_tup (am_cons (em_v 6) (am_cons (em_v 6) (am_nil))))) (em_sl (em_v 4) (om_some (em_op br_add (em_v 5) (em_int))) (om_none))))) (sm_nil))
      (sm_cons (sm_if (tm_cmp (br_eq hu) (em_v 3) (em_int) (nomark _)) (sm_cons (sm_set (i := 8) sc__law_spoilt.nd rfl (by first | exact Or.inl rfl | exact Or.inr rfl) (em_callI tk (ok__law_pick T) (hr.mono (by decide)) T.g__law_pick T.k__law_pick T.b__law_pick (pv 0) (am_cons (em_op br_sub (em_cbV cr_lenA cs_len T.z_len (pv 4)) (em_int)) (am_nil))))
      (sm_one (sm_ret (em_op br_add (em_op br_add (em_sl (em_v 4) (om_none) (om_some (em_v 8))) (em_tup (am_cons (em_ixV hu (pv 4) (em_op br_add (em_v 8) (em_int))) (am_cons (em_ixV hu (pv 4) (em_v 8)) (am_nil))))) (em_sl (em_v 4) (om_some (em_op br_add (em_v 8) (em_int))) (om_none)))))) (sm_nil))
      (sm_cons (sm_set (i := 9) sc__law_spoilt.nd rfl (by first | exact Or.inl rfl | exact Or.inr rfl) (em_lst (am_cons (em_tup (am_cons (em_ixV hu (pv 6) (em_int)) (am_cons (em_ixV hu (pv 6) (em_int)) (am_nil)))) (am_cons (em_op br_add (em_v 6) (em_tup (am_cons (em_ixV hu (pv 6) (em_int)) (am_nil)))) (am_cons (em_sl (em_v 6) (om_none) (om_some (em_int))) (am_cons (em_op br_add (em_ixV hu (pv 6) (em_int)) (em_ixV hu (pv 6) (em_int))) (am_cons (em_tup (am_cons (em_v 7) (am_cons (em_ixV hu (pv 6) (em_int)) (am_nil)))) (am_cons (em_tup (am_cons (em_ixV hu (pv 6) (em_int)) (am_cons (em_v 7) (am_nil)))) (am_nil)))))))))
      (sm_one (sm_ret (em_call tk (ok__law_swap T) (hr.mono (by first | decide | omega)) T.g__law_swap T.k__law_swap T.b__law_swap (am_cons (em_v 4) (am_cons (em_v 5) (am_cons (em_ixV hu (pv 9) (em_op br_sub (em_v 3) (em_int))) (am_nil)))))))))))))))))
noncomputable def m__law_refused : M Fl := mSeq (mTry [1] (fun c => some (sub_AcrossError c)) 1 (mDrop (mMake 4 f_WordMap___init__ [mVar 0])) (fun a d c => mSeq (mIf (mOr (mNot (mTru (mIsE 1 a d c (sub_BadMap c)))) (mOr (mTru (mIsE 1 a d c (sub_BadTongue c))) (mTru (mIsE 1 a d c (sub_BadTerm c))))) (mRet (mK (.bl false))) (mNx)) (mRet (mB (mAnd (mTest (mIsE 1 a d c (sub_ValueError c))) (mTest (mBin pEq (mCB pRepr [mXf 1 a d c "pairs"]) (mCB pRepr [mVar 0])))))))) (mRet (mK (.bl false)))
noncomputable def f__law_refused : List PV → Option RO := runP N__law_refused.length m__law_refused
theorem ok__law_refused (T : Txt K mg cl fa fd dT10 cmp17) : FnG P w K mg base (L2N.CX P w) 11 (fa 35) (fd 35) ["thing"] (spP K cl 1 f__law_refused) :=
  fnPG (k := 10) (m := m__law_refused) T.F__law_refused sc__law_refused (fun cdv A outer s H E hgd hr => by
    have hu := hu64 hr
    have tk : L2N.Takes (cxOf (L2N.CX P w) P w K mg base N__law_refused "_law_refused" (defScope s__law_refused) (fa 35) cdv A outer s H E) (fun c d _ H' => E c d H') := L2N.takes_of rfl rfl rfl rfl
    exact (sm_cons (sm_try (i := 1) (cs := [1]) (sub := fun c => some (sub_AcrossError c)) rfl rfl sc__law_refused.nd rfl rfl (by exact ⟨rfl, by decide, .inl T.g_AcrossError⟩) tk (by
        intro c hc b hb
        simp only [List.mem_cons, List.not_mem_nil, or_false] at hc
        rcases hc with rfl
        · cases hb; exact T.xm1_AcrossError) (fun _ pn xe tk hp => by exact (sm_one (sm_expr (em_make (c := 4) tk T.m4 (ok_WordMap___init__ T) (hr.mono (by first | decide | omega)) T.g_WordMap T.b_WordMap___init__ (am_cons (em_v 0) (am_nil))))))
      (fun a d oe c pn hcs hz hfl => by
        simp only [List.mem_cons, List.not_mem_nil, or_false] at hcs
        rcases hcs with rfl
        · exact (sm_cons (sm_if (tm_w (wm_or (tm_not (tm_tru (em_isE (c := 1) (T.xc1) hz hfl (T.kt1_BadMap) (.own _) T.z_isinstance (pv 1) (pe_glob (v := .ref (cl 1)) (by rfl) T.g_BadMap rfl)))) (wm_or (tm_tru (em_isE (c := 1) (T.xc1) hz hfl (T.kt1_BadTongue) (.own _) T.z_isinstance (pv 1) (pe_glob (v := .ref (cl 2)) (by rfl) T.g_BadTongue rfl))) (wm_or1 (tm_tru (em_isE (c := 1) (T.xc1) hz hfl (T.kt1_BadTerm) (.own _) T.z_isinstance (pv 1) (pe_glob (v := .ref (cl 3)) (by rfl) T.g_BadTerm rfl))))))) (sm_one (sm_ret (em_bl))) (sm_nil))
      (sm_one (sm_ret (em_and (em_isE (c := 1) (T.xc1) hz hfl (T.kt1_ValueError) (.ty _) T.z_isinstance (pv 1) (pe_bltn rfl T.z_ValueError (v := .ty "ValueError") (by rfl) rfl)) (em_one (em_cmp (br_eq hu) (em_cb (call_reprP hgd hu) cs_repr T.z_repr (am_cons (em_xf (c := 1) (T.xc1) T.xn1_pairs hz hfl (pv 1)) (am_nil))) (em_cb (call_reprP hgd hu) cs_repr T.z_repr (am_cons (em_v 0) (am_nil))) (nomark _)))))))))
      (sm_one (sm_ret (em_bl)))))
def m__law_first_ones : M Fl := mSeq (mSetO 1 (mDct)) (mSeq (mFor (mIterA (mVar 0)) (gN 2) (mDrop (mSetd 1 (mIxV 2 (mK (.int 0))) (mIxV 2 (mK (.int 1)))))) (mRet (mCB pTuple [mLc [3] (mIterA (mCB pSortedX [mVar 1])) (gN 3) (mTest (mBin pNe (mIxV 1 (mVar 3)) (mVar 3))) (mTup [mVar 3, mIxV 1 (mVar 3)])])))
def f__law_first_ones : List PV → Option RO := runP N__law_first_ones.length m__law_first_ones
theorem ok__law_first_ones (T : Txt K mg cl fa fd dT10 cmp17) : FnOk P w K mg base (L2N.CX P w) 1 (fa 36) (fd 36) ["rows"] (spP K cl 1 f__law_first_ones) :=
  fnP (k := 0) (m := m__law_first_ones) T.F__law_first_ones sc__law_first_ones (fun cdv A outer s H E hr => by
    have hu := hu64 hr
    have tk : L2N.Takes (cxOf (L2N.CX P w) P w K mg base N__law_first_ones "_law_first_ones" (defScope s__law_first_ones) (fa 36) cdv A outer s H E) (fun c d _ H' => E c d H') := L2N.takes_of rfl rfl rfl rfl
    exact (sm_cons (sm_setO (i := 1) sc__law_first_ones.nd rfl (by first | exact Or.inl rfl | exact Or.inr rfl) (fm_dct))
      (sm_cons (sm_for (passes_of rfl) rfl (im_any (em_v 0)) (gm_of (pg_name (i := 2) sc__law_first_ones.nd rfl (by first | exact Or.inl rfl | exact Or.inr rfl)) (does_gN)) (sm_one (sm_expr (em_setd (pv 1) (em_ixV hu (pv 2) (em_int)) (em_ixV hu (pv 2) (em_int))))))
      (sm_one (sm_ret (em_ct cr_tuple cs_tuple T.z_tuple (am_cons (LcM.em (LcM.mk (own := [("word", 3)]) (im_any (em_fm (fm_cb (cr_sortedX rfl hu) cs_sortedX T.z_sorted (am_cons (em_v 1) (am_nil))))) (blkOk_by (own := [("word", 3)]) (N := N__law_first_ones) (sc := defScope s__law_first_ones) (by decide +kernel)) (blk_tg (fun _ _ _ _ _ => pg_name (i := 3) sc__law_first_ones.nd rfl (by first | exact Or.inl rfl | exact Or.inr rfl)) (does_gN) (gin_N (by decide))) (blk_ts fun _ _ _ _ _ => ts_one (tm_cmp (br_ne hu) (em_ixV hu (pv 1) (em_v 3)) (em_v 3) (nomark _))) (blk_em fun _ _ _ _ _ => em_tup (am_cons (em_v 3) (am_cons (em_ixV hu (pv 1) (em_v 3)) (am_nil))))) rfl sc__law_first_ones.nd) (am_nil))))))))
def m__law_of : M Fl := mSeq (mSet 3 (mCB pTuple [mLc [5] (mRng1 (mCallI 0 f__law_pick [mK (.int 9)])) (gN 5) mYes (mTup [mCallI 0 f__law_one_of [mVar 1], mCallI 0 f__law_one_of [mVar 1]])])) (mSeq (mSet 4 (mCall f__law_first_ones [mVar 3])) (mRet (mB (mAnd (mTest (mCall f__law_is_map [mCMeth 4 f_WordMap_of [mVar 3], mVar 4, mVar 2])) (mTest (mCall f__law_is_map [mCMeth 4 f_WordMap_of [mCall f__law_lists [mVar 3]], mVar 4, mVar 2]))))))
def f__law_of : PV → List PV → Option (PV × RO) := runI N__law_of.length m__law_of
theorem ok__law_of (T : Txt K mg cl fa fd dT10 cmp17) : FnOk P w K mg base (L2N.CX P w) 12 (fa 37) (fd 37) ["source", "pool", "words"] (spI K cl 3 f__law_of) :=
  fnI (k := 11) (m := m__law_of) T.F__law_of sc__law_of (fun cdv A outer s H E hr => by
    have hu := hu64 hr
    have tk : L2N.Takes (cxOf (L2N.CX P w) P w K mg base N__law_of "_law_of" (defScope s__law_of) (fa 37) cdv A outer s H E) (fun c d _ H' => E c d H') := L2N.takes_of rfl rfl rfl rfl
    exact (sm_cons (sm_set (i := 3) sc__law_of.nd rfl (by first | exact Or.inl rfl | exact Or.inr rfl) (em_ct cr_tuple cs_tuple T.z_tuple (am_cons (LcM.em (LcM.mk (own := [("k", 5)]) (im_rng1 (em_callI tk (ok__law_pick T) (hr.mono (by decide)) T.g__law_pick T.k__law_pick T.b__law_pick (pv 0) (am_cons (em_int) (am_nil))) T.z_range) (blkOk_by (own := [("k", 5)]) (N := N__law_of) (sc := defScope s__law_of) (by decide +kernel)) (blk_tg (fun _ _ _ _ _ => pg_name (i := 5) sc__law_of.nd rfl (by first | exact Or.inl rfl | exact Or.inr rfl)) (does_gN) (gin_N (by decide))) (blk_ts fun _ _ _ _ _ => ts_nil) (blk_em fun _ _ _ _ _ => em_tup (am_cons (em_callI takes_W0 (ok__law_one_of T) (hr.mono (by decide)) T.g__law_one_of T.k__law_one_of T.b__law_one_of (pv 0) (am_cons (em_v 1) (am_nil))) (am_cons (em_callI takes_W0 (ok__law_one_of T) (hr.mono (by decide)) T.g__law_one_of T.k__law_one_of T.b__law_one_of (pv 0) (am_cons (em_v 1) (am_nil))) (am_nil))))) rfl sc__law_of.nd) (am_nil))))
      (sm_cons (sm_set (i := 4) sc__law_of.nd rfl (by first | exact Or.inl rfl | exact Or.inr rfl) (em_call tk (ok__law_first_ones T) (hr.mono (by first | decide | omega)) T.g__law_first_ones T.k__law_first_ones T.b__law_first_ones (am_cons (em_v 3) (am_nil))))
      (sm_one (sm_ret (em_and (em_call tk (ok__law_is_map T) (hr.mono (by first | decide | omega)) T.g__law_is_map T.k__law_is_map T.b__law_is_map (am_cons (em_cmeth T.g_WordMap T.cr4 T.cm4_of (ok_WordMap_of T) (hr.mono (by first | decide | omega)) T.b_WordMap_of (am_cons (em_v 3) (am_nil))) (am_cons (em_v 4) (am_cons (em_v 2) (am_nil))))) (em_one (em_call tk (ok__law_is_map T) (hr.mono (by first | decide | omega)) T.g__law_is_map T.k__law_is_map T.b__law_is_map (am_cons (em_cmeth T.g_WordMap T.cr4 T.cm4_of (ok_WordMap_of T) (hr.mono (by first | decide | omega)) T.b_WordMap_of (am_cons (em_call tk (ok__law_lists T) (hr.mono (by first | decide | omega)) T.g__law_lists T.k__law_lists T.b__law_lists (am_cons (em_v 3) (am_nil))) (am_nil))) (am_cons (em_v 4) (am_cons (em_v 2) (am_nil))))))))))))
def m1__law_lists_stay : M Fl := mSetO 3 (mLc [6] (mIterA (mVar 0)) (gN 6) mYes (mCB pList [mVar 6]))
def m2__law_lists_stay : M Fl := mSet 4 (mMake 4 f_WordMap___init__ [mVar 3])
def m3__law_lists_stay : M Fl := mIf (mTest (mBinL pNe 3 (mLc [6] (mIterA (mVar 0)) (gN 6) mYes (mCB pList [mVar 6])))) (mRet (mK (.bl false))) (mNx)
def m5__law_lists_stay : M Fl := mApp 3 (mLst [mK (.str "zzzzzzzz"), mIxV 1 (mK (.int 0))])
def m6__law_lists_stay : M Fl := mRet (mCall f__law_is_map [mVar 4, mVar 0, mVar 2])
def mb__law_lists_stay : M Fl := mPut 5 (mK (.int 1)) (mK (.str "changed"))
noncomputable def f__law_lists_stay : List PV → Option RO := fStay (mSeq m1__law_lists_stay (mSeq m2__law_lists_stay m3__law_lists_stay)) mb__law_lists_stay m5__law_lists_stay m6__law_lists_stay
theorem ok__law_lists_stay (T : Txt K mg cl fa fd dT10 cmp17) : FnOk P w K mg base (L2N.CX P w) 12 (fa 38) (fd 38) ["pairs", "pool", "words"] (spP K cl 3 f__law_lists_stay) :=
  fnStay (k := 11) T.F__law_lists_stay sc__law_lists_stay rfl rfl rfl (fun cdv A outer s H E hr => by
    have hu := hu64 hr
    have tk : L2N.Takes (cxOf (L2N.CX P w) P w K mg base N__law_lists_stay "_law_lists_stay" (defScope s__law_lists_stay) (fa 38) cdv A outer s H E) (fun c d _ H' => E c d H') := L2N.takes_of rfl rfl rfl rfl
    exact ⟨LcM.setO (i := 3) (LcM.mk (own := [("pair", 6)]) (im_any (em_v 0)) (blkOk_by (own := [("pair", 6)]) (N := N__law_lists_stay) (sc := defScope s__law_lists_stay) (by decide +kernel)) (blk_tg (fun _ _ _ _ _ => pg_name (i := 6) sc__law_lists_stay.nd rfl (by first | exact Or.inl rfl | exact Or.inr rfl)) (does_gN) (gin_N (by decide))) (blk_ts fun _ _ _ _ _ => ts_nil) (blk_em fun _ _ _ _ _ => em_fm (fm_ct cr_list cs_list T.z_list (am_cons (em_v 6) (am_nil))))) rfl sc__law_lists_stay.nd rfl rfl (sw_true rfl rfl rfl (by decide +kernel)),
      sm_set (i := 4) sc__law_lists_stay.nd rfl (by first | exact Or.inl rfl | exact Or.inr rfl) (em_make (c := 4) tk T.m4 (ok_WordMap___init__ T) (hr.mono (by first | decide | omega)) T.g_WordMap T.b_WordMap___init__ (am_cons (em_v 3) (am_nil))),
      sm_if (tm_cmpL (br_ne hu) (pv 3) (LcM.em (LcM.mk (own := [("pair", 6)]) (im_any (em_v 0)) (blkOk_by (own := [("pair", 6)]) (N := N__law_lists_stay) (sc := defScope s__law_lists_stay) (by decide +kernel)) (blk_tg (fun _ _ _ _ _ => pg_name (i := 6) sc__law_lists_stay.nd rfl (by first | exact Or.inl rfl | exact Or.inr rfl)) (does_gN) (gin_N (by decide))) (blk_ts fun _ _ _ _ _ => ts_nil) (blk_em fun _ _ _ _ _ => em_fm (fm_ct cr_list cs_list T.z_list (am_cons (em_v 6) (am_nil))))) rfl sc__law_lists_stay.nd) (nomark _)) (sm_one (sm_ret (em_bl))) (sm_nil),
      for4 (passes_of rfl) rfl (im_any (em_v 3)) (pg_name (i := 5) sc__law_lists_stay.nd rfl (by first | exact Or.inl rfl | exact Or.inr rfl)) (sm_one (sm_put hu (pv 5) (em_int) (em_str))),
      sm_app (pv 3) (em_lst (am_cons (em_str) (am_cons (em_ixV hu (pv 1) (em_int)) (am_nil)))),
      sm_ret (em_call tk (ok__law_is_map T) (hr.mono (by first | decide | omega)) T.g__law_is_map T.k__law_is_map T.b__law_is_map (am_cons (em_v 4) (am_cons (em_v 0) (am_cons (em_v 2) (am_nil)))))⟩)
noncomputable def m_law : M Fl := mSeq (mSetO 1 (mCall f__law_source [mVar 0, mK (.int 0)])) (mSeq (mDrop (mCallI 1 f__law_next [])) (mSeq (mSet 2 (mCB pSortedX [mCallI 1 f__law_words [mBin pAdd (mK (.int 1)) (mCallI 1 f__law_pick [mK (.int 6)]), mK (.int 3), mLst []]])) (mSeq (mSet 3 (mBin pAdd (mVar 2) (mLst [mK (.str "outsider")]))) (mSeq (mDrop (mCallI 1 f__law_next [])) (mSeq (mSet 4 (mCallI 1 f__law_drawn_map [mVar 2])) (mSeq (mDrop (mCallI 1 f__law_next [])) (mSeq (mSet 5 (mIfE (mTru (mCallI 1 f__law_one_in [mK (.int 8)])) (mVar 4) (mCallI 1 f__law_drawn_map [mVar 2]))) (mSeq (mSet 6 (mMake 4 f_WordMap___init__ [mVar 4])) (mSeq (mSet 7 (mMake 4 f_WordMap___init__ [mCall f__law_lists [mVar 5]])) (mSeq (mIf (mOr (mNot (mTru (mCall f__law_is_map [mMake0 4 f_WordMap___init__ dp_WordMap___init__, mTup [], mVar 3]))) (mNot (mTru (mCall f__law_is_map [mVar 6, mVar 4, mVar 3])))) (mRet (mK (.bl false))) (mNx)) (mSeq (mIf (mNot (mTru (mCall f__law_is_map [mMeth 4 "then" f_WordMap_then (mVar 6) [mVar 7], mCall f__law_then [mVar 4, mVar 5], mVar 3]))) (mRet (mK (.bl false))) (mNx)) (mSeq (mIf (mNot (mTru (mCall f__law_is_map [mMeth 4 "then" f_WordMap_then (mVar 7) [mVar 6], mCall f__law_then [mVar 5, mVar 4], mVar 3]))) (mRet (mK (.bl false))) (mNx)) (mSeq (mIf (mNot (mTru (mCall f__law_is_map [mMeth 4 "then" f_WordMap_then (mVar 6) [mVar 6], mCall f__law_then [mVar 4, mVar 4], mVar 3]))) (mRet (mK (.bl false))) (mNx)) (mSeq (mIf (mOr (mNot (mTru (mCall f__law_is_map [mVar 6, mVar 4, mVar 3]))) (mNot (mTru (mCall f__law_is_map [mVar 7, mVar 5, mVar 3])))) (mRet (mK (.bl false))) (mNx)) (mSeq (mIf (mOr (mTest (mBin pNe (mBin (pEqO 4 (okEq 4) f_WordMap___eq__) (mVar 6) (mVar 7)) (mBin pEq (mVar 4) (mVar 5)))) (mOr (mNot (mTest (mBin (pEqO 4 (okEq 4) f_WordMap___eq__) (mVar 6) (mMake 4 f_WordMap___init__ [mCall f__law_lists [mVar 4]])))) (mTest (mBin (pEqO 4 (okEq 4) f_WordMap___eq__) (mVar 6) (mVar 4))))) (mRet (mK (.bl false))) (mNx)) (mSeq (mDrop (mCallI 1 f__law_next [])) (mSeq (mIf (mOr (mNot (mTru (mCallI 1 f__law_of [mVar 2, mVar 3]))) (mNot (mTru (mCall f__law_lists_stay [mVar 4, mVar 2, mVar 3])))) (mRet (mK (.bl false))) (mNx)) (mSeq (mDrop (mCallI 1 f__law_next [])) (mSeq (mFor (mRng1 (mK (.int 3))) (gN 8) (mSeq (mSet 9 (mCallI 1 f__law_spoilt [mIfE (mTest (mBin pLt (mVar 8) (mK (.int 2)))) (mVar 4) (mVar 5), mVar 2])) (mIf (mOr (mNot (mTru (mCall f__law_refused [mVar 9]))) (mNot (mTru (mCall f__law_refused [mCall f__law_lists [mVar 9]])))) (mRet (mK (.bl false))) (mNx)))) (mRet (mCall f__law_is_map [mMake 4 f_WordMap___init__ [mVar 4], mVar 4, mVar 3])))))))))))))))))))))
noncomputable def f_law : List PV → Option RO := runP N_law.length m_law
theorem ok_law (T : Txt K mg cl fa fd dT10 cmp17) : FnG P w K mg base (L2N.CX P w) 13 (fa 39) (fd 39) ["script"] (spP K cl 1 f_law) :=
  fnPG (k := 12) (m := m_law) T.F_law sc_law (fun cdv A outer s H E hgd hr => by
    have hu := hu64 hr
    have tk : L2N.Takes (cxOf (L2N.CX P w) P w K mg base N_law "law" (defScope s_law) (fa 39) cdv A outer s H E) (fun c d _ H' => E c d H') := L2N.takes_of rfl rfl rfl rfl
    exact (sm_cons (sm_setO (i := 1) sc_law.nd rfl (by first | exact Or.inl rfl | exact Or.inr rfl) (fm_call tk (ok__law_source T) (hr.mono (by first | decide | omega)) T.g__law_source T.k__law_source T.b__law_source (am_cons (em_v 0) (am_cons (em_int) (am_nil)))))
      (sm_cons (sm_expr (em_callI tk (ok__law_next T) (hr.mono (by decide)) T.g__law_next T.k__law_next T.b__law_next (pv 1) (am_nil)))
      (sm_cons (sm_set (i := 2) sc_law.nd rfl (by first | exact Or.inl rfl | exact Or.inr rfl) (em_fm (fm_cb (cr_sortedX rfl hu) cs_sortedX T.z_sorted (am_cons (em_callI tk (ok__law_words T) (hr.mono (by decide)) T.g__law_words T.k__law_words T.b__law_words (pv 1) (am_cons (em_op br_add (em_int) (em_callI tk (ok__law_pick T) (hr.mono (by decide)) T.g__law_pick T.k__law_pick T.b__law_pick (pv 1) (am_cons (em_int) (am_nil)))) (am_cons (em_int) (am_cons (em_lst (am_nil)) (am_nil))))) (am_nil)))))
      (sm_cons (sm_set (i := 3) sc_law.nd rfl (by first | exact Or.inl rfl | exact Or.inr rfl) (em_op br_add (em_v 2) (em_lst (am_cons (em_str) (am_nil)))))
      (sm_cons (sm_expr (em_callI tk (ok__law_next T) (hr.mono (by decide)) T.g__law_next T.k__law_next T.b__law_next (pv 1) (am_nil)))
      (sm_cons (sm_set (i := 4) sc_law.nd rfl (by first | exact Or.inl rfl | exact Or.inr rfl) (em_callI tk (ok__law_drawn_map T) (hr.mono (by decide)) T.g__law_drawn_map T.k__law_drawn_map T.b__law_drawn_map (pv 1) (am_cons (em_v 2) (am_nil))))
      (sm_cons (sm_expr (em_callI tk (ok__law_next T) (hr.mono (by decide)) T.g__law_next T.k__law_next T.b__law_next (pv 1) (am_nil)))
      (sm_cons (sm_set (i := 5) sc_law.nd rfl (by first | exact Or.inl rfl | exact Or.inr rfl) (em_ife (tm_tru (em_callI tk (ok__law_one_in T) (hr.mono (by decide)) T.g__law_one_in T.k__law_one_in T.b__law_one_in (pv 1) (am_cons (em_int) (am_nil)))) (em_v 4) (em_callI tk (ok__law_drawn_map T) (hr.mono (by decide)) T.g__law_drawn_map T.k__law_drawn_map T.b__law_drawn_map (pv 1) (am_cons (em_v 2) (am_nil)))))
      (sm_cons (sm_set (i := 6) sc_law.nd rfl (by first | exact Or.inl rfl | exact Or.inr rfl) (em_make (c := 4) tk T.m4 (ok_WordMap___init__ T) (hr.mono (by first | decide | omega)) T.g_WordMap T.b_WordMap___init__ (am_cons (em_v 4) (am_nil))))
      (sm_cons (sm_set (i := 7) sc_law.nd rfl (by first | exact Or.inl rfl | exact Or.inr rfl) (em_make (c := 4) tk T.m4 (ok_WordMap___init__ T) (hr.mono (by first | decide | omega)) T.g_WordMap T.b_WordMap___init__ (am_cons (em_call tk (ok__law_lists T) (hr.mono (by first | decide | omega)) T.g__law_lists T.k__law_lists T.b__law_lists (am_cons (em_v 5) (am_nil))) (am_nil))))
      (sm_cons (sm_if (tm_w (wm_or (tm_not (tm_tru (em_call tk (ok__law_is_map T) (hr.mono (by first | decide | omega)) T.g__law_is_map T.k__law_is_map T.b__law_is_map (am_cons (em_make0 (c := 4) tk T.m4 (ok_WordMap___init__ T) (hr.mono (by first | decide | omega)) T.g_WordMap T.bd_WordMap___init__ T.dv_WordMap___init__) (am_cons (em_tup (am_nil)) (am_cons (em_v 3) (am_nil))))))) (wm_or1 (tm_not (tm_tru (em_call tk (ok__law_is_map T) (hr.mono (by first | decide | omega)) T.g__law_is_map T.k__law_is_map T.b__law_is_map (am_cons (em_v 6) (am_cons (em_v 4) (am_cons (em_v 3) (am_nil)))))))))) (sm_one (sm_ret (em_bl))) (sm_nil))
      (sm_cons (sm_if (tm_not (tm_tru (em_call tk (ok__law_is_map T) (hr.mono (by first | decide | omega)) T.g__law_is_map T.k__law_is_map T.b__law_is_map (am_cons (em_meth (c := 4) tk T.c4 T.mm4_then (ok_WordMap_then T) (hr.mono (by first | decide | omega)) T.b_WordMap_then (em_v 6) (am_cons (em_v 7) (am_nil))) (am_cons (em_call tk (ok__law_then T) (hr.mono (by first | decide | omega)) T.g__law_then T.k__law_then T.b__law_then (am_cons (em_v 4) (am_cons (em_v 5) (am_nil)))) (am_cons (em_v 3) (am_nil))))))) (sm_one (sm_ret (em_bl))) (sm_nil))
      (sm_cons (sm_if (tm_not (tm_tru (em_call tk (ok__law_is_map T) (hr.mono (by first | decide | omega)) T.g__law_is_map T.k__law_is_map T.b__law_is_map (am_cons (em_meth (c := 4) tk T.c4 T.mm4_then (ok_WordMap_then T) (hr.mono (by first | decide | omega)) T.b_WordMap_then (em_v 7) (am_cons (em_v 6) (am_nil))) (am_cons (em_call tk (ok__law_then T) (hr.mono (by first | decide | omega)) T.g__law_then T.k__law_then T.b__law_then (am_cons (em_v 5) (am_cons (em_v 4) (am_nil)))) (am_cons (em_v 3) (am_nil))))))) (sm_one (sm_ret (em_bl))) (sm_nil))
      (sm_cons (sm_if (tm_not (tm_tru (em_call tk (ok__law_is_map T) (hr.mono (by first | decide | omega)) T.g__law_is_map T.k__law_is_map T.b__law_is_map (am_cons (em_meth (c := 4) tk T.c4 T.mm4_then (ok_WordMap_then T) (hr.mono (by first | decide | omega)) T.b_WordMap_then (em_v 6) (am_cons (em_v 6) (am_nil))) (am_cons (em_call tk (ok__law_then T) (hr.mono (by first | decide | omega)) T.g__law_then T.k__law_then T.b__law_then (am_cons (em_v 4) (am_cons (em_v 4) (am_nil)))) (am_cons (em_v 3) (am_nil))))))) (sm_one (sm_ret (em_bl))) (sm_nil))
      (sm_cons (sm_if (tm_w (wm_or (tm_not (tm_tru (em_call tk (ok__law_is_map T) (hr.mono (by first | decide | omega)) T.g__law_is_map T.k__law_is_map T.b__law_is_map (am_cons (em_v 6) (am_cons (em_v 4) (am_cons (em_v 3) (am_nil))))))) (wm_or1 (tm_not (tm_tru (em_call tk (ok__law_is_map T) (hr.mono (by first | decide | omega)) T.g__law_is_map T.k__law_is_map T.b__law_is_map (am_cons (em_v 7) (am_cons (em_v 5) (am_cons (em_v 3) (am_nil)))))))))) (sm_one (sm_ret (em_bl))) (sm_nil))
      (sm_cons (sm_if (tm_w (wm_or (tm_cmp (br_ne hu) (em_cmpG (br_eqO T.me4 T.mf4 (hr.mono (by first | decide | omega)) (ok_WordMap___eq__ T) T.b_WordMap___eq__ (eq_own T.ow4)) (em_v 6) (em_v 7) (nomark _)) (em_cmp (br_eq hu) (em_v 4) (em_v 5) (nomark _)) (nomark _)) (wm_or (tm_not (tm_cmpG (br_eqO T.me4 T.mf4 (hr.mono (by first | decide | omega)) (ok_WordMap___eq__ T) T.b_WordMap___eq__ (eq_own T.ow4)) (em_v 6) (em_make (c := 4) tk T.m4 (ok_WordMap___init__ T) (hr.mono (by first | decide | omega)) T.g_WordMap T.b_WordMap___init__ (am_cons (em_call tk (ok__law_lists T) (hr.mono (by first | decide | omega)) T.g__law_lists T.k__law_lists T.b__law_lists (am_cons (em_v 4) (am_nil))) (am_nil))) (nomark _))) (wm_or1 (tm_cmpG (br_eqO T.me4 T.mf4 (hr.mono (by first | decide | omega)) (ok_WordMap___eq__ T) T.b_WordMap___eq__ (eq_own T.ow4)) (em_v 6) (em_v 4) (nomark _)))))) (sm_one (sm_ret (em_bl))) (sm_nil))
      (sm_cons (sm_expr (em_callI tk (ok__law_next T) (hr.mono (by decide)) T.g__law_next T.k__law_next T.b__law_next (pv 1) (am_nil)))
      (sm_cons (sm_if (tm_w (wm_or (tm_not (tm_tru (em_callI tk (ok__law_of T) (hr.mono (by decide)) T.g__law_of T.k__law_of T.b__law_of (pv 1) (am_cons (em_v 2) (am_cons (em_v 3) (am_nil)))))) (wm_or1 (tm_not (tm_tru (em_call tk (ok__law_lists_stay T) (hr.mono (by first | decide | omega)) T.g__law_lists_stay T.k__law_lists_stay T.b__law_lists_stay (am_cons (em_v 4) (am_cons (em_v 2) (am_cons (em_v 3) (am_nil)))))))))) (sm_one (sm_ret (em_bl))) (sm_nil))
      (sm_cons (sm_expr (em_callI tk (ok__law_next T) (hr.mono (by decide)) T.g__law_next T.k__law_next T.b__law_next (pv 1) (am_nil)))
      (sm_cons (sm_for (passes_of rfl) rfl (im_rng1 (em_int) T.z_range) (gm_of (pg_name (i := 8) sc_law.nd rfl (by first | exact Or.inl rfl | exact Or.inr rfl)) (does_gN)) (sm_cons (sm_set (i := 9) sc_law.nd rfl (by first | exact Or.inl rfl | exact Or.inr rfl) (em_callI tk (ok__law_spoilt T) (hr.mono (by decide)) T.g__law_spoilt T.k__law_spoilt T.b__law_spoilt (pv 1) (am_cons (em_ife (tm_cmp (br_lt hu) (em_v 8) (em_int) (nomark _)) (em_v 4) (em_v 5)) (am_cons (em_v 2) (am_nil)))))
      (sm_one (sm_if (tm_w (wm_or (tm_not (tm_tru (em_callG tk (ok__law_refused T) hgd (hr.mono (by first | decide | omega)) T.g__law_refused T.k__law_refused T.b__law_refused (am_cons (em_v 9) (am_nil))))) (wm_or1 (tm_not (tm_tru (em_callG tk (ok__law_refused T) hgd (hr.mono (by first | decide | omega)) T.g__law_refused T.k__law_refused T.b__law_refused (am_cons (em_call tk (ok__law_lists T) (hr.mono (by first | decide | omega)) T.g__law_lists T.k__law_lists T.b__law_lists (am_cons (em_v 9) (am_nil))) (am_nil)))))))) (sm_one (sm_ret (em_bl))) (sm_nil)))))
      (sm_one (sm_ret (em_call tk (ok__law_is_map T) (hr.mono (by first | decide | omega)) T.g__law_is_map T.k__law_is_map T.b__law_is_map (am_cons (em_make (c := 4) tk T.m4 (ok_WordMap___init__ T) (hr.mono (by first | decide | omega)) T.g_WordMap T.b_WordMap___init__ (am_cons (em_v 4) (am_nil))) (am_cons (em_v 4) (am_cons (em_v 3) (am_nil))))))))))))))))))))))))))))
end
end A11
set_option Elab.async false
set_option linter.all false
set_option maxRecDepth 100000
set_option maxHeartbeats 4000000
namespace Kp
open PySem L2

/-! ### what a computation answers, step by step -/
def wq {α : Type} (m : M α) (S : Sto) (P : α → Sto → Prop) : Prop := ∃ x S', m S = some (.ok x S') ∧ P x S'
section
variable {α β : Type} {S : Sto}
theorem wq_mono {m : M α} {P Q : α → Sto → Prop} (h : wq m S P) (k : ∀ x S', P x S' → Q x S') : wq m S Q := let ⟨x, S', e, p⟩ := h; ⟨x, S', e, k _ _ p⟩
@[simp] theorem wq_ret {x : α} {P : α → Sto → Prop} : wq (ret x) S P ↔ P x S := by
  constructor
  · rintro ⟨y, S', e, p⟩
    cases e
    exact p
  · exact fun p => ⟨x, S, rfl, p⟩
theorem wq_bnd {m : M α} {k : α → M β} {P : β → Sto → Prop} : wq (bnd m k) S P ↔ wq m S fun x S1 => wq (k x) S1 P := by
  constructor
  · rintro ⟨y, S', e, p⟩
    unfold bnd at e
    split at e
    · rename_i x S1 e1
      exact ⟨x, S1, e1, y, S', e, p⟩
    · cases e
    · cases e
  · rintro ⟨x, S1, e1, y, S', e, p⟩
    refine ⟨y, S', ?_, p⟩
    unfold bnd
    rw [e1]
    exact e
theorem wq_lift {o : Option α} {P : α → Sto → Prop} : wq (lift o) S P ↔ ∃ y, o = some y ∧ P y S := by
  constructor
  · rintro ⟨y, S', e, p⟩
    obtain ⟨z, e1, e2⟩ := lift_eq e
    cases e2
    exact ⟨y, e1, p⟩
  · rintro ⟨y, rfl, p⟩
    exact ⟨y, S, rfl, p⟩
@[simp] theorem wq_none {P : α → Sto → Prop} : wq (fun _ => none : M α) S P ↔ False := by
  constructor
  · rintro ⟨y, S', e, p⟩
    cases e
  · exact False.elim
theorem wq_ite {c : Prop} [Decidable c] {m n : M α} {P : α → Sto → Prop} : wq (if c then m else n) S P ↔ if c then wq m S P else wq n S P := by
  split <;> rfl
theorem wq_mNx {P : Fl → Sto → Prop} : wq mNx S P ↔ P .nx S := wq_ret
theorem wq_mRet {m : M PV} {P : Fl → Sto → Prop} : wq (mRet m) S P ↔ wq m S fun x S1 => P (.rt x) S1 := by
  unfold mRet
  simp only [wq_bnd, wq_ret]
theorem wq_mDrop {m : M PV} {P : Fl → Sto → Prop} : wq (mDrop m) S P ↔ wq m S fun _ S1 => P .nx S1 := by
  unfold mDrop
  simp only [wq_bnd, wq_ret]
/-- behind a first statement -/
def aft (u : M Fl) (P : Fl → Sto → Prop) : Fl → Sto → Prop
  | .nx, S => wq u S P
  | .rt y, S => P (.rt y) S
  | .bk, S => P .bk S
  | .ct, S => P .ct S
theorem aft_nx {u : M Fl} {P : Fl → Sto → Prop} : aft u P .nx S ↔ wq u S P := Iff.rfl
theorem aft_rt {u : M Fl} {P : Fl → Sto → Prop} {y : PV} : aft u P (.rt y) S ↔ P (.rt y) S := Iff.rfl
theorem aft_bk {u : M Fl} {P : Fl → Sto → Prop} : aft u P .bk S ↔ P .bk S := Iff.rfl
theorem aft_ct {u : M Fl} {P : Fl → Sto → Prop} : aft u P .ct S ↔ P .ct S := Iff.rfl
theorem wq_mSeq {m u : M Fl} {P : Fl → Sto → Prop} : wq (mSeq m u) S P ↔ wq m S (aft u P) := by
  unfold mSeq
  rw [wq_bnd]
  constructor
  · rintro ⟨x, S1, e, p⟩
    refine ⟨x, S1, e, ?_⟩
    cases x <;> first | exact p | exact (wq_ret (P := P)).mp p | (have q : wq (ret _) S1 P := p; exact wq_ret.mp q)
  · rintro ⟨x, S1, e, p⟩
    refine ⟨x, S1, e, ?_⟩
    cases x <;> first | exact p | (have q : wq (ret _) S1 P := wq_ret.mpr p; exact q)
theorem wq_mIf {c : M Bool} {m n : M Fl} {P : Fl → Sto → Prop} : wq (mIf c m n) S P ↔ wq c S fun b S1 => (b = true → wq m S1 P) ∧ (b = false → wq n S1 P) := by
  unfold mIf
  rw [wq_bnd]
  have e : (fun (x : Bool) S1 => wq (if x = true then m else n) S1 P) = fun b S1 => (b = true → wq m S1 P) ∧ (b = false → wq n S1 P) := by
    funext b S1
    cases b <;> simp
  rw [e]
theorem wq_mIfE {c : M Bool} {m n : M PV} {P : PV → Sto → Prop} : wq (mIfE c m n) S P ↔ wq c S fun b S1 => (b = true → wq m S1 P) ∧ (b = false → wq n S1 P) := by
  unfold mIfE
  rw [wq_bnd]
  have e : (fun (x : Bool) S1 => wq (if x = true then m else n) S1 P) = fun b S1 => (b = true → wq m S1 P) ∧ (b = false → wq n S1 P) := by
    funext b S1
    cases b <;> simp
  rw [e]
theorem wq_mK {x : PV} {P : PV → Sto → Prop} : wq (mK x) S P ↔ P x S := wq_ret
theorem wq_mBin {g : PV → PV → Option PV} {ma mb : M PV} {P : PV → Sto → Prop} : wq (mBin g ma mb) S P ↔ wq ma S fun x S1 => wq mb S1 fun y S2 => ∃ z, g x y = some z ∧ P z S2 := by
  unfold mBin
  simp only [wq_bnd, wq_lift]
theorem wq_mTest {m : M PV} {P : Bool → Sto → Prop} : wq (mTest m) S P ↔ wq m S fun x S1 => ∃ b, x = .bl b ∧ P b S1 := by
  unfold mTest
  rw [wq_bnd]
  have e : (fun x S1 => wq (asB x) S1 P) = fun x S1 => ∃ b, x = .bl b ∧ P b S1 := by
    funext x S1
    cases x <;> simp [asB]
  rw [e]
theorem wq_mTru {m : M PV} {P : Bool → Sto → Prop} : wq (mTru m) S P ↔ wq m S fun x S1 => ∃ b, truP x = some b ∧ P b S1 := by
  unfold mTru
  simp only [wq_bnd, wq_lift]
theorem wq_mNot {m : M Bool} {P : Bool → Sto → Prop} : wq (mNot m) S P ↔ wq m S fun b S1 => P (!b) S1 := by
  unfold mNot
  simp only [wq_bnd, wq_ret]
theorem wq_mB {m : M Bool} {P : PV → Sto → Prop} : wq (mB m) S P ↔ wq m S fun b S1 => P (.bl b) S1 := by
  unfold mB
  simp only [wq_bnd, wq_ret]
theorem wq_mAnd {m n : M Bool} {P : Bool → Sto → Prop} : wq (mAnd m n) S P ↔ wq m S fun b S1 => (b = true → wq n S1 P) ∧ (b = false → P false S1) := by
  unfold mAnd
  rw [wq_bnd]
  have e : (fun (b : Bool) S1 => wq (if b = true then n else ret false) S1 P) = fun b S1 => (b = true → wq n S1 P) ∧ (b = false → P false S1) := by
    funext b S1
    cases b <;> simp
  rw [e]
theorem wq_mOr {m n : M Bool} {P : Bool → Sto → Prop} : wq (mOr m n) S P ↔ wq m S fun b S1 => (b = true → P true S1) ∧ (b = false → wq n S1 P) := by
  unfold mOr
  rw [wq_bnd]
  have e : (fun (b : Bool) S1 => wq (if b = true then ret true else n) S1 P) = fun b S1 => (b = true → P true S1) ∧ (b = false → wq n S1 P) := by
    funext b S1
    cases b <;> simp
  rw [e]
theorem wq_mArgs_nil {P : List PV → Sto → Prop} : wq (mArgs []) S P ↔ P [] S := wq_ret
theorem wq_mArgs_cons {m : M PV} {ms : List (M PV)} {P : List PV → Sto → Prop} : wq (mArgs (m :: ms)) S P ↔ wq m S fun x S1 => wq (mArgs ms) S1 fun xs S2 => P (x :: xs) S2 := by
  show wq (bnd m fun x => bnd (mArgs ms) fun xs => ret (x :: xs)) S P ↔ _
  simp only [wq_bnd, wq_ret]
theorem wq_mTup {ms : List (M PV)} {P : PV → Sto → Prop} : wq (mTup ms) S P ↔ wq (mArgs ms) S fun xs S1 => P (.tup xs) S1 := by
  unfold mTup
  simp only [wq_bnd, wq_ret]
theorem wq_mLst {ms : List (M PV)} {P : PV → Sto → Prop} : wq (mLst ms) S P ↔ wq (mArgs ms) S fun xs S1 => P (.lst xs) S1 := by
  unfold mLst
  simp only [wq_bnd, wq_ret]
theorem wq_mCB {g : List PV → Option PV} {ms : List (M PV)} {P : PV → Sto → Prop} : wq (mCB g ms) S P ↔ wq (mArgs ms) S fun xs S1 => ∃ z, g xs = some z ∧ P z S1 := by
  unfold mCB
  simp only [wq_bnd, wq_lift]
theorem wq_mUn {g : PV → Option PV} {m : M PV} {P : PV → Sto → Prop} : wq (mUn g m) S P ↔ wq m S fun x S1 => ∃ z, g x = some z ∧ P z S1 := by
  unfold mUn
  simp only [wq_bnd, wq_lift]
theorem wq_mLenO {c : Nat} {f : List PV → Option RO} {m : M PV} {P : PV → Sto → Prop} : wq (mLenO c f m) S P ↔ wq m S fun x S1 => ∃ z, pLenO c f x = some z ∧ P z S1 := wq_mUn
theorem wq_mIsa {ans : PV → Option Bool} {m : M PV} {P : PV → Sto → Prop} : wq (mIsa ans m) S P ↔ wq m S fun x S1 => ∃ b, ans x = some b ∧ P (.bl b) S1 := by
  unfold mIsa
  simp only [wq_bnd, wq_lift]
  refine ⟨fun ⟨x, S1, e, y, e1, p⟩ => ?_, fun ⟨x, S1, e, b, e1, p⟩ => ⟨x, S1, e, .bl b, by rw [e1]; rfl, p⟩⟩
  cases q : ans x with
  | none => rw [q] at e1; cases e1
  | some b =>
    rw [q] at e1
    cases e1
    exact ⟨x, S1, e, b, q, p⟩
/-- is None, is not None -/
def isN (n : Bool) : PV → PV
  | .non => .bl (!n)
  | _ => .bl n
theorem wq_mIsN {n : Bool} {m : M PV} {P : PV → Sto → Prop} : wq (mIsN n m) S P ↔ wq m S fun x S1 => P (isN n x) S1 := by
  unfold mIsN
  rw [wq_bnd]
  have e : ∀ x : PV, (match x with | .non => PV.bl (!n) | _ => .bl n) = isN n x := fun x => by cases x <;> rfl
  constructor
  · rintro ⟨x, S1, h, p⟩
    refine ⟨x, S1, h, ?_⟩
    have q := wq_ret.mp p
    cases x <;> exact q
  · rintro ⟨x, S1, h, p⟩
    refine ⟨x, S1, h, wq_ret.mpr ?_⟩
    cases x <;> exact p
theorem wq_roM {o : Option RO} {P : PV → Sto → Prop} : wq (roM o) S P ↔ ∃ y, o = some (.ret y) ∧ P y S := by
  cases o with
  | none => simp [roM]
  | some r =>
    cases r with
    | ret y => simp [roM]
    | exc c fs =>
      simp only [roM, Option.some.injEq, reduceCtorEq, false_and, exists_false, iff_false]
      rintro ⟨x, S', e, p⟩
      cases e
theorem wq_mCall {f : List PV → Option RO} {ms : List (M PV)} {P : PV → Sto → Prop} : wq (mCall f ms) S P ↔ wq (mArgs ms) S fun xs S1 => ∃ y, f xs = some (.ret y) ∧ P y S1 := by
  unfold mCall
  simp only [wq_bnd, wq_roM]
theorem wq_roQ {o : Option RO} {P : PV → Sto → Prop} : wq (roQ o) S P ↔ ∃ y, o = some (.ret y) ∧ P y S := by
  cases o with
  | none => simp [roQ]
  | some r => cases r <;> simp [roQ]
theorem wq_mCMeth {c : Nat} {f : List PV → Option RO} {ms : List (M PV)} {P : PV → Sto → Prop} : wq (mCMeth c f ms) S P ↔ wq (mArgs ms) S fun xs S1 => ∃ y, f (.glb c :: xs) = some (.ret y) ∧ P y S1 := by
  unfold mCMeth
  simp only [wq_bnd, wq_roQ]
theorem wq_mVar {i : Nat} {P : PV → Sto → Prop} : wq (mVar i) S P ↔ (∃ x, S[i]? = some (some (.p x)) ∧ P x S) ∨ ∃ x, S[i]? = some (some (.o x)) ∧ P x (S.set i (some (.p x))) := by
  constructor
  · rintro ⟨x, S', e, p⟩
    unfold mVar at e
    split at e
    · rename_i y h
      cases e
      exact .inl ⟨_, h, p⟩
    · rename_i y h
      cases e
      exact .inr ⟨_, h, p⟩
    · cases e
  · rintro (⟨x, h, p⟩ | ⟨x, h, p⟩)
    · exact ⟨x, S, by unfold mVar; rw [h], p⟩
    · exact ⟨x, _, by unfold mVar; rw [h], p⟩
theorem wq_put {i : Nat} {x : PV} {P : Unit → Sto → Prop} : wq (put i x) S P ↔ (S[i]? = some none ∨ (∃ y, S[i]? = some (some (.p y))) ∨ ∃ y, S[i]? = some (some (.o y))) ∧ P () (S.set i (some (.p x))) := by
  constructor
  · rintro ⟨u, S', e, p⟩
    unfold put at e
    split at e
    · cases e
    · cases e
    · rename_i h1 h2
      cases e
      refine ⟨?_, p⟩
      cases q : S[i]? with
      | none => exact absurd q h2
      | some o =>
        cases o with
        | none => exact .inl rfl
        | some v =>
          cases v with
          | p y => exact .inr (.inl ⟨y, rfl⟩)
          | o y => exact .inr (.inr ⟨y, rfl⟩)
          | i y => exact absurd q (h1 y)
  · rintro ⟨h, p⟩
    refine ⟨(), S.set i (some (.p x)), ?_, p⟩
    unfold put
    rcases h with h | ⟨y, h⟩ | ⟨y, h⟩ <;> rw [h]
theorem wq_putO {i : Nat} {x : PV} {P : Unit → Sto → Prop} : wq (putO i x) S P ↔ (S[i]? = some none ∨ (∃ y, S[i]? = some (some (.p y))) ∨ ∃ y, S[i]? = some (some (.o y))) ∧ P () (S.set i (some (.o x))) := by
  constructor
  · rintro ⟨u, S', e, p⟩
    unfold putO at e
    split at e
    · cases e
    · cases e
    · rename_i h1 h2
      cases e
      refine ⟨?_, p⟩
      cases q : S[i]? with
      | none => exact absurd q h2
      | some o =>
        cases o with
        | none => exact .inl rfl
        | some v =>
          cases v with
          | p y => exact .inr (.inl ⟨y, rfl⟩)
          | o y => exact .inr (.inr ⟨y, rfl⟩)
          | i y => exact absurd q (h1 y)
  · rintro ⟨h, p⟩
    refine ⟨(), S.set i (some (.o x)), ?_, p⟩
    unfold putO
    rcases h with h | ⟨y, h⟩ | ⟨y, h⟩ <;> rw [h]
theorem wq_mSet {i : Nat} {m : M PV} {P : Fl → Sto → Prop} : wq (mSet i m) S P ↔ wq m S fun x S1 => wq (put i x) S1 fun _ S2 => P .nx S2 := by
  unfold mSet
  simp only [wq_bnd, wq_ret]
theorem wq_mSetO {i : Nat} {m : M PV} {P : Fl → Sto → Prop} : wq (mSetO i m) S P ↔ wq m S fun x S1 => wq (putO i x) S1 fun _ S2 => P .nx S2 := by
  unfold mSetO
  simp only [wq_bnd, wq_ret]
theorem wq_mDct {P : PV → Sto → Prop} : wq mDct S P ↔ P (.dct []) S := wq_ret
theorem pk_iff {i : Nat} {x : PV} : pk i S = some x ↔ S[i]? = some (some (.p x)) ∨ S[i]? = some (some (.o x)) ∨ S[i]? = some (some (.i x)) := by
  unfold pk
  constructor
  · intro h
    split at h
    · rename_i y e; cases h; exact .inl e
    · rename_i y e; cases h; exact .inr (.inl e)
    · rename_i y e; cases h; exact .inr (.inr e)
    · cases h
  · rintro (h | h | h) <;> rw [h]
theorem wq_guardPk {i : Nat} {m : M α} {P : α → Sto → Prop} : wq (guardPk i m) S P ↔ (∃ x, pk i S = some x) ∧ wq m S P := by
  unfold guardPk
  constructor
  · rintro ⟨y, S', e, p⟩
    try dsimp only at e
    split at e
    · rename_i x h
      exact ⟨⟨x, h⟩, y, S', e, p⟩
    · cases e
  · rintro ⟨⟨x, h⟩, y, S', e, p⟩
    refine ⟨y, S', ?_, p⟩
    dsimp only
    rw [h]
    exact e
theorem wq_opk {i : Nat} {f : PV → Option PV} {P : PV → Sto → Prop} : wq (opk i f) S P ↔ ∃ x z, pk i S = some x ∧ f x = some z ∧ z.atom = true ∧ P z S := by
  constructor
  · rintro ⟨y, S', e, p⟩
    obtain ⟨x, z, h1, h2, h3, h4⟩ := opk_some e
    cases h4
    exact ⟨x, y, h1, h2, h3, p⟩
  · rintro ⟨x, z, h1, h2, h3, p⟩
    refine ⟨z, S, ?_, p⟩
    unfold opk
    rw [h1]
    dsimp only
    rw [h2]
    dsimp only
    rw [if_pos h3]
theorem wq_mCBV {g : List PV → Option PV} {i : Nat} {P : PV → Sto → Prop} : wq (mCBV g i) S P ↔ ∃ x z, pk i S = some x ∧ g [x] = some z ∧ z.atom = true ∧ P z S := wq_opk
theorem wq_mBinL {g : PV → PV → Option PV} {i : Nat} {mb : M PV} {P : PV → Sto → Prop} : wq (mBinL g i mb) S P ↔ (∃ x, pk i S = some x) ∧ wq mb S fun y S1 => ∃ x z, pk i S1 = some x ∧ g x y = some z ∧ z.atom = true ∧ P z S1 := by
  unfold mBinL
  simp only [wq_guardPk, wq_bnd, wq_opk]
theorem wq_mBinR {g : PV → PV → Option PV} {i : Nat} {ma : M PV} {P : PV → Sto → Prop} : wq (mBinR g ma i) S P ↔ wq ma S fun x S1 => ∃ y z, pk i S1 = some y ∧ g x y = some z ∧ z.atom = true ∧ P z S1 := by
  unfold mBinR
  simp only [wq_bnd, wq_opk]
theorem wq_mIxV {i : Nat} {mk : M PV} {P : PV → Sto → Prop} : wq (mIxV i mk) S P ↔ (∃ x, pk i S = some x) ∧ wq mk S fun y S1 => ∃ x z, pk i S1 = some x ∧ pIx x y = some z ∧ P z S1 := by
  unfold mIxV
  rw [wq_guardPk, wq_bnd]
  refine and_congr_right fun _ => ?_
  constructor
  · rintro ⟨y, S1, h, z, S', e, p⟩
    refine ⟨y, S1, h, ?_⟩
    dsimp only at e
    cases h1 : pk i S1 with
    | none => rw [h1] at e; cases e
    | some x =>
      rw [h1] at e
      dsimp only at e
      cases h2 : pIx x y with
      | none => rw [h2] at e; cases e
      | some u =>
        rw [h2] at e
        cases e
        exact ⟨x, z, h1, h2, p⟩
  · rintro ⟨y, S1, h, x, z, h1, h2, p⟩
    refine ⟨y, S1, h, z, S1, ?_, p⟩
    dsimp only
    rw [h1]
    dsimp only
    rw [h2]
theorem wq_mFldV {i c : Nat} {f : Str} {P : PV → Sto → Prop} : wq (mFldV i c f) S P ↔ ∃ x z, pk i S = some x ∧ pFld c f x = some z ∧ P z S := by
  constructor
  · rintro ⟨z, S', e, p⟩
    unfold mFldV at e
    split at e
    · rename_i x h
      split at e
      · rename_i u hu
        cases e
        exact ⟨x, z, h, hu, p⟩
      · cases e
    · cases e
  · rintro ⟨x, z, h, hu, p⟩
    refine ⟨z, S, ?_, p⟩
    unfold mFldV
    rw [h]
    dsimp only
    rw [hu]
theorem wq_mTruV {i : Nat} {P : Bool → Sto → Prop} : wq (mTruV i) S P ↔ ∃ x z, pk i S = some x ∧ truP x = some z ∧ P z S := by
  constructor
  · rintro ⟨z, S', e, p⟩
    unfold mTruV at e
    split at e
    · rename_i x h
      split at e
      · rename_i u hu
        cases e
        exact ⟨x, z, h, hu, p⟩
      · cases e
    · cases e
  · rintro ⟨x, z, h, hu, p⟩
    refine ⟨z, S, ?_, p⟩
    unfold mTruV
    rw [h]
    dsimp only
    rw [hu]
/-- an own slot's or a handed-in slot's value is changed -/
def chg (i : Nat) (S : Sto) (R : PV → PV → (SV → Sto → Prop) → Prop) : Prop := True
theorem wq_updO {i : Nat} {f : PV → Option PV} {P : Unit → Sto → Prop} : wq (updO i f) S P ↔ (∃ x x', S[i]? = some (some (.o x)) ∧ f x = some x' ∧ P () (S.set i (some (.o x')))) ∨ ∃ x x', S[i]? = some (some (.i x)) ∧ f x = some x' ∧ P () (S.set i (some (.i x'))) := by
  constructor
  · rintro ⟨z, S', e, p⟩
    unfold updO at e
    split at e
    · rename_i x h
      split at e
      · rename_i u hu
        cases e
        exact .inl ⟨x, u, h, hu, p⟩
      · cases e
    · rename_i x h
      split at e
      · rename_i u hu
        cases e
        exact .inr ⟨x, u, h, hu, p⟩
      · cases e
    · cases e
  · rintro (⟨x, u, h, hu, p⟩ | ⟨x, u, h, hu, p⟩)
    · refine ⟨(), _, ?_, p⟩
      unfold updO
      rw [h]
      dsimp only
      rw [hu]
    · refine ⟨(), _, ?_, p⟩
      unfold updO
      rw [h]
      dsimp only
      rw [hu]
theorem wq_updR {i : Nat} {f : PV → Option (PV × PV)} {P : PV → Sto → Prop} : wq (updR i f) S P ↔ (∃ x x' z, S[i]? = some (some (.o x)) ∧ f x = some (x', z) ∧ P z (S.set i (some (.o x')))) ∨ ∃ x x' z, S[i]? = some (some (.i x)) ∧ f x = some (x', z) ∧ P z (S.set i (some (.i x'))) := by
  constructor
  · rintro ⟨z, S', e, p⟩
    unfold updR at e
    split at e
    · rename_i x h
      split at e
      · rename_i u v hu
        cases e
        exact .inl ⟨x, u, z, h, hu, p⟩
      · cases e
    · rename_i x h
      split at e
      · rename_i u v hu
        cases e
        exact .inr ⟨x, u, z, h, hu, p⟩
      · cases e
    · cases e
  · rintro (⟨x, u, v, h, hu, p⟩ | ⟨x, u, v, h, hu, p⟩)
    · refine ⟨v, _, ?_, p⟩
      unfold updR
      rw [h]
      dsimp only
      rw [hu]
    · refine ⟨v, _, ?_, p⟩
      unfold updR
      rw [h]
      dsimp only
      rw [hu]
theorem wq_mPut {i : Nat} {mk me : M PV} {P : Fl → Sto → Prop} : wq (mPut i mk me) S P ↔ wq me S fun v S1 => (∃ x, pk i S1 = some x) ∧ wq mk S1 fun k S2 => wq (updO i fun x => pPut x k v) S2 fun _ S3 => P .nx S3 := by
  unfold mPut
  simp only [wq_bnd, wq_guardPk, wq_ret]
theorem wq_mSetF {i c : Nat} {f : Str} {me : M PV} {P : Fl → Sto → Prop} : wq (mSetF i c f me) S P ↔ wq me S fun v S1 => wq (updO i (pSetF c f v)) S1 fun _ S2 => P .nx S2 := by
  unfold mSetF
  simp only [wq_bnd, wq_ret]
theorem wq_mMt {T : String} {i : Nat} {f : PV → List PV → Option (PV × PV)} {ms : List (M PV)} {P : PV → Sto → Prop} : wq (mMt T i f ms) S P ↔ isOT T i S = true ∧ wq (mArgs ms) S fun xs S1 => wq (updR i fun x => f x xs) S1 P := by
  unfold mMt
  constructor
  · rintro ⟨z, S', e, p⟩
    try dsimp only at e
    split at e
    · rename_i h
      exact ⟨h, wq_bnd.mp ⟨z, S', e, p⟩⟩
    · cases e
  · rintro ⟨h, q⟩
    obtain ⟨z, S', e, p⟩ := wq_bnd.mpr q
    exact ⟨z, S', by dsimp only; rw [if_pos h]; exact e, p⟩
theorem wq_mApp {i : Nat} {m : M PV} {P : Fl → Sto → Prop} : wq (mApp i m) S P ↔ isOT "list" i S = true ∧ wq m S fun x S1 => wq (updR i fun l => fApp l [x]) S1 fun _ S2 => P .nx S2 := by
  unfold mApp
  simp only [wq_mDrop, wq_mMt, wq_mArgs_cons, wq_mArgs_nil]
theorem wq_mIn {i : Nat} {h : PV → Option (PV × RO)} {P : PV → Sto → Prop} : wq (mIn i h) S P ↔ (∃ x x' z, S[i]? = some (some (.o x)) ∧ h x = some (x', .ret z) ∧ P z (S.set i (some (.o x')))) ∨ ∃ x x' z, S[i]? = some (some (.i x)) ∧ h x = some (x', .ret z) ∧ P z (S.set i (some (.i x'))) := by
  constructor
  · rintro ⟨z, S', e, p⟩
    unfold mIn at e
    split at e
    · rename_i x h
      split at e
      · rename_i u v hu
        cases e
        exact .inl ⟨x, u, z, h, hu, p⟩
      · cases e
      · cases e
    · rename_i x h
      split at e
      · rename_i u v hu
        cases e
        exact .inr ⟨x, u, z, h, hu, p⟩
      · cases e
      · cases e
    · cases e
  · rintro (⟨x, u, v, h, hu, p⟩ | ⟨x, u, v, h, hu, p⟩)
    · refine ⟨v, _, ?_, p⟩
      unfold mIn
      rw [h]
      dsimp only
      rw [hu]
    · refine ⟨v, _, ?_, p⟩
      unfold mIn
      rw [h]
      dsimp only
      rw [hu]
theorem wq_mCallI {i : Nat} {f : PV → List PV → Option (PV × RO)} {ms : List (M PV)} {P : PV → Sto → Prop} : wq (mCallI i f ms) S P ↔ isO i S = true ∧ wq (mArgs ms) S fun xs S1 => wq (mIn i fun x => f x xs) S1 P := by
  unfold mCallI
  constructor
  · rintro ⟨z, S', e, p⟩
    try dsimp only at e
    split at e
    · rename_i h
      exact ⟨h, wq_bnd.mp ⟨z, S', e, p⟩⟩
    · cases e
  · rintro ⟨h, q⟩
    obtain ⟨z, S', e, p⟩ := wq_bnd.mpr q
    exact ⟨z, S', by dsimp only; rw [if_pos h]; exact e, p⟩
theorem wq_mkM {h : PV → Option (PV × RO)} {c : Nat} {P : PV → Sto → Prop} : wq (mkM h c) S P ↔ ∃ x', h (.obj c []) = some (x', .ret .non) ∧ P x' S := by
  constructor
  · rintro ⟨z, S', e, p⟩
    unfold mkM at e
    split at e
    · rename_i u hu
      cases e
      exact ⟨z, hu, p⟩
    · cases e
    · cases e
  · rintro ⟨x, hu, p⟩
    refine ⟨x, S, ?_, p⟩
    unfold mkM
    rw [hu]
theorem wq_mMake {c : Nat} {f : PV → List PV → Option (PV × RO)} {ms : List (M PV)} {P : PV → Sto → Prop} : wq (mMake c f ms) S P ↔ wq (mArgs ms) S fun xs S1 => ∃ x', f (.obj c []) xs = some (x', .ret .non) ∧ P x' S1 := by
  unfold mMake
  simp only [wq_bnd, wq_mkM]
theorem wq_mMake0 {c : Nat} {f : PV → List PV → Option (PV × RO)} {ds : List PV} {P : PV → Sto → Prop} : wq (mMake0 c f ds) S P ↔ ∃ x', f (.obj c []) ds = some (x', .ret .non) ∧ P x' S := by
  unfold mMake0
  simp only [wq_mkM]
theorem wq_mMakeV {i c : Nat} {f : PV → List PV → Option (PV × RO)} {ms : List (M PV)} {P : PV → Sto → Prop} : wq (mMakeV i c f ms) S P ↔ S[i]? = some (some (.p (.glb c))) ∧ wq (mMake c f ms) S P := by
  constructor
  · rintro ⟨z, S', e, p⟩
    unfold mMakeV at e
    split at e
    · rename_i d h
      split at e
      · rename_i hd
        subst hd
        exact ⟨h, z, S', e, p⟩
      · cases e
    · cases e
  · rintro ⟨h, z, S', e, p⟩
    refine ⟨z, S', ?_, p⟩
    unfold mMakeV
    rw [h]
    dsimp only
    rw [if_pos rfl]
    exact e
theorem wq_mMeth {c : Nat} {m : Str} {f : List PV → Option RO} {mo : M PV} {ms : List (M PV)} {P : PV → Sto → Prop} : wq (mMeth c m f mo ms) S P ↔ wq mo S fun x S1 => ∃ fs, x = .obj c fs ∧ fs.lookup m = none ∧ wq (mArgs ms) S1 fun xs S2 => ∃ y, f (.obj c fs :: xs) = some (.ret y) ∧ P y S2 := by
  unfold mMeth
  rw [wq_bnd]
  constructor
  · rintro ⟨x, S1, e, q⟩
    refine ⟨x, S1, e, ?_⟩
    split at q
    · rename_i d fs
      split at q
      · rename_i hd
        obtain ⟨rfl, hl⟩ := hd
        exact ⟨fs, rfl, hl, by simpa only [wq_bnd, wq_roM] using q⟩
      · exact (wq_none.mp q).elim
    · exact (wq_none.mp q).elim
  · rintro ⟨x, S1, e, fs, rfl, hl, q⟩
    refine ⟨_, S1, e, ?_⟩
    dsimp only
    rw [if_pos ⟨rfl, hl⟩]
    simpa only [wq_bnd, wq_roM] using q
theorem wq_mCallO {c : Nat} {f : List PV → Option RO} {mo : M PV} {ms : List (M PV)} {P : PV → Sto → Prop} : wq (mCallO c f mo ms) S P ↔ wq mo S fun x S1 => ∃ fs, x = .obj c fs ∧ wq (mArgs ms) S1 fun xs S2 => ∃ y, f (.obj c fs :: xs) = some (.ret y) ∧ P y S2 := by
  unfold mCallO
  rw [wq_bnd]
  constructor
  · rintro ⟨x, S1, e, q⟩
    refine ⟨x, S1, e, ?_⟩
    split at q
    · rename_i d fs
      split at q
      · rename_i hd
        subst hd
        exact ⟨fs, rfl, by simpa only [wq_bnd, wq_roQ] using q⟩
      · exact (wq_none.mp q).elim
    · exact (wq_none.mp q).elim
  · rintro ⟨x, S1, e, fs, rfl, q⟩
    refine ⟨_, S1, e, ?_⟩
    dsimp only
    rw [if_pos rfl]
    simpa only [wq_bnd, wq_roQ] using q
theorem wq_mNoB {P : Option Int → Sto → Prop} : wq mNoB S P ↔ P none S := wq_ret
theorem wq_mBd {m : M PV} {P : Option Int → Sto → Prop} : wq (mBd m) S P ↔ wq m S fun x S1 => ∃ i, x = .int i ∧ P (some i) S1 := by
  unfold mBd
  rw [wq_bnd]
  constructor
  · rintro ⟨x, S1, e, q⟩
    refine ⟨x, S1, e, ?_⟩
    split at q
    · exact ⟨_, rfl, wq_ret.mp q⟩
    · exact (wq_none.mp q).elim
  · rintro ⟨x, S1, e, i, rfl, q⟩
    exact ⟨_, S1, e, wq_ret.mpr q⟩
theorem wq_mSl {m : M PV} {lo hi : M (Option Int)} {P : PV → Sto → Prop} : wq (mSl m lo hi) S P ↔ wq m S fun x S1 => wq lo S1 fun a S2 => wq hi S2 fun b S3 => ∃ z, pSl x a b = some z ∧ P z S3 := by
  unfold mSl
  simp only [wq_bnd, wq_lift]
theorem wq_mRng1 {m : M PV} {P : List PV → Sto → Prop} : wq (mRng1 m) S P ↔ wq m S fun x S1 => ∃ j, x = .int j ∧ inR j = true ∧ P (rangeP 0 j.toNat) S1 := by
  unfold mRng1
  rw [wq_bnd]
  constructor
  · rintro ⟨x, S1, e, q⟩
    refine ⟨x, S1, e, ?_⟩
    split at q
    · split at q
      · rename_i h
        exact ⟨_, rfl, h, wq_ret.mp q⟩
      · exact (wq_none.mp q).elim
    · exact (wq_none.mp q).elim
  · rintro ⟨x, S1, e, i, rfl, h, q⟩
    refine ⟨_, S1, e, ?_⟩
    dsimp only
    rw [if_pos h]
    exact wq_ret.mpr q
theorem wq_mRng2 {m n : M PV} {P : List PV → Sto → Prop} : wq (mRng2 m n) S P ↔ wq m S fun x S1 => wq n S1 fun y S2 => ∃ i j, x = .int i ∧ y = .int j ∧ inR i = true ∧ inR j = true ∧ P (rangeP i (j - i).toNat) S2 := by
  unfold mRng2
  simp only [wq_bnd]
  constructor
  · rintro ⟨x, S1, e, y, S2, e2, q⟩
    refine ⟨x, S1, e, y, S2, e2, ?_⟩
    split at q
    · split at q
      · rename_i h
        exact ⟨_, _, rfl, rfl, h.1, h.2, wq_ret.mp q⟩
      · exact (wq_none.mp q).elim
    · exact (wq_none.mp q).elim
  · rintro ⟨x, S1, e, y, S2, e2, i, j, rfl, rfl, h1, h2, q⟩
    refine ⟨_, S1, e, _, S2, e2, ?_⟩
    dsimp only
    rw [if_pos ⟨h1, h2⟩]
    exact wq_ret.mpr q
/-- what is gone through -/
def itA : PV → Option (List PV)
  | .lst xs => some xs
  | .frl ns => some (ns.map PV.int)
  | .tup xs => some xs
  | .str z => some (charsP z)
  | _ => none
theorem wq_mIterA {m : M PV} {P : List PV → Sto → Prop} : wq (mIterA m) S P ↔ wq m S fun x S1 => ∃ ys, itA x = some ys ∧ P ys S1 := by
  unfold mIterA
  rw [wq_bnd]
  have e : (fun (x : PV) S1 => wq (match x with | .lst xs => ret xs | .frl ns => ret (ns.map PV.int) | .tup xs => ret xs | .str z => ret (charsP z) | _ => fun _ => none) S1 P) = fun x S1 => ∃ ys, itA x = some ys ∧ P ys S1 := by
    funext x S1
    apply propext
    cases x <;> simp [itA]
  rw [← e]
  all_goals rfl
theorem wq_mChain {g g' : PV → PV → Option PV} {ma mb mc : M PV} {P : PV → Sto → Prop} : wq (mChain g g' ma mb mc) S P ↔ wq ma S fun x S1 => wq mb S1 fun y S2 => ∃ b, g x y = some (.bl b) ∧ (b = true → wq mc S2 fun u S3 => ∃ z, g' y u = some z ∧ P z S3) ∧ (b = false → P (.bl false) S2) := by
  unfold mChain
  simp only [wq_bnd, wq_lift]
  have e : ∀ (y : PV) (o : Option PV) (S2 : Sto), (∃ z, o = some z ∧ wq (asB z) S2 fun b S3 => wq (if b = true then bnd mc fun u => lift (g' y u) else ret (.bl false)) S3 P) ↔ ∃ b, o = some (.bl b) ∧ (b = true → wq mc S2 fun u S3 => ∃ z, g' y u = some z ∧ P z S3) ∧ (b = false → P (.bl false) S2) := by
    intro y o S2
    constructor
    · rintro ⟨z, rfl, q⟩
      cases z <;> simp only [asB, wq_none, wq_ret] at q
      rename_i b
      refine ⟨b, rfl, ?_⟩
      cases b <;> simpa [wq_bnd, wq_lift] using q
    · rintro ⟨b, rfl, q⟩
      refine ⟨_, rfl, ?_⟩
      simp only [asB, wq_ret]
      cases b <;> simpa [wq_bnd, wq_lift] using q
  simp only [e]
theorem wq_mGet2 {mo mk md : M PV} {P : PV → Sto → Prop} : wq (mGet2 mo mk md) S P ↔ wq mo S fun x S1 => isDct x = true ∧ wq mk S1 fun k S2 => wq md S2 fun d S3 => ∃ z, pGet x k d = some z ∧ P z S3 := by
  unfold mGet2
  rw [wq_bnd]
  constructor
  · rintro ⟨x, S1, e, q⟩
    refine ⟨x, S1, e, ?_⟩
    split at q
    · rename_i h
      exact ⟨h, by simpa only [wq_bnd, wq_lift] using q⟩
    · exact (wq_none.mp q).elim
  · rintro ⟨x, S1, e, h, q⟩
    refine ⟨_, S1, e, ?_⟩
    dsimp only
    rw [if_pos h]
    simpa only [wq_bnd, wq_lift] using q
theorem wq_mBinS {g : PV → PV → Option PV} {mo me : M PV} {P : PV → Sto → Prop} : wq (mBinS g mo me) S P ↔ wq mo S fun x S1 => isStr x = true ∧ wq me S1 fun y S2 => ∃ z, g x y = some z ∧ P z S2 := by
  unfold mBinS
  rw [wq_bnd]
  constructor
  · rintro ⟨x, S1, e, q⟩
    refine ⟨x, S1, e, ?_⟩
    split at q
    · rename_i h
      exact ⟨h, by simpa only [wq_bnd, wq_lift] using q⟩
    · exact (wq_none.mp q).elim
  · rintro ⟨x, S1, e, h, q⟩
    refine ⟨_, S1, e, ?_⟩
    dsimp only
    rw [if_pos h]
    simpa only [wq_bnd, wq_lift] using q
theorem wq_mAsg {m : M PV} {g : PV → Sto → Option Sto} {P : Fl → Sto → Prop} : wq (mAsg m g) S P ↔ wq m S fun x S1 => ∃ S2, g x S1 = some S2 ∧ P .nx S2 := by
  unfold mAsg
  rw [wq_bnd]
  constructor
  · rintro ⟨x, S1, e, y, S2, e2, p⟩
    refine ⟨x, S1, e, ?_⟩
    dsimp only at e2
    split at e2
    · rename_i S3 h
      cases e2
      exact ⟨_, h, p⟩
    · cases e2
  · rintro ⟨x, S1, e, S2, h, p⟩
    refine ⟨x, S1, e, .nx, S2, ?_, p⟩
    dsimp only
    rw [h]
/-! #### loops -/
/-- behind a turn of a loop -/
def trn (k : Sto → Prop) (P : Fl → Sto → Prop) : Fl → Sto → Prop
  | .nx, S => k S
  | .ct, S => k S
  | .bk, S => P .nx S
  | .rt y, S => P (.rt y) S
theorem trn_nx {k : Sto → Prop} {P : Fl → Sto → Prop} : trn k P .nx S ↔ k S := Iff.rfl
theorem trn_ct {k : Sto → Prop} {P : Fl → Sto → Prop} : trn k P .ct S ↔ k S := Iff.rfl
theorem trn_bk {k : Sto → Prop} {P : Fl → Sto → Prop} : trn k P .bk S ↔ P .nx S := Iff.rfl
theorem trn_rt {k : Sto → Prop} {P : Fl → Sto → Prop} {y : PV} : trn k P (.rt y) S ↔ P (.rt y) S := Iff.rfl
theorem wq_loop {g : PV → Sto → Option Sto} {m : M Fl} {P : Fl → Sto → Prop} (I : List PV → Sto → Prop) (h0 : ∀ S, I [] S → P .nx S)
    (h1 : ∀ y ys S, I (y :: ys) S → ∃ S1, g y S = some S1 ∧ wq m S1 (trn (I ys) P)) : ∀ {ys : List PV} {S : Sto}, I ys S → wq (loop g m ys) S P
  | [], S, h => wq_ret.mpr (h0 S h)
  | y :: ys, S, h => by
    obtain ⟨S1, e1, f, S2, e2, q⟩ := h1 y ys S h
    have step : loop g m (y :: ys) S = match m S1 with
      | none => none
      | some (.ok .nx S2) => loop g m ys S2
      | some (.ok .ct S2) => loop g m ys S2
      | some (.ok .bk S2) => some (.ok .nx S2)
      | some r => some r := by
      show (match g y S with | none => none | some S1 => _) = _
      rw [e1]
      all_goals rfl
    cases f with
    | nx =>
      obtain ⟨x, S', e, p⟩ := wq_loop I h0 h1 (ys := ys) (S := S2) q
      exact ⟨x, S', by rw [step, e2]; exact e, p⟩
    | ct =>
      obtain ⟨x, S', e, p⟩ := wq_loop I h0 h1 (ys := ys) (S := S2) q
      exact ⟨x, S', by rw [step, e2]; exact e, p⟩
    | bk => exact ⟨.nx, S2, by rw [step, e2], q⟩
    | rt y => exact ⟨.rt y, S2, by rw [step, e2], q⟩
theorem wq_mFor {mi : M (List PV)} {g : PV → Sto → Option Sto} {m : M Fl} {P : Fl → Sto → Prop} : wq (mFor mi g m) S P ↔ wq mi S fun ys S1 => wq (loop g m ys) S1 P := by
  unfold mFor
  constructor
  · rintro ⟨x, S', e, p⟩
    try dsimp only at e
    split at e
    · rename_i ys S1 e1
      exact ⟨ys, S1, e1, x, S', e, p⟩
    · cases e
  · rintro ⟨ys, S1, e1, x, S', e, p⟩
    refine ⟨x, S', ?_, p⟩
    dsimp only
    rw [e1]
    exact e
/-! #### comprehensions -/
/-- the turns of a comprehension, with an invariant: what is left, what is gathered, the store -/
theorem lcGo_inv {vs : List Nat} {g : PV → Sto → Option Sto} {mt : M Bool} {me : M PV} (I : List PV → List PV → Sto → Prop)
    (h1 : ∀ y ys acc S, I (y :: ys) acc S → ∃ S1, g y S = some S1 ∧ wq mt S1 fun b S2 => (b = true → wq me S2 fun z S3 => I ys (acc ++ [z]) (wipeS S3 vs)) ∧ (b = false → I ys acc (wipeS S2 vs))) :
    ∀ {ys acc : List PV} {S : Sto}, I ys acc S → ∃ zs S', lcGo vs g mt me ys S = some (zs, S') ∧ I [] (acc ++ zs) S'
  | [], acc, S, h => ⟨[], S, rfl, by rw [List.append_nil]; exact h⟩
  | y :: ys, acc, S, h => by
    obtain ⟨S1, e1, b, S2, e2, qt, qf⟩ := h1 y ys acc S h
    cases b with
    | true =>
      obtain ⟨z, S3, e3, q⟩ := qt rfl
      obtain ⟨zs, S4, e4, q4⟩ := lcGo_inv I h1 q
      refine ⟨z :: zs, S4, ?_, by rw [List.append_assoc] at q4; exact q4⟩
      unfold lcGo
      rw [e1]
      dsimp only
      rw [e2]
      dsimp only
      rw [e3]
      dsimp only
      rw [e4]
    | false =>
      obtain ⟨zs, S4, e4, q4⟩ := lcGo_inv I h1 (qf rfl)
      refine ⟨zs, S4, ?_, q4⟩
      unfold lcGo
      rw [e1]
      dsimp only
      rw [e2]
      dsimp only
      exact e4
theorem wq_mLc {vs : List Nat} {mi : M (List PV)} {g : PV → Sto → Option Sto} {mt : M Bool} {me : M PV} {P : PV → Sto → Prop} : wq (mLc vs mi g mt me) S P ↔ wq mi S fun ys S1 => ys.length ≤ sizeLine ∧ plainAt S1 vs = true ∧ ∃ zs S2, lcGo vs g mt me ys (wipeS S1 vs) = some (zs, S2) ∧ P (.lst zs) (backS S1 S2 vs) := by
  unfold mLc
  constructor
  · rintro ⟨x, S', e, p⟩
    try dsimp only at e
    split at e
    · rename_i ys S1 e1
      split at e
      · rename_i h
        split at e
        · rename_i zs S2 e2
          cases e
          exact ⟨ys, S1, e1, h.1, h.2, zs, S2, e2, p⟩
        · cases e
      · cases e
    · cases e
  · rintro ⟨ys, S1, e1, h1, h2, zs, S2, e2, p⟩
    refine ⟨.lst zs, backS S1 S2 vs, ?_, p⟩
    dsimp only
    rw [e1]
    dsimp only
    rw [if_pos ⟨h1, h2⟩, e2]
/-- a comprehension whose turns change nothing -/
theorem lcGo_pure {vs : List Nat} {g : PV → Sto → Option Sto} {mt : M Bool} {me : M PV} {S : Sto} (t : PV → Bool) (f : PV → PV) :
    ∀ {ys : List PV}, (∀ y ∈ ys, ∃ S1, g y S = some S1 ∧ wq mt S1 fun b S2 => b = t y ∧ (b = true → wq me S2 fun z S3 => z = f y ∧ wipeS S3 vs = S) ∧ (b = false → wipeS S2 vs = S)) → lcGo vs g mt me ys S = some ((ys.filter t).map f, S)
  | [], _ => rfl
  | y :: ys, h => by
    obtain ⟨S1, e1, b, S2, e2, eb, qt, qf⟩ := h y List.mem_cons_self
    have ih := lcGo_pure t f (ys := ys) fun z hz => h z (List.mem_cons_of_mem _ hz)
    cases b with
    | true =>
      obtain ⟨z, S3, e3, ez, ew⟩ := qt rfl
      unfold lcGo
      rw [e1]
      dsimp only
      rw [e2]
      dsimp only
      rw [e3]
      dsimp only
      rw [ew, ih]
      dsimp only
      rw [List.filter_cons, ← eb, if_pos rfl, List.map_cons, ez]
    | false =>
      unfold lcGo
      rw [e1]
      dsimp only
      rw [e2]
      dsimp only
      rw [qf rfl, ih, List.filter_cons, ← eb, if_neg Bool.false_ne_true]
end
/-! #### defs -/
def rtP (P : PV → Prop) : Fl → Sto → Prop
  | .rt y, _ => P y
  | .nx, _ => P .non
  | _, _ => False
theorem rtP_rt {P : PV → Prop} {y : PV} {S : Sto} : rtP P (.rt y) S ↔ P y := Iff.rfl
theorem rtP_nx {P : PV → Prop} {S : Sto} : rtP P .nx S ↔ P .non := Iff.rfl
theorem runP_wq {N : Nat} {m : M Fl} {xs : List PV} {P : PV → Prop} (h : wq m (stoP N xs) (rtP P)) : ∃ y, runP N m xs = some (.ret y) ∧ P y := by
  obtain ⟨f, S', e, p⟩ := h
  unfold runP
  rw [e]
  cases f with
  | nx => exact ⟨_, rfl, p⟩
  | rt y => exact ⟨_, rfl, p⟩
  | bk => exact p.elim
  | ct => exact p.elim
theorem runP_eq {N : Nat} {m : M Fl} {xs : List PV} {v : PV} (h : wq m (stoP N xs) (rtP (· = v))) : runP N m xs = some (.ret v) := by
  obtain ⟨y, e, rfl⟩ := runP_wq h
  exact e
def rtI (P : PV → PV → Prop) : Fl → Sto → Prop
  | .rt y, some (.i x) :: _ => P x y
  | .nx, some (.i x) :: _ => P x .non
  | _, _ => False
theorem rtI_rt {P : PV → PV → Prop} {x y : PV} {S : Sto} : rtI P (.rt y) (some (.i x) :: S) ↔ P x y := Iff.rfl
theorem rtI_nx {P : PV → PV → Prop} {x : PV} {S : Sto} : rtI P .nx (some (.i x) :: S) ↔ P x .non := Iff.rfl
theorem runI_wq {N : Nat} {m : M Fl} {x : PV} {xs : List PV} {P : PV → PV → Prop} (h : wq m (some (.i x) :: stoP (N - 1) xs) (rtI P)) : ∃ x' y, runI N m x xs = some (x', .ret y) ∧ P x' y := by
  obtain ⟨f, S', e, p⟩ := h
  unfold runI
  rw [e]
  unfold rtI at p
  split at p
  · exact ⟨_, _, rfl, p⟩
  · exact ⟨_, _, rfl, p⟩
  · exact p.elim
theorem runO_wq {N : Nat} {m : M PV} {xs : List PV} {P : PV → Prop} (h : wq m (stoP N xs) (fun y _ => P y)) : ∃ y, runO N m xs = some (.ret y) ∧ P y := by
  obtain ⟨f, S', e, p⟩ := h
  unfold runO
  rw [e]
  exact ⟨_, rfl, p⟩
end Kp
set_option Elab.async false
set_option linter.all false
set_option maxRecDepth 100000
set_option maxHeartbeats 4000000
namespace Kp
open PySem L2
/-! ### head first: words that keep what comes behind apart from the store, so that simp goes on only where the store is told -/
abbrev Kt (α : Type) := α → Sto → Prop
def exS {α : Type} (o : Option α) (S : Sto) (P : Kt α) : Prop := ∃ z, o = some z ∧ P z S
def exR (o : Option RO) (S : Sto) (P : Kt PV) : Prop := ∃ z, o = some (.ret z) ∧ P z S
def gdS (b : Bool) (S : Sto) (P : Sto → Prop) : Prop := b = true ∧ P S
def brS {α : Type} (b : Bool) (m n : M α) (S : Sto) (P : Kt α) : Prop := (b = true → wq m S P) ∧ (b = false → wq n S P)
def blE (x : PV) (S : Sto) (P : Kt Bool) : Prop := ∃ b, x = .bl b ∧ P b S
def inE (x : PV) (S : Sto) (P : Kt Int) : Prop := ∃ b, x = .int b ∧ P b S
def obE (c : Nat) (x : PV) (S : Sto) (P : Kt (List (Str × PV))) : Prop := ∃ fs, x = .obj c fs ∧ P fs S
section
variable {α β : Type} {S : Sto}
@[simp] theorem exS_some {z : α} {P : Kt α} : exS (some z) S P ↔ P z S := ⟨fun ⟨_, e, p⟩ => by cases e; exact p, fun p => ⟨z, rfl, p⟩⟩
@[simp] theorem exS_none {P : Kt α} : exS none S P ↔ False := ⟨fun ⟨_, e, p⟩ => (by cases e), False.elim⟩
@[simp] theorem exR_some {z : PV} {P : Kt PV} : exR (some (.ret z)) S P ↔ P z S := ⟨fun ⟨_, e, p⟩ => by cases e; exact p, fun p => ⟨z, rfl, p⟩⟩
@[simp] theorem brS_true {m n : M α} {P : Kt α} : brS true m n S P ↔ wq m S P := ⟨fun h => h.1 rfl, fun a => ⟨fun _ => a, fun q => (by cases q)⟩⟩
@[simp] theorem brS_false {m n : M α} {P : Kt α} : brS false m n S P ↔ wq n S P := ⟨fun h => h.2 rfl, fun a => ⟨fun q => (by cases q), fun _ => a⟩⟩
@[simp] theorem gdS_eq {b : Bool} {P : Sto → Prop} : gdS b S P ↔ b = true ∧ P S := Iff.rfl
@[simp] theorem blE_bl {b : Bool} {P : Kt Bool} : blE (.bl b) S P ↔ P b S := ⟨fun ⟨_, e, p⟩ => by cases e; exact p, fun p => ⟨b, rfl, p⟩⟩
@[simp] theorem inE_int {b : Int} {P : Kt Int} : inE (.int b) S P ↔ P b S := ⟨fun ⟨_, e, p⟩ => by cases e; exact p, fun p => ⟨b, rfl, p⟩⟩
@[simp] theorem obE_obj {c : Nat} {fs : List (Str × PV)} {P : Kt (List (Str × PV))} : obE c (.obj c fs) S P ↔ P fs S := ⟨fun ⟨_, e, p⟩ => by cases e; exact p, fun p => ⟨fs, rfl, p⟩⟩
theorem brS_intro {b : Bool} {m n : M α} {P : Kt α} (h1 : b = true → wq m S P) (h2 : b = false → wq n S P) : brS b m n S P := ⟨h1, h2⟩
end
/-! stores -/
def pkO : Option (Option SV) → Option PV
  | some (some (.p x)) => some x
  | some (some (.o x)) => some x
  | some (some (.i x)) => some x
  | _ => none
@[simp] theorem pkO_p {x : PV} : pkO (some (some (.p x))) = some x := rfl
@[simp] theorem pkO_o {x : PV} : pkO (some (some (.o x))) = some x := rfl
@[simp] theorem pkO_i {x : PV} : pkO (some (some (.i x))) = some x := rfl
theorem pk_eq {i : Nat} {S : Sto} : pk i S = pkO S[i]? := by
  unfold pk pkO
  rfl
def rdV (o : Option (Option SV)) (i : Nat) (S : Sto) (P : Kt PV) : Prop := match o with
  | some (some (.p x)) => P x S
  | some (some (.o x)) => P x (S.set i (some (.p x)))
  | _ => False
@[simp] theorem rdV_p {x : PV} {i : Nat} {S : Sto} {P : Kt PV} : rdV (some (some (.p x))) i S P ↔ P x S := Iff.rfl
@[simp] theorem rdV_o {x : PV} {i : Nat} {S : Sto} {P : Kt PV} : rdV (some (some (.o x))) i S P ↔ P x (S.set i (some (.p x))) := Iff.rfl
def okPut : Option (Option SV) → Bool
  | some none => true
  | some (some (.p _)) => true
  | some (some (.o _)) => true
  | _ => false
@[simp] theorem okPut_n : okPut (some none) = true := rfl
@[simp] theorem okPut_p {x : PV} : okPut (some (some (.p x))) = true := rfl
@[simp] theorem okPut_o {x : PV} : okPut (some (some (.o x))) = true := rfl
theorem okPut_iff {o : Option (Option SV)} : okPut o = true ↔ o = some none ∨ (∃ y, o = some (some (.p y))) ∨ ∃ y, o = some (some (.o y)) := by
  cases o with
  | none => simp [okPut]
  | some o =>
    cases o with
    | none => simp [okPut]
    | some v => cases v <;> simp [okPut]
def ioO : Option (Option SV) → Bool
  | some (some (.o _)) => true
  | some (some (.i _)) => true
  | _ => false
@[simp] theorem ioO_o {x : PV} : ioO (some (some (.o x))) = true := rfl
@[simp] theorem ioO_i {x : PV} : ioO (some (some (.i x))) = true := rfl
theorem isO_eq {i : Nat} {S : Sto} : isO i S = ioO S[i]? := by
  unfold isO ioO
  rfl
def isOTO (T : String) : Option (Option SV) → Bool
  | some (some (.o (.lst _))) => T == "list"
  | some (some (.i (.lst _))) => T == "list"
  | some (some (.o (.dct _))) => T == "dict"
  | some (some (.i (.dct _))) => T == "dict"
  | _ => false
theorem isOT_eq {T : String} {i : Nat} {S : Sto} : isOT T i S = isOTO T S[i]? := by
  unfold isOT isOTO
  rfl
@[simp] theorem isOTO_ol {xs : List PV} : isOTO "list" (some (some (.o (.lst xs)))) = true := rfl
@[simp] theorem isOTO_il {xs : List PV} : isOTO "list" (some (some (.i (.lst xs)))) = true := rfl
@[simp] theorem isOTO_od {xs : List (PV × PV)} : isOTO "dict" (some (some (.o (.dct xs)))) = true := rfl
@[simp] theorem isOTO_id {xs : List (PV × PV)} : isOTO "dict" (some (some (.i (.dct xs)))) = true := rfl
/-- a slot's value becomes o's -/
def upB {α : Type} (own : Bool) (o : Option α) (g : α → PV) (i : Nat) (S : Sto) (P : Kt α) : Prop := ∃ y, o = some y ∧ P y (S.set i (some (if own = true then .o (g y) else .i (g y))))
@[simp] theorem upB_o {α : Type} {y : α} {g : α → PV} {i : Nat} {S : Sto} {P : Kt α} : upB true (some y) g i S P ↔ P y (S.set i (some (.o (g y)))) := ⟨fun ⟨_, e, p⟩ => by cases e; exact p, fun p => ⟨y, rfl, p⟩⟩
@[simp] theorem upB_i {α : Type} {y : α} {g : α → PV} {i : Nat} {S : Sto} {P : Kt α} : upB false (some y) g i S P ↔ P y (S.set i (some (.i (g y)))) := ⟨fun ⟨_, e, p⟩ => by cases e; exact p, fun p => ⟨y, rfl, p⟩⟩
def upO {α : Type} (o : Option (Option SV)) (f : PV → Option α) (g : α → PV) (i : Nat) (S : Sto) (P : Kt α) : Prop := match o with
  | some (some (.o x)) => upB true (f x) g i S P
  | some (some (.i x)) => upB false (f x) g i S P
  | _ => False
@[simp] theorem upO_o {α : Type} {x : PV} {f : PV → Option α} {g : α → PV} {i : Nat} {S : Sto} {P : Kt α} : upO (some (some (.o x))) f g i S P ↔ upB true (f x) g i S P := Iff.rfl
@[simp] theorem upO_i {α : Type} {x : PV} {f : PV → Option α} {g : α → PV} {i : Nat} {S : Sto} {P : Kt α} : upO (some (some (.i x))) f g i S P ↔ upB false (f x) g i S P := Iff.rfl
/-- .. behind a call -/
def inB (own : Bool) (o : Option (PV × RO)) (i : Nat) (S : Sto) (P : Kt PV) : Prop := ∃ y z, o = some (y, .ret z) ∧ P z (S.set i (some (if own = true then .o y else .i y)))
@[simp] theorem inB_o {y z : PV} {i : Nat} {S : Sto} {P : Kt PV} : inB true (some (y, .ret z)) i S P ↔ P z (S.set i (some (.o y))) := ⟨fun ⟨_, _, e, p⟩ => by cases e; exact p, fun p => ⟨y, z, rfl, p⟩⟩
@[simp] theorem inB_i {y z : PV} {i : Nat} {S : Sto} {P : Kt PV} : inB false (some (y, .ret z)) i S P ↔ P z (S.set i (some (.i y))) := ⟨fun ⟨_, _, e, p⟩ => by cases e; exact p, fun p => ⟨y, z, rfl, p⟩⟩
def inn (o : Option (Option SV)) (h : PV → Option (PV × RO)) (i : Nat) (S : Sto) (P : Kt PV) : Prop := match o with
  | some (some (.o x)) => inB true (h x) i S P
  | some (some (.i x)) => inB false (h x) i S P
  | _ => False
@[simp] theorem inn_o {x : PV} {f : PV → Option (PV × RO)} {i : Nat} {S : Sto} {P : Kt PV} : inn (some (some (.o x))) f i S P ↔ inB true (f x) i S P := Iff.rfl
@[simp] theorem inn_i {x : PV} {f : PV → Option (PV × RO)} {i : Nat} {S : Sto} {P : Kt PV} : inn (some (some (.i x))) f i S P ↔ inB false (f x) i S P := Iff.rfl
/-- what a maker leaves -/
def mkE : Option (PV × RO) → Option PV
  | some (x, .ret .non) => some x
  | _ => none
@[simp] theorem mkE_some {x : PV} : mkE (some (x, .ret .non)) = some x := rfl
section
variable {α β : Type} {S : Sto} {a : Option SV}
@[simp] theorem pk_c {i : Nat} : pk i (a :: S) = pkO (a :: S)[i]? := pk_eq
@[simp] theorem isO_c {i : Nat} : isO i (a :: S) = ioO (a :: S)[i]? := isO_eq
@[simp] theorem isOT_c {T : String} {i : Nat} : isOT T i (a :: S) = isOTO T (a :: S)[i]? := isOT_eq
@[simp] theorem e_ret {x : α} {P : Kt α} : wq (ret x) (a :: S) P ↔ P x (a :: S) := wq_ret
@[simp] theorem e_bnd {m : M α} {k : α → M β} {P : Kt β} : wq (bnd m k) (a :: S) P ↔ wq m (a :: S) fun x S1 => wq (k x) S1 P := wq_bnd
@[simp] theorem e_lift {o : Option α} {P : Kt α} : wq (lift o) (a :: S) P ↔ exS o (a :: S) P := wq_lift
@[simp] theorem e_mNx {P : Kt Fl} : wq (mNx) (a :: S) P ↔ P .nx (a :: S) := wq_ret
@[simp] theorem e_mRet {m : M PV} {P : Kt Fl} : wq (mRet m) (a :: S) P ↔ wq m (a :: S) fun x S1 => P (.rt x) S1 := wq_mRet
@[simp] theorem e_mDrop {m : M PV} {P : Kt Fl} : wq (mDrop m) (a :: S) P ↔ wq m (a :: S) fun x S1 => P .nx S1 := wq_mDrop
@[simp] theorem e_mSeq {m u : M Fl} {P : Kt Fl} : wq (mSeq m u) (a :: S) P ↔ wq m (a :: S) (aft u P) := wq_mSeq
@[simp] theorem e_mIf {c : M Bool} {m n : M Fl} {P : Kt Fl} : wq (mIf c m n) (a :: S) P ↔ wq c (a :: S) fun b S1 => brS b m n S1 P := wq_mIf
@[simp] theorem e_mIfE {c : M Bool} {m n : M PV} {P : Kt PV} : wq (mIfE c m n) (a :: S) P ↔ wq c (a :: S) fun b S1 => brS b m n S1 P := wq_mIfE
@[simp] theorem e_mK {x : PV} {P : Kt PV} : wq (mK x) (a :: S) P ↔ P x (a :: S) := wq_ret
@[simp] theorem e_mBin {g : PV → PV → Option PV} {ma mb : M PV} {P : Kt PV} : wq (mBin g ma mb) (a :: S) P ↔ wq ma (a :: S) fun x S1 => wq mb S1 fun y S2 => exS (g x y) S2 P := wq_mBin
@[simp] theorem e_mTest {m : M PV} {P : Kt Bool} : wq (mTest m) (a :: S) P ↔ wq m (a :: S) fun x S1 => blE x S1 P := wq_mTest
@[simp] theorem e_mTru {m : M PV} {P : Kt Bool} : wq (mTru m) (a :: S) P ↔ wq m (a :: S) fun x S1 => exS (truP x) S1 P := wq_mTru
@[simp] theorem e_mNot {m : M Bool} {P : Kt Bool} : wq (mNot m) (a :: S) P ↔ wq m (a :: S) fun x S1 => P (!x) S1 := wq_mNot
@[simp] theorem e_mB {m : M Bool} {P : Kt PV} : wq (mB m) (a :: S) P ↔ wq m (a :: S) fun x S1 => P (.bl x) S1 := wq_mB
@[simp] theorem e_mAnd {m n : M Bool} {P : Kt Bool} : wq (mAnd m n) (a :: S) P ↔ wq m (a :: S) fun x S1 => brS x n (ret false) S1 P := by
  rw [wq_mAnd]
  unfold brS
  simp only [wq_ret]
@[simp] theorem e_mOr {m n : M Bool} {P : Kt Bool} : wq (mOr m n) (a :: S) P ↔ wq m (a :: S) fun x S1 => brS x (ret true) n S1 P := by
  rw [wq_mOr]
  unfold brS
  simp only [wq_ret]
@[simp] theorem e_mArgs_nil {P : Kt (List PV)} : wq (mArgs []) (a :: S) P ↔ P [] (a :: S) := wq_ret
@[simp] theorem e_mArgs_cons {m : M PV} {ms : List (M PV)} {P : Kt (List PV)} : wq (mArgs (m :: ms)) (a :: S) P ↔ wq m (a :: S) fun x S1 => wq (mArgs ms) S1 fun xs S2 => P (x :: xs) S2 := wq_mArgs_cons
@[simp] theorem e_mTup {ms : List (M PV)} {P : Kt PV} : wq (mTup ms) (a :: S) P ↔ wq (mArgs ms) (a :: S) fun xs S1 => P (.tup xs) S1 := wq_mTup
@[simp] theorem e_mLst {ms : List (M PV)} {P : Kt PV} : wq (mLst ms) (a :: S) P ↔ wq (mArgs ms) (a :: S) fun xs S1 => P (.lst xs) S1 := wq_mLst
@[simp] theorem e_mCB {g : List PV → Option PV} {ms : List (M PV)} {P : Kt PV} : wq (mCB g ms) (a :: S) P ↔ wq (mArgs ms) (a :: S) fun xs S1 => exS (g xs) S1 P := wq_mCB
@[simp] theorem e_mUn {g : PV → Option PV} {m : M PV} {P : Kt PV} : wq (mUn g m) (a :: S) P ↔ wq m (a :: S) fun x S1 => exS (g x) S1 P := wq_mUn
@[simp] theorem e_mLenO {c : Nat} {f : List PV → Option RO} {m : M PV} {P : Kt PV} : wq (mLenO c f m) (a :: S) P ↔ wq m (a :: S) fun x S1 => exS (pLenO c f x) S1 P := wq_mLenO
@[simp] theorem e_mIsa {ans : PV → Option Bool} {m : M PV} {P : Kt PV} : wq (mIsa ans m) (a :: S) P ↔ wq m (a :: S) fun x S1 => exS (ans x) S1 fun b S2 => P (.bl b) S2 := wq_mIsa
@[simp] theorem e_mIsN {n : Bool} {m : M PV} {P : Kt PV} : wq (mIsN n m) (a :: S) P ↔ wq m (a :: S) fun x S1 => P (isN n x) S1 := wq_mIsN
@[simp] theorem e_roM {o : Option RO} {P : Kt PV} : wq (roM o) (a :: S) P ↔ exR o (a :: S) P := wq_roM
@[simp] theorem e_mCall {f : List PV → Option RO} {ms : List (M PV)} {P : Kt PV} : wq (mCall f ms) (a :: S) P ↔ wq (mArgs ms) (a :: S) fun xs S1 => exR (f xs) S1 P := wq_mCall
@[simp] theorem e_roQ {o : Option RO} {P : Kt PV} : wq (roQ o) (a :: S) P ↔ exR o (a :: S) P := wq_roQ
@[simp] theorem e_mCMeth {c : Nat} {f : List PV → Option RO} {ms : List (M PV)} {P : Kt PV} : wq (mCMeth c f ms) (a :: S) P ↔ wq (mArgs ms) (a :: S) fun xs S1 => exR (f (.glb c :: xs)) S1 P := wq_mCMeth
@[simp] theorem e_mVar {i : Nat} {P : PV → Sto → Prop} : wq (mVar i) (a :: S) P ↔ rdV (a :: S)[i]? i (a :: S) P := by
  rw [wq_mVar]
  constructor
  · rintro (⟨x, h, p⟩ | ⟨x, h, p⟩) <;> rw [h] <;> exact p
  · intro h
    cases e : (a :: S)[i]? with
    | none => rw [e] at h; exact h.elim
    | some o =>
      rw [e] at h
      cases o with
      | none => exact h.elim
      | some v =>
        cases v with
        | p x => exact .inl ⟨x, rfl, h⟩
        | o x => exact .inr ⟨x, rfl, h⟩
        | i x => exact h.elim
@[simp] theorem e_put {i : Nat} {x : PV} {P : Kt Unit} : wq (put i x) (a :: S) P ↔ gdS (okPut (a :: S)[i]?) (a :: S) fun S1 => P () (S1.set i (some (.p x))) := by
  rw [wq_put, ← okPut_iff]
  rfl
@[simp] theorem e_putO {i : Nat} {x : PV} {P : Kt Unit} : wq (putO i x) (a :: S) P ↔ gdS (okPut (a :: S)[i]?) (a :: S) fun S1 => P () (S1.set i (some (.o x))) := by
  rw [wq_putO, ← okPut_iff]
  rfl
@[simp] theorem e_mSet {i : Nat} {m : M PV} {P : Kt Fl} : wq (mSet i m) (a :: S) P ↔ wq m (a :: S) fun x S1 => wq (put i x) S1 fun _ S2 => P .nx S2 := wq_mSet
@[simp] theorem e_mSetO {i : Nat} {m : M PV} {P : Kt Fl} : wq (mSetO i m) (a :: S) P ↔ wq m (a :: S) fun x S1 => wq (putO i x) S1 fun _ S2 => P .nx S2 := wq_mSetO
@[simp] theorem e_mDct {P : Kt PV} : wq (mDct) (a :: S) P ↔ P (.dct []) (a :: S) := wq_ret
theorem g_guardPk {i : Nat} {m : M α} {P : Kt α} : wq (guardPk i m) S P ↔ exS (pk i S) S fun _ S1 => wq m S1 P := by
  rw [wq_guardPk]
  exact ⟨fun ⟨⟨x, h⟩, q⟩ => ⟨x, h, q⟩, fun ⟨x, h, q⟩ => ⟨⟨x, h⟩, q⟩⟩
theorem g_opk {i : Nat} {f : PV → Option PV} {P : Kt PV} : wq (opk i f) S P ↔ exS (pk i S) S fun x S1 => exS (f x) S1 fun z S2 => gdS z.atom S2 fun S3 => P z S3 := by
  rw [wq_opk]
  exact ⟨fun ⟨x, z, a, b, c, d⟩ => ⟨x, a, z, b, c, d⟩, fun ⟨x, a, z, b, c, d⟩ => ⟨x, z, a, b, c, d⟩⟩
@[simp] theorem e_guardPk {i : Nat} {m : M α} {P : Kt α} : wq (guardPk i m) (a :: S) P ↔ exS (pk i (a :: S)) (a :: S) fun _ S1 => wq m S1 P := g_guardPk
@[simp] theorem e_opk {i : Nat} {f : PV → Option PV} {P : Kt PV} : wq (opk i f) (a :: S) P ↔ exS (pk i (a :: S)) (a :: S) fun x S1 => exS (f x) S1 fun z S2 => gdS z.atom S2 fun S3 => P z S3 := g_opk
@[simp] theorem e_mCBV {g : List PV → Option PV} {i : Nat} {P : Kt PV} : wq (mCBV g i) (a :: S) P ↔ exS (pk i (a :: S)) (a :: S) fun x S1 => exS (g [x]) S1 fun z S2 => gdS z.atom S2 fun S3 => P z S3 := g_opk
@[simp] theorem e_mBinL {g : PV → PV → Option PV} {i : Nat} {mb : M PV} {P : Kt PV} : wq (mBinL g i mb) (a :: S) P ↔ wq (guardPk i (bnd mb fun y => opk i fun x => g x y)) (a :: S) P := Iff.rfl
@[simp] theorem e_mBinR {g : PV → PV → Option PV} {i : Nat} {ma : M PV} {P : Kt PV} : wq (mBinR g ma i) (a :: S) P ↔ wq ma (a :: S) fun x S1 => wq (opk i fun y => g x y) S1 P := wq_bnd
@[simp] theorem e_mIxV {i : Nat} {mk : M PV} {P : Kt PV} : wq (mIxV i mk) (a :: S) P ↔ exS (pk i (a :: S)) (a :: S) fun _ S0 => wq mk S0 fun y S1 => exS (pk i S1) S1 fun x S2 => exS (pIx x y) S2 P := by
  rw [wq_mIxV]
  constructor
  · rintro ⟨⟨x, h⟩, y, S1, e, x1, z, a, b, c⟩
    exact ⟨x, h, y, S1, e, x1, a, z, b, c⟩
  · rintro ⟨x, h, y, S1, e, x1, a, z, b, c⟩
    exact ⟨⟨x, h⟩, y, S1, e, x1, z, a, b, c⟩
@[simp] theorem e_mFldV {i c : Nat} {f : Str} {P : Kt PV} : wq (mFldV i c f) (a :: S) P ↔ exS (pk i (a :: S)) (a :: S) fun x S1 => exS (pFld c f x) S1 P := by
  rw [wq_mFldV]
  exact ⟨fun ⟨x, z, a, b, c⟩ => ⟨x, a, z, b, c⟩, fun ⟨x, a, z, b, c⟩ => ⟨x, z, a, b, c⟩⟩
@[simp] theorem e_mTruV {i : Nat} {P : Kt Bool} : wq (mTruV i) (a :: S) P ↔ exS (pk i (a :: S)) (a :: S) fun x S1 => exS (truP x) S1 P := by
  rw [wq_mTruV]
  exact ⟨fun ⟨x, z, a, b, c⟩ => ⟨x, a, z, b, c⟩, fun ⟨x, a, z, b, c⟩ => ⟨x, z, a, b, c⟩⟩
theorem g_updO {i : Nat} {f : PV → Option PV} {P : Kt Unit} : wq (updO i f) S P ↔ upO S[i]? f id i S (fun _ => P ()) := by
  rw [wq_updO]
  constructor
  · rintro (⟨x, y, h, e, p⟩ | ⟨x, y, h, e, p⟩) <;> rw [h] <;> exact ⟨y, e, p⟩
  · intro h
    cases e : S[i]? with
    | none => rw [e] at h; exact h.elim
    | some o =>
      rw [e] at h
      cases o with
      | none => exact h.elim
      | some v =>
        cases v with
        | p x => exact h.elim
        | o x => obtain ⟨y, a, b⟩ := h; exact .inl ⟨x, y, rfl, a, b⟩
        | i x => obtain ⟨y, a, b⟩ := h; exact .inr ⟨x, y, rfl, a, b⟩
theorem g_updR {i : Nat} {f : PV → Option (PV × PV)} {P : Kt PV} : wq (updR i f) S P ↔ upO S[i]? f Prod.fst i S (fun y => P y.2) := by
  rw [wq_updR]
  constructor
  · rintro (⟨x, y, z, h, e, p⟩ | ⟨x, y, z, h, e, p⟩) <;> rw [h] <;> exact ⟨(y, z), e, p⟩
  · intro h
    cases e : S[i]? with
    | none => rw [e] at h; exact h.elim
    | some o =>
      rw [e] at h
      cases o with
      | none => exact h.elim
      | some v =>
        cases v with
        | p x => exact h.elim
        | o x => obtain ⟨⟨y, z⟩, a, b⟩ := h; exact .inl ⟨x, y, z, rfl, a, b⟩
        | i x => obtain ⟨⟨y, z⟩, a, b⟩ := h; exact .inr ⟨x, y, z, rfl, a, b⟩
theorem g_mIn {i : Nat} {f : PV → Option (PV × RO)} {P : Kt PV} : wq (mIn i f) S P ↔ inn S[i]? f i S P := by
  rw [wq_mIn]
  constructor
  · rintro (⟨x, y, z, h, e, p⟩ | ⟨x, y, z, h, e, p⟩) <;> rw [h] <;> exact ⟨y, z, e, p⟩
  · intro h
    cases e : S[i]? with
    | none => rw [e] at h; exact h.elim
    | some o =>
      rw [e] at h
      cases o with
      | none => exact h.elim
      | some v =>
        cases v with
        | p x => exact h.elim
        | o x => obtain ⟨y, z, a, b⟩ := h; exact .inl ⟨x, y, z, rfl, a, b⟩
        | i x => obtain ⟨y, z, a, b⟩ := h; exact .inr ⟨x, y, z, rfl, a, b⟩
@[simp] theorem e_updO {i : Nat} {f : PV → Option PV} {P : Kt Unit} : wq (updO i f) (a :: S) P ↔ upO (a :: S)[i]? f id i (a :: S) (fun _ => P ()) := g_updO
@[simp] theorem e_updR {i : Nat} {f : PV → Option (PV × PV)} {P : Kt PV} : wq (updR i f) (a :: S) P ↔ upO (a :: S)[i]? f Prod.fst i (a :: S) (fun y => P y.2) := g_updR
@[simp] theorem e_mIn {i : Nat} {f : PV → Option (PV × RO)} {P : Kt PV} : wq (mIn i f) (a :: S) P ↔ inn (a :: S)[i]? f i (a :: S) P := g_mIn
@[simp] theorem e_mPut {i : Nat} {mk me : M PV} {P : Kt Fl} : wq (mPut i mk me) (a :: S) P ↔ wq me (a :: S) fun v S1 => exS (pk i S1) S1 fun _ S2 => wq mk S2 fun k S3 => wq (updO i fun x => pPut x k v) S3 fun _ S4 => P .nx S4 := by
  rw [wq_mPut]
  constructor
  · rintro ⟨v, S1, e, ⟨x, h⟩, q⟩
    exact ⟨v, S1, e, x, h, q⟩
  · rintro ⟨v, S1, e, x, h, q⟩
    exact ⟨v, S1, e, ⟨x, h⟩, q⟩
@[simp] theorem e_mSetF {i c : Nat} {f : Str} {me : M PV} {P : Kt Fl} : wq (mSetF i c f me) (a :: S) P ↔ wq me (a :: S) fun v S1 => wq (updO i (pSetF c f v)) S1 fun _ S2 => P .nx S2 := wq_mSetF
@[simp] theorem e_mMt {T : String} {i : Nat} {f : PV → List PV → Option (PV × PV)} {ms : List (M PV)} {P : Kt PV} : wq (mMt T i f ms) (a :: S) P ↔ gdS (isOT T i (a :: S)) (a :: S) fun S0 => wq (mArgs ms) S0 fun xs S1 => wq (updR i fun x => f x xs) S1 P := wq_mMt
@[simp] theorem e_mApp {i : Nat} {m : M PV} {P : Kt Fl} : wq (mApp i m) (a :: S) P ↔ gdS (isOT "list" i (a :: S)) (a :: S) fun S0 => wq m S0 fun x S1 => wq (updR i fun l => fApp l [x]) S1 fun _ S2 => P .nx S2 := wq_mApp
@[simp] theorem e_mCallI {i : Nat} {f : PV → List PV → Option (PV × RO)} {ms : List (M PV)} {P : Kt PV} : wq (mCallI i f ms) (a :: S) P ↔ gdS (isO i (a :: S)) (a :: S) fun S0 => wq (mArgs ms) S0 fun xs S1 => wq (mIn i fun x => f x xs) S1 P := wq_mCallI
theorem g_mkM {h : PV → Option (PV × RO)} {c : Nat} {P : Kt PV} : wq (mkM h c) S P ↔ exS (mkE (h (.obj c []))) S P := by
  rw [wq_mkM]
  constructor
  · rintro ⟨x, e, q⟩
    exact ⟨x, by rw [e]; rfl, q⟩
  · rintro ⟨x, e, q⟩
    unfold mkE at e
    split at e
    · rename_i u hu
      cases e
      exact ⟨x, hu, q⟩
    · cases e
@[simp] theorem e_mMake {c : Nat} {f : PV → List PV → Option (PV × RO)} {ms : List (M PV)} {P : Kt PV} : wq (mMake c f ms) (a :: S) P ↔ wq (mArgs ms) (a :: S) fun xs S1 => exS (mkE (f (.obj c []) xs)) S1 P := by
  unfold mMake
  rw [wq_bnd]
  simp only [g_mkM]
@[simp] theorem e_mMake0 {c : Nat} {f : PV → List PV → Option (PV × RO)} {ds : List PV} {P : Kt PV} : wq (mMake0 c f ds) (a :: S) P ↔ exS (mkE (f (.obj c []) ds)) (a :: S) P := g_mkM
@[simp] theorem e_mMakeV {i c : Nat} {f : PV → List PV → Option (PV × RO)} {ms : List (M PV)} {P : Kt PV} : wq (mMakeV i c f ms) (a :: S) P ↔ (a :: S)[i]? = some (some (.p (.glb c))) ∧ wq (mMake c f ms) (a :: S) P := wq_mMakeV
@[simp] theorem e_mMeth {c : Nat} {m : Str} {f : List PV → Option RO} {mo : M PV} {ms : List (M PV)} {P : Kt PV} : wq (mMeth c m f mo ms) (a :: S) P ↔ wq mo (a :: S) fun x S1 => obE c x S1 fun fs S2 => gdS (fs.lookup m).isNone S2 fun S3 => wq (mArgs ms) S3 fun xs S4 => exR (f (.obj c fs :: xs)) S4 P := by
  rw [wq_mMeth]
  constructor
  · rintro ⟨x, S1, e, fs, rfl, h, q⟩
    exact ⟨_, S1, e, fs, rfl, by rw [h]; rfl, q⟩
  · rintro ⟨x, S1, e, fs, rfl, h, q⟩
    refine ⟨_, S1, e, fs, rfl, ?_, q⟩
    cases z : fs.lookup m with
    | none => rfl
    | some v => rw [z] at h; cases h
@[simp] theorem e_mCallO {c : Nat} {f : List PV → Option RO} {mo : M PV} {ms : List (M PV)} {P : Kt PV} : wq (mCallO c f mo ms) (a :: S) P ↔ wq mo (a :: S) fun x S1 => obE c x S1 fun fs S2 => wq (mArgs ms) S2 fun xs S3 => exR (f (.obj c fs :: xs)) S3 P := wq_mCallO
@[simp] theorem e_mNoB {P : Kt (Option Int)} : wq (mNoB) (a :: S) P ↔ P none (a :: S) := wq_ret
@[simp] theorem e_mBd {m : M PV} {P : Kt (Option Int)} : wq (mBd m) (a :: S) P ↔ wq m (a :: S) fun x S1 => inE x S1 fun i S2 => P (some i) S2 := wq_mBd
@[simp] theorem e_mSl {m : M PV} {lo hi : M (Option Int)} {P : Kt PV} : wq (mSl m lo hi) (a :: S) P ↔ wq m (a :: S) fun x S1 => wq lo S1 fun u S2 => wq hi S2 fun v S3 => exS (pSl x u v) S3 P := wq_mSl
@[simp] theorem e_mRng1 {m : M PV} {P : Kt (List PV)} : wq (mRng1 m) (a :: S) P ↔ wq m (a :: S) fun x S1 => inE x S1 fun j S2 => gdS (inR j) S2 fun S3 => P (rangeP 0 j.toNat) S3 := wq_mRng1
@[simp] theorem e_mRng2 {m n : M PV} {P : Kt (List PV)} : wq (mRng2 m n) (a :: S) P ↔ wq m (a :: S) fun x S1 => wq n S1 fun y S2 => inE x S2 fun i S3 => inE y S3 fun j S4 => gdS (inR i) S4 fun S5 => gdS (inR j) S5 fun S6 => P (rangeP i (j - i).toNat) S6 := by
  rw [wq_mRng2]
  constructor
  · rintro ⟨x, S1, e, y, S2, e2, i, j, a, b, c, d, q⟩
    exact ⟨x, S1, e, y, S2, e2, i, a, j, b, c, d, q⟩
  · rintro ⟨x, S1, e, y, S2, e2, i, a, j, b, c, d, q⟩
    exact ⟨x, S1, e, y, S2, e2, i, j, a, b, c, d, q⟩
@[simp] theorem itA_lst {xs : List PV} : itA (.lst xs) = some xs := rfl
@[simp] theorem itA_tup {xs : List PV} : itA (.tup xs) = some xs := rfl
@[simp] theorem itA_str {z : Str} : itA (.str z) = some (charsP z) := rfl
@[simp] theorem itA_frl {ns : List Int} : itA (.frl ns) = some (ns.map PV.int) := rfl
@[simp] theorem e_mIterA {m : M PV} {P : Kt (List PV)} : wq (mIterA m) (a :: S) P ↔ wq m (a :: S) fun x S1 => exS (itA x) S1 P := wq_mIterA
@[simp] theorem e_mFor {mi : M (List PV)} {g : PV → Sto → Option Sto} {m : M Fl} {P : Kt Fl} : wq (mFor mi g m) (a :: S) P ↔ wq mi (a :: S) fun ys S1 => wq (loop g m ys) S1 P := wq_mFor
@[simp] theorem e_mChain {g g' : PV → PV → Option PV} {ma mb mc : M PV} {P : Kt PV} : wq (mChain g g' ma mb mc) (a :: S) P ↔ wq ma (a :: S) fun x S1 => wq mb S1 fun y S2 => exS (g x y) S2 fun u S3 => blE u S3 fun b S4 => brS b (bnd mc fun u => lift (g' y u)) (ret (.bl false)) S4 P := by
  have h : ∀ (y : PV) (b : Bool) (S : Sto), ((b = true → wq mc S fun u S3 => ∃ z, g' y u = some z ∧ P z S3) ∧ (b = false → P (.bl false) S)) ↔ brS b (bnd mc fun u => lift (g' y u)) (ret (.bl false)) S P := by
    intro y b S
    unfold brS
    simp only [wq_bnd, wq_lift, wq_ret]
  rw [wq_mChain]
  constructor
  · rintro ⟨x, S1, e, y, S2, e2, b, h1, q⟩
    exact ⟨x, S1, e, y, S2, e2, _, h1, b, rfl, (h y b S2).mp q⟩
  · rintro ⟨x, S1, e, y, S2, e2, _, h1, b, rfl, q⟩
    exact ⟨x, S1, e, y, S2, e2, b, h1, (h y b S2).mpr q⟩
@[simp] theorem e_mGet2 {mo mk md : M PV} {P : Kt PV} : wq (mGet2 mo mk md) (a :: S) P ↔ wq mo (a :: S) fun x S1 => gdS (isDct x) S1 fun S2 => wq mk S2 fun k S3 => wq md S3 fun d S4 => exS (pGet x k d) S4 P := wq_mGet2
@[simp] theorem e_mBinS {g : PV → PV → Option PV} {mo me : M PV} {P : Kt PV} : wq (mBinS g mo me) (a :: S) P ↔ wq mo (a :: S) fun x S1 => gdS (isStr x) S1 fun S2 => wq me S2 fun y S3 => exS (g x y) S3 P := wq_mBinS
@[simp] theorem e_mAsg {m : M PV} {g : PV → Sto → Option Sto} {P : Kt Fl} : wq (mAsg m g) (a :: S) P ↔ wq m (a :: S) fun x S1 => ∃ S2, g x S1 = some S2 ∧ P .nx S2 := wq_mAsg
/-- the turns of a comprehension -/
def lcE (o : Option (List PV × Sto)) (P : Kt (List PV)) : Prop := ∃ zs S2, o = some (zs, S2) ∧ P zs S2
@[simp] theorem lcE_some {zs : List PV} {S2 : Sto} {P : Kt (List PV)} : lcE (some (zs, S2)) P ↔ P zs S2 := ⟨fun ⟨_, _, e, p⟩ => by cases e; exact p, fun p => ⟨zs, S2, rfl, p⟩⟩
theorem lcE_of {o : Option (List PV × Sto)} {zs : List PV} {S2 : Sto} {P : Kt (List PV)} (h : o = some (zs, S2)) (k : P zs S2) : lcE o P := ⟨zs, S2, h, k⟩
theorem lcGo_mapf {β : Type} {vs : List Nat} {g : PV → Sto → Option Sto} {mt : M Bool} {me : M PV} (xs : List β) (φ : β → PV) (t : β → Bool) (f : β → PV)
    (h : ∀ b ∈ xs, ∃ S1, g (φ b) S = some S1 ∧ wq mt S1 fun c S2 => c = t b ∧ (c = true → wq me S2 fun z S3 => z = f b ∧ wipeS S3 vs = S) ∧ (c = false → wipeS S2 vs = S)) : lcGo vs g mt me (xs.map φ) S = some ((xs.filter t).map f, S) := by
  induction xs with
  | nil => rfl
  | cons y ys ih =>
    obtain ⟨S1, e1, b, S2, e2, eb, qt, qf⟩ := h y List.mem_cons_self
    have ih' := ih fun z hz => h z (List.mem_cons_of_mem _ hz)
    rw [List.map_cons]
    cases b with
    | true =>
      obtain ⟨z, S3, e3, ez, ew⟩ := qt rfl
      unfold lcGo
      rw [e1]
      dsimp only
      rw [e2]
      dsimp only
      rw [e3]
      dsimp only
      rw [ew, ih']
      dsimp only
      rw [List.filter_cons, ← eb, if_pos rfl, List.map_cons, ez]
    | false =>
      unfold lcGo
      rw [e1]
      dsimp only
      rw [e2]
      dsimp only
      rw [qf rfl, ih', List.filter_cons, ← eb, if_neg Bool.false_ne_true]
/-- with an invariant -/
theorem lcE_inv {vs : List Nat} {g : PV → Sto → Option Sto} {mt : M Bool} {me : M PV} {ys : List PV} {S : Sto} {P : Kt (List PV)} (I : List PV → List PV → Sto → Prop)
    (h0 : I ys [] S)
    (h1 : ∀ y ys acc S, I (y :: ys) acc S → ∃ S1, g y S = some S1 ∧ wq mt S1 fun b S2 => (b = true → wq me S2 fun z S3 => I ys (acc ++ [z]) (wipeS S3 vs)) ∧ (b = false → I ys acc (wipeS S2 vs)))
    (h2 : ∀ acc S, I [] acc S → P acc S) : lcE (lcGo vs g mt me ys S) P := by
  obtain ⟨zs, S', e, q⟩ := lcGo_inv I h1 h0
  exact ⟨zs, S', e, h2 _ _ q⟩
@[simp] theorem e_mLc {vs : List Nat} {mi : M (List PV)} {g : PV → Sto → Option Sto} {mt : M Bool} {me : M PV} {P : Kt PV} : wq (mLc vs mi g mt me) (a :: S) P ↔ wq mi (a :: S) fun ys S1 => gdS (decide (ys.length ≤ sizeLine)) S1 fun S2 => gdS (plainAt S2 vs) S2 fun S3 => lcE (lcGo vs g mt me ys (wipeS S3 vs)) fun zs S4 => P (.lst zs) (backS S3 S4 vs) := by
  rw [wq_mLc]
  constructor
  · rintro ⟨ys, S1, e, a, b, q⟩
    exact ⟨ys, S1, e, decide_eq_true a, b, q⟩
  · rintro ⟨ys, S1, e, a, b, q⟩
    exact ⟨ys, S1, e, of_decide_eq_true a, b, q⟩
@[simp] theorem e_mYes {P : Kt Bool} : wq mYes (a :: S) P ↔ P true (a :: S) := wq_ret
@[simp] theorem e_aft_nx {u : M Fl} {P : Kt Fl} : aft u P .nx S ↔ wq u S P := Iff.rfl
@[simp] theorem e_aft_rt {u : M Fl} {P : Kt Fl} {y : PV} : aft u P (.rt y) S ↔ P (.rt y) S := Iff.rfl
@[simp] theorem e_aft_bk {u : M Fl} {P : Kt Fl} : aft u P .bk S ↔ P .bk S := Iff.rfl
@[simp] theorem e_aft_ct {u : M Fl} {P : Kt Fl} : aft u P .ct S ↔ P .ct S := Iff.rfl
@[simp] theorem e_trn_nx {k : Sto → Prop} {P : Kt Fl} : trn k P .nx S ↔ k S := Iff.rfl
@[simp] theorem e_trn_ct {k : Sto → Prop} {P : Kt Fl} : trn k P .ct S ↔ k S := Iff.rfl
@[simp] theorem e_trn_bk {k : Sto → Prop} {P : Kt Fl} : trn k P .bk S ↔ P .nx S := Iff.rfl
@[simp] theorem e_trn_rt {k : Sto → Prop} {P : Kt Fl} {y : PV} : trn k P (.rt y) S ↔ P (.rt y) S := Iff.rfl
@[simp] theorem e_rtP_rt {P : PV → Prop} {y : PV} : rtP P (.rt y) S ↔ P y := Iff.rfl
@[simp] theorem e_rtP_nx {P : PV → Prop} : rtP P .nx S ↔ P .non := Iff.rfl
@[simp] theorem e_rtI_rt {P : PV → PV → Prop} {x y : PV} : rtI P (.rt y) (some (.i x) :: S) ↔ P x y := Iff.rfl
@[simp] theorem e_rtI_nx {P : PV → PV → Prop} {x : PV} : rtI P .nx (some (.i x) :: S) ↔ P x .non := Iff.rfl
@[simp] theorem gN_c {i : Nat} {x : PV} : gN i x (a :: S) = if okPut (a :: S)[i]? = true then some ((a :: S).set i (some (.p x))) else none := by
  unfold gN put
  cases e : (a :: S)[i]? with
  | none => simp [okPut]
  | some o =>
    cases o with
    | none => simp [okPut]
    | some v => cases v <;> simp [okPut]
@[simp] theorem wipeS_c1 {v : Nat} : wipeS (a :: S) [v] = (a :: S).set v none := rfl
@[simp] theorem backS_c1 {b : Option SV} {S2 : Sto} {v : Nat} : backS (a :: S) (b :: S2) [v] = (b :: S2).set v ((a :: S)[v]?.join) := rfl
@[simp] theorem plainAt_c1 {v : Nat} : plainAt (a :: S) [v] = (match (a :: S)[v]? with
  | some (some (.o _)) => false
  | some (some (.i _)) => false
  | none => false
  | _ => true) := by
  unfold plainAt
  simp only [List.all_cons, List.all_nil, Bool.and_true]
  all_goals rfl
end
end Kp
set_option Elab.async false
set_option linter.all false
set_option maxRecDepth 100000
set_option maxHeartbeats 4000000
namespace Kp
open PySem L2
/-! ### the operations at plain values -/
/-- a text's letters -/
def tx (w : Str) : List Nat := w.cps.toList
theorem szL : sizeLine = 16777216 := by decide
theorem atN {α : Type} {xs : List α} {k : Nat} : atI xs (k : Int) = xs[k]? := by
  unfold atI ixN
  rw [if_pos (Int.natCast_nonneg k)]
  by_cases h : (k : Int) < (xs.length : Int)
  · rw [if_pos h]
    rfl
  · rw [if_neg h]
    have : xs.length ≤ k := by omega
    rw [List.getElem?_eq_none this]
    rfl
theorem atI_int {α : Type} {xs : List α} {k : Int} (h : 0 ≤ k) : atI xs k = xs[k.toNat]? := by
  obtain ⟨n, rfl⟩ := Int.eq_ofNat_of_zero_le h
  rw [atN]
  rfl
@[simp] theorem atI_0 {α : Type} {xs : List α} : atI xs 0 = xs[0]? := atN (k := 0)
@[simp] theorem atI_1 {α : Type} {xs : List α} : atI xs 1 = xs[1]? := atN (k := 1)
@[simp] theorem atI_2 {α : Type} {xs : List α} : atI xs 2 = xs[2]? := atN (k := 2)
@[simp] theorem atI_3 {α : Type} {xs : List α} : atI xs 3 = xs[3]? := atN (k := 3)
@[simp] theorem atI_4 {α : Type} {xs : List α} : atI xs 4 = xs[4]? := atN (k := 4)
@[simp] theorem atI_5 {α : Type} {xs : List α} : atI xs 5 = xs[5]? := atN (k := 5)
@[simp] theorem atI_6 {α : Type} {xs : List α} : atI xs 6 = xs[6]? := atN (k := 6)
@[simp] theorem atI_7 {α : Type} {xs : List α} : atI xs 7 = xs[7]? := atN (k := 7)
@[simp] theorem atI_8 {α : Type} {xs : List α} : atI xs 8 = xs[8]? := atN (k := 8)
@[simp] theorem atI_9 {α : Type} {xs : List α} : atI xs 9 = xs[9]? := atN (k := 9)
@[simp] theorem pIx_lst {xs : List PV} {k : Int} : pIx (.lst xs) (.int k) = atI xs k := rfl
@[simp] theorem pIx_tup {xs : List PV} {k : Int} : pIx (.tup xs) (.int k) = atI xs k := rfl
@[simp] theorem pIx_frl {xs : List Int} {k : Int} : pIx (.frl xs) (.int k) = (atI xs k).map PV.int := rfl
@[simp] theorem pIx_str {z : Str} {k : Int} : pIx (.str z) (.int k) = (atI (tx z) k).map fun c => .str ⟨#[c]⟩ := rfl
@[simp] theorem pIx_ds {kvs : List (PV × PV)} {s : Str} : pIx (.dct kvs) (.str s) = dGet kvs (.str s) := rfl
@[simp] theorem pLt_ii {i j : Int} : pLt (.int i) (.int j) = some (.bl (decide (i < j))) := rfl
@[simp] theorem pLt_ss {a b : Str} : pLt (.str a) (.str b) = some (.bl (decide (tx a < tx b))) := rfl
@[simp] theorem pGtI_ii {i j : Int} : pGtI (.int i) (.int j) = some (.bl (decide (j < i))) := rfl
@[simp] theorem pLeI_ii {i j : Int} : pLeI (.int i) (.int j) = some (.bl (decide (i ≤ j))) := rfl
@[simp] theorem pLeI_ss {a b : Str} : pLeI (.str a) (.str b) = some (.bl (!decide (tx b < tx a))) := rfl
@[simp] theorem pGeI_ii {i j : Int} : pGeI (.int i) (.int j) = some (.bl (decide (j ≤ i))) := rfl
theorem pEqB_ii {i j : Int} : pEqB (.int i) (.int j) = some (decide (i = j)) := by
  by_cases h : i = j <;> simp [pEqB, PV.isD, PV.dat, PyData.depth, PyData.eqv, h]
theorem pEqB_ss {i j : Str} : pEqB (.str i) (.str j) = some (decide (i = j)) := by
  by_cases h : i = j <;> simp [pEqB, PV.isD, PV.dat, PyData.depth, PyData.eqv, h]
@[simp] theorem pEq_ii {i j : Int} : pEq (.int i) (.int j) = some (.bl (decide (i = j))) := by
  unfold pEq
  rw [pEqB_ii]
  rfl
@[simp] theorem pNe_ii {i j : Int} : pNe (.int i) (.int j) = some (.bl (!decide (i = j))) := by
  unfold pNe
  rw [pEqB_ii]
  rfl
@[simp] theorem pEq_ss {i j : Str} : pEq (.str i) (.str j) = some (.bl (decide (i = j))) := by
  unfold pEq
  rw [pEqB_ss]
  rfl
@[simp] theorem pNe_ss {i j : Str} : pNe (.str i) (.str j) = some (.bl (!decide (i = j))) := by
  unfold pNe
  rw [pEqB_ss]
  rfl
@[simp] theorem pNe_bb {i j : Bool} : pNe (.bl i) (.bl j) = some (.bl (i != j)) := by
  cases i <;> cases j <;> rfl
@[simp] theorem pEq_bb {i j : Bool} : pEq (.bl i) (.bl j) = some (.bl (i == j)) := by
  cases i <;> cases j <;> rfl
@[simp] theorem pAdd_ii {i j : Int} : pAdd (.int i) (.int j) = some (.int (i + j)) := rfl
@[simp] theorem pAdd_ss {a b : Str} : pAdd (.str a) (.str b) = if a.length + b.length ≤ sizeLine then some (.str (a ++ b)) else none := rfl
@[simp] theorem pAdd_tt {a b : List PV} : pAdd (.tup a) (.tup b) = if a.length + b.length ≤ sizeLine then some (.tup (a ++ b)) else none := rfl
@[simp] theorem pAdd_ll {a b : List PV} : pAdd (.lst a) (.lst b) = if a.length + b.length ≤ sizeLine then some (.lst (a ++ b)) else none := rfl
@[simp] theorem pSub_ii {i j : Int} : pSub (.int i) (.int j) = some (.int (i - j)) := rfl
theorem pMul_ii {i j : Int} : pMul (.int i) (.int j) = if (decide (-(2 ^ 64) < i) && decide (i < 2 ^ 64)) || (decide (-(2 ^ 64) < j) && decide (j < 2 ^ 64)) then some (.int (i * j)) else none := rfl
theorem pMul_l {i j : Int} (h1 : -18446744073709551616 < i) (h2 : i < 18446744073709551616) : pMul (.int i) (.int j) = some (.int (i * j)) := by
  rw [pMul_ii, if_pos]
  have a : -(2 ^ 64 : Int) < i := by omega
  have b : i < (2 ^ 64 : Int) := by omega
  simp only [decide_eq_true a, decide_eq_true b, Bool.and_self, Bool.true_or]
theorem pMul_r {i j : Int} (h1 : -18446744073709551616 < j) (h2 : j < 18446744073709551616) : pMul (.int i) (.int j) = some (.int (i * j)) := by
  rw [pMul_ii, if_pos]
  have a : -(2 ^ 64 : Int) < j := by omega
  have b : j < (2 ^ 64 : Int) := by omega
  simp only [decide_eq_true a, decide_eq_true b, Bool.and_self, Bool.or_true]
theorem pMod_ii {i j : Int} (h : 0 < j) : pMod (.int i) (.int j) = some (.int (i % j)) := if_pos h
theorem pDiv_ii {i j : Int} (h : 0 < j) (h2 : j < 1073741824) : pDiv (.int i) (.int j) = some (.int (i / j)) := if_pos ⟨h, h2⟩
@[simp] theorem pAbs_i {i : Int} : pAbs [.int i] = some (.int (if i < 0 then -i else i)) := rfl
@[simp] theorem pInt_i {i : Int} : pInt [.int i] = some (.int i) := rfl
@[simp] theorem pInt_b {b : Bool} : pInt [.bl b] = some (.int (if b then 1 else 0)) := rfl
@[simp] theorem pLen_t {xs : List PV} : pLen [.tup xs] = some (.int xs.length) := rfl
@[simp] theorem pLen_l {xs : List PV} : pLen [.lst xs] = some (.int xs.length) := rfl
@[simp] theorem pLen_f {xs : List Int} : pLen [.frl xs] = some (.int xs.length) := rfl
@[simp] theorem pLen_s {z : Str} : pLen [.str z] = some (.int z.length) := rfl
@[simp] theorem atom_int {i : Int} : (PV.int i).atom = true := rfl
@[simp] theorem atom_str {i : Str} : (PV.str i).atom = true := rfl
@[simp] theorem atom_bl {i : Bool} : (PV.bl i).atom = true := rfl
@[simp] theorem atom_non : PV.non.atom = true := rfl
@[simp] theorem truP_bl {b : Bool} : truP (.bl b) = some b := rfl
@[simp] theorem truP_int {i : Int} : truP (.int i) = some (i != 0) := rfl
@[simp] theorem truP_non : truP .non = some false := rfl
@[simp] theorem truP_tup {xs : List PV} : truP (.tup xs) = some (!xs.isEmpty) := rfl
@[simp] theorem truP_lst {xs : List PV} : truP (.lst xs) = some (!xs.isEmpty) := rfl
@[simp] theorem isN_non {n : Bool} : isN n .non = .bl (!n) := rfl
@[simp] theorem isN_tup {n : Bool} {xs : List PV} : isN n (.tup xs) = .bl n := rfl
@[simp] theorem isN_lst {n : Bool} {xs : List PV} : isN n (.lst xs) = .bl n := rfl
@[simp] theorem isN_str {n : Bool} {xs : Str} : isN n (.str xs) = .bl n := rfl
@[simp] theorem isN_int {n : Bool} {xs : Int} : isN n (.int xs) = .bl n := rfl
@[simp] theorem isN_bl {n : Bool} {xs : Bool} : isN n (.bl xs) = .bl n := rfl
@[simp] theorem pTuple_l {xs : List PV} : pTuple [.lst xs] = some (.tup xs) := rfl
@[simp] theorem pTuple_t {xs : List PV} : pTuple [.tup xs] = some (.tup xs) := rfl
@[simp] theorem pList_l {xs : List PV} : pList [.lst xs] = some (.lst xs) := rfl
@[simp] theorem pList_t {xs : List PV} : pList [.tup xs] = some (.lst xs) := rfl
theorem intsP_map : ∀ ns : List Int, intsP (ns.map PV.int) = some ns
  | [] => rfl
  | n :: ns => by
    show (intsP (ns.map PV.int)).map (n :: ·) = _
    rw [intsP_map ns]
    rfl
@[simp] theorem pSum_i {ns : List Int} : pSum [.lst (ns.map PV.int)] = some (.int ns.sum) := by
  show (intsP (ns.map PV.int)).map (fun ns => PV.int ns.sum) = _
  rw [intsP_map]
  rfl
theorem cutL_le {α : Type} (xs : List α) (lo hi : Option Int) : (cutL xs lo hi).length ≤ xs.length := by
  unfold cutL
  rw [List.length_take, List.length_drop]
  omega
theorem pSl_frl {ns : List Int} {lo hi : Option Int} (h : ns.length ≤ 16777216) : pSl (.frl ns) lo hi = some (.lst ((cutL ns lo hi).map PV.int)) := if_pos (by rw [szL]; exact Nat.le_trans (cutL_le _ _ _) h)
@[simp] theorem pSl_tup {xs : List PV} {lo hi : Option Int} : pSl (.tup xs) lo hi = some (.tup (cutL xs lo hi)) := rfl
@[simp] theorem pSl_lst {xs : List PV} {lo hi : Option Int} : pSl (.lst xs) lo hi = some (.lst (cutL xs lo hi)) := rfl
@[simp] theorem pSl_str {z : Str} {lo hi : Option Int} : pSl (.str z) lo hi = some (.str (cutS z lo hi)) := rfl
theorem cutL_to {α : Type} (xs : List α) (k : Nat) : cutL xs none (some (k : Int)) = xs.take k := by
  unfold cutL
  rw [HT.sIx_nat]
  show (xs.drop 0).take (min k xs.length - 0) = _
  rw [List.drop_zero, Nat.sub_zero]
  rcases Nat.le_total k xs.length with h | h
  · rw [Nat.min_eq_left h]
  · rw [Nat.min_eq_right h, List.take_of_length_le h, List.take_length]
theorem cutL_from {α : Type} (xs : List α) (k : Nat) : cutL xs (some (k : Int)) none = xs.drop k := by
  unfold cutL
  rw [HT.sIx_nat]
  show (xs.drop (min k xs.length)).take (xs.length - min k xs.length) = _
  rcases Nat.le_total k xs.length with h | h
  · rw [Nat.min_eq_left h, List.take_of_length_le (by rw [List.length_drop]; exact Nat.le_refl _)]
  · rw [Nat.min_eq_right h, List.drop_of_length_le h, List.drop_of_length_le (Nat.le_refl _)]
    exact List.take_nil
theorem cutS_to (z : Str) (k : Nat) : tx (cutS z none (some (k : Int))) = (tx z).take k := by
  unfold tx cutS
  rw [HT.sIx_nat]
  have hl : z.length = z.cps.toList.length := rfl
  show (z.cps.toList.drop 0).take (min k z.length - 0) = _
  rw [List.drop_zero, Nat.sub_zero, hl]
  rcases Nat.le_total k z.cps.toList.length with h | h
  · rw [Nat.min_eq_left h]
  · rw [Nat.min_eq_right h, List.take_of_length_le h, List.take_length]
@[simp] theorem pPut_l {xs : List PV} {j : Int} {v : PV} : pPut (.lst xs) (.int j) v = (ixN xs.length j).map fun n => .lst (xs.set n v) := by
  show (match ixN xs.length j with | some n => some (PV.lst (xs.set n v)) | none => none) = _
  cases ixN xs.length j <;> rfl
theorem ixN_nat {n k : Nat} (h : k < n) : ixN n (k : Int) = some k := by
  unfold ixN
  rw [if_pos (Int.natCast_nonneg k), if_pos (by omega)]
  rfl
@[simp] theorem kitB_tl : kitB "tuple" "list" = some false := by decide +kernel
@[simp] theorem kitB_ll : kitB "list" "list" = some true := by decide +kernel
@[simp] theorem kitB_sl : kitB "str" "list" = some false := by decide +kernel
@[simp] theorem kitB_il : kitB "int" "list" = some false := by decide +kernel
@[simp] theorem kitB_bl : kitB "bool" "list" = some false := by decide +kernel
@[simp] theorem kitB_nl : kitB "NoneType" "list" = some false := by decide +kernel
@[simp] theorem kitB_tt : kitB "tuple" "tuple" = some true := by decide +kernel
@[simp] theorem kitB_lt : kitB "list" "tuple" = some false := by decide +kernel
@[simp] theorem kitB_st : kitB "str" "tuple" = some false := by decide +kernel
@[simp] theorem kitB_it : kitB "int" "tuple" = some false := by decide +kernel
@[simp] theorem kitB_bt : kitB "bool" "tuple" = some false := by decide +kernel
@[simp] theorem kitB_nt : kitB "NoneType" "tuple" = some false := by decide +kernel
@[simp] theorem kitB_ts : kitB "tuple" "str" = some false := by decide +kernel
@[simp] theorem kitB_ls : kitB "list" "str" = some false := by decide +kernel
@[simp] theorem kitB_ss : kitB "str" "str" = some true := by decide +kernel
@[simp] theorem kitB_is : kitB "int" "str" = some false := by decide +kernel
@[simp] theorem kitB_bs : kitB "bool" "str" = some false := by decide +kernel
@[simp] theorem kitB_ns : kitB "NoneType" "str" = some false := by decide +kernel
@[simp] theorem kitB_ti : kitB "tuple" "int" = some false := by decide +kernel
@[simp] theorem kitB_li : kitB "list" "int" = some false := by decide +kernel
@[simp] theorem kitB_si : kitB "str" "int" = some false := by decide +kernel
@[simp] theorem kitB_ii : kitB "int" "int" = some true := by decide +kernel
@[simp] theorem kitB_bi : kitB "bool" "int" = some true := by decide +kernel
@[simp] theorem kitB_ni : kitB "NoneType" "int" = some false := by decide +kernel
@[simp] theorem kitB_tb : kitB "tuple" "bool" = some false := by decide +kernel
@[simp] theorem kitB_lb : kitB "list" "bool" = some false := by decide +kernel
@[simp] theorem kitB_sb : kitB "str" "bool" = some false := by decide +kernel
@[simp] theorem kitB_ib : kitB "int" "bool" = some false := by decide +kernel
@[simp] theorem kitB_bb : kitB "bool" "bool" = some true := by decide +kernel
@[simp] theorem kitB_nb : kitB "NoneType" "bool" = some false := by decide +kernel
section
variable {oc : Nat → Option Bool} {T : String}
@[simp] theorem ansT_non : ansT oc T .non = kitB "NoneType" T := rfl
@[simp] theorem ansT_bl {b : Bool} : ansT oc T (.bl b) = kitB "bool" T := rfl
@[simp] theorem ansT_int {b : Int} : ansT oc T (.int b) = kitB "int" T := rfl
@[simp] theorem ansT_str {b : Str} : ansT oc T (.str b) = kitB "str" T := rfl
@[simp] theorem ansT_tup {b : List PV} : ansT oc T (.tup b) = kitB "tuple" T := rfl
@[simp] theorem ansT_lst {b : List PV} : ansT oc T (.lst b) = kitB "list" T := rfl
@[simp] theorem ansAny_nil {x : PV} : ansAny [] x = some false := rfl
theorem ansAny_t {f : PV → Option Bool} {fs : List (PV → Option Bool)} {x : PV} (h : f x = some true) : ansAny (f :: fs) x = some true := by
  unfold ansAny
  rw [h]
theorem ansAny_f {f : PV → Option Bool} {fs : List (PV → Option Bool)} {x : PV} (h : f x = some false) : ansAny (f :: fs) x = ansAny fs x := by
  conv => lhs; unfold ansAny
  rw [h]
@[simp] theorem ansO_obj {c : Nat} {fs : List (Str × PV)} : ansO oc (.obj c fs) = oc c := rfl
@[simp] theorem ansO_tup {xs : List PV} : ansO oc (.tup xs) = some false := rfl
@[simp] theorem ansO_lst {xs : List PV} : ansO oc (.lst xs) = some false := rfl
@[simp] theorem ocOf_self {k : Nat} : ocOf k k = some true := by
  unfold ocOf
  rw [if_pos rfl]
end
@[simp] theorem pFld_obj {c : Nat} {f : Str} {fs : List (Str × PV)} : pFld c f (.obj c fs) = fs.lookup f := by
  unfold pFld
  dsimp only
  rw [if_pos rfl]
theorem rangeP_mem {lo : Int} {n : Nat} {y : PV} (h : y ∈ rangeP lo n) : ∃ i : Nat, i < n ∧ y = .int (lo + (i : Int)) := by
  unfold rangeP at h
  obtain ⟨i, hi, rfl⟩ := List.mem_map.mp h
  exact ⟨i, List.mem_range.mp hi, rfl⟩
theorem inR_of {j : Int} (h1 : -4611686018427387904 ≤ j) (h2 : j < 4611686018427387904) : inR j = true := by
  unfold inR
  have a : -(2 ^ 62 : Int) ≤ j := by omega
  have b : j < (2 ^ 62 : Int) := by omega
  rw [decide_eq_true a, decide_eq_true b]
  rfl
@[simp] theorem ixN_0 {n : Nat} : ixN (n + 1) 0 = some 0 := ixN_nat (k := 0) (by omega)
@[simp] theorem ixN_1 {n : Nat} : ixN (n + 2) 1 = some 1 := ixN_nat (k := 1) (by omega)
@[simp] theorem ixN_2 {n : Nat} : ixN (n + 3) 2 = some 2 := ixN_nat (k := 2) (by omega)
@[simp] theorem ixN_3 {n : Nat} : ixN (n + 4) 3 = some 3 := ixN_nat (k := 3) (by omega)
@[simp] theorem ixN_4 {n : Nat} : ixN (n + 5) 4 = some 4 := ixN_nat (k := 4) (by omega)
theorem brS_any {α : Type} {b : Bool} {m n : M α} {S : Sto} {P : Kt α} (Q : α → Prop) (h1 : b = true → wq m S fun x S1 => Q x ∧ S1 = S) (h2 : b = false → wq n S fun x S1 => Q x ∧ S1 = S) (k : ∀ x, Q x → P x S) : brS b m n S P :=
  ⟨fun e => wq_mono (h1 e) fun x S1 ⟨q, z⟩ => by rw [z]; exact k x q, fun e => wq_mono (h2 e) fun x S1 ⟨q, z⟩ => by rw [z]; exact k x q⟩
theorem pPow_10_18 : pPow (.int 10) (.int 18) = some (.int 1000000000000000000) := by
  unfold pPow
  dsimp only
  rw [if_pos (by decide)]
  rfl
theorem tx_len (w : Str) : (tx w).length = w.length := rfl
theorem tx_append (a b : Str) : tx (a ++ b) = tx a ++ tx b := by
  unfold tx
  rw [Str.cps_append, Array.toList_append]
theorem tx_inj {a b : Str} (h : tx a = tx b) : a = b := by
  have hc : a.cps = b.cps := Array.toList_inj.mp h
  cases a
  cases b
  simp only [Str.mk.injEq]
  exact hc
theorem len_append (a b : Str) : (a ++ b).length = a.length + b.length := by
  rw [← tx_len, tx_append, List.length_append]
  rfl
@[simp] theorem filter_tt {α : Type} {l : List α} : l.filter (fun _ => true) = l := List.filter_eq_self.mpr fun _ _ => rfl
@[simp] theorem exS_ite {α : Type} {c : Prop} [Decidable c] {z : α} {S : Sto} {P : Kt α} : exS (if c then some z else none) S P ↔ c ∧ P z S := by
  by_cases h : c
  · rw [if_pos h, exS_some]
    exact ⟨fun p => ⟨h, p⟩, fun p => p.2⟩
  · rw [if_neg h]
    exact ⟨fun p => exS_none.mp p |>.elim, fun p => (h p.1).elim⟩
@[simp] theorem upB_ite_o {α : Type} {c : Prop} [Decidable c] {y : α} {g : α → PV} {i : Nat} {S : Sto} {P : Kt α} : upB true (if c then some y else none) g i S P ↔ c ∧ P y (S.set i (some (.o (g y)))) := by
  by_cases h : c
  · rw [if_pos h, upB_o]
    exact ⟨fun p => ⟨h, p⟩, fun p => p.2⟩
  · rw [if_neg h]
    exact ⟨fun ⟨_, e, _⟩ => (by cases e), fun p => (h p.1).elim⟩
@[simp] theorem upB_ite_i {α : Type} {c : Prop} [Decidable c] {y : α} {g : α → PV} {i : Nat} {S : Sto} {P : Kt α} : upB false (if c then some y else none) g i S P ↔ c ∧ P y (S.set i (some (.i (g y)))) := by
  by_cases h : c
  · rw [if_pos h, upB_i]
    exact ⟨fun p => ⟨h, p⟩, fun p => p.2⟩
  · rw [if_neg h]
    exact ⟨fun ⟨_, e, _⟩ => (by cases e), fun p => (h p.1).elim⟩
@[simp] theorem fApp_l {ys : List PV} {y : PV} : fApp (.lst ys) [y] = if ys.length < sizeLine then some (.lst (ys ++ [y]), .non) else none := rfl
end Kp
set_option Elab.async false
set_option linter.all false
set_option maxRecDepth 100000
set_option maxHeartbeats 4000000
namespace Kp
open PySem L2
theorem joinL_flat : ∀ ps : List (List Nat), TL.joinL [] ps = ps.flatten
  | [] => rfl
  | [p] => by simp [TL.joinL]
  | p :: q :: r => by
    show p ++ ([] ++ TL.joinL [] (q :: r)) = _
    rw [joinL_flat (q :: r), List.nil_append]
    rfl
def chr1 (c : Nat) : Str := ⟨#[c]⟩
theorem strsP_map : ∀ ws : List Str, strsP (ws.map PV.str) = some ws
  | [] => rfl
  | w :: ws => by
    show (strsP (ws.map PV.str)).map (w :: ·) = _
    rw [strsP_map ws]
    rfl
theorem join_flat (ws : List Str) : tx (Txt.join "" ws) = (ws.map fun w => tx w).flatten := by
  have e : Txt.join "" ws = Str.join "" ws := TL.join_eq _ _
  have e2 := TL.tl_join "" ws
  rw [e]
  exact e2.trans (joinL_flat _)
theorem flat_chr : ∀ cs : List Nat, ((cs.map chr1).map fun w => tx w).flatten = cs
  | [] => rfl
  | c :: cs => by
    show [c] ++ ((cs.map chr1).map fun w => tx w).flatten = _
    rw [flat_chr cs]
    rfl
theorem len_chr (cs : List Nat) : ((cs.map chr1).map fun w => w.length).sum = cs.length := by
  induction cs with
  | nil => rfl
  | cons c cs ih =>
    rw [List.map_cons, List.map_cons, List.sum_cons, ih, List.length_cons]
    show 1 + cs.length = _
    omega
theorem pJoin_chars (cs : List Nat) (h : cs.length ≤ 100) : pJoin (.str "") (.lst (cs.map (PV.str ∘ chr1))) = some (.str ⟨cs.toArray⟩) := by
  rw [← List.map_map]
  have ej : Txt.join "" (cs.map chr1) = ⟨cs.toArray⟩ := tx_inj (by rw [join_flat, flat_chr]; rfl)
  have hl : (⟨cs.toArray⟩ : Str).length = cs.length := List.size_toArray
  unfold pJoin
  dsimp only
  have e : (itemsP (.lst ((cs.map chr1).map PV.str))).bind strsP = some (cs.map chr1) := strsP_map _
  rw [e]
  dsimp only
  rw [len_chr, ej, hl, List.length_map, szL]
  have z : Str.length (Str.ofString "") = 0 := by decide +kernel
  rw [z, if_pos (by omega)]
theorem isDL_strs : ∀ ws : List Str, PV.isDL (ws.map PV.str) = true
  | [] => rfl
  | w :: ws => by
    show (PV.isD (.str w) && PV.isDL (ws.map PV.str)) = true
    rw [isDL_strs ws]
    rfl
theorem datL_strs : ∀ ws : List Str, PV.datL (ws.map PV.str) = ws.map PyData.str
  | [] => rfl
  | w :: ws => by
    show PV.dat (.str w) :: PV.datL (ws.map PV.str) = _
    rw [datL_strs ws]
    rfl
theorem dat_str (a : Str) : (PV.str a).dat = .str a := rfl
theorem depth_str (a : Str) : (PyData.str a).depth = 0 := by simp [PyData.depth]
theorem pInB_s {a : Str} {ws : List Str} : pInB (.str a) (.lst (ws.map PV.str)) = some (decide (a ∈ ws)) := by
  unfold pInB
  dsimp only
  rw [isDL_strs, datL_strs, dat_str, depth_str, Nat.min_zero, if_pos (by rfl)]
  congr 1
  rw [List.any_map]
  have e : ∀ d : Str, ((fun d => PyData.eqv d (.str a)) ∘ PyData.str) d = decide (d = a) := fun d => by
    show PyData.eqv (.str d) (.str a) = _
    by_cases h : d = a <;> simp [PyData.eqv, h]
  by_cases h : a ∈ ws
  · rw [decide_eq_true h]
    exact List.any_eq_true.mpr ⟨a, h, by rw [e]; simp⟩
  · rw [decide_eq_false h]
    refine List.any_eq_false.mpr fun d hd => ?_
    rw [e]
    simp only [decide_eq_true_eq]
    intro z
    exact h (z ▸ hd)
@[simp] theorem pHas_s {a : Str} {ws : List Str} : pHas (.str a) (.lst (ws.map PV.str)) = some (.bl (decide (a ∈ ws))) := by
  show (pInB (.str a) (.lst (ws.map PV.str))).map PV.bl = _
  rw [pInB_s]
  rfl
@[simp] theorem pHasNot_s {a : Str} {ws : List Str} : pHasNot (.str a) (.lst (ws.map PV.str)) = some (.bl (!decide (a ∈ ws))) := by
  show (pInB (.str a) (.lst (ws.map PV.str))).map (fun b => PV.bl (!b)) = _
  rw [pInB_s]
  rfl
@[simp] theorem pHasNot_nil {a : Str} : pHasNot (.str a) (.lst []) = some (.bl true) := pHasNot_s (ws := [])
@[simp] theorem okPut_m {o : Option PV} : okPut (some (o.map SV.p)) = true := by cases o <;> rfl
/-- one of many is not among few -/
theorem pigeon : ∀ (cs ws : List Str), cs.Nodup → ws.length < cs.length → ∃ c ∈ cs, c ∉ ws
  | [], _, _, h => by simp at h
  | c :: cs, ws, hn, h => by
    by_cases hc : c ∈ ws
    · have hn' := List.nodup_cons.mp hn
      have hl : (ws.erase c).length < cs.length := by
        rw [List.length_erase_of_mem hc]
        have := List.length_pos_of_mem hc
        rw [List.length_cons] at h
        omega
      obtain ⟨d, hd, hw⟩ := pigeon cs (ws.erase c) hn'.2 hl
      refine ⟨d, List.mem_cons_of_mem _ hd, fun hm => hw ?_⟩
      have : d ≠ c := fun e => hn'.1 (e ▸ hd)
      exact (List.mem_erase_of_ne this).mpr hm
    · exact ⟨c, List.mem_cons_self, hc⟩
end Kp
set_option Elab.async false
set_option linter.all false
set_option maxRecDepth 100000
set_option maxHeartbeats 4000000
namespace A11
open PySem L2 Kp
/-! ### the source of draws -/
def Src (x : PV) : Prop := ∃ (ns : List Int) (k b s c : Int), x = .lst [.frl ns, .int k, .int b, .int s, .int c] ∧ ns.length ≤ 63 ∧ 0 ≤ k
theorem next_ok {x : PV} (h : Src x) : ∃ x' y, f__law_next x [] = some (x', .ret y) ∧ (Src x' ∧ y = .non) := by
  obtain ⟨ns, k, b, s, c, rfl, hn, hk⟩ := h
  refine runI_wq ?_
  simp [m__law_next, N__law_next, stoP]
  refine brS_any (fun x => ∃ v : Int, x = .int v) (fun h => ?_) (fun h => ?_) (fun x ⟨v, e⟩ => ?_)
  · have h' := of_decide_eq_true h
    have q : ns[k.toNat]? = some ns[k.toNat] := List.getElem?_eq_getElem (by omega)
    simp [atI_int hk, q]
  · simp [pSl_frl (Nat.le_trans hn (by decide)), pMul_l, pMod_ii]
  · subst e
    simp [pPow_10_18]
    refine brS_any (fun x => ∃ v : Int, x = .int v) (fun h => ?_) (fun h => ?_) (fun x ⟨z, e⟩ => ?_)
    · simp
    · simp
    · subst e
      simp [pMod_ii, pMul_l]
      exact ⟨ns, _, _, _, _, rfl, hn, by omega⟩
theorem pick_ok {x : PV} {n : Int} (h : Src x) (hn : 0 < n) (hn2 : n < 1073741824) : ∃ x' y, f__law_pick x [.int n] = some (x', .ret y) ∧ (Src x' ∧ ∃ i : Nat, y = .int i ∧ (i : Int) < n) := by
  obtain ⟨ns, k, b, s, c, rfl, hl, hk⟩ := h
  refine runI_wq ?_
  simp [m__law_pick, N__law_pick, stoP]
  refine brS_intro (fun h => ?_) (fun h => ?_)
  · simp [pMod_ii hn, pDiv_ii hn hn2]
    refine ⟨⟨ns, _, _, _, _, rfl, hl, hk⟩, (b % n).toNat, ?_, ?_⟩
    · have := Int.emod_nonneg b (Int.ne_of_gt hn)
      omega
    · have := Int.emod_nonneg b (Int.ne_of_gt hn)
      have := Int.emod_lt_of_pos b hn
      omega
  · simp [pMod_ii, pMul_l, pMul_r]
    have l0 := Int.emod_nonneg (s * 48271 + (c + 1) * 1234577 + 7) (show (2147483647 : Int) ≠ 0 by decide)
    have l1 := Int.emod_lt_of_pos (s * 48271 + (c + 1) * 1234577 + 7) (show (0 : Int) < 2147483647 by decide)
    generalize (s * 48271 + (c + 1) * 1234577 + 7) % 2147483647 = low at l0 l1 ⊢
    rw [pMul_l (by omega) (by omega)]
    simp [pMod_ii, pMul_l, pMul_r]
    have h0 := Int.emod_nonneg (low * low + 16807 * (c + 1)) (show (2147483399 : Int) ≠ 0 by decide)
    have h1 := Int.emod_lt_of_pos (low * low + 16807 * (c + 1)) (show (0 : Int) < 2147483399 by decide)
    generalize (low * low + 16807 * (c + 1)) % 2147483399 = high at h0 h1 ⊢
    rw [pMul_l (by omega) (by omega)]
    simp [pMod_ii, pDiv_ii, hn]
    refine ⟨⟨ns, _, _, _, _, rfl, hl, hk⟩, ?_⟩
    generalize high * high % 2147483029 / 11 + low / 7 = z
    refine ⟨(z % n).toNat, ?_, ?_⟩
    · have := Int.emod_nonneg z (Int.ne_of_gt hn)
      omega
    · have := Int.emod_nonneg z (Int.ne_of_gt hn)
      have := Int.emod_lt_of_pos z hn
      omega
theorem one_in_ok {x : PV} {n : Int} (h : Src x) (hn : 0 < n) (hn2 : n < 1073741824) : ∃ x' y, f__law_one_in x [.int n] = some (x', .ret y) ∧ (Src x' ∧ ∃ b, y = .bl b) := by
  obtain ⟨x', y, e, hs, i, rfl, hi⟩ := pick_ok h hn hn2
  refine runI_wq ?_
  simp [m__law_one_in, N__law_one_in, stoP, e]
  exact ⟨hs, by omega⟩
theorem one_of_ok {x : PV} {xs : List PV} (h : Src x) (hn : xs ≠ []) (hn2 : xs.length < 1000) : ∃ x' y, f__law_one_of x [.lst xs] = some (x', .ret y) ∧ (Src x' ∧ y ∈ xs) := by
  have hp : 0 < xs.length := List.length_pos_iff.mpr hn
  obtain ⟨x', y, e, hs, i, rfl, hi⟩ := pick_ok h (n := xs.length) (by omega) (by omega)
  have hi' : i < xs.length := by omega
  have q : xs[i]? = some xs[i] := List.getElem?_eq_getElem hi'
  refine runI_wq ?_
  simp [m__law_one_of, N__law_one_of, stoP, e, atN, q]
  exact hs
/-! ### words -/
def lettersL : List Nat := [97, 98, 99, 100, 101, 102, 103, 104, 105, 106, 107, 108, 109, 110, 111, 112, 113, 114, 115, 116, 117, 118, 119, 120, 121, 122]
theorem letters_cps : Str.cps (Str.ofString "abcdefghijklmnopqrstuvwxyz") = lettersL.toArray := by decide +kernel
theorem lettersL_get : ∀ i : Nat, i < 26 → lettersL[i]? = some (97 + i) := by decide
theorem letter_ok (k : Nat) : f__law_letter [.int k] = some (.ret (.str (chr1 (97 + k % 26)))) := by
  refine runP_eq ?_
  simp [m__law_letter, N__law_letter, stoP, pMod_ii]
  have e : ((k : Int) % 26) = ((k % 26 : Nat) : Int) := by omega
  rw [e, atN]
  have c : tx (Str.ofString "abcdefghijklmnopqrstuvwxyz") = lettersL := by unfold tx; rw [letters_cps]
  rw [c, lettersL_get _ (Nat.mod_lt _ (by decide))]
  simp [chr1]
/-- a word's letters -/
def isLet (c : Nat) : Bool := decide (97 ≤ c) && decide (c ≤ 122)
def lw (w : Str) : Prop := 1 ≤ (tx w).length ∧ (tx w).length ≤ 8 ∧ ∀ c ∈ (tx w), isLet c = true
theorem isLet_26 (k : Nat) : isLet (97 + k % 26) = true := by
  have := Nat.mod_lt k (show 0 < 26 by decide)
  unfold isLet
  rw [decide_eq_true (by omega), decide_eq_true (by omega)]
  rfl
theorem word_ok {x : PV} (h : Src x) : ∃ x' y, f__law_word x [.int 3] = some (x', .ret y) ∧ (Src x' ∧ ∃ w : Str, y = .str w ∧ 1 ≤ (tx w).length ∧ (tx w).length ≤ 3 ∧ ∀ c ∈ (tx w), isLet c = true) := by
  obtain ⟨x1, y, e, hs, i, rfl, hi⟩ := pick_ok h (n := 3) (by decide) (by decide)
  refine runI_wq ?_
  simp [m__law_word, N__law_word, stoP, e, rangeP_len, szL, isStr]
  refine ⟨inR_of (by omega) (by omega), by omega, lcE_inv (fun ys acc S => ∃ x, Src x ∧ S = [some (.i x), some (.p (.int 3)), some (.p (.int (1 + (i : Int)))), none] ∧ ∃ cs : List Nat, acc = cs.map (PV.str ∘ chr1) ∧ (∀ c ∈ cs, isLet c = true) ∧ cs.length + ys.length = 1 + i) ?_ ?_ ?_⟩
  · exact ⟨x1, hs, rfl, [], rfl, (by simp), by rw [rangeP_len]; simp; omega⟩
  · rintro y ys acc S ⟨x, hx, rfl, cs, rfl, hc, hl⟩
    obtain ⟨x2, y2, e2, hs2, j, rfl, hj⟩ := pick_ok hx (n := 26) (by decide) (by decide)
    refine ⟨_, by simp; rfl, ?_⟩
    simp [e2, letter_ok]
    refine ⟨x2, hs2, rfl, cs ++ [97 + j % 26], by simp, fun c hc' => ?_, by simp at hl ⊢; omega⟩
    rcases List.mem_append.mp hc' with q | q
    · exact hc c q
    · rw [List.mem_singleton.mp q]
      exact isLet_26 j
  · rintro acc S ⟨x, hx, rfl, cs, rfl, hc, hl⟩
    have hcl : cs.length = 1 + i := by simpa using hl
    simp [pJoin_chars cs (by omega)]
    refine ⟨hx, ?_⟩
    show 1 ≤ cs.length ∧ cs.length ≤ 3 ∧ ∀ c ∈ cs, isLet c = true
    exact ⟨by omega, by omega, hc⟩
/-- a drawn word -/
def dw (w : Str) : Prop := 1 ≤ (tx w).length ∧ (tx w).length ≤ 4 ∧ ∀ c ∈ tx w, isLet c = true
/-- the j-th word near w -/
def near (w : Str) (j : Nat) : Str := cutS w none (some 2) ++ chr1 (97 + j / 26 % 26) ++ chr1 (97 + j % 26)
theorem tx_near (w : Str) (j : Nat) : tx (near w j) = (tx w).take 2 ++ [97 + j / 26 % 26] ++ [97 + j % 26] := by
  unfold near
  rw [tx_append, tx_append, show (some 2 : Option Int) = some ((2 : Nat) : Int) from rfl, cutS_to]
  rfl
theorem near_inj {w : Str} {i j : Nat} (hi : i < 26) (hj : j < 26) (h : near w i = near w j) : i = j := by
  have e : tx (near w i) = tx (near w j) := by rw [h]
  rw [tx_near, tx_near] at e
  have := (List.append_inj' e rfl).2
  simp at this
  omega
theorem near_dw {w : Str} (h1 : (tx w).length ≤ 3) (h : ∀ c ∈ tx w, isLet c = true) (j : Nat) : dw (near w j) := by
  unfold dw
  rw [tx_near]
  refine ⟨by simp, ?_, fun c hc => ?_⟩
  · simp
    omega
  · rcases List.mem_append.mp hc with q | q
    · rcases List.mem_append.mp q with q | q
      · exact h c (List.mem_of_mem_take q)
      · rw [List.mem_singleton.mp q]
        exact isLet_26 _
    · rw [List.mem_singleton.mp q]
      exact isLet_26 _
theorem words_ok {x : PV} {n : Nat} (h : Src x) (hn : n ≤ 6) : ∃ x' y, f__law_words x [.int n, .int 3, .lst []] = some (x', .ret y) ∧ (Src x' ∧ ∃ ws : List Str, y = .lst (ws.map PV.str) ∧ ws.length = n ∧ ws.Nodup ∧ ∀ w ∈ ws, dw w) := by
  refine runI_wq ?_
  simp [m__law_words, N__law_words, stoP, inR_of (show -4611686018427387904 ≤ (n : Int) by omega) (by omega)]
  refine wq_loop (fun ys S => ∃ (x : PV) (ws : List Str) (o5 o6 o7 o8 : Option PV), Src x ∧ S = [some (.i x), some (.p (.int n)), some (.p (.int 3)), some (.p (.lst [])), some (.o (.lst (ws.map PV.str))), o5.map SV.p, o6.map SV.p, o7.map SV.p, o8.map SV.p, none, none] ∧ ws.length + ys.length = n ∧ ws.Nodup ∧ ∀ w ∈ ws, dw w) ?_ ?_ ?_
  · rintro S ⟨x, ws, o5, o6, o7, o8, hx, rfl, hl, hd, hw⟩
    simp
    exact ⟨hx, ws, rfl, by simpa using hl, hd, hw⟩
  · rintro y ys S ⟨x, ws, o5, o6, o7, o8, hx, rfl, hl, hd, hw⟩
    obtain ⟨x2, y2, e2, hs2, w, rfl, hw1, hw2, hw3⟩ := word_ok hx
    have hlw : ws.length ≤ 5 := by simp at hl; omega
    refine ⟨_, by simp; rfl, ?_⟩
    simp [e2, szL, rangeP_len]
    refine ⟨inR_of (by omega) (by omega), by omega, lcE_of (lcGo_mapf _ _ (fun _ => true) (fun j => .str (near w j)) fun j hj => ?_) ?_⟩
    · have e3 : pDiv (.int (j : Int)) (.int 26) = some (.int ((j / 26 : Nat) : Int)) := by
        rw [pDiv_ii (by decide) (by decide)]
        rfl
      have hc1 : (cutS w none (some 2)).length ≤ 2 := by
        have := cutS_to w 2
        rw [← tx_len]
        show (tx (cutS w none (some ((2 : Nat) : Int)))).length ≤ 2
        rw [this, List.length_take]
        omega
      have hc2 : ∀ c, (chr1 c).length = 1 := fun _ => rfl
      have e4 : f__law_letter [.int ((j : Int) / 26)] = some (.ret (.str (chr1 (97 + j / 26 % 26)))) := letter_ok (j / 26)
      simp [e3, e4, letter_ok, szL, hc2, len_append, show (cutS w none (some 2)).length + 1 ≤ 16777216 by omega, show (cutS w none (some 2)).length + 1 + 1 ≤ 16777216 by omega]
      rfl
    · have e5 : (PV.str w :: List.map (fun j => PV.str (near w j)) (List.range (ws.length + 1))) = (w :: (List.range (ws.length + 1)).map (near w)).map PV.str := by simp [Function.comp_def]
      simp [szL]
      rw [e5]
      refine ⟨by omega, by omega, lcE_of (lcGo_mapf (w :: (List.range (ws.length + 1)).map (near w)) PV.str (fun c => !decide (c ∈ ws)) PV.str fun c hc => ?_) ?_⟩
      · simp
        all_goals simpa using h
      · have hnd : ((List.range (ws.length + 1)).map (near w)).Nodup := by
          refine List.Pairwise.map _ (fun a b hab e => ?_) (List.Pairwise.and_mem.mp (List.nodup_range (n := ws.length + 1)))
          obtain ⟨ha, hb, hn⟩ := hab
          exact hn (near_inj (by have := List.mem_range.mp ha; omega) (by have := List.mem_range.mp hb; omega) e)
        obtain ⟨c, hc, hcw⟩ := pigeon _ ws hnd (by simp)
        have hne : c ∈ (w :: (List.range (ws.length + 1)).map (near w)).filter (fun c => !decide (c ∈ ws)) := List.mem_filter.mpr ⟨List.mem_cons_of_mem _ hc, by simp [hcw]⟩
        have hall : ∀ d ∈ (w :: (List.range (ws.length + 1)).map (near w)).filter (fun c => !decide (c ∈ ws)), dw d ∧ d ∉ ws := fun d hd => by
          obtain ⟨h1, h2⟩ := List.mem_filter.mp hd
          refine ⟨?_, by simpa using h2⟩
          rcases List.mem_cons.mp h1 with rfl | h1
          · exact ⟨hw1, by omega, hw3⟩
          · obtain ⟨j, _, rfl⟩ := List.mem_map.mp h1
            exact near_dw hw2 hw3 j
        generalize (w :: (List.range (ws.length + 1)).map (near w)).filter (fun c => !decide (c ∈ ws)) = fl at hne hall ⊢
        cases fl with
        | nil => cases hne
        | cons d fl =>
          obtain ⟨h1, h2⟩ := hall d List.mem_cons_self
          simp [szL]
          refine ⟨by omega, x2, hs2, ws ++ [d], ⟨rfl, by simp, ⟨some y, rfl⟩, ⟨some (PV.str w), rfl⟩, ⟨some _, rfl⟩, ⟨some _, rfl⟩⟩, by simp at hl ⊢; omega, ?_, fun v hv => ?_⟩
          · exact List.nodup_append.mpr ⟨hd, by simp, by simp; exact fun a ha e => h2 (e ▸ ha)⟩
          · rcases List.mem_append.mp hv with q | q
            · exact hw v q
            · rw [List.mem_singleton.mp q]
              exact h1
  · exact ⟨x, [], none, none, none, none, h, rfl, by rw [rangeP_len]; simp, List.nodup_nil, by simp⟩
end A11
set_option Elab.async false
set_option linter.all false
set_option maxRecDepth 100000
set_option maxHeartbeats 4000000
namespace A11
open PySem L2 Kp
/-! ### data, nested to a depth -/
def gdv : Nat → PV → Bool
  | _, .non => true
  | _, .bl _ => true
  | _, .int _ => true
  | _, .str _ => true
  | d + 1, .tup xs => decide (xs.length ≤ 1000) && xs.all (gdv d)
  | d + 1, .lst xs => decide (xs.length ≤ 1000) && xs.all (gdv d)
  | _, _ => false
def deepN : Nat → PV → PV
  | d + 1, .tup xs => .tup (xs.map (deepN d))
  | d + 1, .lst xs => .tup (xs.map (deepN d))
  | _, x => x
def listsN : Nat → PV → PV
  | d + 1, .tup xs => .lst (xs.map (listsN d))
  | _, x => x
theorem gdv_seq {d : Nat} {xs : List PV} (h : (decide (xs.length ≤ 1000) && xs.all (gdv d)) = true) : xs.length ≤ 1000 ∧ ∀ x ∈ xs, gdv d x = true := by
  rw [Bool.and_eq_true] at h
  exact ⟨of_decide_eq_true h.1, List.all_eq_true.mp h.2⟩
theorem deep_d : ∀ (d : Nat) (x : PV), gdv d x = true → fd_deep (d + 1) [x] = some (.ret (deepN d x)) := by
  have seq : ∀ (d : Nat) (xs : List PV) (S : Sto), xs.length ≤ 1000 → (∀ x ∈ xs, fd_deep (d + 1) [x] = some (.ret (deepN d x))) → ∀ a, lcGo [1] (gN 1) mYes (mCall (fd_deep (d + 1)) [mVar 1]) xs [a, none] = some (xs.map (deepN d), [a, none]) := fun d xs S hl ih a => by
    have := lcGo_pure (vs := [1]) (g := gN 1) (mt := mYes) (me := mCall (fd_deep (d + 1)) [mVar 1]) (S := [a, none]) (fun _ => true) (deepN d) (ys := xs) fun y hy => ⟨[a, some (.p y)], by simp, by simp [ih y hy]⟩
    rw [this, filter_tt]
  intro d
  induction d with
  | zero =>
    intro x h
    refine runP_eq ?_
    cases x <;> first | (cases h; done) | simp [m_deep, N_deep, stoP, ansAny_f, deepN]
  | succ d ih =>
    intro x h
    refine runP_eq ?_
    cases x with
    | tup xs =>
      obtain ⟨hl, hx⟩ := gdv_seq h
      simp [m_deep, N_deep, stoP, ansAny_f, ansAny_t, deepN, szL]
      exact ⟨by omega, lcE_of (seq d xs [] hl (fun x hx' => ih x (hx x hx')) _) (by simp)⟩
    | lst xs =>
      obtain ⟨hl, hx⟩ := gdv_seq h
      simp [m_deep, N_deep, stoP, ansAny_f, ansAny_t, deepN, szL]
      exact ⟨by omega, lcE_of (seq d xs [] hl (fun x hx' => ih x (hx x hx')) _) (by simp)⟩
    | _ => first | (cases h; done) | simp [m_deep, N_deep, stoP, ansAny_f, deepN]
theorem deep_ok {x : PV} (h : gdv 7 x = true) : f_deep [x] = some (.ret (deepN 7 x)) := deep_d 7 x h
theorem lists_d : ∀ (d : Nat) (x : PV), gdv d x = true → fd__law_lists (d + 1) [x] = some (.ret (listsN d x)) := by
  intro d
  induction d with
  | zero =>
    intro x h
    refine runP_eq ?_
    cases x <;> first | (cases h; done) | simp [m__law_lists, N__law_lists, stoP, ansAny_f, listsN]
  | succ d ih =>
    intro x h
    refine runP_eq ?_
    cases x with
    | tup xs =>
      obtain ⟨hl, hx⟩ := gdv_seq h
      simp [m__law_lists, N__law_lists, stoP, listsN, szL]
      refine ⟨by omega, lcE_of (zs := xs.map (listsN d)) (S2 := [some (.p (.tup xs)), none]) ?_ (by simp)⟩
      have := lcGo_pure (vs := [1]) (g := gN 1) (mt := mYes) (me := mCall (fd__law_lists (d + 1)) [mVar 1]) (S := [some (.p (.tup xs)), none]) (fun _ => true) (listsN d) (ys := xs) fun y hy => ⟨[some (.p (.tup xs)), some (.p y)], by simp, by simp [ih y (hx y hy)]⟩
      rw [this, filter_tt]
    | _ => first | (cases h; done) | simp [m__law_lists, N__law_lists, stoP, listsN]
theorem lists_ok {x : PV} (h : gdv 7 x = true) : f__law_lists [x] = some (.ret (listsN 7 x)) := lists_d 7 x h
theorem deep_lists : ∀ (d : Nat) (x : PV), deepN d (listsN d x) = deepN d x
  | 0, x => rfl
  | d + 1, x => by
    cases x <;> try rfl
    rename_i xs
    show PV.tup ((xs.map (listsN d)).map (deepN d)) = PV.tup (xs.map (deepN d))
    rw [List.map_map]
    congr 1
    exact List.map_congr_left fun x _ => deep_lists d x
theorem gdv_lists : ∀ (d : Nat) (x : PV), gdv d x = true → gdv d (listsN d x) = true
  | 0, x, h => h
  | d + 1, x, h => by
    cases x <;> try exact h
    rename_i xs
    obtain ⟨hl, hx⟩ := gdv_seq h
    show (decide ((xs.map (listsN d)).length ≤ 1000) && (xs.map (listsN d)).all (gdv d)) = true
    rw [List.length_map, decide_eq_true hl, Bool.true_and, List.all_map]
    exact List.all_eq_true.mpr fun x hm => gdv_lists d x (hx x hm)
/-! ### words, pairs, maps -/
def isWordB : PV → Bool
  | .str w => decide (1 ≤ w.length) && decide (w.length ≤ 8) && (tx w).all isLet
  | _ => false
theorem tx_a : tx "a" = [97] := by decide +kernel
theorem tx_z : tx "z" = [122] := by decide +kernel
theorem tx_mk1 (c : Nat) : tx ⟨#[c]⟩ = [c] := rfl
theorem charsP_tx (w : Str) : charsP w = (tx w).map fun c => .str ⟨#[c]⟩ := rfl
theorem lt1 (c d : Nat) : ([c] : List Nat) < [d] ↔ c < d := by
  rw [List.cons_lt_cons_iff]
  simp
theorem is_word_ok {d : Nat} {x : PV} (h : gdv d x = true) : f_is_word [x] = some (.ret (.bl (isWordB x))) := by
  refine runP_eq ?_
  have other : ∀ y : PV, ansT noOc "str" y = some false → isWordB y = false → wq m_is_word [some (.p y), none] (rtP (· = .bl (isWordB y))) := fun y h1 h2 => by
    simp [m_is_word, h1, h2]
  cases x with
  | str w =>
    simp [m_is_word, N_is_word, stoP, isWordB]
    by_cases h1 : (1 : Int) ≤ w.length
    · by_cases h2 : (w.length : Int) ≤ 8
      · have h1' : 1 ≤ w.length := by omega
        have h2' : w.length ≤ 8 := by omega
        simp [h1, h2, h1', h2', charsP_tx]
        refine wq_loop (fun ys S => ∃ (cs : List Nat) (o : Option PV), ys = cs.map (fun c => .str ⟨#[c]⟩) ∧ (tx w).all isLet = cs.all isLet ∧ S = [some (.p (.str w)), o.map SV.p]) ?_ ?_ ⟨tx w, none, rfl, rfl, rfl⟩
        · rintro S ⟨cs, o, e, ea, rfl⟩
          have : cs = [] := by simpa using e.symm
          subst this
          simp [ea]
        · rintro y ys S ⟨cs, o, e, ea, rfl⟩
          cases cs with
          | nil => cases e
          | cons c cs =>
            obtain ⟨rfl, rfl⟩ := List.cons.inj e
            refine ⟨_, by simp; rfl, ?_⟩
            simp [tx_a, tx_z, tx_mk1, lt1]
            rw [ea]
            by_cases q1 : c < 97
            · have : isLet c = false := by unfold isLet; rw [decide_eq_false (by omega)]; rfl
              simp [q1, this, tx_a, tx_z, tx_mk1, lt1]
            · by_cases q2 : 122 < c
              · have : isLet c = false := by unfold isLet; rw [decide_eq_false (p := c ≤ 122) (by omega), Bool.and_false]
                simp [q1, q2, this, tx_a, tx_z, tx_mk1, lt1]
              · have : isLet c = true := by unfold isLet; rw [decide_eq_true (by omega), decide_eq_true (by omega)]; rfl
                simp [q1, q2, this, tx_a, tx_z, tx_mk1, lt1]
                exact ⟨cs, rfl, rfl, some _, rfl⟩
      · have h2' : ¬ w.length ≤ 8 := by omega
        simp [h1, h2, h2']
    · have h1' : w.length = 0 := by omega
      simp [h1, h1']
  | non => exact other .non (by simp) rfl
  | bl b => exact other (.bl b) (by simp) rfl
  | int i => exact other (.int i) (by simp) rfl
  | tup xs => exact other (.tup xs) (by simp) rfl
  | lst xs => exact other (.lst xs) (by simp) rfl
  | _ => cases d <;> cases h
def isPairB : PV → Bool
  | .tup [a, b] => match a, b with
    | .str u, .str v => isWordB (.str u) && (isWordB (.str v) && !decide (u = v))
    | _, _ => false
  | _ => false
theorem isWordB_str {x : PV} (h : isWordB x = true) : ∃ w, x = .str w := by
  cases x <;> first | (cases h; done) | exact ⟨_, rfl⟩
theorem is_pair_ok {d : Nat} {x : PV} (h : gdv d x = true) : f_is_pair_of_words [x] = some (.ret (.bl (isPairB x))) := by
  refine runP_eq ?_
  have other : ∀ y : PV, ansT noOc "tuple" y = some false → isPairB y = false → wq m_is_pair_of_words [some (.p y)] (rtP (· = .bl (isPairB y))) := fun y h1 h2 => by
    simp [m_is_pair_of_words, h1, h2]
  cases x with
  | tup xs =>
    cases d with
    | zero => cases h
    | succ d =>
      obtain ⟨hl, hx⟩ := gdv_seq h
      simp [m_is_pair_of_words, N_is_pair_of_words, stoP]
      rcases xs with _ | ⟨a, _ | ⟨b, _ | ⟨c, xs⟩⟩⟩
      · simp [isPairB]
      · simp [isPairB]
      · have ha := is_word_ok (hx a List.mem_cons_self)
        have hb := is_word_ok (hx b (List.mem_cons_of_mem _ List.mem_cons_self))
        simp [ha, hb]
        cases ea : isWordB a with
        | false =>
          have : isPairB (.tup [a, b]) = false := by
            cases a <;> cases b <;> first | rfl | simp [isPairB, ea]
          simp [this]
        | true =>
          obtain ⟨u, rfl⟩ := isWordB_str ea
          cases eb : isWordB b with
          | false =>
            have : isPairB (.tup [.str u, b]) = false := by
              cases b <;> first | rfl | simp [isPairB, eb]
            simp [hb, eb, this]
          | true =>
            obtain ⟨v, rfl⟩ := isWordB_str eb
            simp [hb, isPairB, ea, eb]
      · simp [isPairB, show ¬ ((xs.length : Int) + 1 + 1 + 1 = 2) by omega]
  | non => exact other .non (by simp) rfl
  | bl b => exact other (.bl b) (by simp) rfl
  | int i => exact other (.int i) (by simp) rfl
  | str xs => exact other (.str xs) (by simp) rfl
  | lst xs => exact other (.lst xs) (by simp) rfl
  | _ => cases d <;> cases h
def ltAt (ws : List Str) (i : Nat) : Bool := match ws[i]?, ws[i + 1]? with
  | some a, some b => decide (tx a < tx b)
  | _, _ => false
def risB (ws : List Str) : Bool := (List.range (ws.length - 1)).all (ltAt ws)
theorem is_rising_ok {ws : List Str} (hl : ws.length ≤ 1000) : f_is_rising [.lst (ws.map .str)] = some (.ret (.bl (risB ws))) := by
  refine runP_eq ?_
  simp [m_is_rising, N_is_rising, stoP]
  refine ⟨inR_of (by decide) (by decide), inR_of (by omega) (by omega), ?_⟩
  refine wq_loop (fun ys S => ∃ (is : List Nat) (o : Option PV), ys = is.map (fun i : Nat => PV.int (1 + (i : Int))) ∧ (∀ i ∈ is, i < ws.length - 1) ∧ risB ws = is.all (ltAt ws) ∧ S = [some (.p (.lst (ws.map .str))), o.map SV.p]) ?_ ?_ ⟨List.range (ws.length - 1), none, rfl, fun i hi => List.mem_range.mp hi, rfl, rfl⟩
  · rintro S ⟨is, o, e, hi, ea, rfl⟩
    have : is = [] := by simpa using e.symm
    subst this
    simp [ea]
  · rintro y ys S ⟨is, o, e, hi, ea, rfl⟩
    cases is with
    | nil => cases e
    | cons i is =>
      obtain ⟨rfl, rfl⟩ := List.cons.inj e
      have hii := hi i List.mem_cons_self
      refine ⟨_, by simp; rfl, ?_⟩
      have e1 : (1 : Int) + i - 1 = (i : Int) := by omega
      have e2 : (1 : Int) + i = ((i + 1 : Nat) : Int) := by omega
      have q1 : ws[i]? = some ws[i] := List.getElem?_eq_getElem (by omega)
      have q2 : ws[i + 1]? = some ws[i + 1] := List.getElem?_eq_getElem (by omega)
      have a1 : atI (ws.map PV.str) (1 + (i : Int) - 1) = some (.str ws[i]) := by rw [e1, atN, List.getElem?_map, q1]; rfl
      have a2 : atI (ws.map PV.str) (1 + (i : Int)) = some (.str ws[i + 1]) := by rw [e2, atN, List.getElem?_map, q2]; rfl
      have el : ltAt ws i = decide (tx ws[i] < tx ws[i + 1]) := by unfold ltAt; rw [q1, q2]
      simp [a1, a2]
      rw [ea, List.all_cons, el]
      by_cases h : tx ws[i] < tx ws[i + 1]
      · simp [h]
        exact ⟨is, rfl, fun j hj => hi j (List.mem_cons_of_mem _ hj), rfl, some _, rfl⟩
      · simp [h]
end A11
set_option Elab.async false
set_option linter.all false
set_option maxRecDepth 100000
set_option maxHeartbeats 4000000
namespace A11
open PySem L2 Kp
def fst0 : PV → Str
  | .tup (.str u :: _) => u
  | _ => ⟨#[]⟩
def isMapB : PV → Bool
  | .tup xs => xs.all isPairB && risB (xs.map fst0)
  | _ => false
theorem isPairB_eq {x : PV} (h : isPairB x = true) : ∃ u v, x = .tup [.str u, .str v] ∧ isWordB (.str u) = true ∧ isWordB (.str v) = true ∧ u ≠ v := by
  unfold isPairB at h
  split at h
  · split at h
    · rename_i u v
      simp only [Bool.and_eq_true, Bool.not_eq_true', decide_eq_false_iff_not] at h
      exact ⟨u, v, rfl, h.1, h.2.1, h.2.2⟩
    · cases h
  · cases h
theorem is_map_ok {d : Nat} {x : PV} (h : gdv d x = true) : f_is_map [x] = some (.ret (.bl (isMapB x))) := by
  refine runP_eq ?_
  have other : ∀ y : PV, ansT noOc "tuple" y = some false → isMapB y = false → wq m_is_map [some (.p y), none] (rtP (· = .bl (isMapB y))) := fun y h1 h2 => by
    simp [m_is_map, h1, h2]
  cases x with
  | tup xs =>
    cases d with
    | zero => cases h
    | succ d =>
      obtain ⟨hl, hx⟩ := gdv_seq h
      simp [m_is_map, N_is_map, stoP]
      refine wq_loop (fun ys S => ∃ (o : Option PV), (∀ y ∈ ys, y ∈ xs) ∧ (xs.all isPairB = ys.all isPairB) ∧ S = [some (.p (.tup xs)), o.map SV.p]) ?_ ?_ ⟨none, fun y hy => hy, rfl, rfl⟩
      · rintro S ⟨o, hi, ea, rfl⟩
        have ea' : xs.all isPairB = true := ea
        have hp : ∀ x ∈ xs, isPairB x = true := List.all_eq_true.mp ea'
        cases o <;> simp [szL]
        all_goals refine ⟨by omega, lcE_of (zs := (xs.map fst0).map PV.str) (S2 := [some (.p (.tup xs)), none]) ?_ ?_⟩
        all_goals first
          | (have := lcGo_pure (vs := [1]) (g := gN 1) (mt := mYes) (me := mIxV 1 (mK (.int 0))) (S := [some (.p (.tup xs)), none]) (fun _ => true) (fun x => PV.str (fst0 x)) (ys := xs) fun y hy => (by
              obtain ⟨u, v, rfl, _⟩ := isPairB_eq (hp y hy)
              exact ⟨[some (.p (.tup xs)), some (.p (.tup [.str u, .str v]))], by simp, by simp [fst0]⟩)
             rw [this, filter_tt, List.map_map]
             rfl)
          | (simp [is_rising_ok (ws := xs.map fst0) (by rw [List.length_map]; exact hl), isMapB, ea', -List.map_map])
      · rintro y ys S ⟨o, hi, ea, rfl⟩
        have hy := hi y List.mem_cons_self
        refine ⟨_, by simp; rfl, ?_⟩
        simp [is_pair_ok (hx y hy)]
        cases e : isPairB y with
        | true =>
          simp
          exact ⟨fun z hz => hi z (List.mem_cons_of_mem _ hz), by rw [ea, List.all_cons, e]; rfl, some y, rfl⟩
        | false =>
          have : isMapB (.tup xs) = false := by
            show (xs.all isPairB && _) = false
            rw [ea, List.all_cons, e]
            rfl
          simp [this]
  | non => exact other .non (by simp) rfl
  | bl b => exact other (.bl b) (by simp) rfl
  | int i => exact other (.int i) (by simp) rfl
  | str xs => exact other (.str xs) (by simp) rfl
  | lst xs => exact other (.lst xs) (by simp) rfl
  | _ => cases d <;> cases h
theorem gdv_deep : ∀ (d : Nat) (x : PV), gdv d x = true → gdv d (deepN d x) = true
  | 0, x, h => by cases x <;> exact h
  | d + 1, x, h => by
    have go : ∀ xs : List PV, (decide (xs.length ≤ 1000) && xs.all (gdv d)) = true → (decide ((xs.map (deepN d)).length ≤ 1000) && (xs.map (deepN d)).all (gdv d)) = true := fun xs h => by
      obtain ⟨hl, hx⟩ := gdv_seq h
      rw [List.length_map, decide_eq_true hl, Bool.true_and, List.all_map]
      exact List.all_eq_true.mpr fun x hm => gdv_deep d x (hx x hm)
    cases x with
    | tup xs => exact go xs h
    | lst xs => exact go xs h
    | _ => exact h
abbrev wmap (x : PV) : PV := .obj 4 [("pairs", x)]
theorem init_ok {x : PV} (h : gdv 7 x = true) : f_WordMap___init__ (.obj 4 []) [x] = some (if isMapB (deepN 7 x) = true then (wmap (deepN 7 x), .ret .non) else (.obj 4 [], .exc 1 [("pairs", x)])) := by
  have e1 := deep_ok h
  have e2 := is_map_ok (gdv_deep 7 x h)
  have st : some (SV.i (.obj 4 [])) :: stoP (N_WordMap___init__.length - 1) [x] = [some (.i (.obj 4 [])), some (.p x), none] := rfl
  unfold f_WordMap___init__ runI
  rw [st]
  by_cases c : isMapB (deepN 7 x) = true
  · rw [if_pos c]
    simp [m_WordMap___init__, mSeq, bnd, mSet, mCall, mArgs, mVar, e1, e2, c, roM, put, mIf, mNot, mTru, truP, lift, mSetF, updO, pSetF, putFP, endI, Kp.ret, mNx]
  · rw [if_neg c]
    simp only [Bool.not_eq_true] at c
    simp [m_WordMap___init__, mSeq, bnd, mSet, mCall, mArgs, mVar, e1, e2, c, roM, put, mIf, mNot, mTru, truP, lift, mSetF, updO, pSetF, putFP, endI, Kp.ret, mNx, mRaise, fldsP]
end A11
set_option Elab.async false
set_option linter.all false
set_option maxRecDepth 100000
set_option maxHeartbeats 4000000
namespace Kp
open PySem L2
/-! ### texts in order -/
def tl_ (a b : Str) : Prop := tx a < tx b
theorem tl_trans {a b c : Str} (h : tl_ a b) (k : tl_ b c) : tl_ a c := List.lt_trans h k
theorem tl_irrefl (a : Str) : ¬ tl_ a a := List.lt_irrefl (tx a)
theorem tl_ne {a b : Str} (h : tl_ a b) : a ≠ b := fun e => tl_irrefl b (e ▸ h)
theorem strLe_iff {a b : Str} : strLe a b = true ↔ tx a ≤ tx b := by
  unfold strLe
  rw [decide_eq_true_iff]
  rfl
theorem strLe_trans (a b c : Str) (h : strLe a b = true) (k : strLe b c = true) : strLe a c = true := strLe_iff.mpr (List.le_trans (strLe_iff.mp h) (strLe_iff.mp k))
theorem strLe_tot (a b : Str) : (strLe a b || strLe b a) = true := by
  rw [Bool.or_eq_true]
  exact (List.le_total (tx a) (tx b)).imp strLe_iff.mpr strLe_iff.mpr
theorem tl_of_le {a b : Str} (h : strLe a b = true) (n : a ≠ b) : tl_ a b := by
  have h' := strLe_iff.mp h
  refine Classical.byContradiction fun q => n (tx_inj ?_)
  exact List.le_antisymm h' (List.not_lt.mp q)
theorem mem_sortS {w : Str} {ws : List Str} : w ∈ sortS ws ↔ w ∈ ws := (List.mergeSort_perm ws strLe).mem_iff
theorem sortS_lt {ws : List Str} (h : ws.Nodup) : (sortS ws).Pairwise tl_ := by
  have h1 : (sortS ws).Pairwise fun a b => strLe a b = true := List.pairwise_mergeSort strLe_trans strLe_tot ws
  have h2 : (sortS ws).Nodup := (List.mergeSort_perm ws strLe).nodup_iff.mpr h
  exact (h1.and h2).imp fun ⟨a, b⟩ => tl_of_le a b
theorem lt_unique : ∀ {l m : List Str}, l.Pairwise tl_ → m.Pairwise tl_ → (∀ w, w ∈ l ↔ w ∈ m) → l = m
  | [], [], _, _, _ => rfl
  | [], b :: m, _, _, h => absurd ((h b).mpr List.mem_cons_self) (by simp)
  | a :: l, [], _, _, h => absurd ((h a).mp List.mem_cons_self) (by simp)
  | a :: l, b :: m, h1, h2, h => by
    obtain ⟨ha, hl⟩ := List.pairwise_cons.mp h1
    obtain ⟨hb, hm⟩ := List.pairwise_cons.mp h2
    have e : a = b := by
      rcases List.mem_cons.mp ((h a).mp List.mem_cons_self) with e | q
      · exact e
      · rcases List.mem_cons.mp ((h b).mpr List.mem_cons_self) with e | q2
        · exact e.symm
        · exact absurd (tl_trans (hb a q) (ha b q2)) (tl_irrefl b)
    subst e
    have : l = m := lt_unique hl hm fun w => by
      constructor
      · intro hw
        rcases List.mem_cons.mp ((h w).mp (List.mem_cons_of_mem _ hw)) with e | q
        · exact absurd (ha w hw) (e ▸ tl_irrefl w)
        · exact q
      · intro hw
        rcases List.mem_cons.mp ((h w).mpr (List.mem_cons_of_mem _ hw)) with e | q
        · exact absurd (hb w hw) (e ▸ tl_irrefl w)
        · exact q
    rw [this]
theorem lt_nodup {l : List Str} (h : l.Pairwise tl_) : l.Nodup := h.imp fun q => tl_ne q
theorem sortS_sorted {l : List Str} (h : l.Pairwise tl_) : sortS l = l := lt_unique (sortS_lt (lt_nodup h)) h fun _ => mem_sortS
theorem sortOk_strs {ws : List Str} (h : ws.length ≤ 16777216) : sortOk (ws.map PV.str) = true := by
  unfold sortOk
  have e1 : alikeLP (ws.map PV.str) = true := by
    unfold alikeLP
    simp [List.all_map, PV.dat, PySem.W.alike]
  have e2 : sortableP (ws.map PV.str) = true := by
    unfold sortableP
    simp [List.all_map, isTupNon]
  have e3 : ((ws.map PV.str).all fun x => decide ((PV.dat x).depth ≤ 60)) = true := by
    simp [List.all_map, PV.dat, PyData.depth]
  rw [isDL_strs, e1, e2, e3, List.length_map, szL, decide_eq_true h]
  rfl
theorem sortP_strs (ws : List Str) : sortP (ws.map PV.str) = (sortS ws).map PV.str := by
  unfold sortP sortS
  refine (List.map_mergeSort (fun a _ b _ => ?_)).symm
  show strLe a b = PySem.W.dataLe false PV.dat (.str a) (.str b)
  exact (congrFun (congrFun (PySem.W.dataLe_str (fun x : Str => x)) a) b).symm
theorem pSortedX_strs {ws : List Str} (h : ws.length ≤ 16777216) : pSortedX [.lst (ws.map PV.str)] = some (.lst ((sortS ws).map PV.str)) := by
  unfold pSortedX orL pSorted
  dsimp only
  rw [if_pos (sortOk_strs h), sortP_strs]
/-! ### dicts of texts -/
def kvS (p : Str × Str) : PV × PV := (.str p.1, .str p.2)
abbrev dctS (kvs : List (Str × Str)) : PV := .dct (kvs.map kvS)
def getS (kvs : List (Str × Str)) (w : Str) : Option Str := (kvs.find? fun p => decide (p.1 = w)).map (·.2)
theorem dGet_s (kvs : List (Str × Str)) (w : Str) : dGet (kvs.map kvS) (.str w) = (getS kvs w).map PV.str := by
  unfold dGet getS
  induction kvs with
  | nil => rfl
  | cons p kvs ih =>
    rw [List.map_cons, List.find?_cons, List.find?_cons]
    show Option.map _ (match decide (p.1 = w) with | true => _ | false => _) = _
    by_cases h : p.1 = w
    · rw [decide_eq_true h]
      rfl
    · rw [decide_eq_false h]
      exact ih
theorem getS_none {kvs : List (Str × Str)} {w : Str} (h : w ∉ kvs.map (·.1)) : getS kvs w = none := by
  unfold getS
  rw [List.find?_eq_none.mpr fun p hp => by
    rw [decide_eq_true_eq]
    exact fun e => h (e ▸ List.mem_map_of_mem hp)]
  rfl
theorem getS_some {kvs : List (Str × Str)} {p : Str × Str} (hn : (kvs.map (·.1)).Nodup) (h : p ∈ kvs) : getS kvs p.1 = some p.2 := by
  induction kvs with
  | nil => cases h
  | cons q kvs ih =>
    unfold getS
    rw [List.find?_cons]
    rw [List.map_cons, List.nodup_cons] at hn
    rcases List.mem_cons.mp h with rfl | h
    · rw [decide_eq_true rfl]
      rfl
    · have : q.1 ≠ p.1 := fun e => hn.1 (e ▸ List.mem_map_of_mem h)
      rw [decide_eq_false this]
      exact ih hn.2 h
theorem getS_isSome {kvs : List (Str × Str)} {w : Str} : (getS kvs w).isSome = decide (w ∈ kvs.map (·.1)) := by
  by_cases h : w ∈ kvs.map (·.1)
  · rw [decide_eq_true h]
    obtain ⟨p, hp, rfl⟩ := List.mem_map.mp h
    unfold getS
    cases e : kvs.find? fun q => decide (q.1 = p.1) with
    | none =>
      have := List.find?_eq_none.mp e p hp
      simp at this
    | some q => rfl
  · rw [getS_none h, decide_eq_false h]
    rfl
theorem pHasNot_d {kvs : List (Str × Str)} {w : Str} : pHasNot (.str w) (dctS kvs) = some (.bl (!decide (w ∈ kvs.map (·.1)))) := by
  show (if (isKey (.str w)).isSome then some (dGet (kvs.map kvS) (.str w)).isSome else none).map (fun b => PV.bl (!b)) = _
  rw [if_pos (by rfl), dGet_s, Option.isSome_map, getS_isSome]
  rfl
theorem dPut_new {kvs : List (Str × Str)} {w v : Str} (h : w ∉ kvs.map (·.1)) : dPut (kvs.map kvS) (.str w) (.str v) = (kvs ++ [(w, v)]).map kvS := by
  unfold dPut
  rw [if_neg]
  · rw [List.map_append]
    rfl
  · rw [Bool.not_eq_true, List.any_eq_false]
    intro q hq e
    obtain ⟨p, hp, rfl⟩ := List.mem_map.mp hq
    have : p.1 = w := of_decide_eq_true e
    exact h (this ▸ List.mem_map_of_mem hp)
theorem pPut_new {kvs : List (Str × Str)} {w v : Str} (h : w ∉ kvs.map (·.1)) (hl : kvs.length < 16777216) : pPut (dctS kvs) (.str w) (.str v) = some (dctS (kvs ++ [(w, v)])) := by
  show (if (isKey (.str w)).isSome && decide ((kvs.map kvS).length < sizeLine) then some (PV.dct (dPut (kvs.map kvS) (.str w) (.str v))) else none) = _
  rw [if_pos (by rw [List.length_map, szL, decide_eq_true hl]; rfl), dPut_new h]
theorem pSortedX_d {kvs : List (Str × Str)} (hl : kvs.length ≤ 1000) (hk : ∀ p ∈ kvs, p.1.length ≤ 1000) : pSortedX [dctS kvs] = some (.lst ((sortS (kvs.map (·.1))).map PV.str)) := by
  have e : (kvs.map kvS).map (·.1) = (kvs.map (·.1)).map PV.str := by
    rw [List.map_map, List.map_map]
    rfl
  have e2 : ((kvs.map (·.1)).map PV.str).all keyFit = true := by
    rw [List.map_map, List.all_map]
    refine List.all_eq_true.mpr fun p hp => ?_
    show decide (p.1.length ≤ sizeLine) = true
    rw [szL, decide_eq_true (Nat.le_trans (hk p hp) (by decide))]
  show pSortedD [dctS kvs] = _
  unfold pSortedD
  dsimp only
  rw [e, if_pos ⟨sortOk_strs (by rw [List.length_map]; omega), e2⟩, sortP_strs]
theorem mergeP_nodup : ∀ (more kvs : List (Str × Str)), ((kvs ++ more).map (·.1)).Nodup → mergeP (kvs.map kvS) (more.map kvS) = (kvs ++ more).map kvS
  | [], kvs, _ => by rw [List.append_nil]; rfl
  | p :: more, kvs, h => by
    have hp : p.1 ∉ kvs.map (·.1) := fun q => by
      rw [List.map_append] at h
      exact (List.nodup_append.mp h).2.2 _ q _ (List.mem_map_of_mem List.mem_cons_self) rfl
    show mergeP (dPut (kvs.map kvS) (.str p.1) (.str p.2)) (more.map kvS) = _
    rw [dPut_new hp, mergeP_nodup more (kvs ++ [p]) (by rw [List.append_assoc]; exact h), List.append_assoc]
    rfl
end Kp
set_option Elab.async false
set_option linter.all false
set_option maxRecDepth 100000
set_option maxHeartbeats 4000000
namespace Kp
open PySem L2
section
variable {S : Sto} {a : Option SV}
@[simp] theorem gT_tup {gs : List (PV → Sto → Option Sto)} {xs : List PV} : gT gs (.tup xs) S = gTs gs xs S := rfl
@[simp] theorem gTs_nil : gTs [] [] S = some S := rfl
@[simp] theorem gTs_cons {g : PV → Sto → Option Sto} {gs : List (PV → Sto → Option Sto)} {y : PV} {ys : List PV} : gTs (g :: gs) (y :: ys) S = (g y S).bind (gTs gs ys) := by
  show (match g y S with | some S' => gTs gs ys S' | none => none) = _
  cases g y S <;> rfl
end
/-! ### rows of pairs of texts -/
def tupS (p : Str × Str) : PV := .tup [.str p.1, .str p.2]
abbrev mapPV (ps : List (Str × Str)) : PV := .tup (ps.map tupS)
abbrev firsts (ps : List (Str × Str)) : List Str := ps.map (·.1)
def app (ps : List (Str × Str)) (w : Str) : Str := (getS ps w).getD w
theorem app_cons (p : Str × Str) (ps : List (Str × Str)) (w : Str) : app (p :: ps) w = if p.1 = w then p.2 else app ps w := by
  unfold app getS
  rw [List.find?_cons]
  by_cases h : p.1 = w
  · rw [decide_eq_true h, if_pos h]
    rfl
  · rw [decide_eq_false h, if_neg h]
theorem app_mem {ps : List (Str × Str)} (hn : (firsts ps).Nodup) {p : Str × Str} (h : p ∈ ps) : app ps p.1 = p.2 := by
  unfold app
  rw [getS_some hn h]
  rfl
theorem app_not {ps : List (Str × Str)} {w : Str} (h : w ∉ firsts ps) : app ps w = w := by
  unfold app
  rw [getS_none h]
  rfl
theorem pairsP_tup : ∀ ps : List (Str × Str), pairsP (ps.map tupS) = some (ps.map kvS)
  | [] => rfl
  | p :: ps => by
    show (if (isKey (.str p.1)).isSome = true then (pairsP (ps.map tupS)).map ((PV.str p.1, PV.str p.2) :: ·) else none) = _
    rw [if_pos (by rfl), pairsP_tup ps]
    rfl
theorem pDict_tup {ps : List (Str × Str)} (h : (firsts ps).Nodup) : pDict [mapPV ps] = some (dctS ps) := by
  show (pairsP (ps.map tupS)).map (fun kvs => PV.dct (mergeP [] kvs)) = _
  rw [pairsP_tup]
  show some (PV.dct (mergeP (([] : List (Str × Str)).map kvS) (ps.map kvS))) = _
  rw [mergeP_nodup ps [] (by rw [List.nil_append]; exact h)]
  rfl
theorem pGet_d {kvs : List (Str × Str)} {w v : Str} : pGet (dctS kvs) (.str w) (.str v) = some (.str ((getS kvs w).getD v)) := by
  show (if (isKey (.str w)).isSome = true then some ((dGet (kvs.map kvS) (.str w)).getD (.str v)) else none) = _
  rw [if_pos (by rfl), dGet_s]
  cases getS kvs w <;> rfl
theorem pIx_d {kvs : List (Str × Str)} {w : Str} : pIx (dctS kvs) (.str w) = (getS kvs w).map PV.str := by
  rw [pIx_ds, dGet_s]
theorem firsts_tup (ps : List (Str × Str)) (f : PV → PV) (h : ∀ p : Str × Str, f (tupS p) = .str p.1) : (ps.map tupS).map f = (firsts ps).map PV.str := by
  rw [List.map_map, List.map_map]
  exact List.map_congr_left fun p _ => h p
/-- what a dict of texts tells, in order, without what stays -/
def ordM (kvs : List (Str × Str)) : List (Str × Str) := ((sortS (firsts kvs)).filter fun w => !decide (app kvs w = w)).map fun w => (w, app kvs w)
/-- the first ones of a row -/
def fstM : List (Str × Str) → List (Str × Str) → List (Str × Str)
  | acc, [] => acc
  | acc, p :: ps => fstM (if p.1 ∈ firsts acc then acc else acc ++ [p]) ps
end Kp
namespace A11
open PySem L2 Kp
theorem mapped_ok {ps : List (Str × Str)} {w : Str} : f_mapped [mapPV ps, .str w] = some (.ret (.str (app ps w))) := by
  refine runP_eq ?_
  simp [m_mapped, N_mapped, stoP]
  refine wq_loop (fun ys S => ∃ (r : List (Str × Str)) (o2 o3 : Option PV), ys = r.map tupS ∧ app ps w = app r w ∧ S = [some (.p (mapPV ps)), some (.p (.str w)), o2.map SV.p, o3.map SV.p]) ?_ ?_ ⟨ps, none, none, rfl, rfl, rfl⟩
  · rintro S ⟨r, o2, o3, e, ea, rfl⟩
    have : r = [] := by simpa using e.symm
    subst this
    simp
    exact ea.symm
  · rintro y ys S ⟨r, o2, o3, e, ea, rfl⟩
    cases r with
    | nil => cases e
    | cons p r =>
      obtain ⟨rfl, rfl⟩ := List.cons.inj e
      refine ⟨_, by simp [tupS]; rfl, ?_⟩
      rw [ea, app_cons]
      simp
      by_cases h : p.1 = w
      · simp [h]
      · simp [h]
        exact ⟨r, rfl, rfl, ⟨some _, rfl⟩, ⟨some _, rfl⟩⟩
theorem law_map_ok {ps : List (Str × Str)} (hn : (firsts ps).Nodup) {w : Str} : f__law_map [mapPV ps, .str w] = some (.ret (.str (app ps w))) := by
  refine runP_eq ?_
  simp [m__law_map, N__law_map, stoP, pDict_tup hn, isDct, pGet_d]
  rfl
theorem getS_app {kvs : List (Str × Str)} {w : Str} (hm : w ∈ firsts kvs) : getS kvs w = some (app kvs w) := by
  have := getS_isSome (kvs := kvs) (w := w)
  rw [decide_eq_true hm] at this
  cases e : getS kvs w with
  | none => rw [e] at this; cases this
  | some v => unfold app; rw [e]; rfl
/-- pairs kept in a dict, in order -/
theorem lc_ord5 {a b d : Option SV} {kvs : List (Str × Str)} {P : Kt (List PV)} (k : P ((ordM kvs).map tupS) [a, b, some (.p (dctS kvs)), none, d]) :
    lcE (lcGo [3] (gN 3) (mTest (mBin pNe (mIxV 2 (mVar 3)) (mVar 3))) (mTup [mVar 3, mIxV 2 (mVar 3)]) ((sortS (firsts kvs)).map PV.str) [a, b, some (.p (dctS kvs)), none, d]) P := by
  refine lcE_of (lcGo_mapf _ PV.str (fun w => !decide (app kvs w = w)) (fun w => tupS (w, app kvs w)) fun w hw => ?_) (by rw [ordM, List.map_map] at k; exact k)
  have hs := pIx_d (kvs := kvs) (w := w)
  rw [getS_app (mem_sortS.mp hw)] at hs
  simp [-pIx_ds, hs, tupS]
theorem lc_ord4 {a d : Option SV} {kvs : List (Str × Str)} {P : Kt (List PV)} (k : P ((ordM kvs).map tupS) [a, some (.p (dctS kvs)), d, none]) :
    lcE (lcGo [3] (gN 3) (mTest (mBin pNe (mIxV 1 (mVar 3)) (mVar 3))) (mTup [mVar 3, mIxV 1 (mVar 3)]) ((sortS (firsts kvs)).map PV.str) [a, some (.p (dctS kvs)), d, none]) P := by
  refine lcE_of (lcGo_mapf _ PV.str (fun w => !decide (app kvs w = w)) (fun w => tupS (w, app kvs w)) fun w hw => ?_) (by rw [ordM, List.map_map] at k; exact k)
  have hs := pIx_d (kvs := kvs) (w := w)
  rw [getS_app (mem_sortS.mp hw)] at hs
  simp [-pIx_ds, hs, tupS]
/-- both maps, one behind the other, as a dict -/
def folD (ps qs : List (Str × Str)) : List (Str × Str) := ps.map (fun p => (p.1, app qs p.2)) ++ qs.filter fun q => !decide (q.1 ∈ firsts ps)
def foll (ps qs : List (Str × Str)) : List (Str × Str) := if ps = [] then qs else if qs = [] then ps else ordM (folD ps qs)
theorem nodup_app {α : Type} {p : α} {l m : List α} (h : (l ++ p :: m).Nodup) : p ∉ l := fun q => (List.nodup_append.mp h).2.2 _ q _ List.mem_cons_self rfl
theorem followed_ok {ps qs : List (Str × Str)} (hp : (firsts ps).Nodup) (hq : (firsts qs).Nodup) (lp : ps.length ≤ 100) (lq : qs.length ≤ 100) (wp : ∀ p ∈ ps, p.1.length ≤ 1000) (wq_ : ∀ p ∈ qs, p.1.length ≤ 1000) :
    f_followed [mapPV ps, mapPV qs] = some (.ret (mapPV (foll ps qs))) := by
  refine runP_eq ?_
  unfold foll
  by_cases e1 : ps = []
  · subst e1
    simp [m_followed, N_followed, stoP]
  · have i1 : ps.isEmpty = false := by cases ps <;> first | rfl | exact absurd rfl e1
    by_cases e2 : qs = []
    · subst e2
      simp [m_followed, N_followed, stoP, e1, i1]
    · have i2 : qs.isEmpty = false := by cases qs <;> first | rfl | exact absurd rfl e2
      simp [m_followed, N_followed, stoP, e1, e2, i1, i2]
      refine wq_loop (fun ys S => ∃ (d r : List (Str × Str)) (o3 o4 : Option PV), ps = d ++ r ∧ ys = r.map tupS ∧ S = [some (.p (mapPV ps)), some (.p (mapPV qs)), some (.o (dctS (d.map fun p => (p.1, app qs p.2)))), o3.map SV.p, o4.map SV.p]) ?_ ?_ ⟨[], ps, none, none, rfl, rfl, rfl⟩
      · rintro S ⟨d, r, o3, o4, e, e3, rfl⟩
        have : r = [] := by simpa using e3.symm
        subst this
        rw [List.append_nil] at e
        subst e
        simp
        refine wq_loop (fun ys S => ∃ (d r : List (Str × Str)) (o3 o4 : Option PV), qs = d ++ r ∧ ys = r.map tupS ∧ S = [some (.p (mapPV ps)), some (.p (mapPV qs)), some (.o (dctS (ps.map (fun p => (p.1, app qs p.2)) ++ d.filter fun q => !decide (q.1 ∈ firsts ps)))), o3.map SV.p, o4.map SV.p]) ?_ ?_ ⟨[], qs, o3, o4, rfl, rfl, by simp⟩
        · rintro S ⟨d, r, o3, o4, e, e3, rfl⟩
          have : r = [] := by simpa using e3.symm
          subst this
          rw [List.append_nil] at e
          have ef : (ps.map (fun p => (p.1, app qs p.2)) ++ d.filter fun q => !decide (q.1 ∈ firsts ps)) = folD ps qs := by rw [folD, e]
          rw [ef]
          have lf : (folD ps qs).length ≤ 200 := by
            have := List.length_filter_le (fun q : Str × Str => !decide (q.1 ∈ firsts ps)) qs
            rw [folD, List.length_append, List.length_map]
            omega
          have hs := pSortedX_d (kvs := folD ps qs) (by omega) (fun p hp' => by
            rcases List.mem_append.mp hp' with q | q
            · obtain ⟨p', h', rfl⟩ := List.mem_map.mp q
              exact wp p' h'
            · exact wq_ p (List.mem_filter.mp q).1)
          have ls : (sortS ((folD ps qs).map (·.1))).length ≤ 200 := by
            rw [show (sortS ((folD ps qs).map (·.1))).length = ((folD ps qs).map (·.1)).length from List.length_mergeSort _, List.length_map]
            exact lf
          simp [hs, szL]
          exact ⟨by omega, lc_ord5 (by simp)⟩
        · rintro y ys S ⟨d, r, o3, o4, e, e3, rfl⟩
          cases r with
          | nil => cases e3
          | cons p r =>
            obtain ⟨rfl, rfl⟩ := List.cons.inj e3
            refine ⟨_, by simp [tupS]; rfl, ?_⟩
            have hk := pHasNot_d (kvs := ps.map (fun p => (p.1, app qs p.2)) ++ d.filter fun q => !decide (q.1 ∈ firsts ps)) (w := p.1)
            have hd : p.1 ∉ firsts d := by
              have : firsts qs = firsts d ++ p.1 :: firsts r := by rw [e]; simp
              rw [this] at hq
              exact nodup_app hq
            have hd' : p.1 ∉ firsts (d.filter fun q => !decide (q.1 ∈ firsts ps)) := fun q => hd (by
              obtain ⟨z, hz, hz2⟩ := List.mem_map.mp q
              exact hz2 ▸ List.mem_map_of_mem (List.mem_filter.mp hz).1)
            have hm : (p.1 ∈ firsts (ps.map (fun p => (p.1, app qs p.2)) ++ d.filter fun q => !decide (q.1 ∈ firsts ps))) ↔ p.1 ∈ firsts ps := by
              rw [firsts, List.map_append, List.mem_append, List.map_map]
              exact ⟨fun q => q.elim id fun q => (hd' q).elim, .inl⟩
            rw [decide_eq_decide.mpr hm] at hk
            by_cases c : p.1 ∈ firsts ps
            · rw [decide_eq_true c] at hk
              simp [hk]
              refine ⟨d ++ [p], r, by simp [e], rfl, ?_, ⟨some _, rfl⟩, ⟨some _, rfl⟩⟩
              rw [List.filter_append]
              simp [c]
            · rw [decide_eq_false c] at hk
              have hp' := pPut_new (v := p.2) (fun q => c (hm.mp q)) (by
                have h1 := List.length_filter_le (fun q : Str × Str => !decide (q.1 ∈ firsts ps)) d
                have h2 : d.length ≤ qs.length := by rw [e, List.length_append]; omega
                rw [List.length_append, List.length_map]
                omega)
              simp [hk, hp']
              refine ⟨d ++ [p], r, by simp [e], rfl, ?_, ⟨some _, rfl⟩, ⟨some _, rfl⟩⟩
              rw [List.filter_append]
              simp [c]
      · rintro y ys S ⟨d, r, o3, o4, e, e3, rfl⟩
        cases r with
        | nil => cases e3
        | cons p r =>
          obtain ⟨rfl, rfl⟩ := List.cons.inj e3
          refine ⟨_, by simp [tupS]; rfl, ?_⟩
          have hd : p.1 ∉ firsts d := by
            have : firsts ps = firsts d ++ p.1 :: firsts r := by rw [e]; simp
            rw [this] at hp
            exact nodup_app hp
          have hp' := pPut_new (kvs := d.map fun p => (p.1, app qs p.2)) (w := p.1) (v := app qs p.2) (fun q => hd (by rw [List.map_map] at q; exact q)) (by
            have h2 : d.length ≤ ps.length := by rw [e, List.length_append]; omega
            rw [List.length_map]
            omega)
          simp [mapped_ok, hp']
          exact ⟨d ++ [p], r, by simp [e], rfl, by simp, ⟨some _, rfl⟩, ⟨some _, rfl⟩⟩
end A11
set_option Elab.async false
set_option linter.all false
set_option maxRecDepth 100000
set_option maxHeartbeats 4000000
namespace Kp
open PySem L2
def setdF (k d x : PV) : Option (PV × PV) := match x with
  | .dct kvs => if (isKey k).isSome = true ∧ kvs.length < sizeLine then (match dGet kvs k with
      | some z => some (.dct kvs, z)
      | none => some (.dct (dPut kvs k d), d)) else none
  | _ => none
theorem e_mSetd {S : Sto} {a : Option SV} {i : Nat} {mk md : M PV} {P : Kt PV} : wq (mSetd i mk md) (a :: S) P ↔ gdS (isOT "dict" i (a :: S)) (a :: S) fun S0 => wq mk S0 fun k S1 => wq md S1 fun d S2 => wq (updR i (setdF k d)) S2 P := by
  have e : mSetd i mk md = fun S => if isOT "dict" i S = true then bnd mk (fun k => bnd md fun d => updR i (setdF k d)) S else none := rfl
  rw [e]
  constructor
  · rintro ⟨z, S', h, p⟩
    dsimp only at h
    split at h
    · rename_i c
      obtain ⟨k, S1, h1, q⟩ := wq_bnd.mp ⟨z, S', h, p⟩
      exact ⟨c, k, S1, h1, wq_bnd.mp q⟩
    · cases h
  · rintro ⟨c, k, S1, h1, q⟩
    have c' : isOT "dict" i (a :: S) = true := c
    obtain ⟨z, S', h, p⟩ := (wq_bnd (k := fun k => bnd md fun d => updR i (setdF k d)) (P := P)).mpr ⟨k, S1, h1, wq_bnd.mpr q⟩
    exact ⟨z, S', by dsimp only; rw [if_pos c']; exact h, p⟩
theorem setdF_old {kvs : List (Str × Str)} {w v : Str} (h : w ∈ kvs.map (·.1)) (hl : kvs.length < 16777216) : setdF (.str w) (.str v) (dctS kvs) = some (dctS kvs, .str (app kvs w)) := by
  unfold setdF
  dsimp only
  have e := getS_isSome (kvs := kvs) (w := w)
  rw [decide_eq_true h] at e
  rw [if_pos ⟨rfl, by rw [List.length_map, szL]; exact hl⟩, dGet_s]
  cases q : getS kvs w with
  | none => rw [q] at e; cases e
  | some u =>
    unfold app
    rw [q]
    rfl
theorem setdF_new {kvs : List (Str × Str)} {w v : Str} (h : w ∉ kvs.map (·.1)) (hl : kvs.length < 16777216) : setdF (.str w) (.str v) (dctS kvs) = some (dctS (kvs ++ [(w, v)]), .str v) := by
  unfold setdF
  dsimp only
  rw [if_pos ⟨rfl, by rw [List.length_map, szL]; exact hl⟩, dGet_s, getS_none h, dPut_new h]
  rfl
theorem pSortedSet_strs {ws : List Str} (hl : ws.length < 4000) (h : ∀ w ∈ ws, w.length ≤ 16777216) : pSortedSet (.lst (ws.map PV.str)) = some (.lst ((sortS (dedK ws)).map PV.str)) := by
  unfold pSortedSet setP
  have e : (itemsP (.lst (ws.map PV.str))).bind strsP = some ws := strsP_map ws
  rw [e]
  dsimp only
  rw [if_pos ⟨hl, by rw [szL]; exact h⟩]
  rfl
/-- the second map behind the first -/
def thenM (ps qs : List (Str × Str)) : List (Str × Str) := ((sortS (dedK (firsts ps ++ firsts qs))).map fun w => (w, app qs (app ps w))).filter fun p => !decide (p.1 = p.2)
theorem fstM_len : ∀ (ps acc : List (Str × Str)), (fstM acc ps).length ≤ acc.length + ps.length
  | [], acc => Nat.le_refl _
  | p :: ps, acc => by
    unfold fstM
    have h := fstM_len ps (if p.1 ∈ firsts acc then acc else acc ++ [p])
    have h2 : (if p.1 ∈ firsts acc then acc else acc ++ [p]).length ≤ acc.length + 1 := by
      split
      · omega
      · rw [List.length_append]
        exact Nat.le_refl _
    rw [List.length_cons]
    omega
theorem fstM_app : ∀ (ps qs acc : List (Str × Str)), fstM acc (ps ++ qs) = fstM (fstM acc ps) qs
  | [], qs, acc => rfl
  | p :: ps, qs, acc => by
    show fstM _ (ps ++ qs) = fstM (fstM _ ps) qs
    exact fstM_app ps qs _
theorem fstM_mem : ∀ (ps acc : List (Str × Str)) (p : Str × Str), p ∈ fstM acc ps → p ∈ acc ∨ p ∈ ps
  | [], acc, p, h => .inl h
  | q :: ps, acc, p, h => by
    unfold fstM at h
    rcases fstM_mem ps _ p h with z | z
    · split at z
      · exact .inl z
      · rcases List.mem_append.mp z with y | y
        · exact .inl y
        · exact .inr (by rw [List.mem_singleton.mp y]; exact List.mem_cons_self)
    · exact .inr (List.mem_cons_of_mem _ z)
theorem fstM_nodup : ∀ (ps acc : List (Str × Str)), (firsts acc).Nodup → (firsts (fstM acc ps)).Nodup
  | [], acc, h => h
  | q :: ps, acc, h => by
    unfold fstM
    refine fstM_nodup ps _ ?_
    split
    · exact h
    · rename_i c
      rw [firsts, List.map_append]
      refine List.nodup_append.mpr ⟨h, by simp, fun a ha b hb e => c ?_⟩
      have : b = q.1 := by simpa using hb
      rw [← this, ← e]
      exact ha
end Kp
namespace A11
open PySem L2 Kp
theorem tup_pairs {d : Nat} : ∀ ps : List (Str × Str), (ps.map tupS).all (gdv (d + 1)) = true
  | [] => rfl
  | p :: ps => by
    rw [List.map_cons, List.all_cons, tup_pairs ps]
    cases d <;> rfl
theorem gdv_map {ps : List (Str × Str)} (h : ps.length ≤ 1000) : gdv 7 (mapPV ps) = true := by
  show (decide ((ps.map tupS).length ≤ 1000) && (ps.map tupS).all (gdv 6)) = true
  rw [List.length_map, decide_eq_true h, tup_pairs]
  rfl
theorem deep_tupS (d : Nat) (p : Str × Str) : deepN (d + 1) (tupS p) = tupS p := by
  cases d <;> rfl
theorem deep_map (ps : List (Str × Str)) : deepN 7 (mapPV ps) = mapPV ps := by
  show PV.tup ((ps.map tupS).map (deepN 6)) = _
  rw [List.map_map]
  rw [show (deepN 6 ∘ tupS) = tupS from funext fun p => deep_tupS 5 p]
def IsMap (ps : List (Str × Str)) : Prop := isMapB (mapPV ps) = true
theorem init_map {ps : List (Str × Str)} (h : IsMap ps) (hl : ps.length ≤ 1000) : f_WordMap___init__ (.obj 4 []) [mapPV ps] = some (wmap (mapPV ps), .ret .non) := by
  rw [init_ok (gdv_map hl), deep_map, if_pos (c := isMapB (mapPV ps) = true) h]
theorem init_lists {ps : List (Str × Str)} (h : IsMap ps) (hl : ps.length ≤ 1000) : f_WordMap___init__ (.obj 4 []) [listsN 7 (mapPV ps)] = some (wmap (mapPV ps), .ret .non) := by
  rw [init_ok (gdv_lists 7 _ (gdv_map hl)), deep_lists, deep_map, if_pos (c := isMapB (mapPV ps) = true) h]
theorem of_ok {x : PV} {rows : List (Str × Str)} (hg : gdv 7 x = true) (hx : deepN 7 x = mapPV rows) (hl : rows.length ≤ 100) (hw : ∀ p ∈ rows, p.1.length ≤ 1000) (hm : IsMap (ordM (fstM [] rows))) :
    f_WordMap_of [.glb 4, x] = some (.ret (wmap (mapPV (ordM (fstM [] rows))))) := by
  refine runP_eq ?_
  simp [m_WordMap_of, N_WordMap_of, stoP, deep_ok hg, hx]
  refine wq_loop (fun ys S => ∃ (d r : List (Str × Str)) (o3 o4 : Option PV), rows = d ++ r ∧ ys = r.map tupS ∧ S = [some (.p (.glb 4)), some (.p x), some (.o (dctS (fstM [] d))), o3.map SV.p, o4.map SV.p]) ?_ ?_ ⟨[], rows, none, none, rfl, rfl, rfl⟩
  · rintro S ⟨d, r, o3, o4, e, e3, rfl⟩
    have : r = [] := by simpa using e3.symm
    subst this
    rw [List.append_nil] at e
    subst e
    have lf : (fstM [] rows).length ≤ 100 := Nat.le_trans (fstM_len rows []) (by simpa using hl)
    have hs := pSortedX_d (kvs := fstM [] rows) (by omega) (fun p hp => by
      rcases fstM_mem rows [] p hp with q | q
      · cases q
      · exact hw p q)
    have ls : (sortS ((fstM [] rows).map (·.1))).length ≤ 100 := by
      rw [show (sortS ((fstM [] rows).map (·.1))).length = ((fstM [] rows).map (·.1)).length from List.length_mergeSort _, List.length_map]
      exact lf
    have lo : (ordM (fstM [] rows)).length ≤ 1000 := by
      have := List.length_filter_le (fun w => !decide (app (fstM [] rows) w = w)) (sortS (firsts (fstM [] rows)))
      rw [ordM, List.length_map]
      exact Nat.le_trans this (Nat.le_trans ls (by decide))
    have hi := init_map hm lo
    simp [hs, szL]
    exact ⟨by omega, lc_ord5 (by simp [hi])⟩
  · rintro y ys S ⟨d, r, o3, o4, e, e3, rfl⟩
    cases r with
    | nil => cases e3
    | cons p r =>
      obtain ⟨rfl, rfl⟩ := List.cons.inj e3
      refine ⟨_, by simp [tupS]; rfl, ?_⟩
      have hk := pHasNot_d (kvs := fstM [] d) (w := p.1)
      have hd : fstM [] (d ++ [p]) = if p.1 ∈ firsts (fstM [] d) then fstM [] d else fstM [] d ++ [p] := fstM_app d [p] []
      have hl' : (fstM [] d).length < 16777216 := by
        have h1 := fstM_len d []
        have h2 : d.length ≤ rows.length := by rw [e, List.length_append]; omega
        simp only [List.length_nil] at h1
        omega
      by_cases c : p.1 ∈ firsts (fstM [] d)
      · rw [decide_eq_true c] at hk
        rw [if_pos c] at hd
        simp [hk]
        exact ⟨d ++ [p], r, by simp [e], rfl, by rw [hd], ⟨some _, rfl⟩, ⟨some _, rfl⟩⟩
      · rw [decide_eq_false c] at hk
        rw [if_neg c] at hd
        have hp' := pPut_new (v := p.2) c hl'
        simp [hk, hp']
        exact ⟨d ++ [p], r, by simp [e], rfl, by rw [hd]; simp, ⟨some _, rfl⟩, ⟨some _, rfl⟩⟩
theorem first_ones_ok {rows : List (Str × Str)} (hl : rows.length ≤ 100) (hw : ∀ p ∈ rows, p.1.length ≤ 1000) :
    f__law_first_ones [mapPV rows] = some (.ret (mapPV (ordM (fstM [] rows)))) := by
  refine runP_eq ?_
  simp [m__law_first_ones, N__law_first_ones, stoP]
  refine wq_loop (fun ys S => ∃ (d r : List (Str × Str)) (o2 : Option PV), rows = d ++ r ∧ ys = r.map tupS ∧ S = [some (.p (mapPV rows)), some (.o (dctS (fstM [] d))), o2.map SV.p, none]) ?_ ?_ ⟨[], rows, none, rfl, rfl, rfl⟩
  · rintro S ⟨d, r, o2, e, e3, rfl⟩
    have : r = [] := by simpa using e3.symm
    subst this
    rw [List.append_nil] at e
    subst e
    have lf : (fstM [] rows).length ≤ 100 := Nat.le_trans (fstM_len rows []) (by simpa using hl)
    have hs := pSortedX_d (kvs := fstM [] rows) (by omega) (fun p hp => by
      rcases fstM_mem rows [] p hp with q | q
      · cases q
      · exact hw p q)
    have ls : (sortS ((fstM [] rows).map (·.1))).length ≤ 100 := by
      rw [show (sortS ((fstM [] rows).map (·.1))).length = ((fstM [] rows).map (·.1)).length from List.length_mergeSort _, List.length_map]
      exact lf
    simp [hs, szL]
    exact ⟨by omega, lc_ord4 (by simp)⟩
  · rintro y ys S ⟨d, r, o2, e, e3, rfl⟩
    cases r with
    | nil => cases e3
    | cons p r =>
      obtain ⟨rfl, rfl⟩ := List.cons.inj e3
      refine ⟨_, by simp; rfl, ?_⟩
      have hd : fstM [] (d ++ [p]) = if p.1 ∈ firsts (fstM [] d) then fstM [] d else fstM [] d ++ [p] := fstM_app d [p] []
      have hl' : (fstM [] d).length < 16777216 := by
        have h1 := fstM_len d []
        have h2 : d.length ≤ rows.length := by rw [e, List.length_append]; omega
        simp only [List.length_nil] at h1
        omega
      by_cases c : p.1 ∈ firsts (fstM [] d)
      · rw [if_pos c] at hd
        simp [e_mSetd, tupS, setdF_old c hl']
        exact ⟨d ++ [p], r, by simp [e], rfl, by rw [hd], ⟨some _, rfl⟩⟩
      · rw [if_neg c] at hd
        simp [e_mSetd, tupS, setdF_new c hl']
        exact ⟨d ++ [p], r, by simp [e], rfl, by rw [hd]; simp, ⟨some _, rfl⟩⟩
end A11
set_option Elab.async false
set_option linter.all false
set_option maxRecDepth 100000
set_option maxHeartbeats 4000000
namespace A11
open PySem L2 Kp
abbrev wB (w : Str) : Prop := isWordB (.str w) = true
theorem ltAt_succ (a : Str) (ws : List Str) (i : Nat) : ltAt (a :: ws) (i + 1) = ltAt ws i := by
  unfold ltAt
  rw [List.getElem?_cons_succ, List.getElem?_cons_succ]
instance (a b : Str) : Decidable (tl_ a b) := inferInstanceAs (Decidable (tx a < tx b))
theorem risB_cons (a b : Str) (ws : List Str) : risB (a :: b :: ws) = (decide (tl_ a b) && risB (b :: ws)) := by
  unfold risB
  show (List.range (ws.length + 1)).all (ltAt (a :: b :: ws)) = _
  rw [List.range_succ_eq_map, List.all_cons, List.all_map]
  have e : (ltAt (a :: b :: ws) ∘ Nat.succ) = ltAt (b :: ws) := funext fun i => ltAt_succ a (b :: ws) i
  rw [e]
  rfl
theorem risB_iff : ∀ ws : List Str, risB ws = true ↔ ws.Pairwise tl_
  | [] => ⟨fun _ => .nil, fun _ => rfl⟩
  | [a] => ⟨fun _ => by simp, fun _ => rfl⟩
  | a :: b :: ws => by
    rw [risB_cons, Bool.and_eq_true, decide_eq_true_iff, risB_iff (b :: ws), List.pairwise_cons (a := a)]
    constructor
    · rintro ⟨h, q⟩
      refine ⟨fun c hc => ?_, q⟩
      rcases List.mem_cons.mp hc with rfl | hc
      · exact h
      · exact tl_trans h ((List.pairwise_cons.mp q).1 c hc)
    · rintro ⟨h, q⟩
      exact ⟨h b List.mem_cons_self, q⟩
theorem isPairB_tupS (p : Str × Str) : isPairB (tupS p) = true ↔ wB p.1 ∧ wB p.2 ∧ p.1 ≠ p.2 := by
  show (isWordB (.str p.1) && (isWordB (.str p.2) && !decide (p.1 = p.2))) = true ↔ _
  rw [Bool.and_eq_true, Bool.and_eq_true, Bool.not_eq_true', decide_eq_false_iff_not]
theorem isMap_iff {ps : List (Str × Str)} : IsMap ps ↔ (∀ p ∈ ps, wB p.1 ∧ wB p.2 ∧ p.1 ≠ p.2) ∧ (firsts ps).Pairwise tl_ := by
  unfold IsMap
  show ((ps.map tupS).all isPairB && risB ((ps.map tupS).map fst0)) = true ↔ _
  have e : (ps.map tupS).map fst0 = firsts ps := by
    rw [List.map_map]
    rfl
  rw [e, Bool.and_eq_true, risB_iff, List.all_map, List.all_eq_true]
  constructor
  · rintro ⟨h, q⟩
    exact ⟨fun p hp => (isPairB_tupS p).mp (h p hp), q⟩
  · rintro ⟨h, q⟩
    exact ⟨fun p hp => (isPairB_tupS p).mpr (h p hp), q⟩
theorem IsMap.nodup {ps : List (Str × Str)} (h : IsMap ps) : (firsts ps).Nodup := lt_nodup (isMap_iff.mp h).2
theorem wB_len {w : Str} (h : wB w) : w.length ≤ 8 := by
  have h' : (decide (1 ≤ w.length) && decide (w.length ≤ 8) && (tx w).all isLet) = true := h
  simp only [Bool.and_eq_true, decide_eq_true_eq] at h'
  exact h'.1.2
theorem wB_dw {w : Str} (h : dw w) : wB w := by
  show (decide (1 ≤ w.length) && decide (w.length ≤ 8) && (tx w).all isLet) = true
  have h1 : 1 ≤ w.length := h.1
  have h2 : w.length ≤ 4 := h.2.1
  rw [decide_eq_true h1, decide_eq_true (show w.length ≤ 8 by omega)]
  exact List.all_eq_true.mpr h.2.2
/-- maps made of words in order -/
theorem isMap_mk {ws : List Str} {h : Str → Str} (hs : ws.Pairwise tl_) (hw : ∀ w ∈ ws, wB w ∧ wB (h w)) : IsMap ((ws.filter fun w => !decide (h w = w)).map fun w => (w, h w)) := by
  refine isMap_iff.mpr ⟨fun p hp => ?_, ?_⟩
  · obtain ⟨w, hm, rfl⟩ := List.mem_map.mp hp
    obtain ⟨h1, h2⟩ := List.mem_filter.mp hm
    have h2' : h w ≠ w := by simpa using h2
    exact ⟨(hw w h1).1, (hw w h1).2, fun e => h2' e.symm⟩
  · rw [firsts, List.map_map]
    show ((ws.filter fun w => !decide (h w = w)).map id).Pairwise tl_
    rw [List.map_id]
    exact hs.filter _
theorem thenM_eq (ps qs : List (Str × Str)) : thenM ps qs = ((sortS (dedK (firsts ps ++ firsts qs))).filter fun w => !decide (app qs (app ps w) = w)).map fun w => (w, app qs (app ps w)) := by
  unfold thenM
  rw [List.filter_map]
  congr 1
  refine List.filter_congr fun w _ => ?_
  show (!decide (w = app qs (app ps w))) = _
  congr 1
  exact decide_eq_decide.mpr eq_comm
theorem wB_app {ps : List (Str × Str)} (h : IsMap ps) {w : Str} (hw : wB w) : wB (app ps w) := by
  by_cases c : w ∈ firsts ps
  · obtain ⟨p, hp, rfl⟩ := List.mem_map.mp c
    rw [app_mem h.nodup hp]
    exact ((isMap_iff.mp h).1 p hp).2.1
  · rw [app_not c]
    exact hw
theorem wB_first {ps : List (Str × Str)} (h : IsMap ps) {w : Str} (hw : w ∈ firsts ps) : wB w := by
  obtain ⟨p, hp, rfl⟩ := List.mem_map.mp hw
  exact ((isMap_iff.mp h).1 p hp).1
theorem isMap_then {ps qs : List (Str × Str)} (hp : IsMap ps) (hq : IsMap qs) : IsMap (thenM ps qs) := by
  rw [thenM_eq]
  refine isMap_mk (sortS_lt nodup_dedK) fun w hw => ?_
  have hm := List.mem_append.mp (mem_dedK.mp (mem_sortS.mp hw))
  have hw' : wB w := hm.elim (wB_first hp) (wB_first hq)
  exact ⟨hw', wB_app hq (wB_app hp hw')⟩
theorem isMap_ord {kvs : List (Str × Str)} (hn : (firsts kvs).Nodup) (h : ∀ p ∈ kvs, wB p.1 ∧ wB p.2) : IsMap (ordM kvs) := by
  refine isMap_mk (sortS_lt hn) fun w hw => ?_
  obtain ⟨p, hp, rfl⟩ := List.mem_map.mp (mem_sortS.mp hw)
  rw [app_mem hn hp]
  exact h p hp
theorem ids {ps : List (Str × Str)} (h : IsMap ps) {g : Str → Str} (hg : ∀ p ∈ ps, g p.1 = p.2) : ((firsts ps).filter fun w => !decide (g w = w)).map (fun w => (w, g w)) = ps := by
  have e : (firsts ps).filter (fun w => !decide (g w = w)) = firsts ps := List.filter_eq_self.mpr fun w hw => by
    obtain ⟨p, hp, rfl⟩ := List.mem_map.mp hw
    have := ((isMap_iff.mp h).1 p hp).2.2
    rw [hg p hp, decide_eq_false (fun e => this e.symm)]
    rfl
  rw [e, List.map_map]
  have : ps.map ((fun w => (w, g w)) ∘ fun p => p.1) = ps.map id := List.map_congr_left fun p hp => by
    show (p.1, g p.1) = p
    rw [hg p hp]
  rw [this, List.map_id]
theorem foll_eq {ps qs : List (Str × Str)} (hp : IsMap ps) (hq : IsMap qs) : foll ps qs = thenM ps qs := by
  have hs : ∀ {l : List Str}, l.Pairwise tl_ → sortS (dedK l) = l := fun h => lt_unique (sortS_lt nodup_dedK) h fun w => by rw [mem_sortS, mem_dedK]
  rw [thenM_eq]
  unfold foll
  by_cases e1 : ps = []
  · subst e1
    rw [if_pos rfl]
    rw [show (firsts [] ++ firsts qs) = firsts qs from rfl, hs (isMap_iff.mp hq).2]
    exact (ids hq fun p h => app_mem hq.nodup h).symm
  · rw [if_neg e1]
    by_cases e2 : qs = []
    · subst e2
      rw [if_pos rfl, show (firsts ps ++ firsts []) = firsts ps from List.append_nil _, hs (isMap_iff.mp hp).2]
      exact (ids hp fun p h => app_mem hp.nodup h).symm
    · rw [if_neg e2]
      have hmem : ∀ w, w ∈ firsts (folD ps qs) ↔ w ∈ firsts ps ∨ w ∈ firsts qs := fun w => by
        rw [folD, firsts, List.map_append, List.map_map, List.mem_append]
        constructor
        · rintro (h | h)
          · exact .inl h
          · obtain ⟨q, hq', rfl⟩ := List.mem_map.mp h
            exact .inr (List.mem_map_of_mem (List.mem_filter.mp hq').1)
        · rintro (h | h)
          · exact .inl h
          · by_cases c : w ∈ firsts ps
            · exact .inl c
            · obtain ⟨q, hq', rfl⟩ := List.mem_map.mp h
              exact .inr (List.mem_map_of_mem (List.mem_filter.mpr ⟨hq', by simp only [Bool.not_eq_true', decide_eq_false_iff_not]; exact c⟩))
      have hnd : (firsts (folD ps qs)).Nodup := by
        rw [folD, firsts, List.map_append, List.map_map]
        refine List.nodup_append.mpr ⟨hp.nodup, ?_, fun a ha b hb e => ?_⟩
        · exact hq.nodup.sublist (List.Sublist.map _ List.filter_sublist)
        · obtain ⟨q, hq', rfl⟩ := List.mem_map.mp hb
          have := (List.mem_filter.mp hq').2
          simp only [Bool.not_eq_true', decide_eq_false_iff_not] at this
          exact this (e ▸ ha)
      have es : sortS (firsts (folD ps qs)) = sortS (dedK (firsts ps ++ firsts qs)) := lt_unique (sortS_lt hnd) (sortS_lt nodup_dedK) fun w => by rw [mem_sortS, mem_sortS, mem_dedK, hmem, List.mem_append]
      have ea : ∀ w ∈ sortS (dedK (firsts ps ++ firsts qs)), app (folD ps qs) w = app qs (app ps w) := fun w hw => by
        by_cases c : w ∈ firsts ps
        · obtain ⟨p, hp', rfl⟩ := List.mem_map.mp c
          rw [app_mem hp.nodup hp']
          exact app_mem (p := (p.1, app qs p.2)) hnd (List.mem_append_left _ (List.mem_map_of_mem (f := fun p => (p.1, app qs p.2)) hp'))
        · rw [app_not c]
          rcases List.mem_append.mp (mem_dedK.mp (mem_sortS.mp hw)) with h | h
          · exact absurd h c
          · obtain ⟨q, hq', rfl⟩ := List.mem_map.mp h
            rw [app_mem hq.nodup hq']
            exact app_mem hnd (List.mem_append_right _ (List.mem_filter.mpr ⟨hq', by simp only [Bool.not_eq_true', decide_eq_false_iff_not]; exact c⟩))
      unfold ordM
      rw [es]
      have e3 : (sortS (dedK (firsts ps ++ firsts qs))).filter (fun w => !decide (app (folD ps qs) w = w)) = (sortS (dedK (firsts ps ++ firsts qs))).filter (fun w => !decide (app qs (app ps w) = w)) := List.filter_congr fun w hw => by rw [ea w hw]
      rw [e3]
      exact List.map_congr_left fun w hw => by rw [ea w (List.mem_filter.mp hw).1]
def sam : Nat → PV → Bool
  | _, .non => true
  | _, .bl _ => true
  | _, .int _ => true
  | _, .str _ => true
  | d + 1, .tup xs => decide (xs.length ≤ 1000) && xs.all (sam d)
  | _, _ => false
theorem blsP_true : ∀ n : Nat, blsP (List.replicate n (.bl true)) = some (List.replicate n true)
  | 0 => rfl
  | n + 1 => by
    show (blsP (List.replicate n (.bl true))).map (true :: ·) = _
    rw [blsP_true n]
    rfl
theorem same_d : ∀ (d : Nat) (x : PV), sam d x = true → fd__law_same (d + 1) [x, x] = some (.ret (.bl true)) := by
  intro d
  induction d with
  | zero =>
    intro x h
    refine runP_eq ?_
    cases x <;> first | (cases h; done) | simp [m__law_same, N__law_same, stoP]
  | succ d ih =>
    intro x h
    refine runP_eq ?_
    cases x with
    | tup xs =>
      have h' : (decide (xs.length ≤ 1000) && xs.all (sam d)) = true := h
      rw [Bool.and_eq_true, decide_eq_true_iff, List.all_eq_true] at h'
      obtain ⟨hl, hx⟩ := h'
      simp [m__law_same, N__law_same, stoP, szL, rangeP_len]
      refine ⟨inR_of (by omega) (by omega), by omega, lcE_of (lcGo_mapf (List.range xs.length) (fun i : Nat => PV.int (0 + (i : Int))) (fun _ => true) (fun _ => .bl true) fun i hi => ?_) ?_⟩
      · have hi' := List.mem_range.mp hi
        have q : atI xs (i : Int) = some xs[i] := by rw [atN]; exact List.getElem?_eq_getElem hi'
        simp [q, ih xs[i] (hx _ (List.getElem_mem hi'))]
      · have e : List.map (fun _ : Nat => PV.bl true) (List.range xs.length) = List.replicate xs.length (.bl true) := by
          rw [List.map_const', List.length_range]
        have e2 : pAll [.lst (List.replicate xs.length (.bl true))] = some (.bl true) := by
          show (blsP _).map _ = _
          rw [blsP_true]
          simp
        simp [e, e2]
    | _ => first | (cases h; done) | simp [m__law_same, N__law_same, stoP]
theorem same_map {ps : List (Str × Str)} (h : ps.length ≤ 1000) : f__law_same [mapPV ps, mapPV ps] = some (.ret (.bl true)) := by
  refine same_d 7 _ ?_
  show (decide ((ps.map tupS).length ≤ 1000) && (ps.map tupS).all (sam 6)) = true
  rw [List.length_map, decide_eq_true h, List.all_map]
  exact List.all_eq_true.mpr fun p _ => rfl
theorem same_str (w : Str) : f__law_same [.str w, .str w] = some (.ret (.bl true)) := same_d 7 _ rfl
end A11
set_option Elab.async false
set_option linter.all false
set_option maxRecDepth 100000
set_option maxHeartbeats 4000000
namespace Kp
open PySem L2
theorem isDL_tup : ∀ ps : List (Str × Str), PV.isDL (ps.map tupS) = true
  | [] => rfl
  | p :: ps => by
    show (PV.isD (tupS p) && PV.isDL (ps.map tupS)) = true
    rw [isDL_tup ps]
    rfl
def datP (p : Str × Str) : PyData := .tuple [.str p.1, .str p.2]
theorem dat_tupS (p : Str × Str) : (tupS p).dat = datP p := rfl
theorem datL_tup : ∀ ps : List (Str × Str), PV.datL (ps.map tupS) = ps.map datP
  | [] => rfl
  | p :: ps => by
    show PV.dat (tupS p) :: PV.datL (ps.map tupS) = _
    rw [datL_tup ps]
    rfl
theorem depth_datP (p : Str × Str) : (datP p).depth = 1 := by simp [datP, PyData.depth, PyData.depthAll]
theorem depthAll_datP : ∀ ps : List (Str × Str), PyData.depthAll (ps.map datP) ≤ 1
  | [] => by simp [PyData.depthAll]
  | p :: ps => by
    have := depthAll_datP ps
    simp only [List.map_cons, PyData.depthAll, depth_datP]
    omega
theorem eqv_datP (p q : Str × Str) : PyData.eqv (datP p) (datP q) = decide (p = q) := by
  obtain ⟨a, b⟩ := p
  obtain ⟨c, d⟩ := q
  by_cases h1 : a = c <;> by_cases h2 : b = d <;> simp [datP, PyData.eqv, PyData.eqvAll, h1, h2]
theorem eqvAll_datP : ∀ ps qs : List (Str × Str), PyData.eqvAll (ps.map datP) (qs.map datP) = decide (ps = qs)
  | [], [] => by simp [PyData.eqvAll]
  | [], q :: qs => by simp [PyData.eqvAll]
  | p :: ps, [] => by simp [PyData.eqvAll]
  | p :: ps, q :: qs => by
    rw [List.map_cons, List.map_cons, PyData.eqvAll, eqv_datP, eqvAll_datP ps qs]
    by_cases h1 : p = q <;> by_cases h2 : ps = qs <;> simp [h1, h2]
theorem dat_map (ps : List (Str × Str)) : (mapPV ps).dat = .tuple (ps.map datP) := by
  show PyData.tuple (PV.datL (ps.map tupS)) = _
  rw [datL_tup]
theorem depth_map (ps : List (Str × Str)) : (mapPV ps).dat.depth ≤ 2 := by
  rw [dat_map]
  have := depthAll_datP ps
  simp only [PyData.depth]
  omega
theorem pEq_map (ps qs : List (Str × Str)) : pEq (mapPV ps) (mapPV qs) = some (.bl (decide (ps = qs))) := by
  unfold pEq pEqB
  have h1 := depth_map ps
  have e : (PV.isD (mapPV ps) && PV.isD (mapPV qs) && decide (min (mapPV ps).dat.depth (mapPV qs).dat.depth ≤ 60)) = true := by
    rw [show PV.isD (mapPV ps) = true from isDL_tup ps, show PV.isD (mapPV qs) = true from isDL_tup qs, decide_eq_true (by omega)]
    rfl
  rw [if_pos e, dat_map, dat_map]
  show some (PV.bl (PyData.eqv (.tuple (ps.map datP)) (.tuple (qs.map datP)))) = _
  rw [PyData.eqv, eqvAll_datP]
/-! ### pairs in order -/
def leT (p q : Str × Str) : Bool := if p.1 = q.1 then strLe p.2 q.2 else strLe p.1 q.1
theorem leP_tupS (p q : Str × Str) : leP (tupS p) (tupS q) = leT p q := by
  unfold leP leT
  show (!PySem.W.dataLt (datP q) (datP p)) = _
  unfold datP
  rw [PySem.W.dataLt_pair (by simp [PySem.W.alike]) (by simp [PySem.W.alike])]
  have es : ∀ a b : Str, (!PySem.W.dataLt (.str b) (.str a)) = strLe a b := fun a b => congrFun (congrFun (PySem.W.dataLe_str (fun x : Str => x)) a) b
  have ee : ∀ a b : Str, PyData.eqv (.str a) (.str b) = decide (a = b) := fun a b => by by_cases h : a = b <;> simp [PyData.eqv, h]
  by_cases h1 : p.1 = q.1
  · rw [if_pos h1, if_pos (by rw [ee]; exact decide_eq_true h1.symm)]
    by_cases h2 : p.2 = q.2
    · rw [if_pos (by rw [ee]; exact decide_eq_true h2.symm), h2]
      exact (strLe_iff.mpr (List.le_refl _)).symm
    · rw [if_neg (by rw [ee, decide_eq_true_iff]; exact fun e => h2 e.symm)]
      exact es _ _
  · rw [if_neg h1, if_neg (by rw [ee, decide_eq_true_iff]; exact fun e => h1 e.symm)]
    exact es _ _
theorem leT_total (p q : Str × Str) : (leT p q || leT q p) = true := by
  unfold leT
  by_cases h : p.1 = q.1
  · rw [if_pos h, if_pos h.symm]
    exact strLe_tot _ _
  · rw [if_neg h, if_neg (fun e => h e.symm)]
    exact strLe_tot _ _
theorem leT_trans (p q r : Str × Str) (h : leT p q = true) (k : leT q r = true) : leT p r = true := by
  unfold leT at *
  by_cases h1 : p.1 = q.1
  · rw [if_pos h1] at h
    by_cases h2 : q.1 = r.1
    · rw [if_pos h2] at k
      rw [if_pos (h1.trans h2)]
      exact strLe_trans _ _ _ h k
    · rw [if_neg h2] at k
      rw [if_neg (fun e => h2 (h1.symm.trans e)), h1]
      exact k
  · rw [if_neg h1] at h
    by_cases h2 : q.1 = r.1
    · rw [if_neg (fun e => h1 (e.trans h2.symm)), ← h2]
      exact h
    · rw [if_neg h2] at k
      by_cases h3 : p.1 = r.1
      · exact absurd (strLe_anti h (by rw [h3]; exact k)) h1
      · rw [if_neg h3]
        exact strLe_trans _ _ _ h k
def sortT (ps : List (Str × Str)) : List (Str × Str) := ps.mergeSort leT
theorem sortP_tup (ps : List (Str × Str)) : sortP (ps.map tupS) = (sortT ps).map tupS := by
  unfold sortP sortT
  exact (List.map_mergeSort fun a _ b _ => (leP_tupS a b).symm).symm
theorem mem_sortT {p : Str × Str} {ps : List (Str × Str)} : p ∈ sortT ps ↔ p ∈ ps := (List.mergeSort_perm ps leT).mem_iff
theorem sortT_lt {ps : List (Str × Str)} (h : (firsts ps).Nodup) : (firsts (sortT ps)).Pairwise tl_ := by
  have h1 : (sortT ps).Pairwise fun a b => leT a b = true := List.pairwise_mergeSort leT_trans leT_total ps
  have h2 : (firsts (sortT ps)).Nodup := (List.Perm.map (fun p : Str × Str => p.1) (List.mergeSort_perm ps leT)).nodup_iff.mpr h
  have h3 : (sortT ps).Pairwise fun a b => a.1 ≠ b.1 := List.pairwise_map.mp h2
  refine List.pairwise_map.mpr ((h1.and h3).imp fun ⟨a, b⟩ => ?_)
  unfold leT at a
  rw [if_neg b] at a
  exact tl_of_le a b
theorem sortOk_tup {ps : List (Str × Str)} (h : ps.length ≤ 16777216) : sortOk (ps.map tupS) = true := by
  unfold sortOk
  have e1 : alikeLP (ps.map tupS) = true := by
    unfold alikeLP
    rw [List.all_map]
    refine List.all_eq_true.mpr fun p _ => ?_
    show (ps.map tupS).all _ = true
    rw [List.all_map]
    refine List.all_eq_true.mpr fun q _ => ?_
    show PySem.W.alike (datP p) (datP q) = true
    simp [datP, PySem.W.alike, PySem.W.alikeAll]
  have e2 : sortableP (ps.map tupS) = true := by
    unfold sortableP
    rw [Bool.or_eq_true]
    left
    rw [List.all_map]
    exact List.all_eq_true.mpr fun p _ => rfl
  have e3 : ((ps.map tupS).all fun x => decide ((PV.dat x).depth ≤ 60)) = true := by
    rw [List.all_map]
    refine List.all_eq_true.mpr fun p _ => ?_
    show decide ((datP p).depth ≤ 60) = true
    rw [depth_datP]
    rfl
  rw [isDL_tup, e1, e2, e3, List.length_map, szL, decide_eq_true h]
  rfl
theorem pSortedX_tup {ps : List (Str × Str)} (h : ps.length ≤ 16777216) : pSortedX [.tup (ps.map tupS)] = some (.lst ((sortT ps).map tupS)) := by
  unfold pSortedX orL pSorted
  dsimp only
  rw [if_pos (sortOk_tup h), sortP_tup]
end Kp
namespace A11
open PySem L2 Kp
theorem len_ok {ps : List (Str × Str)} : f_WordMap___len__ [wmap (mapPV ps)] = some (.ret (.int ps.length)) := by
  refine runP_eq ?_
  simp [m_WordMap___len__, N_WordMap___len__, stoP]
theorem pLenO_ok {ps : List (Str × Str)} (h : ps.length ≤ 1000) : pLenO 4 f_WordMap___len__ (wmap (mapPV ps)) = some (.int ps.length) := by
  unfold pLenO
  dsimp only
  rw [if_pos rfl, len_ok]
  unfold roN
  dsimp only
  rw [if_pos ⟨by omega, by omega⟩]
theorem pListO_ok {ps : List (Str × Str)} (h : ps.length ≤ 1000) : pListO 4 (fldT "pairs") f_WordMap___len__ (wmap (mapPV ps)) = some (.lst (ps.map tupS)) := by
  unfold pListO
  dsimp only
  have e : roLen (some (.ret (.int (ps.length : Int)))) = true := by
    show decide (0 ≤ (ps.length : Int) ∧ (ps.length : Int) ≤ sizeLine) = true
    rw [szL]
    exact decide_eq_true ⟨by omega, by omega⟩
  rw [len_ok, if_pos ⟨rfl, e⟩]
  rfl
theorem call_ok {ps : List (Str × Str)} {w : Str} : f_WordMap___call__ [wmap (mapPV ps), .str w] = some (.ret (.str (app ps w))) := by
  refine runP_eq ?_
  simp [m_WordMap___call__, N_WordMap___call__, stoP, mapped_ok]
theorem contains_ok {ps : List (Str × Str)} {w : Str} (h : ps.length ≤ 1000) : f_WordMap___contains__ [wmap (mapPV ps), .str w] = some (.ret (.bl (decide (w ∈ firsts ps)))) := by
  refine runP_eq ?_
  simp [m_WordMap___contains__, N_WordMap___contains__, stoP, szL]
  refine ⟨by omega, lcE_of (lcGo_mapf ps tupS (fun _ => true) (fun p => .str p.1) fun p hp => ?_) ?_⟩
  · simp [tupS]
  · have := pHas_s (a := w) (ws := firsts ps)
    rw [List.map_map] at this
    simp only [filter_tt]
    have e : (List.map (fun p : Str × Str => PV.str p.1) ps) = ps.map (PV.str ∘ fun p => p.1) := rfl
    rw [e]
    simp [this]
theorem pInO_ok {ps : List (Str × Str)} {w : Str} (h : ps.length ≤ 1000) : pInO 4 f_WordMap___contains__ (.str w) (wmap (mapPV ps)) = some (.bl (decide (w ∈ firsts ps))) := by
  unfold pInO
  dsimp only
  rw [if_pos rfl, contains_ok h]
  rfl
theorem eq_ok {ps qs : List (Str × Str)} : f_WordMap___eq__ [wmap (mapPV ps), wmap (mapPV qs)] = some (.ret (.bl (decide (ps = qs)))) := by
  refine runP_eq ?_
  simp [m_WordMap___eq__, N_WordMap___eq__, stoP, pEq_map]
theorem pEqO_ok {ps qs : List (Str × Str)} : pEqO 4 (okEq 4) f_WordMap___eq__ (wmap (mapPV ps)) (wmap (mapPV qs)) = some (.bl (decide (ps = qs))) := by
  unfold pEqO
  dsimp only
  rw [if_pos ⟨rfl, rfl⟩, eq_ok]
  rfl
theorem pEqO_tup {ps : List (Str × Str)} {xs : List PV} : pEqO 4 (okEq 4) f_WordMap___eq__ (wmap (mapPV ps)) (.tup xs) = some (.bl false) := by
  unfold pEqO
  dsimp only
  rw [if_pos ⟨rfl, rfl⟩]
  have : f_WordMap___eq__ [wmap (mapPV ps), .tup xs] = some (.ret (.bl false)) := by
    refine runP_eq ?_
    simp [m_WordMap___eq__, N_WordMap___eq__, stoP]
  rw [this]
  rfl
theorem then_ok {ps qs : List (Str × Str)} (hp : IsMap ps) (hq : IsMap qs) (lp : ps.length ≤ 100) (lq : qs.length ≤ 100) (lt : (thenM ps qs).length ≤ 1000) : f_WordMap_then [wmap (mapPV ps), wmap (mapPV qs)] = some (.ret (wmap (mapPV (thenM ps qs)))) := by
  have len : ∀ {rs : List (Str × Str)}, IsMap rs → ∀ p ∈ rs, p.1.length ≤ 1000 := fun h p hm => Nat.le_trans (wB_len ((isMap_iff.mp h).1 p hm).1) (by decide)
  have e := followed_ok hp.nodup hq.nodup lp lq (len hp) (len hq)
  rw [foll_eq hp hq] at e
  have i := init_map (isMap_then hp hq) lt
  refine runP_eq ?_
  simp [m_WordMap_then, N_WordMap_then, stoP, e, i]
end A11
set_option Elab.async false
set_option linter.all false
set_option maxRecDepth 100000
set_option maxHeartbeats 4000000
namespace A11
open PySem L2 Kp
theorem thenM_len (ps qs : List (Str × Str)) : (thenM ps qs).length ≤ ps.length + qs.length := by
  unfold thenM
  refine Nat.le_trans (List.length_filter_le _ _) ?_
  rw [List.length_map, show (sortS (dedK (firsts ps ++ firsts qs))).length = (dedK (firsts ps ++ firsts qs)).length from List.length_mergeSort _]
  have : ∀ l : List Str, (dedK l).length ≤ l.length := fun l => by
    induction l with
    | nil => exact Nat.le_refl _
    | cons a l ih =>
      show (if a ∈ dedK l then dedK l else a :: dedK l).length ≤ _
      split
      · exact Nat.le_trans ih (Nat.le_succ _)
      · exact Nat.succ_le_succ ih
  refine Nat.le_trans (this _) ?_
  rw [List.length_append, List.length_map, List.length_map]
  exact Nat.le_refl _
theorem ordM_len (kvs : List (Str × Str)) : (ordM kvs).length ≤ kvs.length := by
  unfold ordM
  rw [List.length_map]
  refine Nat.le_trans (List.length_filter_le _ _) ?_
  rw [show (sortS (firsts kvs)).length = (firsts kvs).length from List.length_mergeSort _, List.length_map]
  exact Nat.le_refl _
theorem law_then_ok {ps qs : List (Str × Str)} (hp : IsMap ps) (hq : IsMap qs) (lp : ps.length ≤ 100) (lq : qs.length ≤ 100) : f__law_then [mapPV ps, mapPV qs] = some (.ret (mapPV (thenM ps qs))) := by
  have lw : ∀ w ∈ firsts ps ++ firsts qs, w.length ≤ 16777216 := fun w hw => Nat.le_trans (wB_len ((List.mem_append.mp hw).elim (wB_first hp) (wB_first hq))) (by decide)
  have hs := pSortedSet_strs (ws := firsts ps ++ firsts qs) (by rw [List.length_append, List.length_map, List.length_map]; omega) lw
  have e1 : (ps ++ qs).map (fun p => PV.str p.1) = (firsts ps ++ firsts qs).map PV.str := by
    rw [List.map_append, List.map_append, List.map_map, List.map_map]
    rfl
  have hl : (sortS (dedK (firsts ps ++ firsts qs))).length ≤ 200 := by
    rw [show (sortS (dedK (firsts ps ++ firsts qs))).length = (dedK (firsts ps ++ firsts qs)).length from List.length_mergeSort _]
    have h := nodup_dedK (l := firsts ps ++ firsts qs)
    have : ∀ l : List Str, (dedK l).length ≤ l.length := fun l => by
      induction l with
      | nil => exact Nat.le_refl _
      | cons a l ih =>
        show (if a ∈ dedK l then dedK l else a :: dedK l).length ≤ _
        split
        · exact Nat.le_trans ih (Nat.le_succ _)
        · exact Nat.succ_le_succ ih
    have h2 := this (firsts ps ++ firsts qs)
    rw [List.length_append, List.length_map, List.length_map] at h2
    omega
  refine runP_eq ?_
  simp [m__law_then, N__law_then, stoP, szL, -List.map_append]
  rw [← List.map_append]
  refine ⟨by omega, lcE_of (lcGo_mapf (ps ++ qs) tupS (fun _ => true) (fun p => .str p.1) fun p hp' => ?_) ?_⟩
  · simp [tupS]
  · rw [filter_tt, e1]
    simp [hs, szL, -List.map_append]
    refine ⟨by omega, lcE_of (lcGo_mapf (sortS (dedK (firsts ps ++ firsts qs))) PV.str (fun _ => true) (fun w => tupS (w, app qs (app ps w))) fun w hw => ?_) ?_⟩
    · simp [law_map_ok hp.nodup, law_map_ok hq.nodup, tupS]
    · have e2 : (sortS (dedK (firsts ps ++ firsts qs))).map (fun w => tupS (w, app qs (app ps w))) = ((sortS (dedK (firsts ps ++ firsts qs))).map fun w => (w, app qs (app ps w))).map tupS := by
        rw [List.map_map]
        rfl
      rw [filter_tt, e2]
      simp [szL, -List.map_append, -List.map_map]
      refine ⟨by omega, lcE_of (lcGo_mapf ((sortS (dedK (firsts ps ++ firsts qs))).map fun w => (w, app qs (app ps w))) tupS (fun p => !decide (p.1 = p.2)) tupS fun p hp' => ?_) ?_⟩
      · simp [tupS]
      · simp
        rfl
theorem drawn_map_ok {x : PV} {pool : List Str} (h : Src x) (hn : pool ≠ []) (hl : pool.length ≤ 100) : ∃ x' y, f__law_drawn_map x [.lst (pool.map .str)] = some (x', .ret y) ∧ (Src x' ∧ ∃ ps : List (Str × Str), y = mapPV ps ∧ (firsts ps).Sublist pool ∧ ∀ p ∈ ps, p.2 ∈ pool ∧ p.1 ≠ p.2) := by
  refine runI_wq ?_
  simp [m__law_drawn_map, N__law_drawn_map, stoP, szL]
  refine ⟨by omega, lcE_inv (fun ys acc S => ∃ (x : PV) (ps : List (Str × Str)) (r : List Str), Src x ∧ S = [some (.i x), some (.p (.lst (pool.map .str))), none, none, none] ∧ ys = r.map PV.str ∧ acc = ps.map tupS ∧ (firsts ps ++ r).Sublist pool ∧ ∀ p ∈ ps, p.2 ∈ pool) ?_ ?_ ?_⟩
  · exact ⟨x, [], pool, h, rfl, rfl, rfl, List.Sublist.refl _, by simp⟩
  · rintro y ys acc S ⟨x, ps, r, hx, rfl, e, rfl, hsub, hmem⟩
    cases r with
    | nil => cases e
    | cons w r =>
      obtain ⟨rfl, rfl⟩ := List.cons.inj e
      obtain ⟨x2, y2, e2, hs2, i, rfl, hi⟩ := pick_ok hx (n := 3) (by decide) (by decide)
      obtain ⟨x3, y3, e3, hs3, hy3⟩ := one_of_ok (xs := pool.map PV.str) hs2 (by simpa using hn) (by rw [List.length_map]; omega)
      obtain ⟨v, hv, rfl⟩ := List.mem_map.mp hy3
      have hsk : (firsts ps ++ r).Sublist pool := List.Sublist.trans (List.Sublist.append (List.Sublist.refl _) (List.sublist_cons_self _ _)) hsub
      refine ⟨_, by simp; rfl, ?_⟩
      simp [e2]
      refine ⟨fun _ => ?_, fun _ => ?_⟩
      · simp [e3]
        refine ⟨x3, hs3, rfl, ps ++ [(w, v)], r, rfl, by simp [tupS], ?_, fun a b hp => ?_⟩
        · rw [firsts, List.map_append, List.append_assoc]
          exact hsub
        · rcases List.mem_append.mp hp with q | q
          · exact hmem _ q
          · have e := List.mem_singleton.mp q
            rw [(Prod.mk.inj e).2]
            exact hv
      · exact ⟨x2, hs2, rfl, ps, r, rfl, rfl, hsk, fun a b hp => hmem (a, b) hp⟩
  · rintro acc S ⟨x, ps, r, hx, rfl, e, rfl, hsub, hmem⟩
    have : r = [] := by simpa using e.symm
    subst this
    rw [List.append_nil] at hsub
    have hlp : ps.length ≤ 100 := by
      have := hsub.length_le
      rw [List.length_map] at this
      omega
    simp [szL]
    refine ⟨by omega, lcE_of (lcGo_mapf ps tupS (fun p => !decide (p.1 = p.2)) tupS fun p hp => ?_) ?_⟩
    · simp [tupS]
    · simp
      refine ⟨hx, ps.filter (fun p => !decide (p.1 = p.2)), rfl, ?_, fun a b hp => ?_⟩
      · exact List.Sublist.trans (List.Sublist.map _ List.filter_sublist) hsub
      · obtain ⟨h1, h2⟩ := List.mem_filter.mp hp
        exact ⟨hmem _ h1, by simpa using h2⟩
theorem sized (w0 : Str) (ps : List (Str × Str)) (h : ps.length ≤ 100) : (sortT (ps ++ [(Str.ofString "outsides", w0)])).length ≤ 1000 := by
  rw [show (sortT (ps ++ [(Str.ofString "outsides", w0)])).length = (ps ++ [(Str.ofString "outsides", w0)]).length from List.length_mergeSort _, List.length_append]
  show ps.length + 1 ≤ 1000
  omega
theorem wB_outsides : wB "outsides" := by decide +kernel
theorem is_map_true {ps : List (Str × Str)} {w0 : Str} {ws : List Str} (hp : IsMap ps) (lp : ps.length ≤ 100) (hw0 : wB w0) (hne : w0 ≠ "outsides") (hout : Str.ofString "outsides" ∉ firsts ps) :
    f__law_is_map [wmap (mapPV ps), mapPV ps, .lst ((w0 :: ws).map .str)] = some (.ret (.bl true)) := by
  have hi := init_map hp (by omega)
  have hext : IsMap (sortT (ps ++ [(Str.ofString "outsides", w0)])) := by
    refine isMap_iff.mpr ⟨fun p hm => ?_, sortT_lt ?_⟩
    · rcases List.mem_append.mp (mem_sortT.mp hm) with q | q
      · exact (isMap_iff.mp hp).1 p q
      · rw [List.mem_singleton.mp q]
        exact ⟨wB_outsides, hw0, fun e => hne e.symm⟩
    · rw [firsts, List.map_append]
      refine List.nodup_append.mpr ⟨hp.nodup, by simp, fun a ha b hb e => hout ?_⟩
      have : b = Str.ofString "outsides" := by simpa using hb
      rw [← this, ← e]
      exact ha
  have hi2 := init_map hext (sized w0 ps lp)
  have hd : decide (ps = sortT (ps ++ [(Str.ofString "outsides", w0)])) = false := by
    refine decide_eq_false fun e => ?_
    have := congrArg List.length e
    rw [show (sortT (ps ++ [(Str.ofString "outsides", w0)])).length = (ps ++ [(Str.ofString "outsides", w0)]).length from List.length_mergeSort _, List.length_append] at this
    have h2 : ps.length = ps.length + 1 := this
    omega
  have hs := pSortedX_tup (ps := ps ++ [(Str.ofString "outsides", w0)]) (by rw [List.length_append]; show ps.length + 1 ≤ 16777216; omega)
  have e0 : ps.map tupS ++ [PV.tup [.str (Str.ofString "outsides"), .str w0]] = (ps ++ [(Str.ofString "outsides", w0)]).map tupS := by
    rw [List.map_append]
    rfl
  refine runP_eq ?_
  simp [m__law_is_map, N__law_is_map, stoP, same_map (ps := ps) (by omega), pLenO_ok (ps := ps) (by omega), hi, pEqO_ok, szL, pListO_ok (ps := ps) (by omega), -List.map_append]
  refine ⟨by omega, ?_⟩
  rw [e0]
  simp [hs, hi2, hd, pEqO_ok, szL, pListO_ok (ps := ps) (by omega), same_map (ps := ps) (by omega), -List.map_append]
  refine ⟨by omega, lcE_of (lcGo_mapf ps tupS (fun _ => true) (fun p => .str p.1) fun p hp' => ?_) ?_⟩
  · simp [tupS]
  · rw [filter_tt, show ps.map (fun p => PV.str p.1) = (firsts ps).map PV.str by rw [List.map_map]; rfl]
    simp [-List.map_map]
    refine wq_loop (fun ys S => ∃ (r : List Str) (o : Option PV), ys = r.map PV.str ∧ S = [some (.p (wmap (mapPV ps))), some (.p (mapPV ps)), some (.p (.lst (PV.str w0 :: ws.map .str))), some (.p (.lst ((firsts ps).map .str))), o.map SV.p, none]) ?_ ?_ ⟨w0 :: ws, none, rfl, rfl⟩
    · rintro S ⟨r, o, e, rfl⟩
      cases o <;> simp
    · rintro y ys S ⟨r, o, e, rfl⟩
      cases r with
      | nil => cases e
      | cons w r =>
        obtain ⟨rfl, rfl⟩ := List.cons.inj e
        refine ⟨_, by simp; rfl, ?_⟩
        have hh : pHas (.str w) (.lst (ps.map (PV.str ∘ fun x => x.1))) = some (.bl (decide (w ∈ firsts ps))) := by
          rw [← List.map_map]
          exact pHas_s
        simp [call_ok, law_map_ok hp.nodup, same_str, pInO_ok (ps := ps) (by omega), hh]
        exact ⟨⟨r, rfl⟩, ⟨some _, rfl⟩⟩
end A11
set_option Elab.async false
set_option linter.all false
set_option maxRecDepth 100000
set_option maxHeartbeats 4000000
namespace Kp
open PySem L2
theorem eq_of_wq {α : Type} {m : M α} {S S' : Sto} {x : α} (h : wq m S fun y S1 => y = x ∧ S1 = S') : m S = some (.ok x S') := by
  obtain ⟨y, S1, e, rfl, rfl⟩ := h
  exact e
def lstS (p : Str × Str) : PV := .lst [.str p.1, .str p.2]
theorem pairLs_lst : ∀ ps : List (Str × Str), pairLs (ps.map lstS) = some ps
  | [] => rfl
  | p :: ps => by
    show (pairL (lstS p)).bind (fun q => (pairLs (ps.map lstS)).map (q :: ·)) = _
    rw [pairLs_lst ps]
    rfl
theorem isDL_lst : ∀ ps : List (Str × Str), PV.isDL (ps.map lstS) = true
  | [] => rfl
  | p :: ps => by
    show (PV.isD (lstS p) && PV.isDL (ps.map lstS)) = true
    rw [isDL_lst ps]
    rfl
def datQ (p : Str × Str) : PyData := .list [.str p.1, .str p.2]
theorem datL_lst : ∀ ps : List (Str × Str), PV.datL (ps.map lstS) = ps.map datQ
  | [] => rfl
  | p :: ps => by
    show PV.dat (lstS p) :: PV.datL (ps.map lstS) = _
    rw [datL_lst ps]
    rfl
theorem depthAll_datQ : ∀ ps : List (Str × Str), PyData.depthAll (ps.map datQ) ≤ 1
  | [] => by simp [PyData.depthAll]
  | p :: ps => by
    have := depthAll_datQ ps
    have e : (datQ p).depth = 1 := by simp [datQ, PyData.depth, PyData.depthAll]
    rw [List.map_cons, PyData.depthAll, e]
    omega
theorem pNe_rows (ps : List (Str × Str)) : pNe (.lst (ps.map lstS)) (.lst (ps.map lstS)) = some (.bl false) := by
  unfold pNe pEqB
  have hd : (PV.lst (ps.map lstS)).dat = .list (ps.map datQ) := by
    show PyData.list (PV.datL (ps.map lstS)) = _
    rw [datL_lst]
  have h1 := depthAll_datQ ps
  have h2 : (PV.lst (ps.map lstS)).dat.depth ≤ 60 := by
    rw [hd]
    simp only [PyData.depth]
    omega
  have e : (PV.isD (.lst (ps.map lstS)) && PV.isD (.lst (ps.map lstS)) && decide (min (PV.lst (ps.map lstS)).dat.depth (PV.lst (ps.map lstS)).dat.depth ≤ 60)) = true := by
    rw [show PV.isD (.lst (ps.map lstS)) = true from isDL_lst ps, decide_eq_true (by omega)]
    rfl
  rw [if_pos e, PySem.SeqAt.eqv_refl_plain _ (dat_plain _)]
  rfl
theorem noLs_tup : ∀ ps : List (Str × Str), PV.noLs (ps.map tupS) = true
  | [] => rfl
  | p :: ps => by
    show (PV.noL (tupS p) && PV.noLs (ps.map tupS)) = true
    rw [noLs_tup ps]
    rfl
end Kp
namespace A11
open PySem L2 Kp
theorem gdv_rows {ps : List (Str × Str)} (h : ps.length ≤ 1000) : gdv 7 (.lst (ps.map lstS)) = true := by
  show (decide ((ps.map lstS).length ≤ 1000) && (ps.map lstS).all (gdv 6)) = true
  rw [List.length_map, decide_eq_true h, List.all_map]
  exact List.all_eq_true.mpr fun p _ => rfl
theorem deep_rows (ps : List (Str × Str)) : deepN 7 (.lst (ps.map lstS)) = mapPV ps := by
  show PV.tup ((ps.map lstS).map (deepN 6)) = _
  rw [List.map_map]
  rfl
theorem init_rows {ps : List (Str × Str)} (h : IsMap ps) (hl : ps.length ≤ 1000) : f_WordMap___init__ (.obj 4 []) [.lst (ps.map lstS)] = some (wmap (mapPV ps), .ret .non) := by
  rw [init_ok (gdv_rows hl), deep_rows, if_pos (c := isMapB (mapPV ps) = true) h]
theorem lists_stay_ok {ps : List (Str × Str)} {p0 w0 : Str} {pool ws : List Str} (hp : IsMap ps) (lp : ps.length ≤ 100) (hw0 : wB w0) (hne : w0 ≠ Str.ofString "outsides") (hout : Str.ofString "outsides" ∉ firsts ps) :
    f__law_lists_stay [mapPV ps, .lst ((p0 :: pool).map .str), .lst ((w0 :: ws).map .str)] = some (.ret (.bl true)) := by
  refine fStay_of (wm := wmap (mapPV ps)) (rows := ps.map lstS) (ps := ps) ⟨pairLs_lst ps, ?_, rfl, rfl, rfl, rfl, noLs_tup ps, ?_, fun a1 a2 => eq_of_wq ?_, fun b0 b1 b2 b3 b4 p hp' => ?_, fun b0 b2 b4 l hl => ?_⟩ ?_
  · exact (List.pairwise_map.mp hp.nodup).imp fun h e => h (by rw [e])
  · show PV.noLf [("pairs", mapPV ps)] = true
    show (PV.noL (mapPV ps) && true) = true
    rw [show PV.noL (mapPV ps) = true from noLs_tup ps]
    rfl
  · have hi := init_rows hp (by omega)
    have seq : ∀ (S : Sto), True := fun _ => trivial
    simp [m1__law_lists_stay, m2__law_lists_stay, m3__law_lists_stay, szL]
    refine ⟨by omega, lcE_of (lcGo_mapf ps tupS (fun _ => true) lstS fun p hp' => ?_) ?_⟩
    · simp [tupS, lstS]
    · rw [filter_tt]
      simp [hi, szL]
      refine ⟨by omega, lcE_of (lcGo_mapf ps tupS (fun _ => true) lstS fun p hp' => ?_) ?_⟩
      · simp [tupS, lstS]
      · rw [filter_tt]
        simp [pNe_rows]
  · refine ⟨.lst [.str p.1, .str "changed"], eq_of_wq ?_⟩
    simp [mb__law_lists_stay]
  · refine ⟨.lst (l.map PV.raw ++ [.lst [.str "zzzzzzzz", .str p0]]), eq_of_wq ?_⟩
    simp [m5__law_lists_stay, szL]
    omega
  · have e := is_map_true (ws := ws) hp lp hw0 hne hout
    obtain ⟨f, S', e2, q⟩ : wq m6__law_lists_stay [some (.p (mapPV ps)), none, some (.p (.lst ((w0 :: ws).map .str))), none, some (.p (wmap (mapPV ps))), none, none] (rtP (· = .bl true)) := by
      simp only [List.map_cons] at e
      simp [m6__law_lists_stay, e]
    rw [e2]
    cases f with
    | rt y =>
      have : y = .bl true := q
      rw [this]
      rfl
    | nx => cases q
    | bk => exact q.elim
    | ct => exact q.elim
theorem law_of_ok {x : PV} {p0 w0 : Str} {pool ws : List Str} (h : Src x) (hpool : ∀ w ∈ p0 :: pool, dw w) (hl : (p0 :: pool).length ≤ 10) (hw0 : wB w0) (hne : w0 ≠ Str.ofString "outsides") (hout : Str.ofString "outsides" ∉ p0 :: pool) :
    ∃ x' y, f__law_of x [.lst ((p0 :: pool).map .str), .lst ((w0 :: ws).map .str)] = some (x', .ret y) ∧ (Src x' ∧ y = .bl true) := by
  obtain ⟨x1, y1, e1, hs1, k, rfl, hk⟩ := pick_ok h (n := 9) (by decide) (by decide)
  refine runI_wq ?_
  simp only [List.map_cons] at *
  simp [m__law_of, N__law_of, stoP, e1, szL, rangeP_len]
  refine ⟨inR_of (by omega) (by omega), by omega, lcE_inv (fun ys acc S => ∃ (x : PV) (ps : List (Str × Str)), Src x ∧ S = [some (.i x), some (.p (.lst (.str p0 :: pool.map .str))), some (.p (.lst (.str w0 :: ws.map .str))), none, none, none] ∧ acc = ps.map tupS ∧ ps.length + ys.length = k ∧ ∀ p ∈ ps, p.1 ∈ p0 :: pool ∧ p.2 ∈ p0 :: pool) ?_ ?_ ?_⟩
  · exact ⟨x1, [], hs1, rfl, rfl, by rw [rangeP_len]; simp, by simp⟩
  · rintro y ys acc S ⟨x, ps, hx, rfl, rfl, hlen, hmem⟩
    obtain ⟨x2, y2, e2, hs2, hy2⟩ := one_of_ok (xs := .str p0 :: pool.map PV.str) hx (by simp) (by simp at hl ⊢; omega)
    obtain ⟨x3, y3, e3, hs3, hy3⟩ := one_of_ok (xs := .str p0 :: pool.map PV.str) hs2 (by simp) (by simp at hl ⊢; omega)
    obtain ⟨u, hu, rfl⟩ : ∃ u, u ∈ p0 :: pool ∧ y2 = .str u := by
      rw [← List.map_cons] at hy2
      obtain ⟨u, hu, rfl⟩ := List.mem_map.mp hy2
      exact ⟨u, hu, rfl⟩
    obtain ⟨v, hv, rfl⟩ : ∃ v, v ∈ p0 :: pool ∧ y3 = .str v := by
      rw [← List.map_cons] at hy3
      obtain ⟨u, hu, rfl⟩ := List.mem_map.mp hy3
      exact ⟨u, hu, rfl⟩
    refine ⟨_, by simp; rfl, ?_⟩
    simp only [wq_ret, e_mYes, true_implies, e_mTup, e_mArgs_cons, e_mCallI]
    simp [e2, e3]
    refine ⟨x3, hs3, rfl, ps ++ [(u, v)], by simp [tupS], by simp at hlen ⊢; omega, fun a b hp => ?_⟩
    rcases List.mem_append.mp hp with q | q
    · have := hmem _ q
      simpa using this
    · have e := Prod.mk.inj (List.mem_singleton.mp q)
      rw [e.1, e.2]
      simpa using And.intro hu hv
  · rintro acc S ⟨x, rows, hx, rfl, rfl, hlen, hmem⟩
    have hlr : rows.length ≤ 8 := by simp at hlen; omega
    have hwr : ∀ p ∈ rows, p.1.length ≤ 1000 := fun p hp => Nat.le_trans (hpool _ (hmem p hp).1).2.1 (by decide)
    have hm : IsMap (ordM (fstM [] rows)) := isMap_ord (fstM_nodup rows [] (by simp)) fun p hp => by
      rcases fstM_mem rows [] p hp with q | q
      · cases q
      · exact ⟨wB_dw (hpool _ (hmem p q).1), wB_dw (hpool _ (hmem p q).2)⟩
    have hlo : (ordM (fstM [] rows)).length ≤ 100 := Nat.le_trans (ordM_len _) (Nat.le_trans (fstM_len rows []) (by simp; omega))
    have ho : Str.ofString "outsides" ∉ firsts (ordM (fstM [] rows)) := fun q => hout (by
      unfold ordM at q
      rw [firsts, List.map_map] at q
      obtain ⟨w, hw, hw2⟩ := List.mem_map.mp q
      have hw2' : w = Str.ofString "outsides" := hw2
      have := mem_sortS.mp (List.mem_filter.mp hw).1
      obtain ⟨p, hp, hp2⟩ := List.mem_map.mp this
      rw [← hw2', ← hp2]
      rcases fstM_mem rows [] p hp with q | q
      · cases q
      · exact (hmem p q).1)
    have g1 := gdv_map (ps := rows) (by omega)
    have o1 := of_ok g1 (deep_map rows) (by omega) hwr hm
    have o2 := of_ok (gdv_lists 7 _ g1) ((deep_lists 7 _).trans (deep_map rows)) (by omega) hwr hm
    have e4 := first_ones_ok (rows := rows) (by omega) hwr
    have e5 := is_map_true (ws := ws) hm hlo hw0 hne ho
    simp only [List.map_cons] at e5
    simp [e4, o1, o2, lists_ok g1, e5]
    exact hx
end A11
set_option Elab.async false
set_option linter.all false
set_option maxRecDepth 100000
set_option maxHeartbeats 4000000
namespace Kp
open PySem L2
/-! ### how long what is shown is -/
theorem joinLen (ts : List Str) : (Str.join ", " ts).length ≤ (ts.map (·.length)).sum + ts.length * 2 := StrLaws.join_length_le ", " ts
theorem tupleText_le (ts : List Str) : (tupleText ts).length ≤ (ts.map (·.length)).sum + ts.length * 2 + 3 := by
  unfold tupleText
  rw [len_append, len_append]
  have h := joinLen ts
  have h1 : Str.length (Str.ofString "(") = 1 := by decide +kernel
  have h2 : Str.length (Str.ofString ",)") = 2 := by decide +kernel
  have h3 : Str.length (Str.ofString ")") = 1 := by decide +kernel
  rw [h1]
  split
  · rw [h2]; omega
  · rw [h3]; omega
theorem textFrom_le : ∀ (ts : List Str) (k : Nat) (acc : Str), (textFrom k acc ts).length ≤ acc.length + (ts.map (·.length)).sum + ts.length * 2
  | [], k, acc => by
    show acc.length ≤ _
    simp
  | t :: r, k, acc => by
    have ih := textFrom_le r (k + 1) (acc ++ (if k > 0 then ", " else "" : String) ++ t)
    have h2 : Str.length (Str.ofString ", ") = 2 := by decide +kernel
    have h3 : Str.length (Str.ofString "") = 0 := by decide +kernel
    have e : (acc ++ (if k > 0 then ", " else "" : String) ++ t).length ≤ acc.length + 2 + t.length := by
      rw [len_append, len_append]
      split
      · rw [h2]; omega
      · rw [h3]; omega
    show (textFrom (k + 1) (acc ++ (if k > 0 then ", " else "" : String) ++ t) r).length ≤ _
    rw [List.map_cons, List.sum_cons, List.length_cons]
    omega
theorem listText_le (ts : List Str) : (listText ts).length ≤ (ts.map (·.length)).sum + ts.length * 2 + 2 := by
  unfold listText
  rw [len_append]
  have h := textFrom_le ts 0 "["
  have h1 : Str.length (Str.ofString "[") = 1 := by decide +kernel
  have h2 : Str.length (Str.ofString "]") = 1 := by decide +kernel
  rw [h1] at h
  rw [h2]
  omega
theorem datL_map : ∀ xs : List PV, PV.datL xs = xs.map PV.dat
  | [] => rfl
  | x :: xs => by
    show PV.dat x :: PV.datL xs = _
    rw [datL_map xs]
    rfl
theorem isDL_all : ∀ xs : List PV, PV.isDL xs = xs.all PV.isD
  | [] => rfl
  | x :: xs => by
    show (PV.isD x && PV.isDL xs) = _
    rw [isDL_all xs]
    rfl
theorem shownAll_map : ∀ ds : List PyData, PyData.shownAll ds = ds.map PyData.shown
  | [] => by simp [PyData.shownAll]
  | d :: ds => by simp [PyData.shownAll, shownAll_map ds]
theorem showableAll_all : ∀ ds : List PyData, PyData.showableAll ds = ds.all PyData.showable
  | [] => by simp [PyData.showableAll]
  | d :: ds => by simp [PyData.showableAll, showableAll_all ds]
theorem depthAll_le {n : Nat} : ∀ {ds : List PyData}, (∀ d ∈ ds, d.depth ≤ n) → PyData.depthAll ds ≤ n
  | [], _ => by simp [PyData.depthAll]
  | d :: ds, h => by
    have h1 := h d List.mem_cons_self
    have h2 := depthAll_le (ds := ds) fun e he => h e (List.mem_cons_of_mem _ he)
    rw [PyData.depthAll]
    omega
theorem sum_le {n : Nat} : ∀ {ns : List Nat}, (∀ a ∈ ns, a ≤ n) → ns.sum ≤ ns.length * n
  | [], _ => Nat.zero_le _
  | a :: ns, h => by
    have h1 := h a List.mem_cons_self
    have h2 := sum_le (ns := ns) fun e he => h e (List.mem_cons_of_mem _ he)
    rw [List.sum_cons, List.length_cons, Nat.succ_mul]
    omega
def okv : Nat → PV → Bool
  | _, .non => true
  | _, .bl _ => true
  | _, .int i => decide (i = 0) || (decide (i = 5) || decide (i = 7))
  | _, .str w => decide (w.length ≤ 20) && (tx w).all fun c => decide (c < 1000)
  | d + 1, .tup xs => decide (xs.length ≤ 12) && xs.all (okv d)
  | d + 1, .lst xs => decide (xs.length ≤ 12) && xs.all (okv d)
  | _, _ => false
def bndS : Nat → Nat
  | 0 => 202
  | d + 1 => 12 * bndS d + 27
structure Shows (d : Nat) (x : PV) : Prop where
  isD : PV.isD x = true
  sh : (PV.dat x).showable = true
  dp : (PV.dat x).depth ≤ d
  len : (PV.dat x).shown.length ≤ bndS d
theorem okv_seq {d : Nat} {xs : List PV} (h : (decide (xs.length ≤ 12) && xs.all (okv d)) = true) : xs.length ≤ 12 ∧ ∀ x ∈ xs, okv d x = true := by
  rw [Bool.and_eq_true] at h
  exact ⟨of_decide_eq_true h.1, List.all_eq_true.mp h.2⟩
theorem bndS_ge : ∀ d, 202 ≤ bndS d
  | 0 => Nat.le_refl _
  | d + 1 => by
    have := bndS_ge d
    show 202 ≤ 12 * bndS d + 27
    omega
theorem shows_atom {d : Nat} {x : PV} (h1 : PV.isD x = true) (h2 : (PV.dat x).showable = true) (h3 : (PV.dat x).depth = 0) (h4 : (PV.dat x).shown.length ≤ 202) : Shows d x := ⟨h1, h2, by rw [h3]; exact Nat.zero_le _, Nat.le_trans h4 (bndS_ge d)⟩
theorem shows_seq {d : Nat} {xs : List PV} (hl : xs.length ≤ 12) (h : ∀ x ∈ xs, Shows d x) : PV.isDL xs = true ∧ PyData.showableAll (PV.datL xs) = true ∧ PyData.depthAll (PV.datL xs) ≤ d ∧ ((PyData.shownAll (PV.datL xs)).map (·.length)).sum + (PyData.shownAll (PV.datL xs)).length * 2 ≤ 12 * bndS d + 24 := by
  refine ⟨by rw [isDL_all]; exact List.all_eq_true.mpr fun x hx => (h x hx).isD, ?_, ?_, ?_⟩
  · rw [showableAll_all, datL_map, List.all_map]
    exact List.all_eq_true.mpr fun x hx => (h x hx).sh
  · rw [datL_map]
    refine depthAll_le fun e he => ?_
    obtain ⟨x, hx, rfl⟩ := List.mem_map.mp he
    exact (h x hx).dp
  · rw [shownAll_map, datL_map, List.map_map, List.map_map, List.length_map, List.length_map]
    have := sum_le (n := bndS d) (ns := xs.map (((fun s => s.length) ∘ PyData.shown) ∘ PV.dat)) fun a ha => by
      obtain ⟨x, hx, rfl⟩ := List.mem_map.mp ha
      exact (h x hx).len
    rw [List.length_map] at this
    have h2 : xs.length * bndS d ≤ 12 * bndS d := Nat.mul_le_mul_right _ hl
    omega
theorem okv_shows : ∀ (d : Nat) (x : PV), okv d x = true → Shows d x := by
  have atoms : ∀ (d : Nat) (x : PV), okv d x = true → (∀ xs, x ≠ .tup xs) → (∀ xs, x ≠ .lst xs) → Shows d x := fun d x h n1 n2 => by
    cases x with
    | non => exact shows_atom rfl rfl (by simp [PV.dat, PyData.depth]) (by show Str.length (Str.ofString "None") ≤ 202; decide +kernel)
    | bl b => exact shows_atom rfl rfl (by simp [PV.dat, PyData.depth]) (by cases b <;> (simp only [PV.dat, PyData.shown]; decide +kernel))
    | int i =>
      have h' : (decide (i = 0) || (decide (i = 5) || decide (i = 7))) = true := by cases d <;> exact h
      simp only [Bool.or_eq_true, decide_eq_true_eq] at h'
      rcases h' with rfl | rfl | rfl
      all_goals exact shows_atom rfl (by simp only [PV.dat, PyData.showable]; decide +kernel) (by simp [PV.dat, PyData.depth]) (by simp only [PV.dat, PyData.shown]; decide +kernel)
    | str w =>
      have h' : (decide (w.length ≤ 20) && (tx w).all fun c => decide (c < 1000)) = true := by cases d <;> exact h
      rw [Bool.and_eq_true, decide_eq_true_iff, List.all_eq_true] at h'
      refine shows_atom rfl rfl (by simp [PV.dat, PyData.depth]) ?_
      have := StrLaws.reprText_len w fun c hc => Nat.lt_trans (of_decide_eq_true (h'.2 c hc)) (by decide)
      simp only [PV.dat, PyData.shown]
      omega
    | tup xs => exact absurd rfl (n1 xs)
    | lst xs => exact absurd rfl (n2 xs)
    | _ => cases d <;> cases h
  intro d
  induction d with
  | zero =>
    intro x h
    refine atoms 0 x h (fun xs e => ?_) (fun xs e => ?_) <;> (subst e; cases h)
  | succ d ih =>
    intro x h
    cases x with
    | tup xs =>
      obtain ⟨hl, hx⟩ := okv_seq h
      obtain ⟨a, b, c, e⟩ := shows_seq hl fun x hm => ih x (hx x hm)
      refine ⟨a, ?_, ?_, ?_⟩
      · simp only [PV.dat, PyData.showable]; exact b
      · simp only [PV.dat, PyData.depth]; omega
      · simp only [PV.dat, PyData.shown]
        refine Nat.le_trans (tupleText_le _) ?_
        show _ ≤ 12 * bndS d + 27
        omega
    | lst xs =>
      obtain ⟨hl, hx⟩ := okv_seq h
      obtain ⟨a, b, c, e⟩ := shows_seq hl fun x hm => ih x (hx x hm)
      refine ⟨a, ?_, ?_, ?_⟩
      · simp only [PV.dat, PyData.showable]; exact b
      · simp only [PV.dat, PyData.depth]; omega
      · simp only [PV.dat, PyData.shown]
        refine Nat.le_trans (listText_le _) ?_
        show _ ≤ 12 * bndS d + 27
        omega
    | _ => exact atoms _ _ h (fun xs e => by cases e) (fun xs e => by cases e)
theorem pRepr_ok {x : PV} (h : okv 4 x = true) : pRepr [x] = some (.str (PV.dat x).shown) := by
  have s := okv_shows 4 x h
  have b : bndS 4 ≤ 16777216 := by decide
  unfold pRepr
  dsimp only
  rw [if_pos ⟨s.isD, s.sh, by rw [szL]; exact Nat.le_trans s.len b, Nat.le_trans s.dp (by decide)⟩]
end Kp
set_option Elab.async false
set_option linter.all false
set_option maxRecDepth 100000
set_option maxHeartbeats 4000000
namespace Kp
open PySem L2
def xoE (o : Option (Option SV)) (a d : Addr) (c : Nat) (S : Sto) (P : Kt (List (Str × PV))) : Prop := match o with
  | some (some (.p (.xo a' d' c' fs))) => (a' = a ∧ d' = d ∧ c' = c) ∧ P fs S
  | _ => False
@[simp] theorem xoE_p {a d : Addr} {c : Nat} {fs : List (Str × PV)} {S : Sto} {P : Kt (List (Str × PV))} : xoE (some (some (.p (.xo a d c fs)))) a d c S P ↔ P fs S := ⟨fun h => h.2, fun p => ⟨⟨rfl, rfl, rfl⟩, p⟩⟩
@[simp] theorem e_xoAt {S : Sto} {b : Option SV} {i : Nat} {a d : Addr} {c : Nat} {P : Kt (List (Str × PV))} : wq (xoAt i a d c) (b :: S) P ↔ xoE (b :: S)[i]? a d c (b :: S) P := by
  unfold xoAt xoE
  constructor
  · rintro ⟨x, S', e, p⟩
    dsimp only at e
    split at e
    · split at e
      · rename_i h h2
        cases e
        rw [h]
        exact ⟨h2, p⟩
      · cases e
    · cases e
  · intro h
    split at h
    · rename_i a' d' c' fs e
      refine ⟨fs, b :: S, ?_, h.2⟩
      dsimp only
      rw [e]
      dsimp only
      rw [if_pos h.1]
    · exact h.elim
@[simp] theorem e_mIsE {S : Sto} {b : Option SV} {i : Nat} {a d : Addr} {c : Nat} {v : Bool} {P : Kt PV} : wq (mIsE i a d c v) (b :: S) P ↔ wq (xoAt i a d c) (b :: S) fun _ S1 => P (.bl v) S1 := by
  unfold mIsE
  simp only [wq_bnd, wq_ret]
@[simp] theorem e_mXf {S : Sto} {b : Option SV} {i : Nat} {a d : Addr} {c : Nat} {f : Str} {P : Kt PV} : wq (mXf i a d c f) (b :: S) P ↔ wq (xoAt i a d c) (b :: S) fun fs S1 => exS (fs.lookup f) S1 P := by
  unfold mXf
  simp only [wq_bnd, wq_lift]
  rfl
end Kp
namespace A11
open PySem L2 Kp
theorem gdv_mono : ∀ (d : Nat) (x : PV), gdv d x = true → gdv (d + 1) x = true
  | 0, x, h => by cases x <;> first | rfl | cases h
  | d + 1, x, h => by
    have go : ∀ xs : List PV, (decide (xs.length ≤ 1000) && xs.all (gdv d)) = true → (decide (xs.length ≤ 1000) && xs.all (gdv (d + 1))) = true := fun xs h => by
      obtain ⟨hl, hx⟩ := gdv_seq h
      rw [decide_eq_true hl, Bool.true_and]
      exact List.all_eq_true.mpr fun x hm => gdv_mono d x (hx x hm)
    cases x with
    | tup xs => exact go xs h
    | lst xs => exact go xs h
    | _ => first | rfl | cases h
theorem okv_gdv : ∀ (d : Nat) (x : PV), okv d x = true → gdv d x = true
  | 0, x, h => by cases x <;> first | rfl | cases h
  | d + 1, x, h => by
    have go : ∀ xs : List PV, (decide (xs.length ≤ 12) && xs.all (okv d)) = true → (decide (xs.length ≤ 1000) && xs.all (gdv d)) = true := fun xs h => by
      obtain ⟨hl, hx⟩ := okv_seq h
      rw [decide_eq_true (show xs.length ≤ 1000 by omega), Bool.true_and]
      exact List.all_eq_true.mpr fun x hm => okv_gdv d x (hx x hm)
    cases x with
    | tup xs => exact go xs h
    | lst xs => exact go xs h
    | _ => first | rfl | cases h
theorem okv_lists : ∀ (e d : Nat) (x : PV), okv d x = true → okv d (listsN e x) = true
  | 0, d, x, h => h
  | e + 1, d, x, h => by
    cases x with
    | tup xs =>
      cases d with
      | zero => cases h
      | succ d =>
        obtain ⟨hl, hx⟩ := okv_seq h
        show (decide ((xs.map (listsN e)).length ≤ 12) && (xs.map (listsN e)).all (okv d)) = true
        rw [List.length_map, decide_eq_true hl, Bool.true_and, List.all_map]
        exact List.all_eq_true.mpr fun x hm => okv_lists e d x (hx x hm)
    | _ => exact h
theorem okv_7 {x : PV} (h : okv 4 x = true) : gdv 7 x = true := gdv_mono 6 x (gdv_mono 5 x (gdv_mono 4 x (okv_gdv 4 x h)))
theorem refused_ok {x : PV} (h : okv 4 x = true) (hm : isMapB (deepN 7 x) = false) : f__law_refused [x] = some (.ret (.bl true)) := by
  have hi := init_ok (okv_7 h)
  rw [if_neg (by rw [hm]; exact Bool.false_ne_true)] at hi
  have hr := pRepr_ok h
  have e1 : (mDrop (mMake 4 f_WordMap___init__ [mVar 0])) [some (.p x), none] = some (.ex 1 [("pairs", x)] [some (.p x), none]) := by
    simp [mDrop, mMake, bnd, mArgs, mVar, mkM, hi, Kp.ret]
  have e2 : m__law_refused [some (.p x), none] = some (.ok (.rt (.bl true)) [some (.p x), none]) := by
    refine eq_of_wq ?_
    unfold m__law_refused
    rw [wq_mSeq]
    refine ⟨.rt (.bl true), [some (.p x), none], ?_, rfl, rfl⟩
    unfold mTry
    rw [e1]
    dsimp only
    rw [if_pos (by decide), show sub_AcrossError 1 = true from by decide]
    dsimp only
    refine uniq_of fun a d => ?_
    have e3 : ∀ m : M Fl, wq m [some (.p x), some (.p (.xo a d 1 [("pairs", x)]))] (fun f S1 => f = .rt (.bl true) ∧ S1 = [some (.p x), some (.p (.xo a d 1 [("pairs", x)]))]) → finX 1 (bnd (put 1 (.xo a d 1 [("pairs", x)])) (fun _ => m) [some (.p x), none]) = some (.ok (.rt (.bl true)) [some (.p x), none]) := fun m hm => by
      have := eq_of_wq hm
      have e4 : bnd (put 1 (.xo a d 1 [("pairs", x)])) (fun _ => m) [some (.p x), none] = m [some (.p x), some (.p (.xo a d 1 [("pairs", x)]))] := rfl
      rw [e4, this]
      rfl
    refine e3 _ ?_
    simp [hr, show sub_BadMap 1 = true from by decide, show sub_BadTongue 1 = false from by decide, show sub_BadTerm 1 = false from by decide, show sub_ValueError 1 = true from by decide]
  show endP (m__law_refused [some (.p x), none]) = _
  rw [e2]
  rfl
/-- what is no word -/
def badv (x : PV) : Prop := okv 1 x = true ∧ ∀ d, isWordB (deepN d x) = false
theorem bad_str {w : Str} (h1 : w.length ≤ 20) (h2 : ((tx w).all fun c => decide (c < 1000)) = true) (h3 : isWordB (.str w) = false) : badv (.str w) := by
  refine ⟨?_, fun d => by cases d <;> exact h3⟩
  show (decide (w.length ≤ 20) && (tx w).all fun c => decide (c < 1000)) = true
  rw [decide_eq_true h1, h2]
  rfl
theorem isLet_small {c : Nat} (h : isLet c = true) : decide (c < 1000) = true := by
  unfold isLet at h
  rw [Bool.and_eq_true, decide_eq_true_iff, decide_eq_true_iff] at h
  exact decide_eq_true (by omega)
theorem wB_small {w : Str} (h : wB w) : ((tx w).all fun c => decide (c < 1000)) = true := by
  have h' : (decide (1 ≤ w.length) && decide (w.length ≤ 8) && (tx w).all isLet) = true := h
  rw [Bool.and_eq_true, List.all_eq_true] at h'
  exact List.all_eq_true.mpr fun c hc => isLet_small (h'.2 c hc)
theorem okv_str {d : Nat} {w : Str} (h : wB w) : okv d (.str w) = true := by
  have e : (decide (w.length ≤ 20) && (tx w).all fun c => decide (c < 1000)) = true := by
    rw [decide_eq_true (Nat.le_trans (wB_len h) (by decide)), wB_small h]
    rfl
  cases d <;> exact e
theorem bad_word_ok {x : PV} {w : Str} (h : Src x) (hw : wB w) : ∃ x' y, f__law_bad_word x [.str w] = some (x', .ret y) ∧ (Src x' ∧ badv y) := by
  have l1 : w.length ≤ 8 := wB_len hw
  have hs : Str.length (Str.ofString "*") = 1 := by decide +kernel
  have hb : Str.length (Str.ofString " ") = 1 := by decide +kernel
  have ts : tx (Str.ofString "*") = [42] := by decide +kernel
  have tb : tx (Str.ofString " ") = [32] := by decide +kernel
  have b1 : badv (.str (Str.ofString "*" ++ w)) := by
    refine bad_str (by rw [len_append, hs]; omega) (by rw [tx_append, ts, List.all_append, wB_small hw]; rfl) ?_
    show (_ && _ && (tx (Str.ofString "*" ++ w)).all isLet) = false
    rw [tx_append, ts]
    show (_ && _ && (isLet 42 && _)) = false
    rw [show isLet 42 = false from by decide, Bool.false_and, Bool.and_false]
  have b2 : badv (.str (w ++ Str.ofString " ")) := by
    refine bad_str (by rw [len_append, hb]; omega) (by rw [tx_append, tb, List.all_append, wB_small hw]; rfl) ?_
    show (_ && _ && (tx (w ++ Str.ofString " ")).all isLet) = false
    rw [tx_append, tb, List.all_append]
    show (_ && _ && (_ && (isLet 32 && _))) = false
    rw [show isLet 32 = false from by decide, Bool.false_and, Bool.and_false, Bool.and_false]
  have b3 : badv (.tup [.str w]) := by
    refine ⟨?_, fun d => by cases d <;> rfl⟩
    show (decide (([PV.str w] : List PV).length ≤ 12) && (okv 0 (.str w) && true)) = true
    rw [okv_str hw]
    rfl
  obtain ⟨x2, y, e, hs2, hy⟩ := one_of_ok (xs := [.str "", .str "A", .str "a1", .str "abcdefghi", .str "a b", .str (Str.ofString "*" ++ w), .str "_", .str (w ++ Str.ofString " "), .int 5, .non, .bl true, .tup [.str w], .int 0]) h (by simp) (by simp)
  refine runI_wq ?_
  simp [m__law_bad_word, N__law_bad_word, stoP, szL, hs, hb, show 1 + w.length ≤ 16777216 by omega, show w.length + 1 ≤ 16777216 by omega, e]
  refine ⟨hs2, ?_⟩
  simp only [List.mem_cons, List.not_mem_nil, or_false] at hy
  rcases hy with rfl | rfl | rfl | rfl | rfl | rfl | rfl | rfl | rfl | rfl | rfl | rfl | rfl
  · exact bad_str (by decide +kernel) (by decide +kernel) (by decide +kernel)
  · exact bad_str (by decide +kernel) (by decide +kernel) (by decide +kernel)
  · exact bad_str (by decide +kernel) (by decide +kernel) (by decide +kernel)
  · exact bad_str (by decide +kernel) (by decide +kernel) (by decide +kernel)
  · exact bad_str (by decide +kernel) (by decide +kernel) (by decide +kernel)
  · exact b1
  · exact bad_str (by decide +kernel) (by decide +kernel) (by decide +kernel)
  · exact b2
  · exact ⟨rfl, fun d => by cases d <;> rfl⟩
  · exact ⟨rfl, fun d => by cases d <;> rfl⟩
  · exact ⟨rfl, fun d => by cases d <;> rfl⟩
  · exact b3
  · exact ⟨rfl, fun d => by cases d <;> rfl⟩
end A11
set_option Elab.async false
set_option linter.all false
set_option maxRecDepth 100000
set_option maxHeartbeats 4000000
namespace A11
open PySem L2 Kp
theorem swap_ok {xs : List PV} {k : Nat} {y : PV} (hl : xs.length ≤ 1000) : f__law_swap [.tup xs, .int (k : Int), y] = some (.ret (.tup (xs.take k ++ [y] ++ xs.drop (k + 1)))) := by
  have e2 : (k : Int) + 1 = ((k + 1 : Nat) : Int) := by omega
  have l1 : (xs.take k).length ≤ 1000 := by rw [List.length_take]; omega
  have l2 : (xs.drop (k + 1)).length ≤ 1000 := by rw [List.length_drop]; omega
  refine runP_eq ?_
  have c2 : cutL xs (some ((k : Int) + 1)) none = xs.drop (k + 1) := by rw [e2, cutL_from]
  simp [m__law_swap, N__law_swap, stoP, szL, cutL_to, c2]
  omega
theorem notMap_elem {xs : List PV} {y : PV} (hy : y ∈ xs) (h : isPairB (deepN 6 y) = false) : isMapB (deepN 7 (.tup xs)) = false := by
  show ((xs.map (deepN 6)).all isPairB && _) = false
  have : (xs.map (deepN 6)).all isPairB = false := by
    rw [List.all_map]
    refine List.all_eq_false.mpr ⟨y, hy, ?_⟩
    show ¬ isPairB (deepN 6 y) = true
    rw [h]
    exact Bool.false_ne_true
  rw [this]
  rfl
theorem notMap_rows {rs : List (Str × Str)} (h : ¬ (firsts rs).Pairwise tl_) : isMapB (deepN 7 (mapPV rs)) = false := by
  rw [deep_map]
  cases e : isMapB (mapPV rs) with
  | false => rfl
  | true => exact absurd (isMap_iff.mp e).2 h
theorem okv_tupS {d : Nat} {p : Str × Str} (h1 : wB p.1) (h2 : wB p.2) : okv (d + 1) (tupS p) = true := by
  show (decide (([PV.str p.1, .str p.2] : List PV).length ≤ 12) && (okv d (.str p.1) && (okv d (.str p.2) && true))) = true
  rw [okv_str h1, okv_str h2]
  rfl
theorem okv_mono1 {x : PV} (h : okv 1 x = true) : okv 2 x = true := by
  have up : ∀ y : PV, okv 0 y = true → okv 1 y = true := fun y hy => by cases y <;> first | exact hy | cases hy
  cases x with
  | tup xs =>
    obtain ⟨hl, hx⟩ := okv_seq h
    show (decide (xs.length ≤ 12) && xs.all (okv 1)) = true
    rw [decide_eq_true hl, Bool.true_and]
    exact List.all_eq_true.mpr fun x hm => up x (hx x hm)
  | lst xs =>
    obtain ⟨hl, hx⟩ := okv_seq h
    show (decide (xs.length ≤ 12) && xs.all (okv 1)) = true
    rw [decide_eq_true hl, Bool.true_and]
    exact List.all_eq_true.mpr fun x hm => up x (hx x hm)
  | _ => exact h
theorem okv_tup {xs : List PV} (hl : xs.length ≤ 12) (h : ∀ x ∈ xs, okv 3 x = true) : okv 4 (.tup xs) = true := by
  show (decide (xs.length ≤ 12) && xs.all (okv 3)) = true
  rw [decide_eq_true hl, Bool.true_and]
  exact List.all_eq_true.mpr h
/-- what a spoilt map is -/
def Spo (y : PV) : Prop := okv 4 y = true ∧ isMapB (deepN 7 y) = false
theorem spo_swap {rs : List (Str × Str)} {k : Nat} {y : PV} (hr : ∀ p ∈ rs, wB p.1 ∧ wB p.2) (hl : rs.length ≤ 10) (h1 : okv 3 y = true) (h2 : isPairB (deepN 6 y) = false) : Spo (.tup ((rs.map tupS).take k ++ [y] ++ (rs.map tupS).drop (k + 1))) := by
  refine ⟨okv_tup ?_ fun x hx => ?_, notMap_elem (y := y) (by simp) h2⟩
  · rw [List.length_append, List.length_append, List.length_take, List.length_drop, List.length_map]
    show min k rs.length + 1 + (rs.length - (k + 1)) ≤ 12
    omega
  · have old : ∀ z ∈ rs.map tupS, okv 3 z = true := fun z hz => by
      obtain ⟨p, hp, rfl⟩ := List.mem_map.mp hz
      exact okv_tupS (hr p hp).1 (hr p hp).2
    rcases List.mem_append.mp hx with q | q
    · rcases List.mem_append.mp q with q | q
      · exact old x (List.mem_of_mem_take q)
      · rw [List.mem_singleton.mp q]
        exact h1
    · exact old x (List.mem_of_mem_drop q)
theorem spo_rows {rs : List (Str × Str)} (hr : ∀ p ∈ rs, wB p.1 ∧ wB p.2) (hl : rs.length ≤ 12) (h : ¬ (firsts rs).Pairwise tl_) : Spo (mapPV rs) := by
  refine ⟨okv_tup (by rw [List.length_map]; exact hl) fun x hx => ?_, notMap_rows h⟩
  obtain ⟨p, hp, rfl⟩ := List.mem_map.mp hx
  exact okv_tupS (hr p hp).1 (hr p hp).2
theorem not_pair_same {a : Str} : isPairB (deepN 6 (tupS (a, a))) = false := by
  rw [deep_tupS]
  cases e : isPairB (tupS (a, a)) with
  | false => rfl
  | true => exact absurd rfl ((isPairB_tupS _).mp e).2.2
theorem not_pair_l {b : PV} {v : Str} (h : isWordB (deepN 5 b) = false) : isPairB (deepN 6 (.tup [b, .str v])) = false := by
  show isPairB (.tup [deepN 5 b, .str v]) = false
  generalize deepN 5 b = c at h ⊢
  cases c <;> first | rfl | (rename_i u; show (isWordB (.str u) && _) = false; rw [h]; rfl)
theorem not_pair_r {b : PV} {v : Str} (h : isWordB (deepN 5 b) = false) : isPairB (deepN 6 (.tup [.str v, b])) = false := by
  show isPairB (.tup [.str v, deepN 5 b]) = false
  generalize deepN 5 b = c at h ⊢
  cases c <;> first | rfl | (rename_i u; show (isWordB (.str v) && (isWordB (.str u) && _)) = false; rw [h, Bool.false_and, Bool.and_false])
theorem okv_pair {a b : PV} (h1 : okv 2 a = true) (h2 : okv 2 b = true) : okv 3 (.tup [a, b]) = true := by
  show (decide (([a, b] : List PV).length ≤ 12) && (okv 2 a && (okv 2 b && true))) = true
  rw [h1, h2]
  rfl
theorem wB_nosuch : wB "nosuchxx" := by decide +kernel
theorem wB_ab : wB "ab" := by decide +kernel
theorem notPw {l r : List Str} {a b : Str} (h : ¬ tl_ a b) : ¬ (l ++ a :: b :: r).Pairwise tl_ := fun q => h ((List.pairwise_cons.mp (List.pairwise_append.mp q).2.1).1 b List.mem_cons_self)
theorem split_at {α : Type} {rs : List α} {k : Nat} {p : α} (h : rs[k]? = some p) : rs = rs.take k ++ p :: rs.drop (k + 1) := by
  obtain ⟨hk, rfl⟩ := List.getElem?_eq_some_iff.mp h
  conv => lhs; rw [← List.take_append_drop k rs, List.drop_eq_getElem_cons hk]
theorem spoilt_ok {x : PV} {ps : List (Str × Str)} {p0 : Str} {pool : List Str} (h : Src x) (hp : IsMap ps) (lp : ps.length ≤ 10) (hp0 : wB p0) :
    ∃ x' y, f__law_spoilt x [mapPV ps, .lst ((p0 :: pool).map .str)] = some (x', .ret y) ∧ (Src x' ∧ Spo y) := by
  obtain ⟨x1, y1, e1, hs1, i, rfl, hi⟩ := pick_ok h (n := 9) (by decide) (by decide)
  refine runI_wq ?_
  simp [m__law_spoilt, N__law_spoilt, stoP, e1]
  by_cases i8 : i = 8
  · subst i8
    obtain ⟨x2, y2, e2, hs2, hy2⟩ := one_of_ok (xs := [.non, .int 7, .str "ab", .bl true, .str p0]) hs1 (by simp) (by simp)
    simp [e2]
    refine ⟨hs2, ?_⟩
    simp only [List.mem_cons, List.not_mem_nil, or_false] at hy2
    rcases hy2 with rfl | rfl | rfl | rfl | rfl
    · exact ⟨rfl, rfl⟩
    · exact ⟨rfl, rfl⟩
    · exact ⟨okv_str wB_ab, rfl⟩
    · exact ⟨rfl, rfl⟩
    · exact ⟨okv_str hp0, rfl⟩
  · have i8' : ¬ (i : Int) = 8 := by omega
    simp [i8']
    -- the rows
    obtain ⟨rs, hrs, hrl, hrw, hrp, hrv⟩ : ∃ rs : List (Str × Str), rs ≠ [] ∧ rs.length ≤ 10 ∧ (∀ p ∈ rs, wB p.1 ∧ wB p.2) ∧ (firsts rs).Pairwise tl_ ∧ (rs = if ps = [] then [(p0, Str.ofString "nosuchxx")] else ps) := by
      by_cases c : ps = []
      · refine ⟨[(p0, Str.ofString "nosuchxx")], by simp, by simp, fun p hm => ?_, by simp, by rw [if_pos c]⟩
        rw [List.mem_singleton.mp hm]
        exact ⟨hp0, wB_nosuch⟩
      · exact ⟨ps, c, lp, fun p hm => ⟨((isMap_iff.mp hp).1 p hm).1, ((isMap_iff.mp hp).1 p hm).2.1⟩, (isMap_iff.mp hp).2, by rw [if_neg c]⟩
    refine brS_any (fun z => z = mapPV rs) (fun c => ?_) (fun c => ?_) (fun z hz => ?_)
    · have c' : ps ≠ [] := fun e => by rw [e] at c; cases c
      rw [if_neg c'] at hrv
      simp [hrv]
    · have c' : ps = [] := by cases ps with | nil => rfl | cons p ps => cases c
      rw [if_pos c'] at hrv
      simp [hrv, tupS]
    · subst hz
      have hpos : 0 < rs.length := List.length_pos_iff.mpr hrs
      obtain ⟨x2, y2, e2, hs2, k, rfl, hk⟩ := pick_ok hs1 (n := rs.length) (by omega) (by omega)
      have hk' : k < rs.length := by omega
      obtain ⟨p, hpk⟩ : ∃ p, rs[k]? = some p := ⟨rs[k], List.getElem?_eq_getElem hk'⟩
      have hpm : p ∈ rs := List.mem_of_getElem? hpk
      have hgk : atI (rs.map tupS) (k : Int) = some (tupS p) := by rw [atN, List.getElem?_map, hpk]; rfl
      obtain ⟨x3, y3, e3, hs3, hbad⟩ := bad_word_ok hs2 (hrw p hpm).1
      have hsp := split_at hpk
      have e2' : (k : Int) + 1 = ((k + 1 : Nat) : Int) := by omega
      have l1 : (rs.take k).length ≤ 10 := by rw [List.length_take]; omega
      have l2 : (rs.drop (k + 1)).length ≤ 10 := by rw [List.length_drop]; omega
      have dbl : Spo (.tup ((rs.map tupS).take k ++ [tupS p, tupS p] ++ (rs.map tupS).drop (k + 1))) := by
        have e : (rs.map tupS).take k ++ [tupS p, tupS p] ++ (rs.map tupS).drop (k + 1) = (rs.take k ++ p :: p :: rs.drop (k + 1)).map tupS := by
          rw [List.map_append, List.map_cons, List.map_cons, List.map_take, List.map_drop, List.append_assoc]
          rfl
        rw [e]
        refine spo_rows (fun q hq => ?_) ?_ ?_
        · rcases List.mem_append.mp hq with q' | q'
          · exact hrw q (List.mem_of_mem_take q')
          · rcases List.mem_cons.mp q' with rfl | q'
            · exact hrw _ hpm
            · rcases List.mem_cons.mp q' with rfl | q'
              · exact hrw _ hpm
              · exact hrw q (List.mem_of_mem_drop q')
        · rw [List.length_append, List.length_cons, List.length_cons, List.length_take, List.length_drop]
          omega
        · rw [firsts, List.map_append, List.map_cons, List.map_cons]
          exact notPw (tl_irrefl _)
      have tupp : tupS p = .tup [.str p.1, .str p.2] := rfl
      simp [e2, hgk, tupp, e3]
      have c1 : cutL (rs.map tupS) none (some (k : Int)) = (rs.map tupS).take k := cutL_to _ _
      have c2 : cutL (rs.map tupS) (some ((k : Int) + 1)) none = (rs.map tupS).drop (k + 1) := by rw [e2', cutL_from]
      by_cases i0 : i = 0
      · subst i0
        simp [c1, c2, szL, -List.map_take, -List.map_drop]
        exact ⟨by omega, by omega, hs3, by simpa [tupp, -List.map_take, -List.map_drop] using dbl⟩
      · by_cases i7 : i = 7
        · subst i7
          by_cases hl1 : rs.length = 1
          · simp [c1, c2, szL, hl1, -List.map_take, -List.map_drop]
            exact ⟨by omega, hs3, by simpa [tupp, -List.map_take, -List.map_drop] using dbl⟩
          · have hl1' : ¬ (rs.length : Int) = 1 := by omega
            obtain ⟨x4, y4, e4, hs4, j, rfl, hj⟩ := pick_ok hs3 (n := (rs.length : Int) - 1) (by omega) (by omega)
            have hj' : j + 1 < rs.length := by omega
            obtain ⟨a, haj⟩ : ∃ p, rs[j]? = some p := ⟨rs[j], List.getElem?_eq_getElem (by omega)⟩
            obtain ⟨b, hbj⟩ : ∃ p, rs[j + 1]? = some p := ⟨rs[j + 1], List.getElem?_eq_getElem hj'⟩
            have ej1 : (j : Int) + 1 = ((j + 1 : Nat) : Int) := by omega
            have ej2 : (j : Int) + 2 = ((j + 2 : Nat) : Int) := by omega
            have a1 : atI (rs.map tupS) ((j : Int) + 1) = some (tupS b) := by rw [ej1, atN, List.getElem?_map, hbj]; rfl
            have a2 : atI (rs.map tupS) (j : Int) = some (tupS a) := by rw [atN, List.getElem?_map, haj]; rfl
            have c3 : cutL (rs.map tupS) none (some (j : Int)) = (rs.map tupS).take j := cutL_to _ _
            have c4 : cutL (rs.map tupS) (some ((j : Int) + 2)) none = (rs.map tupS).drop (j + 2) := by rw [ej2, cutL_from]
            have hspl : rs = rs.take j ++ a :: b :: rs.drop (j + 2) := by
              have h1 := split_at haj
              have h2 : rs.drop (j + 1) = b :: rs.drop (j + 2) := by
                obtain ⟨hk, rfl⟩ := List.getElem?_eq_some_iff.mp hbj
                exact List.drop_eq_getElem_cons hk
              rw [h2] at h1
              exact h1
            have hab : tl_ a.1 b.1 := by
              have q := hrp
              rw [hspl, firsts, List.map_append, List.map_cons, List.map_cons] at q
              exact (List.pairwise_cons.mp (List.pairwise_append.mp q).2.1).1 _ List.mem_cons_self
            have sw : Spo (.tup ((rs.map tupS).take j ++ [tupS b, tupS a] ++ (rs.map tupS).drop (j + 2))) := by
              have e : (rs.map tupS).take j ++ [tupS b, tupS a] ++ (rs.map tupS).drop (j + 2) = (rs.take j ++ b :: a :: rs.drop (j + 2)).map tupS := by
                rw [List.map_append, List.map_cons, List.map_cons, List.map_take, List.map_drop, List.append_assoc]
                rfl
              rw [e]
              refine spo_rows (fun q hq => hrw q ?_) ?_ ?_
              · rw [hspl]
                simp only [List.mem_append, List.mem_cons] at hq ⊢
                rcases hq with q' | q' | q' | q'
                · exact .inl q'
                · exact .inr (.inr (.inl q'))
                · exact .inr (.inl q')
                · exact .inr (.inr (.inr q'))
              · rw [List.length_append, List.length_cons, List.length_cons, List.length_take, List.length_drop]
                omega
              · rw [firsts, List.map_append, List.map_cons, List.map_cons]
                exact notPw fun z => tl_irrefl _ (tl_trans hab z)
            simp [hl1', hl1, e4, a1, a2, c3, c4, szL, -List.map_take, -List.map_drop]
            exact ⟨by omega, by omega, hs4, by simpa [-List.map_take, -List.map_drop] using sw⟩
        · have i7' : ¬ (i : Int) = 7 := by omega
          have c5 : cutL [PV.str p.1, PV.str p.2] none (some 1) = [.str p.1] := cutL_to _ 1
          have w1 := (hrw p hpm).1
          have w2 := (hrw p hpm).2
          have n1 := wB_len w1
          have n2 := wB_len w2
          have sk : ∀ y : PV, f__law_swap [mapPV rs, .int (k : Int), y] = some (.ret (.tup ((rs.map tupS).take k ++ [y] ++ (rs.map tupS).drop (k + 1)))) := fun y => swap_ok (by rw [List.length_map]; omega)
          have fin : ∀ y : PV, okv 3 y = true → isPairB (deepN 6 y) = false → Spo (.tup ((rs.map tupS).take k ++ [y] ++ (rs.map tupS).drop (k + 1))) := fun y h1 h2 => spo_swap hrw hrl h1 h2
          have hi6 : i = 1 ∨ i = 2 ∨ i = 3 ∨ i = 4 ∨ i = 5 ∨ i = 6 := by omega
          have hlen : p.1.length + p.2.length ≤ 16777216 := by omega
          rcases hi6 with rfl | rfl | rfl | rfl | rfl | rfl
          · simp only [List.append_assoc] at fin
            simp [c5, szL, sk, hlen, -List.map_take, -List.map_drop]
            exact ⟨hs3, fin _ (okv_pair (okv_str w1) (okv_str w1)) not_pair_same⟩
          · simp only [List.append_assoc] at fin
            simp [c5, szL, sk, hlen, -List.map_take, -List.map_drop]
            refine ⟨hs3, fin _ ?_ rfl⟩
            show (decide (([PV.str p.1, .str p.2, .str p.2] : List PV).length ≤ 12) && (okv 2 (.str p.1) && (okv 2 (.str p.2) && (okv 2 (.str p.2) && true)))) = true
            rw [okv_str w1, okv_str w2]
            rfl
          · simp only [List.append_assoc] at fin
            simp [c5, szL, sk, hlen, -List.map_take, -List.map_drop]
            refine ⟨hs3, fin _ ?_ rfl⟩
            show (decide (([PV.str p.1] : List PV).length ≤ 12) && (okv 2 (.str p.1) && true)) = true
            rw [okv_str w1]
            rfl
          · simp only [List.append_assoc] at fin
            simp [c5, szL, sk, hlen, -List.map_take, -List.map_drop]
            refine ⟨hs3, fin _ ?_ rfl⟩
            show (decide ((p.1 ++ p.2).length ≤ 20) && (tx (p.1 ++ p.2)).all fun c => decide (c < 1000)) = true
            rw [len_append, decide_eq_true (by omega), tx_append, List.all_append, wB_small w1, wB_small w2]
            rfl
          · simp only [List.append_assoc] at fin
            simp [c5, szL, sk, hlen, -List.map_take, -List.map_drop]
            exact ⟨hs3, fin _ (okv_pair (okv_mono1 hbad.1) (okv_str w2)) (not_pair_l (hbad.2 5))⟩
          · simp only [List.append_assoc] at fin
            simp [c5, szL, sk, hlen, -List.map_take, -List.map_drop]
            exact ⟨hs3, fin _ (okv_pair (okv_str w1) (okv_mono1 hbad.1)) (not_pair_r (hbad.2 5))⟩
end A11
set_option Elab.async false
set_option linter.all false
set_option maxRecDepth 100000
set_option maxHeartbeats 4000000
namespace A11
open PySem L2 Kp
theorem source_ok {ns : List Int} : f__law_source [.frl ns, .int 0] = some (.ret (.lst [.frl ns, .int 0, .int 0, .int 0, .int 0])) := by
  obtain ⟨y, e, rfl⟩ := runO_wq (N := N__law_source.length) (m := m__law_source) (xs := [.frl ns, .int 0]) (P := (· = .lst [.frl ns, .int 0, .int 0, .int 0, .int 0])) (by simp [m__law_source, N__law_source, stoP])
  exact e
theorem dw_ne {w : Str} (h : dw w) : w ≠ Str.ofString "outsides" := fun e => by
  have := h.2.1
  rw [e] at this
  exact absurd this (by decide +kernel)
theorem isMap_nil : IsMap [] := by
  show isMapB (mapPV []) = true
  rfl
theorem thenM_first {ps qs : List (Str × Str)} {w : Str} (h : w ∈ firsts (thenM ps qs)) : w ∈ firsts ps ∨ w ∈ firsts qs := by
  rw [thenM_eq, firsts, List.map_map] at h
  obtain ⟨v, hv, hv2⟩ := List.mem_map.mp h
  have hv2' : v = w := hv2
  rw [← hv2']
  exact List.mem_append.mp (mem_dedK.mp (mem_sortS.mp (List.mem_filter.mp hv).1))
def noOut (qs : List (Str × Str)) : Prop := Str.ofString "outsides" ∉ firsts qs
theorem brS_any2 {α : Type} {b : Bool} {m n : M α} {S : Sto} {P : Kt α} (Q : α → Sto → Prop) (h1 : b = true → wq m S Q) (h2 : b = false → wq n S Q) (k : ∀ x S1, Q x S1 → P x S1) : brS b m n S P :=
  ⟨fun e => wq_mono (h1 e) k, fun e => wq_mono (h2 e) k⟩
theorem law_true (ns : List Int) (hns : ns.length ≤ 63) : f_law [.frl ns] = some (.ret (.bl true)) := by
  have s0 : Src (.lst [.frl ns, .int 0, .int 0, .int 0, .int 0]) := ⟨ns, 0, 0, 0, 0, rfl, hns, Int.le_refl _⟩
  obtain ⟨x1, y1, e1, s1, rfl⟩ := next_ok s0
  obtain ⟨x2, y2, e2, s2, m, rfl, hm⟩ := pick_ok s1 (n := 6) (by decide) (by decide)
  obtain ⟨x3, y3, e3, s3, ws, rfl, hwl, hwn, hwd⟩ := words_ok (n := 1 + m) s2 (by omega)
  have e3' : f__law_words x2 [.int (1 + (m : Int)), .int 3, .lst []] = some (x3, .ret (.lst (ws.map PV.str))) := by
    have : (1 : Int) + m = ((1 + m : Nat) : Int) := by omega
    rw [this]
    exact e3
  have hsort := pSortedX_strs (ws := ws) (by omega)
  obtain ⟨p0, pool, hpool⟩ : ∃ p0 pool, sortS ws = p0 :: pool := by
    cases e : sortS ws with
    | nil =>
      have : (sortS ws).length = ws.length := List.length_mergeSort _
      rw [e, hwl] at this
      simp only [List.length_nil] at this
      omega
    | cons p0 pool => exact ⟨p0, pool, rfl⟩
  have hpl : (p0 :: pool).length ≤ 6 := by
    rw [← hpool, show (sortS ws).length = ws.length from List.length_mergeSort _]
    omega
  have hpd : ∀ w ∈ p0 :: pool, dw w := fun w hw => hwd w (mem_sortS.mp (hpool ▸ hw))
  have hps : (p0 :: pool).Pairwise tl_ := hpool ▸ sortS_lt hwn
  rw [hpool] at hsort
  have hout : Str.ofString "outsides" ∉ p0 :: pool := fun q => dw_ne (hpd _ q) rfl
  have hp0 := hpd p0 List.mem_cons_self
  obtain ⟨x4, y4, e4, s4, rfl⟩ := next_ok s3
  obtain ⟨x5, y5, e5, s5, ps, rfl, psub, pmem⟩ := drawn_map_ok (pool := p0 :: pool) s4 (by simp) (by omega)
  obtain ⟨x6, y6, e6, s6, rfl⟩ := next_ok s5
  obtain ⟨x7, y7, e7, s7, b7, rfl⟩ := one_in_ok s6 (n := 8) (by decide) (by decide)
  obtain ⟨x8, y8, e8, s8, qs0, rfl, qsub, qmem⟩ := drawn_map_ok (pool := p0 :: pool) s7 (by simp) (by omega)
  have mk : ∀ rs : List (Str × Str), (firsts rs).Sublist (p0 :: pool) → (∀ p ∈ rs, p.2 ∈ p0 :: pool ∧ p.1 ≠ p.2) → IsMap rs ∧ rs.length ≤ 6 ∧ Str.ofString "outsides" ∉ firsts rs := fun rs h1 h2 => by
    refine ⟨isMap_iff.mpr ⟨fun p hp => ⟨wB_dw (hpd _ (h1.subset (List.mem_map_of_mem hp))), wB_dw (hpd _ (h2 p hp).1), (h2 p hp).2⟩, hps.sublist h1⟩, ?_, fun q => hout (h1.subset q)⟩
    have := h1.length_le
    rw [List.length_map] at this
    omega
  obtain ⟨hp, lp, op⟩ := mk ps psub pmem
  have lw : ∀ {rs : List (Str × Str)}, rs.length ≤ 6 → rs.length ≤ 100 := fun h => by omega
  refine runP_eq ?_
  have IM : ∀ rs : List (Str × Str), IsMap rs → rs.length ≤ 100 → Str.ofString "outsides" ∉ firsts rs → f__law_is_map [wmap (mapPV rs), mapPV rs, .lst (.str p0 :: (pool.map PV.str ++ [.str (Str.ofString "outsider")]))] = some (.ret (.bl true)) := fun rs h1 h2 h3 => by
    have := is_map_true (ws := pool ++ [Str.ofString "outsider"]) h1 h2 (wB_dw hp0) (dw_ne hp0) h3
    simpa using this
  simp only [List.map_cons] at *
  simp [m_law, N_law, stoP, source_ok, e1, e2, e3', hsort, szL, e4, e5, e6, e7]
  refine ⟨by simp at hpl; omega, brS_any2 (fun z S1 => ∃ x9 qs, Src x9 ∧ IsMap qs ∧ qs.length ≤ 6 ∧ noOut qs ∧ z = mapPV qs ∧ S1 = [some (.p (.frl ns)), some (.o x9), some (.p (.lst (.str p0 :: pool.map .str))), some (.p (.lst (.str p0 :: (pool.map .str ++ [.str (Str.ofString "outsider")])))), some (.p (mapPV ps)), none, none, none, none, none]) (fun _ => ?_) (fun _ => ?_) ?_⟩
  · simp
    exact ⟨x7, s7, ps, hp, lp, op, rfl, rfl⟩
  · simp [e8]
    obtain ⟨hq, lq, oq⟩ := mk qs0 qsub qmem
    exact ⟨x8, s8, qs0, hq, lq, oq, rfl, rfl⟩
  · rintro z S1 ⟨x9, qs, s9, hq, lq, oq, rfl, rfl⟩
    have lists := lists_ok (gdv_map (ps := qs) (by omega))
    have listsp := lists_ok (gdv_map (ps := ps) (by omega))
    have i0 : f_WordMap___init__ (.obj 4 []) dp_WordMap___init__ = some (wmap (mapPV []), .ret .non) := init_map isMap_nil (by simp)
    have im0 : f__law_is_map [wmap (mapPV []), .tup [], .lst (.str p0 :: (pool.map PV.str ++ [.str (Str.ofString "outsider")]))] = some (.ret (.bl true)) := IM [] isMap_nil (by simp) (by simp)
    have ip := init_map hp (by omega)
    have iq := init_lists hq (by omega)
    have ipl := init_lists hp (by omega)
    have imp := IM ps hp (lw lp) op
    have imq := IM qs hq (lw lq) oq
    have tl : ∀ {rs ts : List (Str × Str)}, rs.length ≤ 6 → ts.length ≤ 6 → (thenM rs ts).length ≤ 100 := fun {rs ts} h1 h2 => by
      have := thenM_len rs ts
      omega
    have to : ∀ {rs ts : List (Str × Str)}, Str.ofString "outsides" ∉ firsts rs → Str.ofString "outsides" ∉ firsts ts → Str.ofString "outsides" ∉ firsts (thenM rs ts) := fun h1 h2 q => (thenM_first q).elim h1 h2
    have t1 := then_ok hp hq (lw lp) (lw lq) (Nat.le_trans (tl lp lq) (by decide))
    have t2 := then_ok hq hp (lw lq) (lw lp) (Nat.le_trans (tl lq lp) (by decide))
    have t3 := then_ok hp hp (lw lp) (lw lp) (Nat.le_trans (tl lp lp) (by decide))
    have u1 := law_then_ok hp hq (lw lp) (lw lq)
    have u2 := law_then_ok hq hp (lw lq) (lw lp)
    have u3 := law_then_ok hp hp (lw lp) (lw lp)
    have v1 := IM _ (isMap_then hp hq) (tl lp lq) (to op oq)
    have v2 := IM _ (isMap_then hq hp) (tl lq lp) (to oq op)
    have v3 := IM _ (isMap_then hp hp) (tl lp lp) (to op op)
    obtain ⟨x10, y10, e10, s10, rfl⟩ := next_ok s9
    have of := law_of_ok (ws := pool ++ [Str.ofString "outsider"]) s10 hpd (by simp at hpl ⊢; omega) (wB_dw hp0) (dw_ne hp0) hout
    obtain ⟨x11, y11, e11, s11, rfl⟩ := of
    have e11' : f__law_of x10 [.lst (.str p0 :: pool.map .str), .lst (.str p0 :: (pool.map .str ++ [.str (Str.ofString "outsider")]))] = some (x11, .ret (.bl true)) := by simpa using e11
    have stay := lists_stay_ok (p0 := p0) (w0 := p0) (pool := pool) (ws := pool ++ [Str.ofString "outsider"]) hp (lw lp) (wB_dw hp0) (dw_ne hp0) op
    have stay' : f__law_lists_stay [mapPV ps, .lst (.str p0 :: pool.map .str), .lst (.str p0 :: (pool.map .str ++ [.str (Str.ofString "outsider")]))] = some (.ret (.bl true)) := by simpa using stay
    obtain ⟨x12, y12, e12, s12, rfl⟩ := next_ok s11
    simp [ip, lists, iq, i0, im0, imp, t1, u1, v1, t2, u2, v2, t3, u3, v3, imq, pEqO_ok, pEq_map, listsp, ipl, pEqO_tup, e10, e11', stay', e12]
    refine ⟨by decide +kernel, inR_of (by decide) (by decide), ?_⟩
    refine wq_loop (fun ys S => ∃ (x : PV) (r : List Nat) (o8 o9 : Option PV), Src x ∧ ys = r.map (fun i : Nat => PV.int (0 + (i : Int))) ∧ S = [some (.p (.frl ns)), some (.o x), some (.p (.lst (.str p0 :: pool.map .str))), some (.p (.lst (.str p0 :: (pool.map .str ++ [.str (Str.ofString "outsider")])))), some (.p (mapPV ps)), some (.p (mapPV qs)), some (.p (wmap (mapPV ps))), some (.p (wmap (mapPV qs))), o8.map SV.p, o9.map SV.p]) ?_ ?_ ⟨x12, List.range 3, none, none, s12, rfl, rfl⟩
    · rintro S ⟨x, r, o8, o9, hx, e, rfl⟩
      simp [ip, imp]
    · rintro y ys S ⟨x, r, o8, o9, hx, e, rfl⟩
      cases r with
      | nil => cases e
      | cons k r =>
        obtain ⟨rfl, rfl⟩ := List.cons.inj e
        obtain ⟨x13, b13, e13, s13, sp13⟩ := spoilt_ok (pool := pool) hx hp (by omega) (wB_dw hp0)
        obtain ⟨x14, b14, e14, s14, sp14⟩ := spoilt_ok (pool := pool) hx hq (by omega) (wB_dw hp0)
        have fin : ∀ b : PV, Spo b → f__law_refused [b] = some (.ret (.bl true)) ∧ f__law_lists [b] = some (.ret (listsN 7 b)) ∧ f__law_refused [listsN 7 b] = some (.ret (.bl true)) := fun b h => ⟨refused_ok h.1 h.2, lists_ok (okv_7 h.1), refused_ok (okv_lists 7 4 b h.1) (by rw [deep_lists]; exact h.2)⟩
        obtain ⟨r1, r2, r3⟩ := fin _ sp13
        obtain ⟨r4, r5, r6⟩ := fin _ sp14
        refine ⟨_, by simp; rfl, ?_⟩
        simp only [List.map_cons] at e13 e14
        simp
        by_cases c : (k : Int) < 2
        · simp [c, e13, r1, r2, r3]
          exact ⟨x13, s13, ⟨r, rfl⟩, rfl, ⟨some _, rfl⟩, ⟨some _, rfl⟩⟩
        · simp [c, e14, r4, r5, r6]
          exact ⟨x14, s14, ⟨r, rfl⟩, rfl, ⟨some _, rfl⟩, ⟨some _, rfl⟩⟩
end A11
set_option Elab.async false
set_option linter.all false
set_option maxRecDepth 100000
set_option maxHeartbeats 4000000
namespace A11
open PySem PySem.Spec PyProof.Rows L2 Kp
theorem all_mk {l : PySem.W.OpenLaw} {w : World} {K : PySem.W.Frag} {h : Heap} {mg : Str → Option Value} {fl : Addr} (X : K.In h) (G : h.Ns mainGlobals mg) (hfa : mg "law" = some (.ref fl))
    {C0 C1 C2 C3 C4 f0 f1 f2 f3 f4 f5 f6 f7 f8 f9 f10 f11 f12 f13 f14 f15 f16 f17 f18 f19 f20 f21 f22 f23 f24 f25 f26 f27 f28 f29 f30 f31 f32 f33 f34 f35 f36 f37 f38 f39 dT10 cmp17 : Addr}
    {sl0 : Array (Option Value)} {od0 an0 : Option Addr} {oc0 kV0 dc0 pm0 cd0 ct0 : Value}
    {sl1 : Array (Option Value)} {od1 an1 : Option Addr} {oc1 kV1 dc1 pm1 cd1 ct1 : Value}
    {sl2 : Array (Option Value)} {od2 an2 : Option Addr} {oc2 kV2 dc2 pm2 cd2 ct2 : Value}
    {sl3 : Array (Option Value)} {od3 an3 : Option Addr} {oc3 kV3 dc3 pm3 cd3 ct3 : Value}
    {sl4 : Array (Option Value)} {od4 an4 : Option Addr} {oc4 kV4 dc4 pm4 cd4 ct4 : Value}
    {sl5 : Array (Option Value)} {od5 an5 : Option Addr} {oc5 kV5 dc5 pm5 cd5 ct5 : Value}
    {sl6 : Array (Option Value)} {od6 an6 : Option Addr} {oc6 kV6 dc6 pm6 cd6 ct6 : Value}
    {sl7 : Array (Option Value)} {od7 an7 : Option Addr} {oc7 kV7 dc7 pm7 cd7 ct7 : Value}
    {sl8 : Array (Option Value)} {od8 an8 : Option Addr} {oc8 kV8 dc8 pm8 cd8 ct8 : Value}
    {sl9 : Array (Option Value)} {od9 an9 : Option Addr} {oc9 kV9 dc9 pm9 cd9 ct9 : Value}
    {sl10 tl10 el10 : Array (Option Value)} {od10 an10 td10 : Option Addr} {oc10 kV10 dc10 pm10 cd10 ct10 tc10 : Value} {T10 tn10 en10 : Nat}
    {sl11 : Array (Option Value)} {od11 an11 : Option Addr} {oc11 kV11 dc11 pm11 cd11 ct11 : Value}
    {sl12 : Array (Option Value)} {od12 an12 : Option Addr} {oc12 kV12 dc12 pm12 cd12 ct12 : Value}
    {sl13 : Array (Option Value)} {od13 an13 : Option Addr} {oc13 kV13 dc13 pm13 cd13 ct13 : Value}
    {sl14 : Array (Option Value)} {od14 an14 : Option Addr} {oc14 kV14 dc14 pm14 cd14 ct14 : Value}
    {sl15 : Array (Option Value)} {od15 an15 : Option Addr} {oc15 kV15 dc15 pm15 cd15 ct15 : Value}
    {sl16 : Array (Option Value)} {od16 an16 : Option Addr} {oc16 kV16 dc16 pm16 cd16 ct16 : Value}
    {sl17 : Array (Option Value)} {od17 an17 : Option Addr} {oc17 kV17 dc17 pm17 cd17 ct17 : Value}
    {sl18 : Array (Option Value)} {od18 an18 : Option Addr} {oc18 kV18 dc18 pm18 cd18 ct18 : Value}
    {sl19 : Array (Option Value)} {od19 an19 : Option Addr} {oc19 kV19 dc19 pm19 cd19 ct19 : Value}
    {sl20 : Array (Option Value)} {od20 an20 : Option Addr} {oc20 kV20 dc20 pm20 cd20 ct20 : Value}
    {sl21 : Array (Option Value)} {od21 an21 : Option Addr} {oc21 kV21 dc21 pm21 cd21 ct21 : Value}
    {sl22 : Array (Option Value)} {od22 an22 : Option Addr} {oc22 kV22 dc22 pm22 cd22 ct22 : Value}
    {sl23 : Array (Option Value)} {od23 an23 : Option Addr} {oc23 kV23 dc23 pm23 cd23 ct23 : Value}
    {sl24 : Array (Option Value)} {od24 an24 : Option Addr} {oc24 kV24 dc24 pm24 cd24 ct24 : Value}
    {sl25 : Array (Option Value)} {od25 an25 : Option Addr} {oc25 kV25 dc25 pm25 cd25 ct25 : Value}
    {sl26 : Array (Option Value)} {od26 an26 : Option Addr} {oc26 kV26 dc26 pm26 cd26 ct26 : Value}
    {sl27 : Array (Option Value)} {od27 an27 : Option Addr} {oc27 kV27 dc27 pm27 cd27 ct27 : Value}
    {sl28 : Array (Option Value)} {od28 an28 : Option Addr} {oc28 kV28 dc28 pm28 cd28 ct28 : Value}
    {sl29 : Array (Option Value)} {od29 an29 : Option Addr} {oc29 kV29 dc29 pm29 cd29 ct29 : Value}
    {sl30 : Array (Option Value)} {od30 an30 : Option Addr} {oc30 kV30 dc30 pm30 cd30 ct30 : Value}
    {sl31 : Array (Option Value)} {od31 an31 : Option Addr} {oc31 kV31 dc31 pm31 cd31 ct31 : Value}
    {sl32 : Array (Option Value)} {od32 an32 : Option Addr} {oc32 kV32 dc32 pm32 cd32 ct32 : Value}
    {sl33 : Array (Option Value)} {od33 an33 : Option Addr} {oc33 kV33 dc33 pm33 cd33 ct33 : Value}
    {sl34 : Array (Option Value)} {od34 an34 : Option Addr} {oc34 kV34 dc34 pm34 cd34 ct34 : Value}
    {sl35 : Array (Option Value)} {od35 an35 : Option Addr} {oc35 kV35 dc35 pm35 cd35 ct35 : Value}
    {sl36 : Array (Option Value)} {od36 an36 : Option Addr} {oc36 kV36 dc36 pm36 cd36 ct36 : Value}
    {sl37 : Array (Option Value)} {od37 an37 : Option Addr} {oc37 kV37 dc37 pm37 cd37 ct37 : Value}
    {sl38 : Array (Option Value)} {od38 an38 : Option Addr} {oc38 kV38 dc38 pm38 cd38 ct38 : Value}
    {sl39 : Array (Option Value)} {od39 an39 : Option Addr} {oc39 kV39 dc39 pm39 cd39 ct39 : Value}
    {xnm1 xq1 : Str} {xN1 : Addr} {xbs1 : List Value} {xsn1 : List Str} {xsub1 : List Value} {xab1 : Bool} {xcol1 : Option Bool} {xdd1 : Option Addr} {xm1 xn1 xo1 xp1 xr1 : Option Value} {xA1 : Addr}
    {xnm2 xq2 : Str} {xN2 : Addr} {xbs2 : List Value} {xsn2 : List Str} {xsub2 : List Value} {xab2 : Bool} {xcol2 : Option Bool} {xdd2 : Option Addr} {xm2 xn2 xo2 xp2 xr2 : Option Value} {xA2 : Addr}
    {xnm3 xq3 : Str} {xN3 : Addr} {xbs3 : List Value} {xsn3 : List Str} {xsub3 : List Value} {xab3 : Bool} {xcol3 : Option Bool} {xdd3 : Option Addr} {xm3 xn3 xo3 xp3 xr3 : Option Value} {xA3 : Addr}
    {rs_cmp17 : List Value}
    (h12 : PySem.W.nsIn K mainGlobals "deep" = some (some (.ref f3)))
    (h16 : PySem.W.nsIn K mainGlobals "is_word" = some (some (.ref f4)))
    (h20 : PySem.W.nsIn K mainGlobals "is_rising" = some (some (.ref f5)))
    (h24 : PySem.W.nsIn K mainGlobals "is_pair_of_words" = some (some (.ref f6)))
    (h28 : PySem.W.nsIn K mainGlobals "is_map" = some (some (.ref f7)))
    (h32 : PySem.W.nsIn K mainGlobals "mapped" = some (some (.ref f8)))
    (h36 : PySem.W.nsIn K mainGlobals "followed" = some (some (.ref f9)))
    (h66 : PySem.W.nsIn K mainGlobals "_law_source" = some (some (.ref f18)))
    (h70 : PySem.W.nsIn K mainGlobals "_law_next" = some (some (.ref f19)))
    (h74 : PySem.W.nsIn K mainGlobals "_law_pick" = some (some (.ref f20)))
    (h78 : PySem.W.nsIn K mainGlobals "_law_one_in" = some (some (.ref f21)))
    (h82 : PySem.W.nsIn K mainGlobals "_law_one_of" = some (some (.ref f22)))
    (h86 : PySem.W.nsIn K mainGlobals "_law_letter" = some (some (.ref f23)))
    (h90 : PySem.W.nsIn K mainGlobals "_law_word" = some (some (.ref f24)))
    (h94 : PySem.W.nsIn K mainGlobals "_law_words" = some (some (.ref f25)))
    (h98 : PySem.W.nsIn K mainGlobals "_law_lists" = some (some (.ref f26)))
    (h102 : PySem.W.nsIn K mainGlobals "_law_same" = some (some (.ref f27)))
    (h106 : PySem.W.nsIn K mainGlobals "_law_swap" = some (some (.ref f28)))
    (h110 : PySem.W.nsIn K mainGlobals "_law_map" = some (some (.ref f29)))
    (h114 : PySem.W.nsIn K mainGlobals "_law_then" = some (some (.ref f30)))
    (h118 : PySem.W.nsIn K mainGlobals "_law_drawn_map" = some (some (.ref f31)))
    (h122 : PySem.W.nsIn K mainGlobals "_law_is_map" = some (some (.ref f32)))
    (h126 : PySem.W.nsIn K mainGlobals "_law_bad_word" = some (some (.ref f33)))
    (h130 : PySem.W.nsIn K mainGlobals "_law_spoilt" = some (some (.ref f34)))
    (h134 : PySem.W.nsIn K mainGlobals "_law_refused" = some (some (.ref f35)))
    (h138 : PySem.W.nsIn K mainGlobals "_law_first_ones" = some (some (.ref f36)))
    (h142 : PySem.W.nsIn K mainGlobals "_law_of" = some (some (.ref f37)))
    (h146 : PySem.W.nsIn K mainGlobals "_law_lists_stay" = some (some (.ref f38)))
    (h150 : PySem.W.nsIn K mainGlobals "law" = some (some (.ref f39)))
    (h191 : PySem.W.nsIn K mainGlobals "AcrossError" = some (some (.ref C0)))
    (h195 : PySem.W.nsIn K mainGlobals "BadMap" = some (some (.ref C1)))
    (h203 : PySem.W.nsIn K mainGlobals "BadTongue" = some (some (.ref C2)))
    (h211 : PySem.W.nsIn K mainGlobals "BadTerm" = some (some (.ref C3)))
    (h219 : PySem.W.nsIn K mainGlobals "WordMap" = some (some (.ref C4)))
    (h196 : K.lookup C1 = some (excClassObj xnm1 xq1 C1 xN1 xbs1 [.ref xA1, .type "ValueError", .type "Exception", .type "BaseException", .type "object"] true xsn1 xsub1 xab1 xcol1 xdd1 xm1 xn1 xo1 xp1 xr1 "ValueError.__new__"))
    (h200 : PySem.W.findIn K (.ref C1) "__init__" = some (some (.ref f0)))
    (h204 : K.lookup C2 = some (excClassObj xnm2 xq2 C2 xN2 xbs2 [.ref xA2, .type "ValueError", .type "Exception", .type "BaseException", .type "object"] true xsn2 xsub2 xab2 xcol2 xdd2 xm2 xn2 xo2 xp2 xr2 "ValueError.__new__"))
    (h208 : PySem.W.findIn K (.ref C2) "__init__" = some (some (.ref f1)))
    (h212 : K.lookup C3 = some (excClassObj xnm3 xq3 C3 xN3 xbs3 [.ref xA3, .type "ValueError", .type "Exception", .type "BaseException", .type "object"] true xsn3 xsub3 xab3 xcol3 xdd3 xm3 xn3 xo3 xp3 xr3 "ValueError.__new__"))
    (h216 : PySem.W.findIn K (.ref C3) "__init__" = some (some (.ref f2)))
    (h237 : PySem.W.findIn K (.ref C4) "__init__" = some (some (.ref f10)))
    (h240 : PySem.W.findIn K (.ref C4) "__call__" = some (some (.ref f11)))
    (h243 : PySem.W.findIn K (.ref C4) "__contains__" = some (some (.ref f12)))
    (h245 : PySem.W.findIn K (.ref C4) "__eq__" = some (some (.ref f13)))
    (h247 : PySem.W.findIn K (.ref C4) "__len__" = some (some (.ref f14)))
    (h249 : PySem.W.findIn K (.ref C4) "__iter__" = some (some (.ref f15)))
    (h251 : PySem.W.findIn K (.ref C4) "then" = some (some (.ref f16)))
    (h255 : PySem.W.findCls K (.ref C4) (.type "type") "of" = some (.get (.builtin "classmethod.__get__") (.ref cmp17) .none (.ref C4)))
    (h256 : PySem.W.recIn K cmp17 "classmethod" = some (.ref f17 :: rs_cmp17))
    (h0 : K.lookup f0 = some ⟨oc0, od0, .func (PySem.W.fnOf "__init__" "BadMap.__init__" (defArgs s_BadMap___init__) (defBody s_BadMap___init__) (defScope s_BadMap___init__) .none kV0 dc0 pm0 an0 cd0 ct0), sl0⟩)
    (h3 : K.lookup f1 = some ⟨oc1, od1, .func (PySem.W.fnOf "__init__" "BadTongue.__init__" (defArgs s_BadTongue___init__) (defBody s_BadTongue___init__) (defScope s_BadTongue___init__) .none kV1 dc1 pm1 an1 cd1 ct1), sl1⟩)
    (h6 : K.lookup f2 = some ⟨oc2, od2, .func (PySem.W.fnOf "__init__" "BadTerm.__init__" (defArgs s_BadTerm___init__) (defBody s_BadTerm___init__) (defScope s_BadTerm___init__) .none kV2 dc2 pm2 an2 cd2 ct2), sl2⟩)
    (h9 : K.lookup f3 = some ⟨oc3, od3, .func (PySem.W.fnOf "deep" "deep" (defArgs s_deep) (defBody s_deep) (defScope s_deep) .none kV3 dc3 pm3 an3 cd3 ct3), sl3⟩)
    (h13 : K.lookup f4 = some ⟨oc4, od4, .func (PySem.W.fnOf "is_word" "is_word" (defArgs s_is_word) (defBody s_is_word) (defScope s_is_word) .none kV4 dc4 pm4 an4 cd4 ct4), sl4⟩)
    (h17 : K.lookup f5 = some ⟨oc5, od5, .func (PySem.W.fnOf "is_rising" "is_rising" (defArgs s_is_rising) (defBody s_is_rising) (defScope s_is_rising) .none kV5 dc5 pm5 an5 cd5 ct5), sl5⟩)
    (h21 : K.lookup f6 = some ⟨oc6, od6, .func (PySem.W.fnOf "is_pair_of_words" "is_pair_of_words" (defArgs s_is_pair_of_words) (defBody s_is_pair_of_words) (defScope s_is_pair_of_words) .none kV6 dc6 pm6 an6 cd6 ct6), sl6⟩)
    (h25 : K.lookup f7 = some ⟨oc7, od7, .func (PySem.W.fnOf "is_map" "is_map" (defArgs s_is_map) (defBody s_is_map) (defScope s_is_map) .none kV7 dc7 pm7 an7 cd7 ct7), sl7⟩)
    (h29 : K.lookup f8 = some ⟨oc8, od8, .func (PySem.W.fnOf "mapped" "mapped" (defArgs s_mapped) (defBody s_mapped) (defScope s_mapped) .none kV8 dc8 pm8 an8 cd8 ct8), sl8⟩)
    (h33 : K.lookup f9 = some ⟨oc9, od9, .func (PySem.W.fnOf "followed" "followed" (defArgs s_followed) (defBody s_followed) (defScope s_followed) .none kV9 dc9 pm9 an9 cd9 ct9), sl9⟩)
    (h37 : K.lookup f10 = some ⟨oc10, od10, .func (PySem.W.fnOf "__init__" "WordMap.__init__" (defArgs s_WordMap___init__) (defBody s_WordMap___init__) (defScope s_WordMap___init__) (.ref T10) kV10 dc10 pm10 an10 cd10 ct10), sl10⟩)
    (h42 : K.lookup f11 = some ⟨oc11, od11, .func (PySem.W.fnOf "__call__" "WordMap.__call__" (defArgs s_WordMap___call__) (defBody s_WordMap___call__) (defScope s_WordMap___call__) .none kV11 dc11 pm11 an11 cd11 ct11), sl11⟩)
    (h45 : K.lookup f12 = some ⟨oc12, od12, .func (PySem.W.fnOf "__contains__" "WordMap.__contains__" (defArgs s_WordMap___contains__) (defBody s_WordMap___contains__) (defScope s_WordMap___contains__) .none kV12 dc12 pm12 an12 cd12 ct12), sl12⟩)
    (h48 : K.lookup f13 = some ⟨oc13, od13, .func (PySem.W.fnOf "__eq__" "WordMap.__eq__" (defArgs s_WordMap___eq__) (defBody s_WordMap___eq__) (defScope s_WordMap___eq__) .none kV13 dc13 pm13 an13 cd13 ct13), sl13⟩)
    (h51 : K.lookup f14 = some ⟨oc14, od14, .func (PySem.W.fnOf "__len__" "WordMap.__len__" (defArgs s_WordMap___len__) (defBody s_WordMap___len__) (defScope s_WordMap___len__) .none kV14 dc14 pm14 an14 cd14 ct14), sl14⟩)
    (h54 : K.lookup f15 = some ⟨oc15, od15, .func (PySem.W.fnOf "__iter__" "WordMap.__iter__" (defArgs s_WordMap___iter__) (defBody s_WordMap___iter__) (defScope s_WordMap___iter__) .none kV15 dc15 pm15 an15 cd15 ct15), sl15⟩)
    (h57 : K.lookup f16 = some ⟨oc16, od16, .func (PySem.W.fnOf "then" "WordMap.then" (defArgs s_WordMap_then) (defBody s_WordMap_then) (defScope s_WordMap_then) .none kV16 dc16 pm16 an16 cd16 ct16), sl16⟩)
    (h60 : K.lookup f17 = some ⟨oc17, od17, .func (PySem.W.fnOf "of" "WordMap.of" (defArgs s_WordMap_of) (defBody s_WordMap_of) (defScope s_WordMap_of) .none kV17 dc17 pm17 an17 cd17 ct17), sl17⟩)
    (h63 : K.lookup f18 = some ⟨oc18, od18, .func (PySem.W.fnOf "_law_source" "_law_source" (defArgs s__law_source) (defBody s__law_source) (defScope s__law_source) .none kV18 dc18 pm18 an18 cd18 ct18), sl18⟩)
    (h67 : K.lookup f19 = some ⟨oc19, od19, .func (PySem.W.fnOf "_law_next" "_law_next" (defArgs s__law_next) (defBody s__law_next) (defScope s__law_next) .none kV19 dc19 pm19 an19 cd19 ct19), sl19⟩)
    (h71 : K.lookup f20 = some ⟨oc20, od20, .func (PySem.W.fnOf "_law_pick" "_law_pick" (defArgs s__law_pick) (defBody s__law_pick) (defScope s__law_pick) .none kV20 dc20 pm20 an20 cd20 ct20), sl20⟩)
    (h75 : K.lookup f21 = some ⟨oc21, od21, .func (PySem.W.fnOf "_law_one_in" "_law_one_in" (defArgs s__law_one_in) (defBody s__law_one_in) (defScope s__law_one_in) .none kV21 dc21 pm21 an21 cd21 ct21), sl21⟩)
    (h79 : K.lookup f22 = some ⟨oc22, od22, .func (PySem.W.fnOf "_law_one_of" "_law_one_of" (defArgs s__law_one_of) (defBody s__law_one_of) (defScope s__law_one_of) .none kV22 dc22 pm22 an22 cd22 ct22), sl22⟩)
    (h83 : K.lookup f23 = some ⟨oc23, od23, .func (PySem.W.fnOf "_law_letter" "_law_letter" (defArgs s__law_letter) (defBody s__law_letter) (defScope s__law_letter) .none kV23 dc23 pm23 an23 cd23 ct23), sl23⟩)
    (h87 : K.lookup f24 = some ⟨oc24, od24, .func (PySem.W.fnOf "_law_word" "_law_word" (defArgs s__law_word) (defBody s__law_word) (defScope s__law_word) .none kV24 dc24 pm24 an24 cd24 ct24), sl24⟩)
    (h91 : K.lookup f25 = some ⟨oc25, od25, .func (PySem.W.fnOf "_law_words" "_law_words" (defArgs s__law_words) (defBody s__law_words) (defScope s__law_words) .none kV25 dc25 pm25 an25 cd25 ct25), sl25⟩)
    (h95 : K.lookup f26 = some ⟨oc26, od26, .func (PySem.W.fnOf "_law_lists" "_law_lists" (defArgs s__law_lists) (defBody s__law_lists) (defScope s__law_lists) .none kV26 dc26 pm26 an26 cd26 ct26), sl26⟩)
    (h99 : K.lookup f27 = some ⟨oc27, od27, .func (PySem.W.fnOf "_law_same" "_law_same" (defArgs s__law_same) (defBody s__law_same) (defScope s__law_same) .none kV27 dc27 pm27 an27 cd27 ct27), sl27⟩)
    (h103 : K.lookup f28 = some ⟨oc28, od28, .func (PySem.W.fnOf "_law_swap" "_law_swap" (defArgs s__law_swap) (defBody s__law_swap) (defScope s__law_swap) .none kV28 dc28 pm28 an28 cd28 ct28), sl28⟩)
    (h107 : K.lookup f29 = some ⟨oc29, od29, .func (PySem.W.fnOf "_law_map" "_law_map" (defArgs s__law_map) (defBody s__law_map) (defScope s__law_map) .none kV29 dc29 pm29 an29 cd29 ct29), sl29⟩)
    (h111 : K.lookup f30 = some ⟨oc30, od30, .func (PySem.W.fnOf "_law_then" "_law_then" (defArgs s__law_then) (defBody s__law_then) (defScope s__law_then) .none kV30 dc30 pm30 an30 cd30 ct30), sl30⟩)
    (h115 : K.lookup f31 = some ⟨oc31, od31, .func (PySem.W.fnOf "_law_drawn_map" "_law_drawn_map" (defArgs s__law_drawn_map) (defBody s__law_drawn_map) (defScope s__law_drawn_map) .none kV31 dc31 pm31 an31 cd31 ct31), sl31⟩)
    (h119 : K.lookup f32 = some ⟨oc32, od32, .func (PySem.W.fnOf "_law_is_map" "_law_is_map" (defArgs s__law_is_map) (defBody s__law_is_map) (defScope s__law_is_map) .none kV32 dc32 pm32 an32 cd32 ct32), sl32⟩)
    (h123 : K.lookup f33 = some ⟨oc33, od33, .func (PySem.W.fnOf "_law_bad_word" "_law_bad_word" (defArgs s__law_bad_word) (defBody s__law_bad_word) (defScope s__law_bad_word) .none kV33 dc33 pm33 an33 cd33 ct33), sl33⟩)
    (h127 : K.lookup f34 = some ⟨oc34, od34, .func (PySem.W.fnOf "_law_spoilt" "_law_spoilt" (defArgs s__law_spoilt) (defBody s__law_spoilt) (defScope s__law_spoilt) .none kV34 dc34 pm34 an34 cd34 ct34), sl34⟩)
    (h131 : K.lookup f35 = some ⟨oc35, od35, .func (PySem.W.fnOf "_law_refused" "_law_refused" (defArgs s__law_refused) (defBody s__law_refused) (defScope s__law_refused) .none kV35 dc35 pm35 an35 cd35 ct35), sl35⟩)
    (h135 : K.lookup f36 = some ⟨oc36, od36, .func (PySem.W.fnOf "_law_first_ones" "_law_first_ones" (defArgs s__law_first_ones) (defBody s__law_first_ones) (defScope s__law_first_ones) .none kV36 dc36 pm36 an36 cd36 ct36), sl36⟩)
    (h139 : K.lookup f37 = some ⟨oc37, od37, .func (PySem.W.fnOf "_law_of" "_law_of" (defArgs s__law_of) (defBody s__law_of) (defScope s__law_of) .none kV37 dc37 pm37 an37 cd37 ct37), sl37⟩)
    (h143 : K.lookup f38 = some ⟨oc38, od38, .func (PySem.W.fnOf "_law_lists_stay" "_law_lists_stay" (defArgs s__law_lists_stay) (defBody s__law_lists_stay) (defScope s__law_lists_stay) .none kV38 dc38 pm38 an38 cd38 ct38), sl38⟩)
    (h147 : K.lookup f39 = some ⟨oc39, od39, .func (PySem.W.fnOf "law" "law" (defArgs s_law) (defBody s_law) (defScope s_law) .none kV39 dc39 pm39 an39 cd39 ct39), sl39⟩)
    (h38 : K.lookup T10 = some ⟨tc10, td10, .seq #[.ref dT10] tn10, tl10⟩)
    (h39 : K.lookup dT10 = some ⟨.type "tuple", none, .seq #[] en10, el10⟩)
    (h1 : PySem.W.codeIn K cd0 "BadMap.__init__" = true)
    (h2 : PySem.W.keepIn K (.ref f0) = true)
    (h4 : PySem.W.codeIn K cd1 "BadTongue.__init__" = true)
    (h5 : PySem.W.keepIn K (.ref f1) = true)
    (h7 : PySem.W.codeIn K cd2 "BadTerm.__init__" = true)
    (h8 : PySem.W.keepIn K (.ref f2) = true)
    (h10 : PySem.W.codeIn K cd3 "deep" = true)
    (h11 : PySem.W.keepIn K (.ref f3) = true)
    (h14 : PySem.W.codeIn K cd4 "is_word" = true)
    (h15 : PySem.W.keepIn K (.ref f4) = true)
    (h18 : PySem.W.codeIn K cd5 "is_rising" = true)
    (h19 : PySem.W.keepIn K (.ref f5) = true)
    (h22 : PySem.W.codeIn K cd6 "is_pair_of_words" = true)
    (h23 : PySem.W.keepIn K (.ref f6) = true)
    (h26 : PySem.W.codeIn K cd7 "is_map" = true)
    (h27 : PySem.W.keepIn K (.ref f7) = true)
    (h30 : PySem.W.codeIn K cd8 "mapped" = true)
    (h31 : PySem.W.keepIn K (.ref f8) = true)
    (h34 : PySem.W.codeIn K cd9 "followed" = true)
    (h35 : PySem.W.keepIn K (.ref f9) = true)
    (h40 : PySem.W.codeIn K cd10 "WordMap.__init__" = true)
    (h41 : PySem.W.keepIn K (.ref f10) = true)
    (h43 : PySem.W.codeIn K cd11 "WordMap.__call__" = true)
    (h44 : PySem.W.keepIn K (.ref f11) = true)
    (h46 : PySem.W.codeIn K cd12 "WordMap.__contains__" = true)
    (h47 : PySem.W.keepIn K (.ref f12) = true)
    (h49 : PySem.W.codeIn K cd13 "WordMap.__eq__" = true)
    (h50 : PySem.W.keepIn K (.ref f13) = true)
    (h52 : PySem.W.codeIn K cd14 "WordMap.__len__" = true)
    (h53 : PySem.W.keepIn K (.ref f14) = true)
    (h55 : PySem.W.codeIn K cd15 "WordMap.__iter__" = true)
    (h56 : PySem.W.keepIn K (.ref f15) = true)
    (h58 : PySem.W.codeIn K cd16 "WordMap.then" = true)
    (h59 : PySem.W.keepIn K (.ref f16) = true)
    (h61 : PySem.W.codeIn K cd17 "WordMap.of" = true)
    (h62 : PySem.W.keepIn K (.ref f17) = true)
    (h64 : PySem.W.codeIn K cd18 "_law_source" = true)
    (h65 : PySem.W.keepIn K (.ref f18) = true)
    (h68 : PySem.W.codeIn K cd19 "_law_next" = true)
    (h69 : PySem.W.keepIn K (.ref f19) = true)
    (h72 : PySem.W.codeIn K cd20 "_law_pick" = true)
    (h73 : PySem.W.keepIn K (.ref f20) = true)
    (h76 : PySem.W.codeIn K cd21 "_law_one_in" = true)
    (h77 : PySem.W.keepIn K (.ref f21) = true)
    (h80 : PySem.W.codeIn K cd22 "_law_one_of" = true)
    (h81 : PySem.W.keepIn K (.ref f22) = true)
    (h84 : PySem.W.codeIn K cd23 "_law_letter" = true)
    (h85 : PySem.W.keepIn K (.ref f23) = true)
    (h88 : PySem.W.codeIn K cd24 "_law_word" = true)
    (h89 : PySem.W.keepIn K (.ref f24) = true)
    (h92 : PySem.W.codeIn K cd25 "_law_words" = true)
    (h93 : PySem.W.keepIn K (.ref f25) = true)
    (h96 : PySem.W.codeIn K cd26 "_law_lists" = true)
    (h97 : PySem.W.keepIn K (.ref f26) = true)
    (h100 : PySem.W.codeIn K cd27 "_law_same" = true)
    (h101 : PySem.W.keepIn K (.ref f27) = true)
    (h104 : PySem.W.codeIn K cd28 "_law_swap" = true)
    (h105 : PySem.W.keepIn K (.ref f28) = true)
    (h108 : PySem.W.codeIn K cd29 "_law_map" = true)
    (h109 : PySem.W.keepIn K (.ref f29) = true)
    (h112 : PySem.W.codeIn K cd30 "_law_then" = true)
    (h113 : PySem.W.keepIn K (.ref f30) = true)
    (h116 : PySem.W.codeIn K cd31 "_law_drawn_map" = true)
    (h117 : PySem.W.keepIn K (.ref f31) = true)
    (h120 : PySem.W.codeIn K cd32 "_law_is_map" = true)
    (h121 : PySem.W.keepIn K (.ref f32) = true)
    (h124 : PySem.W.codeIn K cd33 "_law_bad_word" = true)
    (h125 : PySem.W.keepIn K (.ref f33) = true)
    (h128 : PySem.W.codeIn K cd34 "_law_spoilt" = true)
    (h129 : PySem.W.keepIn K (.ref f34) = true)
    (h132 : PySem.W.codeIn K cd35 "_law_refused" = true)
    (h133 : PySem.W.keepIn K (.ref f35) = true)
    (h136 : PySem.W.codeIn K cd36 "_law_first_ones" = true)
    (h137 : PySem.W.keepIn K (.ref f36) = true)
    (h140 : PySem.W.codeIn K cd37 "_law_of" = true)
    (h141 : PySem.W.keepIn K (.ref f37) = true)
    (h144 : PySem.W.codeIn K cd38 "_law_lists_stay" = true)
    (h145 : PySem.W.keepIn K (.ref f38) = true)
    (h148 : PySem.W.codeIn K cd39 "law" = true)
    (h149 : PySem.W.keepIn K (.ref f39) = true)
    (h151 : PySem.W.findIn K (.ref C1) "__getattribute__" = some (some (.builtin "BaseException.__getattribute__")))
    (h152 : PySem.W.findIn K (.ref C1) "__getattr__" = some none)
    (h153 : PySem.W.subIn K (.ref C1) (.type "BaseException") = some true)
    (h154 : PySem.W.hasDictIn K C1 = true)
    (h155 : PySem.W.findIn K (.ref C1) "__class__" = some (some (.builtin "object.__class__")))
    (h156 : PySem.W.specialIn K (.builtin "object.__class__") "__get__" = some (some (.builtin "getset_descriptor.__get__")))
    (h157 : PySem.W.takesIn K (.builtin "object.__class__") = some true)
    (h158 : PySem.W.mroIn K C1 (.type "object") = some true)
    (h160 : PySem.W.isClsIn K C2 = true)
    (h161 : PySem.W.typeIn K (.ref C2) = some (.type "type"))
    (h162 : PySem.W.subIn K (.ref C1) (.ref C2) = some false)
    (h164 : PySem.W.isClsIn K C3 = true)
    (h165 : PySem.W.typeIn K (.ref C3) = some (.type "type"))
    (h166 : PySem.W.subIn K (.ref C1) (.ref C3) = some false)
    (h167 : PySem.W.subIn K (.ref C1) (.type "ValueError") = some true)
    (h169 : PySem.W.isClsIn K C0 = true)
    (h170 : PySem.W.typeIn K (.ref C0) = some (.type "type"))
    (h171 : PySem.W.subIn K (.ref C1) (.ref C0) = some true)
    (h172 : PySem.W.subIn K (.ref C0) (.type "BaseException") = some true)
    (h173 : PySem.W.hasDictIn K C0 = true)
    (h174 : PySem.W.nsIn K mainGlobals "isinstance" = some none)
    (h175 : PySem.W.nsIn K mainGlobals "tuple" = some none)
    (h176 : PySem.W.nsIn K mainGlobals "list" = some none)
    (h177 : PySem.W.nsIn K mainGlobals "str" = some none)
    (h178 : PySem.W.nsIn K mainGlobals "len" = some none)
    (h179 : PySem.W.nsIn K mainGlobals "range" = some none)
    (h180 : PySem.W.nsIn K mainGlobals "sorted" = some none)
    (h181 : PySem.W.nsIn K mainGlobals "iter" = some none)
    (h182 : PySem.W.nsIn K mainGlobals "sum" = some none)
    (h183 : PySem.W.nsIn K mainGlobals "int" = some none)
    (h184 : PySem.W.nsIn K mainGlobals "abs" = some none)
    (h185 : PySem.W.nsIn K mainGlobals "bool" = some none)
    (h186 : PySem.W.nsIn K mainGlobals "all" = some none)
    (h187 : PySem.W.nsIn K mainGlobals "dict" = some none)
    (h188 : PySem.W.nsIn K mainGlobals "set" = some none)
    (h189 : PySem.W.nsIn K mainGlobals "ValueError" = some none)
    (h190 : PySem.W.nsIn K mainGlobals "repr" = some none)
    (h192 : PySem.W.readsIn K C0 (.type "type") = true)
    (h193 : PySem.W.findCls K (.ref C0) (.type "type") "__init__" = some (.val (.builtin "ValueError.__init__")))
    (h194 : PySem.W.specialIn K (.ref C0) "__getattribute__" = some (some (.builtin "type.__getattribute__")))
    (h197 : PySem.W.findIn K (.ref C1) "__setattr__" = some (some (.builtin "object.__setattr__")))
    (h198 : PySem.W.typeIn K (.ref C1) = some (.type "type"))
    (h199 : PySem.W.keepIn K (.ref C1) = true)
    (h201 : PySem.W.typeIn K (.ref f0) = some (.type "function"))
    (h202 : PySem.W.findIn K (.ref C1) "pairs" = some none)
    (h205 : PySem.W.findIn K (.ref C2) "__setattr__" = some (some (.builtin "object.__setattr__")))
    (h206 : PySem.W.subIn K (.ref C2) (.type "BaseException") = some true)
    (h207 : PySem.W.keepIn K (.ref C2) = true)
    (h209 : PySem.W.typeIn K (.ref f1) = some (.type "function"))
    (h210 : PySem.W.findIn K (.ref C2) "word" = some none)
    (h213 : PySem.W.findIn K (.ref C3) "__setattr__" = some (some (.builtin "object.__setattr__")))
    (h214 : PySem.W.subIn K (.ref C3) (.type "BaseException") = some true)
    (h215 : PySem.W.keepIn K (.ref C3) = true)
    (h217 : PySem.W.typeIn K (.ref f2) = some (.type "function"))
    (h218 : PySem.W.findIn K (.ref C3) "word" = some none)
    (h220 : PySem.W.plainGet K C4 Str.empty = true)
    (h221 : PySem.W.hasDictIn K C4 = true)
    (h222 : PySem.W.plainOver K C4 = true)
    (h223 : PySem.W.findIn K (.ref C4) "__setattr__" = some (some (.builtin "object.__setattr__")))
    (h224 : PySem.W.findIn K (.ref C4) "__class__" = some (some (.builtin "object.__class__")))
    (h225 : PySem.W.mroIn K C4 (.type "object") = some true)
    (h226 : PySem.W.subIn K (.type "NoneType") (.ref C4) = some false)
    (h227 : PySem.W.subIn K (.type "bool") (.ref C4) = some false)
    (h228 : PySem.W.subIn K (.type "int") (.ref C4) = some false)
    (h229 : PySem.W.subIn K (.type "str") (.ref C4) = some false)
    (h230 : PySem.W.subIn K (.type "tuple") (.ref C4) = some false)
    (h231 : PySem.W.subIn K (.type "list") (.ref C4) = some false)
    (h232 : PySem.W.subIn K (.type "dict") (.ref C4) = some false)
    (h233 : PySem.W.isClsIn K C4 = true)
    (h234 : PySem.W.typeIn K (.ref C4) = some (.type "type"))
    (h235 : PySem.W.findIn K (.ref C4) "pairs" = some none)
    (h236 : PySem.W.makesIn K C4 = true)
    (h238 : PySem.W.isFn K (.ref f10) = true)
    (h239 : PySem.W.keepIn K (.ref C4) = true)
    (h241 : PySem.W.isFn K (.ref f11) = true)
    (h242 : PySem.W.fnIn K f11 = true)
    (h244 : PySem.W.isFn K (.ref f12) = true)
    (h246 : PySem.W.isFn K (.ref f13) = true)
    (h248 : PySem.W.isFn K (.ref f14) = true)
    (h250 : PySem.W.isFn K (.ref f15) = true)
    (h252 : PySem.W.isFn K (.ref f16) = true)
    (h253 : PySem.W.readsIn K C4 (.type "type") = true)
    (h254 : PySem.W.specialIn K (.ref C4) "__getattribute__" = some (some (.builtin "type.__getattribute__")))
    (h257 : PySem.W.fnIn K f17 = true)
    (h159 : (Value.ref C1 == Value.ref C2) = false)
    (h163 : (Value.ref C1 == Value.ref C3) = false)
    (h168 : (Value.ref C1 == Value.ref C0) = false)
    : ∃ fd : FuncData, (∀ (s : Shared) (u : Value), BindsTo s fd ⟨[u], []⟩ [("script", u)]) ∧ ∀ base : Heap, K.In base → base.Ns mainGlobals mg → ∃ cl : Nat → Addr, FnG l.prog w K mg base (L2N.CX l.prog w) 13 fl fd ["script"] (spP K cl 1 f_law) := by
  have e := hfa.symm.trans (PySem.W.mg_of X G h150)
  cases e
  obtain ⟨d0, F0, b0⟩ : ∃ fd, Fun K "__init__" "BadMap.__init__" s_BadMap___init__ f0 fd ∧ Binds K fd ["self", "pairs"] [] := by
    have F0 := fun_mk (st := s_BadMap___init__) h0 h1 h2
    exact ⟨_, F0, F0.binds (ps := ["self", "pairs"]) fun _ _ _ _ _ _ us hl => match us, hl with | [_, _], _ => rfl⟩
  obtain ⟨d1, F1, b1⟩ : ∃ fd, Fun K "__init__" "BadTongue.__init__" s_BadTongue___init__ f1 fd ∧ Binds K fd ["self", "word"] [] := by
    have F1 := fun_mk (st := s_BadTongue___init__) h3 h4 h5
    exact ⟨_, F1, F1.binds (ps := ["self", "word"]) fun _ _ _ _ _ _ us hl => match us, hl with | [_, _], _ => rfl⟩
  obtain ⟨d2, F2, b2⟩ : ∃ fd, Fun K "__init__" "BadTerm.__init__" s_BadTerm___init__ f2 fd ∧ Binds K fd ["self", "word"] [] := by
    have F2 := fun_mk (st := s_BadTerm___init__) h6 h7 h8
    exact ⟨_, F2, F2.binds (ps := ["self", "word"]) fun _ _ _ _ _ _ us hl => match us, hl with | [_, _], _ => rfl⟩
  obtain ⟨d3, F3, b3⟩ : ∃ fd, Fun K "deep" "deep" s_deep f3 fd ∧ Binds K fd ["thing"] [] := by
    have F3 := fun_mk (st := s_deep) h9 h10 h11
    exact ⟨_, F3, F3.binds (ps := ["thing"]) fun _ _ _ _ _ _ us hl => match us, hl with | [_], _ => rfl⟩
  obtain ⟨d4, F4, b4⟩ : ∃ fd, Fun K "is_word" "is_word" s_is_word f4 fd ∧ Binds K fd ["thing"] [] := by
    have F4 := fun_mk (st := s_is_word) h13 h14 h15
    exact ⟨_, F4, F4.binds (ps := ["thing"]) fun _ _ _ _ _ _ us hl => match us, hl with | [_], _ => rfl⟩
  obtain ⟨d5, F5, b5⟩ : ∃ fd, Fun K "is_rising" "is_rising" s_is_rising f5 fd ∧ Binds K fd ["row"] [] := by
    have F5 := fun_mk (st := s_is_rising) h17 h18 h19
    exact ⟨_, F5, F5.binds (ps := ["row"]) fun _ _ _ _ _ _ us hl => match us, hl with | [_], _ => rfl⟩
  obtain ⟨d6, F6, b6⟩ : ∃ fd, Fun K "is_pair_of_words" "is_pair_of_words" s_is_pair_of_words f6 fd ∧ Binds K fd ["thing"] [] := by
    have F6 := fun_mk (st := s_is_pair_of_words) h21 h22 h23
    exact ⟨_, F6, F6.binds (ps := ["thing"]) fun _ _ _ _ _ _ us hl => match us, hl with | [_], _ => rfl⟩
  obtain ⟨d7, F7, b7⟩ : ∃ fd, Fun K "is_map" "is_map" s_is_map f7 fd ∧ Binds K fd ["thing"] [] := by
    have F7 := fun_mk (st := s_is_map) h25 h26 h27
    exact ⟨_, F7, F7.binds (ps := ["thing"]) fun _ _ _ _ _ _ us hl => match us, hl with | [_], _ => rfl⟩
  obtain ⟨d8, F8, b8⟩ : ∃ fd, Fun K "mapped" "mapped" s_mapped f8 fd ∧ Binds K fd ["pairs", "word"] [] := by
    have F8 := fun_mk (st := s_mapped) h29 h30 h31
    exact ⟨_, F8, F8.binds (ps := ["pairs", "word"]) fun _ _ _ _ _ _ us hl => match us, hl with | [_, _], _ => rfl⟩
  obtain ⟨d9, F9, b9⟩ : ∃ fd, Fun K "followed" "followed" s_followed f9 fd ∧ Binds K fd ["first", "second"] [] := by
    have F9 := fun_mk (st := s_followed) h33 h34 h35
    exact ⟨_, F9, F9.binds (ps := ["first", "second"]) fun _ _ _ _ _ _ us hl => match us, hl with | [_, _], _ => rfl⟩
  obtain ⟨d10, F10, b10, bd10⟩ : ∃ fd, FunD K "__init__" "WordMap.__init__" (defArgs s_WordMap___init__) (defBody s_WordMap___init__) (defScope s_WordMap___init__) [.ref dT10] [] f10 fd ∧ Binds K fd ["self", "pairs"] [] ∧ ∃ ds, Vals [.ref dT10] ds ∧ Binds K fd ["self", "pairs"] ds := by
    have F : FunD K "__init__" "WordMap.__init__" (defArgs s_WordMap___init__) (defBody s_WordMap___init__) (defScope s_WordMap___init__) [.ref dT10] [] f10 _ := ⟨⟨oc10, od10, .ref T10, kV10, dc10, pm10, an10, cd10, ct10, sl10, rfl, h37, h40, .inr ⟨(by simp), T10, _, [.ref dT10], tn10, rfl, h38, rfl, .cons rfl .nil⟩, .inl rfl⟩, h41⟩
    refine ⟨_, F, ?_, ?_⟩
    · obtain ⟨ds, hv, hb⟩ := F.binds1 (ps := ["self", "pairs"]) 2 1 (by simp) rfl fun _ _ _ _ _ _ _ us its hl hi => match us, its, hl, hi with | [_, _], [_], _, _ => ⟨_, rfl, rfl⟩
      cases hv
      exact hb
    · exact F.binds1 1 0 (by simp) rfl fun _ _ _ _ _ _ _ us its hl hi => match us, its, hl, hi with | [_], [_], _, _ => ⟨_, rfl, rfl⟩
  obtain ⟨d11, F11, b11⟩ : ∃ fd, Fun K "__call__" "WordMap.__call__" s_WordMap___call__ f11 fd ∧ Binds K fd ["self", "word"] [] := by
    have F11 := fun_mk (st := s_WordMap___call__) h42 h43 h44
    exact ⟨_, F11, F11.binds (ps := ["self", "word"]) fun _ _ _ _ _ _ us hl => match us, hl with | [_, _], _ => rfl⟩
  obtain ⟨d12, F12, b12⟩ : ∃ fd, Fun K "__contains__" "WordMap.__contains__" s_WordMap___contains__ f12 fd ∧ Binds K fd ["self", "word"] [] := by
    have F12 := fun_mk (st := s_WordMap___contains__) h45 h46 h47
    exact ⟨_, F12, F12.binds (ps := ["self", "word"]) fun _ _ _ _ _ _ us hl => match us, hl with | [_, _], _ => rfl⟩
  obtain ⟨d13, F13, b13⟩ : ∃ fd, Fun K "__eq__" "WordMap.__eq__" s_WordMap___eq__ f13 fd ∧ Binds K fd ["self", "other"] [] := by
    have F13 := fun_mk (st := s_WordMap___eq__) h48 h49 h50
    exact ⟨_, F13, F13.binds (ps := ["self", "other"]) fun _ _ _ _ _ _ us hl => match us, hl with | [_, _], _ => rfl⟩
  obtain ⟨d14, F14, b14⟩ : ∃ fd, Fun K "__len__" "WordMap.__len__" s_WordMap___len__ f14 fd ∧ Binds K fd ["self"] [] := by
    have F14 := fun_mk (st := s_WordMap___len__) h51 h52 h53
    exact ⟨_, F14, F14.binds (ps := ["self"]) fun _ _ _ _ _ _ us hl => match us, hl with | [_], _ => rfl⟩
  obtain ⟨d15, F15, b15⟩ : ∃ fd, Fun K "__iter__" "WordMap.__iter__" s_WordMap___iter__ f15 fd ∧ Binds K fd ["self"] [] := by
    have F15 := fun_mk (st := s_WordMap___iter__) h54 h55 h56
    exact ⟨_, F15, F15.binds (ps := ["self"]) fun _ _ _ _ _ _ us hl => match us, hl with | [_], _ => rfl⟩
  obtain ⟨d16, F16, b16⟩ : ∃ fd, Fun K "then" "WordMap.then" s_WordMap_then f16 fd ∧ Binds K fd ["self", "second"] [] := by
    have F16 := fun_mk (st := s_WordMap_then) h57 h58 h59
    exact ⟨_, F16, F16.binds (ps := ["self", "second"]) fun _ _ _ _ _ _ us hl => match us, hl with | [_, _], _ => rfl⟩
  obtain ⟨d17, F17, b17⟩ : ∃ fd, Fun K "of" "WordMap.of" s_WordMap_of f17 fd ∧ Binds K fd ["cls", "pairs"] [] := by
    have F17 := fun_mk (st := s_WordMap_of) h60 h61 h62
    exact ⟨_, F17, F17.binds (ps := ["cls", "pairs"]) fun _ _ _ _ _ _ us hl => match us, hl with | [_, _], _ => rfl⟩
  obtain ⟨d18, F18, b18⟩ : ∃ fd, Fun K "_law_source" "_law_source" s__law_source f18 fd ∧ Binds K fd ["script", "salt"] [] := by
    have F18 := fun_mk (st := s__law_source) h63 h64 h65
    exact ⟨_, F18, F18.binds (ps := ["script", "salt"]) fun _ _ _ _ _ _ us hl => match us, hl with | [_, _], _ => rfl⟩
  obtain ⟨d19, F19, b19⟩ : ∃ fd, Fun K "_law_next" "_law_next" s__law_next f19 fd ∧ Binds K fd ["source"] [] := by
    have F19 := fun_mk (st := s__law_next) h67 h68 h69
    exact ⟨_, F19, F19.binds (ps := ["source"]) fun _ _ _ _ _ _ us hl => match us, hl with | [_], _ => rfl⟩
  obtain ⟨d20, F20, b20⟩ : ∃ fd, Fun K "_law_pick" "_law_pick" s__law_pick f20 fd ∧ Binds K fd ["source", "many"] [] := by
    have F20 := fun_mk (st := s__law_pick) h71 h72 h73
    exact ⟨_, F20, F20.binds (ps := ["source", "many"]) fun _ _ _ _ _ _ us hl => match us, hl with | [_, _], _ => rfl⟩
  obtain ⟨d21, F21, b21⟩ : ∃ fd, Fun K "_law_one_in" "_law_one_in" s__law_one_in f21 fd ∧ Binds K fd ["source", "many"] [] := by
    have F21 := fun_mk (st := s__law_one_in) h75 h76 h77
    exact ⟨_, F21, F21.binds (ps := ["source", "many"]) fun _ _ _ _ _ _ us hl => match us, hl with | [_, _], _ => rfl⟩
  obtain ⟨d22, F22, b22⟩ : ∃ fd, Fun K "_law_one_of" "_law_one_of" s__law_one_of f22 fd ∧ Binds K fd ["source", "row"] [] := by
    have F22 := fun_mk (st := s__law_one_of) h79 h80 h81
    exact ⟨_, F22, F22.binds (ps := ["source", "row"]) fun _ _ _ _ _ _ us hl => match us, hl with | [_, _], _ => rfl⟩
  obtain ⟨d23, F23, b23⟩ : ∃ fd, Fun K "_law_letter" "_law_letter" s__law_letter f23 fd ∧ Binds K fd ["k"] [] := by
    have F23 := fun_mk (st := s__law_letter) h83 h84 h85
    exact ⟨_, F23, F23.binds (ps := ["k"]) fun _ _ _ _ _ _ us hl => match us, hl with | [_], _ => rfl⟩
  obtain ⟨d24, F24, b24⟩ : ∃ fd, Fun K "_law_word" "_law_word" s__law_word f24 fd ∧ Binds K fd ["source", "longest"] [] := by
    have F24 := fun_mk (st := s__law_word) h87 h88 h89
    exact ⟨_, F24, F24.binds (ps := ["source", "longest"]) fun _ _ _ _ _ _ us hl => match us, hl with | [_, _], _ => rfl⟩
  obtain ⟨d25, F25, b25⟩ : ∃ fd, Fun K "_law_words" "_law_words" s__law_words f25 fd ∧ Binds K fd ["source", "many", "longest", "spent"] [] := by
    have F25 := fun_mk (st := s__law_words) h91 h92 h93
    exact ⟨_, F25, F25.binds (ps := ["source", "many", "longest", "spent"]) fun _ _ _ _ _ _ us hl => match us, hl with | [_, _, _, _], _ => rfl⟩
  obtain ⟨d26, F26, b26⟩ : ∃ fd, Fun K "_law_lists" "_law_lists" s__law_lists f26 fd ∧ Binds K fd ["thing"] [] := by
    have F26 := fun_mk (st := s__law_lists) h95 h96 h97
    exact ⟨_, F26, F26.binds (ps := ["thing"]) fun _ _ _ _ _ _ us hl => match us, hl with | [_], _ => rfl⟩
  obtain ⟨d27, F27, b27⟩ : ∃ fd, Fun K "_law_same" "_law_same" s__law_same f27 fd ∧ Binds K fd ["actual", "due"] [] := by
    have F27 := fun_mk (st := s__law_same) h99 h100 h101
    exact ⟨_, F27, F27.binds (ps := ["actual", "due"]) fun _ _ _ _ _ _ us hl => match us, hl with | [_, _], _ => rfl⟩
  obtain ⟨d28, F28, b28⟩ : ∃ fd, Fun K "_law_swap" "_law_swap" s__law_swap f28 fd ∧ Binds K fd ["row", "k", "thing"] [] := by
    have F28 := fun_mk (st := s__law_swap) h103 h104 h105
    exact ⟨_, F28, F28.binds (ps := ["row", "k", "thing"]) fun _ _ _ _ _ _ us hl => match us, hl with | [_, _, _], _ => rfl⟩
  obtain ⟨d29, F29, b29⟩ : ∃ fd, Fun K "_law_map" "_law_map" s__law_map f29 fd ∧ Binds K fd ["pairs", "word"] [] := by
    have F29 := fun_mk (st := s__law_map) h107 h108 h109
    exact ⟨_, F29, F29.binds (ps := ["pairs", "word"]) fun _ _ _ _ _ _ us hl => match us, hl with | [_, _], _ => rfl⟩
  obtain ⟨d30, F30, b30⟩ : ∃ fd, Fun K "_law_then" "_law_then" s__law_then f30 fd ∧ Binds K fd ["one_map", "other_map"] [] := by
    have F30 := fun_mk (st := s__law_then) h111 h112 h113
    exact ⟨_, F30, F30.binds (ps := ["one_map", "other_map"]) fun _ _ _ _ _ _ us hl => match us, hl with | [_, _], _ => rfl⟩
  obtain ⟨d31, F31, b31⟩ : ∃ fd, Fun K "_law_drawn_map" "_law_drawn_map" s__law_drawn_map f31 fd ∧ Binds K fd ["source", "pool"] [] := by
    have F31 := fun_mk (st := s__law_drawn_map) h115 h116 h117
    exact ⟨_, F31, F31.binds (ps := ["source", "pool"]) fun _ _ _ _ _ _ us hl => match us, hl with | [_, _], _ => rfl⟩
  obtain ⟨d32, F32, b32⟩ : ∃ fd, Fun K "_law_is_map" "_law_is_map" s__law_is_map f32 fd ∧ Binds K fd ["word_map", "pairs", "words"] [] := by
    have F32 := fun_mk (st := s__law_is_map) h119 h120 h121
    exact ⟨_, F32, F32.binds (ps := ["word_map", "pairs", "words"]) fun _ _ _ _ _ _ us hl => match us, hl with | [_, _, _], _ => rfl⟩
  obtain ⟨d33, F33, b33⟩ : ∃ fd, Fun K "_law_bad_word" "_law_bad_word" s__law_bad_word f33 fd ∧ Binds K fd ["source", "word"] [] := by
    have F33 := fun_mk (st := s__law_bad_word) h123 h124 h125
    exact ⟨_, F33, F33.binds (ps := ["source", "word"]) fun _ _ _ _ _ _ us hl => match us, hl with | [_, _], _ => rfl⟩
  obtain ⟨d34, F34, b34⟩ : ∃ fd, Fun K "_law_spoilt" "_law_spoilt" s__law_spoilt f34 fd ∧ Binds K fd ["source", "pairs", "pool"] [] := by
    have F34 := fun_mk (st := s__law_spoilt) h127 h128 h129
    exact ⟨_, F34, F34.binds (ps := ["source", "pairs", "pool"]) fun _ _ _ _ _ _ us hl => match us, hl with | [_, _, _], _ => rfl⟩
  obtain ⟨d35, F35, b35⟩ : ∃ fd, Fun K "_law_refused" "_law_refused" s__law_refused f35 fd ∧ Binds K fd ["thing"] [] := by
    have F35 := fun_mk (st := s__law_refused) h131 h132 h133
    exact ⟨_, F35, F35.binds (ps := ["thing"]) fun _ _ _ _ _ _ us hl => match us, hl with | [_], _ => rfl⟩
  obtain ⟨d36, F36, b36⟩ : ∃ fd, Fun K "_law_first_ones" "_law_first_ones" s__law_first_ones f36 fd ∧ Binds K fd ["rows"] [] := by
    have F36 := fun_mk (st := s__law_first_ones) h135 h136 h137
    exact ⟨_, F36, F36.binds (ps := ["rows"]) fun _ _ _ _ _ _ us hl => match us, hl with | [_], _ => rfl⟩
  obtain ⟨d37, F37, b37⟩ : ∃ fd, Fun K "_law_of" "_law_of" s__law_of f37 fd ∧ Binds K fd ["source", "pool", "words"] [] := by
    have F37 := fun_mk (st := s__law_of) h139 h140 h141
    exact ⟨_, F37, F37.binds (ps := ["source", "pool", "words"]) fun _ _ _ _ _ _ us hl => match us, hl with | [_, _, _], _ => rfl⟩
  obtain ⟨d38, F38, b38⟩ : ∃ fd, Fun K "_law_lists_stay" "_law_lists_stay" s__law_lists_stay f38 fd ∧ Binds K fd ["pairs", "pool", "words"] [] := by
    have F38 := fun_mk (st := s__law_lists_stay) h143 h144 h145
    exact ⟨_, F38, F38.binds (ps := ["pairs", "pool", "words"]) fun _ _ _ _ _ _ us hl => match us, hl with | [_, _, _], _ => rfl⟩
  have F39 := fun_mk (st := s_law) h147 h148 h149
  have b39 := F39.binds (ps := ["script"]) fun _ _ _ _ _ _ us hl => match us, hl with | [_], _ => rfl
  have T : Txt K mg (nth C0 [C0, C1, C2, C3, C4]) (nth f0 [f0, f1, f2, f3, f4, f5, f6, f7, f8, f9, f10, f11, f12, f13, f14, f15, f16, f17, f18, f19, f20, f21, f22, f23, f24, f25, f26, f27, f28, f29, f30, f31, f32, f33, f34, f35, f36, f37, f38, fl]) (nth d0 [d0, d1, d2, d3, d4, d5, d6, d7, d8, d9, d10, d11, d12, d13, d14, d15, d16, d17, d18, d19, d20, d21, d22, d23, d24, d25, d26, d27, d28, d29, d30, d31, d32, d33, d34, d35, d36, d37, d38, PySem.W.fnOf "law" "law" (defArgs s_law) (defBody s_law) (defScope s_law) .none kV39 dc39 pm39 an39 cd39 ct39]) dT10 cmp17 := {
    F_BadMap___init__ := F0
    b_BadMap___init__ := b0
    k_BadMap___init__ := h2
    F_BadTongue___init__ := F1
    b_BadTongue___init__ := b1
    k_BadTongue___init__ := h5
    F_BadTerm___init__ := F2
    b_BadTerm___init__ := b2
    k_BadTerm___init__ := h8
    F_deep := F3
    b_deep := b3
    g_deep := PySem.W.mg_of X G h12
    k_deep := h11
    F_is_word := F4
    b_is_word := b4
    g_is_word := PySem.W.mg_of X G h16
    k_is_word := h15
    F_is_rising := F5
    b_is_rising := b5
    g_is_rising := PySem.W.mg_of X G h20
    k_is_rising := h19
    F_is_pair_of_words := F6
    b_is_pair_of_words := b6
    g_is_pair_of_words := PySem.W.mg_of X G h24
    k_is_pair_of_words := h23
    F_is_map := F7
    b_is_map := b7
    g_is_map := PySem.W.mg_of X G h28
    k_is_map := h27
    F_mapped := F8
    b_mapped := b8
    g_mapped := PySem.W.mg_of X G h32
    k_mapped := h31
    F_followed := F9
    b_followed := b9
    g_followed := PySem.W.mg_of X G h36
    k_followed := h35
    D_WordMap___init__ := F10
    b_WordMap___init__ := b10
    bd_WordMap___init__ := bd10
    dl_WordMap___init__ := ⟨_, _, _, h39, rfl, rfl, rfl, Nat.zero_le _, .nil⟩
    k_WordMap___init__ := h41
    F_WordMap___call__ := F11
    b_WordMap___call__ := b11
    k_WordMap___call__ := h44
    F_WordMap___contains__ := F12
    b_WordMap___contains__ := b12
    k_WordMap___contains__ := h47
    F_WordMap___eq__ := F13
    b_WordMap___eq__ := b13
    k_WordMap___eq__ := h50
    F_WordMap___len__ := F14
    b_WordMap___len__ := b14
    k_WordMap___len__ := h53
    F_WordMap___iter__ := F15
    b_WordMap___iter__ := b15
    k_WordMap___iter__ := h56
    F_WordMap_then := F16
    b_WordMap_then := b16
    k_WordMap_then := h59
    F_WordMap_of := F17
    b_WordMap_of := b17
    k_WordMap_of := h62
    F__law_source := F18
    b__law_source := b18
    g__law_source := PySem.W.mg_of X G h66
    k__law_source := h65
    F__law_next := F19
    b__law_next := b19
    g__law_next := PySem.W.mg_of X G h70
    k__law_next := h69
    F__law_pick := F20
    b__law_pick := b20
    g__law_pick := PySem.W.mg_of X G h74
    k__law_pick := h73
    F__law_one_in := F21
    b__law_one_in := b21
    g__law_one_in := PySem.W.mg_of X G h78
    k__law_one_in := h77
    F__law_one_of := F22
    b__law_one_of := b22
    g__law_one_of := PySem.W.mg_of X G h82
    k__law_one_of := h81
    F__law_letter := F23
    b__law_letter := b23
    g__law_letter := PySem.W.mg_of X G h86
    k__law_letter := h85
    F__law_word := F24
    b__law_word := b24
    g__law_word := PySem.W.mg_of X G h90
    k__law_word := h89
    F__law_words := F25
    b__law_words := b25
    g__law_words := PySem.W.mg_of X G h94
    k__law_words := h93
    F__law_lists := F26
    b__law_lists := b26
    g__law_lists := PySem.W.mg_of X G h98
    k__law_lists := h97
    F__law_same := F27
    b__law_same := b27
    g__law_same := PySem.W.mg_of X G h102
    k__law_same := h101
    F__law_swap := F28
    b__law_swap := b28
    g__law_swap := PySem.W.mg_of X G h106
    k__law_swap := h105
    F__law_map := F29
    b__law_map := b29
    g__law_map := PySem.W.mg_of X G h110
    k__law_map := h109
    F__law_then := F30
    b__law_then := b30
    g__law_then := PySem.W.mg_of X G h114
    k__law_then := h113
    F__law_drawn_map := F31
    b__law_drawn_map := b31
    g__law_drawn_map := PySem.W.mg_of X G h118
    k__law_drawn_map := h117
    F__law_is_map := F32
    b__law_is_map := b32
    g__law_is_map := PySem.W.mg_of X G h122
    k__law_is_map := h121
    F__law_bad_word := F33
    b__law_bad_word := b33
    g__law_bad_word := PySem.W.mg_of X G h126
    k__law_bad_word := h125
    F__law_spoilt := F34
    b__law_spoilt := b34
    g__law_spoilt := PySem.W.mg_of X G h130
    k__law_spoilt := h129
    F__law_refused := F35
    b__law_refused := b35
    g__law_refused := PySem.W.mg_of X G h134
    k__law_refused := h133
    F__law_first_ones := F36
    b__law_first_ones := b36
    g__law_first_ones := PySem.W.mg_of X G h138
    k__law_first_ones := h137
    F__law_of := F37
    b__law_of := b37
    g__law_of := PySem.W.mg_of X G h142
    k__law_of := h141
    F__law_lists_stay := F38
    b__law_lists_stay := b38
    g__law_lists_stay := PySem.W.mg_of X G h146
    k__law_lists_stay := h145
    F_law := F39
    b_law := b39
    g_law := PySem.W.mg_of X G h150
    k_law := h149
    xc1 := ⟨h151, h152, h153, h154, h155, h156, h157, h158⟩
    kt1_BadMap := kit_self
    kt1_BadTongue := kit_own h159 h160 h161 h162
    kt1_BadTerm := kit_own h163 h164 h165 h166
    kt1_ValueError := kitTyX rfl (by decide +kernel) h167
    kt1_AcrossError := kit_own h168 h169 h170 h171
    xm1_AcrossError := PySem.W.exm_ref h172 h173 h170 h171
    z_isinstance := PySem.W.mg_none_of X G h174
    z_tuple := PySem.W.mg_none_of X G h175
    z_list := PySem.W.mg_none_of X G h176
    z_str := PySem.W.mg_none_of X G h177
    z_len := PySem.W.mg_none_of X G h178
    z_range := PySem.W.mg_none_of X G h179
    z_sorted := PySem.W.mg_none_of X G h180
    z_iter := PySem.W.mg_none_of X G h181
    z_sum := PySem.W.mg_none_of X G h182
    z_int := PySem.W.mg_none_of X G h183
    z_abs := PySem.W.mg_none_of X G h184
    z_bool := PySem.W.mg_none_of X G h185
    z_all := PySem.W.mg_none_of X G h186
    z_dict := PySem.W.mg_none_of X G h187
    z_set := PySem.W.mg_none_of X G h188
    z_ValueError := PySem.W.mg_none_of X G h189
    z_repr := PySem.W.mg_none_of X G h190
    g_AcrossError := PySem.W.mg_of X G h191
    bx0 := ⟨h192, h193, h194⟩
    g_BadMap := PySem.W.mg_of X G h195
    x1 := ⟨⟨_, _, _, _, _, _, _, _, _, _, _, _, _, _, _, h196, rfl⟩, h197, h153, h198, h199⟩
    i1 := h200
    t1 := h201
    xn1_pairs := h202
    g_BadTongue := PySem.W.mg_of X G h203
    x2 := ⟨⟨_, _, _, _, _, _, _, _, _, _, _, _, _, _, _, h204, rfl⟩, h205, h206, h161, h207⟩
    i2 := h208
    t2 := h209
    xn2_word := h210
    g_BadTerm := PySem.W.mg_of X G h211
    x3 := ⟨⟨_, _, _, _, _, _, _, _, _, _, _, _, _, _, _, h212, rfl⟩, h213, h214, h165, h215⟩
    i3 := h216
    t3 := h217
    xn3_word := h218
    g_WordMap := PySem.W.mg_of X G h219
    c4 := ⟨h220, h221, h222, h223⟩
    ow4 := ⟨⟨⟨h220, h221, h222, h223⟩, h224, h156, h157, h225⟩, h233, h234, own_subs h226 h227 h228 h229 h230 h231 h232⟩
    n4_pairs := h235
    m4 := ⟨h236, h237, h238, h239⟩
    co4 := ⟨h240, h241, h242⟩
    mc4 := h243
    mg4 := h244
    me4 := h245
    mf4 := h246
    ml4 := h247
    mh4 := h248
    mi4 := h249
    mj4 := h250
    mm4_then := ⟨h251, h252, h59⟩
    cr4 := ⟨h253, h254⟩
    cm4_of := ⟨h255, ⟨_, h256⟩, h257⟩
  }
  exact ⟨_, fun s v => .of_eq rfl, fun base _ _ => ⟨_, ok_law T⟩⟩
end A11
open PySem PySem.W PyProof.Rows Kp in
set_option maxRecDepth 100000 in
set_option maxHeartbeats 0 in
theorem PySem.Challenge.cw_keptacross_k11_word_maps_holds : PySem.Challenge.rw_keptacross_k11_word_maps.Holds := by
  w_on; o_law; k_head; (case hw => w_witness2)
  k_fill
  refine walk_endG (l := PySem.Challenge.rw_keptacross_k11_word_maps) (n := 63) (k := 13) (x := "script") (f := A11.f_law) rfl (by decide) rfl ⟨rfl, by decide, by decide⟩ (fun w h Y => PySem.W.kIn_of Y) ?F (fun ns hl => A11.law_true ns hl)
  case F =>
    intro w mg fa h KX G hmg
    refine' A11.all_mk KX G hmg ?h12 ?h16 ?h20 ?h24 ?h28 ?h32 ?h36 ?h66 ?h70 ?h74 ?h78 ?h82 ?h86 ?h90 ?h94 ?h98 ?h102 ?h106 ?h110 ?h114 ?h118 ?h122 ?h126 ?h130 ?h134 ?h138 ?h142 ?h146 ?h150 ?h191 ?h195 ?h203 ?h211 ?h219 ?h196 ?h200 ?h204 ?h208 ?h212 ?h216 ?h237 ?h240 ?h243 ?h245 ?h247 ?h249 ?h251 ?h255 ?h256 ?h0 ?h3 ?h6 ?h9 ?h13 ?h17 ?h21 ?h25 ?h29 ?h33 ?h37 ?h42 ?h45 ?h48 ?h51 ?h54 ?h57 ?h60 ?h63 ?h67 ?h71 ?h75 ?h79 ?h83 ?h87 ?h91 ?h95 ?h99 ?h103 ?h107 ?h111 ?h115 ?h119 ?h123 ?h127 ?h131 ?h135 ?h139 ?h143 ?h147 ?h38 ?h39 ?h1 ?h2 ?h4 ?h5 ?h7 ?h8 ?h10 ?h11 ?h14 ?h15 ?h18 ?h19 ?h22 ?h23 ?h26 ?h27 ?h30 ?h31 ?h34 ?h35 ?h40 ?h41 ?h43 ?h44 ?h46 ?h47 ?h49 ?h50 ?h52 ?h53 ?h55 ?h56 ?h58 ?h59 ?h61 ?h62 ?h64 ?h65 ?h68 ?h69 ?h72 ?h73 ?h76 ?h77 ?h80 ?h81 ?h84 ?h85 ?h88 ?h89 ?h92 ?h93 ?h96 ?h97 ?h100 ?h101 ?h104 ?h105 ?h108 ?h109 ?h112 ?h113 ?h116 ?h117 ?h120 ?h121 ?h124 ?h125 ?h128 ?h129 ?h132 ?h133 ?h136 ?h137 ?h140 ?h141 ?h144 ?h145 ?h148 ?h149 ?h151 ?h152 ?h153 ?h154 ?h155 ?h156 ?h157 ?h158 ?h160 ?h161 ?h162 ?h164 ?h165 ?h166 ?h167 ?h169 ?h170 ?h171 ?h172 ?h173 ?h174 ?h175 ?h176 ?h177 ?h178 ?h179 ?h180 ?h181 ?h182 ?h183 ?h184 ?h185 ?h186 ?h187 ?h188 ?h189 ?h190 ?h192 ?h193 ?h194 ?h197 ?h198 ?h199 ?h201 ?h202 ?h205 ?h206 ?h207 ?h209 ?h210 ?h213 ?h214 ?h215 ?h217 ?h218 ?h220 ?h221 ?h222 ?h223 ?h224 ?h225 ?h226 ?h227 ?h228 ?h229 ?h230 ?h231 ?h232 ?h233 ?h234 ?h235 ?h236 ?h238 ?h239 ?h241 ?h242 ?h244 ?h246 ?h248 ?h250 ?h252 ?h253 ?h254 ?h257 ?h159 ?h163 ?h168
    (case h12 => k_is)
    (case h16 => k_is)
    (case h20 => k_is)
    (case h24 => k_is)
    (case h28 => k_is)
    (case h32 => k_is)
    (case h36 => k_is)
    (case h66 => k_is)
    (case h70 => k_is)
    (case h74 => k_is)
    (case h78 => k_is)
    (case h82 => k_is)
    (case h86 => k_is)
    (case h90 => k_is)
    (case h94 => k_is)
    (case h98 => k_is)
    (case h102 => k_is)
    (case h106 => k_is)
    (case h110 => k_is)
    (case h114 => k_is)
    (case h118 => k_is)
    (case h122 => k_is)
    (case h126 => k_is)
    (case h130 => k_is)
    (case h134 => k_is)
    (case h138 => k_is)
    (case h142 => k_is)
    (case h146 => k_is)
    (case h150 => k_is)
    (case h191 => k_is)
    (case h195 => k_is)
    (case h203 => k_is)
    (case h211 => k_is)
    (case h219 => k_is)
    (case h196 => k_is)
    (case h200 => k_is)
    (case h204 => k_is)
    (case h208 => k_is)
    (case h212 => k_is)
    (case h216 => k_is)
    (case h237 => k_is)
    (case h240 => k_is)
    (case h243 => k_is)
    (case h245 => k_is)
    (case h247 => k_is)
    (case h249 => k_is)
    (case h251 => k_is)
    (case h255 => k_is)
    (case h256 => k_is)
    (case h0 => k_is)
    (case h3 => k_is)
    (case h6 => k_is)
    (case h9 => k_is)
    (case h13 => k_is)
    (case h17 => k_is)
    (case h21 => k_is)
    (case h25 => k_is)
    (case h29 => k_is)
    (case h33 => k_is)
    (case h37 => k_is)
    (case h42 => k_is)
    (case h45 => k_is)
    (case h48 => k_is)
    (case h51 => k_is)
    (case h54 => k_is)
    (case h57 => k_is)
    (case h60 => k_is)
    (case h63 => k_is)
    (case h67 => k_is)
    (case h71 => k_is)
    (case h75 => k_is)
    (case h79 => k_is)
    (case h83 => k_is)
    (case h87 => k_is)
    (case h91 => k_is)
    (case h95 => k_is)
    (case h99 => k_is)
    (case h103 => k_is)
    (case h107 => k_is)
    (case h111 => k_is)
    (case h115 => k_is)
    (case h119 => k_is)
    (case h123 => k_is)
    (case h127 => k_is)
    (case h131 => k_is)
    (case h135 => k_is)
    (case h139 => k_is)
    (case h143 => k_is)
    (case h147 => k_is)
    (case h38 => k_is)
    (case h39 => k_is)
    (case h1 => k_is)
    (case h2 => k_is)
    (case h4 => k_is)
    (case h5 => k_is)
    (case h7 => k_is)
    (case h8 => k_is)
    (case h10 => k_is)
    (case h11 => k_is)
    (case h14 => k_is)
    (case h15 => k_is)
    (case h18 => k_is)
    (case h19 => k_is)
    (case h22 => k_is)
    (case h23 => k_is)
    (case h26 => k_is)
    (case h27 => k_is)
    (case h30 => k_is)
    (case h31 => k_is)
    (case h34 => k_is)
    (case h35 => k_is)
    (case h40 => k_is)
    (case h41 => k_is)
    (case h43 => k_is)
    (case h44 => k_is)
    (case h46 => k_is)
    (case h47 => k_is)
    (case h49 => k_is)
    (case h50 => k_is)
    (case h52 => k_is)
    (case h53 => k_is)
    (case h55 => k_is)
    (case h56 => k_is)
    (case h58 => k_is)
    (case h59 => k_is)
    (case h61 => k_is)
    (case h62 => k_is)
    (case h64 => k_is)
    (case h65 => k_is)
    (case h68 => k_is)
    (case h69 => k_is)
    (case h72 => k_is)
    (case h73 => k_is)
    (case h76 => k_is)
    (case h77 => k_is)
    (case h80 => k_is)
    (case h81 => k_is)
    (case h84 => k_is)
    (case h85 => k_is)
    (case h88 => k_is)
    (case h89 => k_is)
    (case h92 => k_is)
    (case h93 => k_is)
    (case h96 => k_is)
    (case h97 => k_is)
    (case h100 => k_is)
    (case h101 => k_is)
    (case h104 => k_is)
    (case h105 => k_is)
    (case h108 => k_is)
    (case h109 => k_is)
    (case h112 => k_is)
    (case h113 => k_is)
    (case h116 => k_is)
    (case h117 => k_is)
    (case h120 => k_is)
    (case h121 => k_is)
    (case h124 => k_is)
    (case h125 => k_is)
    (case h128 => k_is)
    (case h129 => k_is)
    (case h132 => k_is)
    (case h133 => k_is)
    (case h136 => k_is)
    (case h137 => k_is)
    (case h140 => k_is)
    (case h141 => k_is)
    (case h144 => k_is)
    (case h145 => k_is)
    (case h148 => k_is)
    (case h149 => k_is)
    (case h151 => k_is)
    (case h152 => k_is)
    (case h153 => k_is)
    (case h154 => k_is)
    (case h155 => k_is)
    (case h156 => k_is)
    (case h157 => k_is)
    (case h158 => k_is)
    (case h160 => k_is)
    (case h161 => k_is)
    (case h162 => k_is)
    (case h164 => k_is)
    (case h165 => k_is)
    (case h166 => k_is)
    (case h167 => k_is)
    (case h169 => k_is)
    (case h170 => k_is)
    (case h171 => k_is)
    (case h172 => k_is)
    (case h173 => k_is)
    (case h174 => k_is)
    (case h175 => k_is)
    (case h176 => k_is)
    (case h177 => k_is)
    (case h178 => k_is)
    (case h179 => k_is)
    (case h180 => k_is)
    (case h181 => k_is)
    (case h182 => k_is)
    (case h183 => k_is)
    (case h184 => k_is)
    (case h185 => k_is)
    (case h186 => k_is)
    (case h187 => k_is)
    (case h188 => k_is)
    (case h189 => k_is)
    (case h190 => k_is)
    (case h192 => k_is)
    (case h193 => k_is)
    (case h194 => k_is)
    (case h197 => k_is)
    (case h198 => k_is)
    (case h199 => k_is)
    (case h201 => k_is)
    (case h202 => k_is)
    (case h205 => k_is)
    (case h206 => k_is)
    (case h207 => k_is)
    (case h209 => k_is)
    (case h210 => k_is)
    (case h213 => k_is)
    (case h214 => k_is)
    (case h215 => k_is)
    (case h217 => k_is)
    (case h218 => k_is)
    (case h220 => k_is)
    (case h221 => k_is)
    (case h222 => k_is)
    (case h223 => k_is)
    (case h224 => k_is)
    (case h225 => k_is)
    (case h226 => k_is)
    (case h227 => k_is)
    (case h228 => k_is)
    (case h229 => k_is)
    (case h230 => k_is)
    (case h231 => k_is)
    (case h232 => k_is)
    (case h233 => k_is)
    (case h234 => k_is)
    (case h235 => k_is)
    (case h236 => k_is)
    (case h238 => k_is)
    (case h239 => k_is)
    (case h241 => k_is)
    (case h242 => k_is)
    (case h244 => k_is)
    (case h246 => k_is)
    (case h248 => k_is)
    (case h250 => k_is)
    (case h252 => k_is)
    (case h253 => k_is)
    (case h254 => k_is)
    (case h257 => k_is)
    (case h159 => rfl)
    (case h163 => rfl)
    (case h168 => rfl)
#print axioms PySem.Challenge.cw_keptacross_k11_word_maps_holds
